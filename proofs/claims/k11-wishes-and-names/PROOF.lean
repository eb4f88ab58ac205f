import PyProof.Rows.All
import Wide.All
import OpenK.AllK
import Wide.FinOn
import HandS.ForMost
import HandS.Exc
import HandS.StrMore
import HandS.TupAny
import HandS.Wide
import HandS.WideBits
import HandS.Deep
import HandS.Style
import HandS.RaiseMore
import HandS.IsInst
import HandS.CallSlots
import HandS.WordsExc
import HandS.Ends
import HandS.HeadEnd
import HandS.HeadHook4
import HandS.Head2
import KE.IntTextText
import KE.KIntText
import PySem.Challenge.RW_boundnames_k11_wishes_and_names
set_option Elab.async false
set_option linter.all false
set_option maxRecDepth 100000
set_option maxHeartbeats 0
section
/-! Bn.A: data by value, the abstract heap, how they stand to the layer's V and Hp. -/
namespace Bn
open PySem PySem.Spec PyProof.Rows L2

/-- a value: tuples by value, what may change by its number -/
inductive D where
  | non | bl (b : Bool) | int (i : Int) | str (s : List Nat) | tup (xs : List D) | ref (i : Nat)

/-- what stands at a number -/
inductive Ob where
  /-- a list; one that is only read -/
  | lst (xs : List D) | klst (xs : List D)
  | dct (kvs : List (D × D)) | kdct (kvs : List (D × D))
  | ins (c : String) (fs : List (String × D))
abbrev Hh := List Ob

/-- an exception: its class, its attributes -/
structure Xc where
  cls : String
  fs : List (String × D)

def S2 (l : List Nat) : Str := ⟨l.toArray⟩
theorem S2_length (l : List Nat) : (S2 l).length = l.length := by simp [S2, Str.length]
theorem S2_append (a b : List Nat) : S2 a ++ S2 b = S2 (a ++ b) := by
  show Str.append _ _ = _
  simp [S2, Str.append]
theorem S2_inj {a b : List Nat} (h : S2 a = S2 b) : a = b := by
  have := congrArg Str.cps h
  simpa [S2] using this
theorem S2_of (x : Str) : S2 x.cps.toList = x := by cases x; simp [S2]

/-! ### the relation of values -/
section
variable (K : PySem.W.Frag) (H : Hp) (ι : List Addr)
mutual
def RelD : D → V → Prop
  | .non, v => v = .non
  | .bl b, v => v = .bl b
  | .int i, v => v = .int i
  | .str s, v => v = .str (S2 s)
  | .tup ds, v => ∃ a vs, v = .ref a ∧ SqT K H a vs ∧ RelDs ds vs
  | .ref i, v => ∃ a, ι[i]? = some a ∧ v = .ref a
def RelDs : List D → List V → Prop
  | [], vs => vs = []
  | d :: ds, vs => ∃ v r, vs = v :: r ∧ RelD d v ∧ RelDs ds r
end
end

/-- a list that is only read -/
def KSq (K : PySem.W.Frag) (H : Hp) (a : Addr) (vs : List V) : Prop :=
  (∃ o, H a = some (.frz o (.lst vs))) ∨
    ∃ (o : Obj) (its : Array Value) (n : Nat), K.lookup a = some o ∧ o.cls = .type "list" ∧ o.dict = none ∧ o.data = .seq its n ∧ its.size ≤ sizeLine ∧ Vals vs its.toList
theorem KSq.sq {K : PySem.W.Frag} {H : Hp} {a : Addr} {vs : List V} (h : KSq K H a vs) : SqL K H a vs := by
  rcases h with ⟨o, h⟩ | h
  · exact .inl (.inr ⟨o, h⟩)
  · exact .inr h

/-- what persists from one abstract heap to a later one -/
structure Ext (K : PySem.W.Frag) (H : Hp) (ι : List Addr) (H' : Hp) (ι' : List Addr) : Prop where
  tup : ∀ a xs, SqT K H a xs → SqT K H' a xs
  frz : ∀ a o u, H a = some (.frz o u) → H' a = some (.frz o u)
  ids : ∀ (i : Nat) (a : Addr), ι[i]? = some a → ι'[i]? = some a

section
variable {K : PySem.W.Frag} {H H' H'' : Hp} {ι ι' ι'' : List Addr}
theorem Ext.refl : Ext K H ι H ι := ⟨fun _ _ h => h, fun _ _ _ h => h, fun _ _ h => h⟩
theorem Ext.trans (a : Ext K H ι H' ι') (b : Ext K H' ι' H'' ι'') : Ext K H ι H'' ι'' :=
  ⟨fun x xs h => b.tup x xs (a.tup x xs h), fun x o u h => b.frz x o u (a.frz x o u h), fun i x h => b.ids i x (a.ids i x h)⟩

mutual
theorem RelD.mono (x : Ext K H ι H' ι') : ∀ (d : D) (v : V), RelD K H ι d v → RelD K H' ι' d v
  | .non, _, h => h
  | .bl _, _, h => h
  | .int _, _, h => h
  | .str _, _, h => h
  | .tup ds, _, h => by
    obtain ⟨a, vs, e, hs, hr⟩ := h
    exact ⟨a, vs, e, x.tup _ _ hs, RelDs.mono x ds vs hr⟩
  | .ref _, _, h => by
    obtain ⟨a, e, z⟩ := h
    exact ⟨a, x.ids _ _ e, z⟩
theorem RelDs.mono (x : Ext K H ι H' ι') : ∀ (ds : List D) (vs : List V), RelDs K H ι ds vs → RelDs K H' ι' ds vs
  | [], _, h => h
  | d :: ds, _, h => by
    obtain ⟨v, r, e, h1, h2⟩ := h
    exact ⟨v, r, e, RelD.mono x d v h1, RelDs.mono x ds r h2⟩
end

theorem RelDs.length : ∀ {ds : List D} {vs : List V}, RelDs K H ι ds vs → vs.length = ds.length
  | [], _, h => by rw [show _ = [] from h]; rfl
  | d :: ds, _, h => by
    obtain ⟨v, r, e, h1, h2⟩ := h
    rw [e, List.length_cons, List.length_cons, RelDs.length h2]
theorem RelDs.get : ∀ {ds : List D} {vs : List V} {i : Nat} {d : D}, RelDs K H ι ds vs → ds[i]? = some d → ∃ v, vs[i]? = some v ∧ RelD K H ι d v
  | [], _, _, _, _, e => by simp at e
  | d :: ds, _, 0, x, h, e => by
    obtain ⟨v, r, rfl, h1, h2⟩ := h
    simp at e; subst e
    exact ⟨v, rfl, h1⟩
  | d :: ds, _, i + 1, x, h, e => by
    obtain ⟨v, r, rfl, h1, h2⟩ := h
    obtain ⟨u, e1, e2⟩ := RelDs.get (i := i) (d := x) h2 (by simpa using e)
    exact ⟨u, by simpa using e1, e2⟩
theorem RelDs.get' : ∀ {ds : List D} {vs : List V} {i : Nat} {v : V}, RelDs K H ι ds vs → vs[i]? = some v → ∃ d, ds[i]? = some d ∧ RelD K H ι d v
  | [], _, _, _, h, e => by rw [show _ = [] from h] at e; simp at e
  | d :: ds, _, 0, x, h, e => by
    obtain ⟨v, r, rfl, h1, h2⟩ := h
    simp at e; subst e
    exact ⟨d, rfl, h1⟩
  | d :: ds, _, i + 1, x, h, e => by
    obtain ⟨v, r, rfl, h1, h2⟩ := h
    obtain ⟨u, e1, e2⟩ := RelDs.get' (i := i) (v := x) h2 (by simpa using e)
    exact ⟨u, by simpa using e1, e2⟩
theorem RelDs.append : ∀ {ds es : List D} {vs ws : List V}, RelDs K H ι ds vs → RelDs K H ι es ws → RelDs K H ι (ds ++ es) (vs ++ ws)
  | [], _, _, _, h, h' => by rw [show _ = [] from h]; exact h'
  | d :: ds, _, _, _, h, h' => by
    obtain ⟨v, r, rfl, h1, h2⟩ := h
    exact ⟨v, _, rfl, h1, RelDs.append h2 h'⟩
theorem RelDs.one {d : D} {v : V} (h : RelD K H ι d v) : RelDs K H ι [d] [v] := ⟨v, [], rfl, h, rfl⟩
theorem RelDs.cons {d : D} {v : V} {ds : List D} {vs : List V} (h : RelD K H ι d v) (t : RelDs K H ι ds vs) : RelDs K H ι (d :: ds) (v :: vs) := ⟨v, vs, rfl, h, t⟩
theorem RelDs.take : ∀ {ds : List D} {vs : List V} (n : Nat), RelDs K H ι ds vs → RelDs K H ι (ds.take n) (vs.take n)
  | _, _, 0, _ => by simp [RelDs]
  | [], _, n + 1, h => by rw [show _ = [] from h]; simp [RelDs]
  | d :: ds, _, n + 1, h => by
    obtain ⟨v, r, rfl, h1, h2⟩ := h
    exact ⟨v, _, rfl, h1, RelDs.take n h2⟩
theorem RelDs.drop : ∀ {ds : List D} {vs : List V} (n : Nat), RelDs K H ι ds vs → RelDs K H ι (ds.drop n) (vs.drop n)
  | _, _, 0, h => h
  | [], _, n + 1, h => by rw [show _ = [] from h]; simp [RelDs]
  | d :: ds, _, n + 1, h => by
    obtain ⟨v, r, rfl, h1, h2⟩ := h
    exact RelDs.drop n h2
theorem RelDs.reverse : ∀ {ds : List D} {vs : List V}, RelDs K H ι ds vs → RelDs K H ι ds.reverse vs.reverse
  | [], _, h => by rw [show _ = [] from h]; simp [RelDs]
  | d :: ds, _, h => by
    obtain ⟨v, r, rfl, h1, h2⟩ := h
    rw [List.reverse_cons, List.reverse_cons]
    exact RelDs.append (RelDs.reverse h2) (RelDs.one h1)
theorem RelDs.set : ∀ {ds : List D} {vs : List V} {d : D} {v : V} (i : Nat), RelDs K H ι ds vs → RelD K H ι d v → RelDs K H ι (ds.set i d) (vs.set i v)
  | [], _, _, _, i, h, _ => by rw [show _ = [] from h]; simp [RelDs]
  | e :: ds, _, _, _, 0, h, r => by
    obtain ⟨w, t, rfl, h1, h2⟩ := h
    exact ⟨_, _, rfl, r, h2⟩
  | e :: ds, _, _, _, i + 1, h, r => by
    obtain ⟨w, t, rfl, h1, h2⟩ := h
    exact ⟨_, _, rfl, h1, RelDs.set i h2 r⟩
theorem RelDs.eraseIdx : ∀ {ds : List D} {vs : List V} (i : Nat), RelDs K H ι ds vs → RelDs K H ι (ds.eraseIdx i) (vs.eraseIdx i)
  | [], _, i, h => by rw [show _ = [] from h]; simp [RelDs]
  | e :: ds, _, 0, h => by
    obtain ⟨w, t, rfl, h1, h2⟩ := h
    exact h2
  | e :: ds, _, i + 1, h => by
    obtain ⟨w, t, rfl, h1, h2⟩ := h
    exact ⟨_, _, rfl, h1, RelDs.eraseIdx i h2⟩
end
end Bn
end

section
/-! Bn.B: the abstract heap's relation, slots. -/
namespace Bn
open PySem PySem.Spec PyProof.Rows L2

abbrev ClsT := String → Option Addr

section
variable (K : PySem.W.Frag) (cl : ClsT) (H : Hp) (ι : List Addr)
def RelK : D → Key → Prop
  | .int i, k => k = .inl i
  | .str s, k => k = .inr (S2 s)
  | _, _ => False
def RelKv : List (D × D) → List (Key × V) → Prop
  | [], ks => ks = []
  | p :: ps, ks => ∃ k v r, ks = (k, v) :: r ∧ RelK p.1 k ∧ RelD K H ι p.2 v ∧ RelKv ps r
def RelFs : List (String × D) → List (Str × V) → Prop
  | [], gs => gs = []
  | p :: ps, gs => ∃ v r, gs = (Str.ofString p.1, v) :: r ∧ RelD K H ι p.2 v ∧ RelFs ps r
def ObRel (a : Addr) : Ob → Prop
  | .lst ds => ∃ vs, H a = some (.lst vs) ∧ RelDs K H ι ds vs
  | .klst ds => ∃ vs, KSq K H a vs ∧ RelDs K H ι ds vs
  | .dct kvs => ∃ ks, H a = some (.dK ks) ∧ RelKv K H ι kvs ks
  | .kdct _ => False
  | .ins c fs => ∃ C dx gs, cl c = some C ∧ H a = some (.ins C dx gs) ∧ RelFs K H ι fs gs
end

def Ob.mut : Ob → Bool
  | .klst _ => false
  | .kdct _ => false
  | _ => true

structure HRel (K : PySem.W.Frag) (cl : ClsT) (H : Hp) (ι : List Addr) (h : Hh) : Prop where
  len : ι.length = h.length
  ob : ∀ (i : Nat) (a : Addr) (o : Ob), ι[i]? = some a → h[i]? = some o → ObRel K cl H ι a o
  inj : ∀ (i j : Nat) (a : Addr) (o o' : Ob), ι[i]? = some a → ι[j]? = some a → h[i]? = some o → h[j]? = some o' → o.mut = true → o'.mut = true → i = j

section
variable {K : PySem.W.Frag} {cl : ClsT} {H H' : Hp} {ι ι' : List Addr} {h h' : Hh}
theorem RelKv.mono (x : Ext K H ι H' ι') : ∀ {kvs : List (D × D)} {ks : List (Key × V)}, RelKv K H ι kvs ks → RelKv K H' ι' kvs ks
  | [], _, r => r
  | _ :: _, _, r => by
    obtain ⟨k, v, t, e, h1, h2, h3⟩ := r
    exact ⟨k, v, t, e, h1, h2.mono x, RelKv.mono x h3⟩
theorem RelFs.mono (x : Ext K H ι H' ι') : ∀ {fs : List (String × D)} {gs : List (Str × V)}, RelFs K H ι fs gs → RelFs K H' ι' fs gs
  | [], _, r => r
  | _ :: _, _, r => by
    obtain ⟨v, t, e, h2, h3⟩ := r
    exact ⟨v, t, e, h2.mono x, RelFs.mono x h3⟩
theorem ObRel.mono (x : Ext K H ι H' ι') {a : Addr} {o : Ob} (e : o.mut = true → H' a = H a) (r : ObRel K cl H ι a o) : ObRel K cl H' ι' a o := by
  cases o with
  | lst ds => obtain ⟨vs, z, q⟩ := r; exact ⟨vs, by rw [e rfl]; exact z, q.mono x⟩
  | klst ds =>
    obtain ⟨vs, z, q⟩ := r
    refine ⟨vs, ?_, q.mono x⟩
    rcases z with ⟨o, z⟩ | z
    · exact .inl ⟨o, x.frz _ _ _ z⟩
    · exact .inr z
  | dct kvs => obtain ⟨ks, z, q⟩ := r; exact ⟨ks, by rw [e rfl]; exact z, q.mono x⟩
  | kdct kvs => exact r
  | ins c fs => obtain ⟨C, dx, gs, z0, z, q⟩ := r; exact ⟨C, dx, gs, z0, by rw [e rfl]; exact z, q.mono x⟩
/-- a mutable one is tracked -/
theorem ObRel.there {a : Addr} {o : Ob} (r : ObRel K cl H ι a o) (m : o.mut = true) : ∃ u, H a = some u ∧ (∀ xs, u ≠ .tup xs) ∧ ∀ ob w, u ≠ .frz ob w := by
  cases o with
  | lst ds => obtain ⟨vs, z, q⟩ := r; exact ⟨_, z, (fun _ => nofun), fun _ _ => nofun⟩
  | klst ds => cases m
  | dct kvs => obtain ⟨ks, z, q⟩ := r; exact ⟨_, z, (fun _ => nofun), fun _ _ => nofun⟩
  | kdct kvs => cases m
  | ins c fs => obtain ⟨C, dx, gs, z0, z, q⟩ := r; exact ⟨_, z, (fun _ => nofun), fun _ _ => nofun⟩

theorem HRel.at (r : HRel K cl H ι h) {i : Nat} {o : Ob} (e : h[i]? = some o) : ∃ a, ι[i]? = some a ∧ ObRel K cl H ι a o := by
  have hi : i < h.length := (List.getElem?_eq_some_iff.mp e).1
  have hi' : i < ι.length := by rw [r.len]; exact hi
  exact ⟨ι[i], List.getElem?_eq_getElem hi', r.ob i _ o (List.getElem?_eq_getElem hi') e⟩
theorem HRel.of_ref (r : HRel K cl H ι h) {i : Nat} {o : Ob} {v : V} (e : h[i]? = some o) (q : RelD K H ι (.ref i) v) : ∃ a, v = .ref a ∧ ι[i]? = some a ∧ ObRel K cl H ι a o := by
  obtain ⟨a, ea, ev⟩ := q
  obtain ⟨b, eb, ob⟩ := r.at e
  rw [ea] at eb; cases eb
  exact ⟨a, ev, ea, ob⟩

/-- the tuples and what is frozen stay when more is tracked -/
theorem ext_same (s : ∀ b u, H b = some u → H' b = some u) : Ext K H ι H' ι where
  tup := fun a xs z => by
    rcases z with (z | ⟨o, z⟩) | z
    · exact .inl (.inl (s _ _ z))
    · exact .inl (.inr ⟨o, s _ _ z⟩)
    · exact .inr z
  frz := fun a o u z => s _ _ z
  ids := fun _ _ z => z
theorem HRel.same (s : ∀ b u, H b = some u → H' b = some u) (r : HRel K cl H ι h) : HRel K cl H' ι h where
  len := r.len
  ob := fun i a o e1 e2 => (r.ob i a o e1 e2).mono (ext_same s) fun m => by
    obtain ⟨u, z, _⟩ := (r.ob i a o e1 e2).there m
    rw [z, s _ _ z]
  inj := r.inj
theorem same_new {p : Addr} {u : HO} (n : H p = none) : ∀ b w, H b = some w → upd H p u b = some w := fun b w e => by
  rw [upd_ne (ne_of_none e n)]; exact e

/-- a new object -/
theorem ext_new {p : Addr} {u : HO} (n : H p = none) : Ext K H ι (upd H p u) (ι ++ [p]) :=
  (ext_same (ι := ι) (same_new (u := u) n)).trans ⟨fun _ _ z => z, fun _ _ _ z => z, fun i a e => by
    have hi : i < ι.length := (List.getElem?_eq_some_iff.mp e).1
    rw [List.getElem?_append_left hi]; exact e⟩
theorem HRel.new {p : Addr} {u : HO} {o : Ob} (r : HRel K cl H ι h) (n : H p = none) (x : ObRel K cl (upd H p u) (ι ++ [p]) p o) : HRel K cl (upd H p u) (ι ++ [p]) (h ++ [o]) where
  len := by simp [r.len]
  ob := fun i a o' e1 e2 => by
    by_cases hi : i < ι.length
    · have hi' : i < h.length := by rw [← r.len]; exact hi
      rw [List.getElem?_append_left hi] at e1
      rw [List.getElem?_append_left hi'] at e2
      refine (r.ob i a o' e1 e2).mono (ext_new n) fun m => ?_
      obtain ⟨w, z, _⟩ := (r.ob i a o' e1 e2).there m
      rw [z, same_new n _ _ z]
    · have hi' : ¬ i < h.length := by rw [← r.len]; exact hi
      rw [List.getElem?_append_right (by omega)] at e1
      rw [List.getElem?_append_right (by omega)] at e2
      have k : i - ι.length = 0 := by
        have := (List.getElem?_eq_some_iff.mp e1).1
        simp at this; omega
      rw [k] at e1
      rw [← r.len, k] at e2
      cases e1; cases e2
      exact x
  inj := fun i j a o1 o2 e1 e2 f1 f2 m1 m2 => by
    have old : ∀ (k : Nat) (b : Addr) (oo : Ob), k < ι.length → (ι ++ [p])[k]? = some b → (h ++ [o])[k]? = some oo → oo.mut = true → ι[k]? = some b ∧ h[k]? = some oo ∧ b ≠ p := fun k b oo hk z1 z2 m => by
      have hk' : k < h.length := by rw [← r.len]; exact hk
      rw [List.getElem?_append_left hk] at z1
      rw [List.getElem?_append_left hk'] at z2
      obtain ⟨w, z, _⟩ := (r.ob k b oo z1 z2).there m
      exact ⟨z1, z2, ne_of_none z n⟩
    have nw : ∀ (k : Nat) (b : Addr), ¬ k < ι.length → (ι ++ [p])[k]? = some b → b = p ∧ k = ι.length := fun k b hk z1 => by
      rw [List.getElem?_append_right (by omega)] at z1
      have q := (List.getElem?_eq_some_iff.mp z1).1
      simp at q
      have k0 : k - ι.length = 0 := by omega
      rw [k0] at z1
      cases z1
      exact ⟨rfl, by omega⟩
    by_cases hi : i < ι.length
    · obtain ⟨a1, a2, a3⟩ := old i a o1 hi e1 f1 m1
      by_cases hj : j < ι.length
      · obtain ⟨b1, b2, b3⟩ := old j a o2 hj e2 f2 m2
        exact r.inj i j a o1 o2 a1 b1 a2 b2 m1 m2
      · exact absurd (nw j a hj e2).1 a3
    · obtain ⟨z1, z2⟩ := nw i a hi e1
      by_cases hj : j < ι.length
      · obtain ⟨b1, b2, b3⟩ := old j a o2 hj e2 f2 m2
        exact absurd z1 b3
      · rw [z2, (nw j a hj e2).2]

/-- an object changed in place -/
theorem ext_write {a : Addr} {u w : HO} (e : H a = some u) (n1 : ∀ xs, u ≠ .tup xs) (n2 : ∀ ob x, u ≠ .frz ob x) : Ext K H ι (upd H a w) ι where
  tup := fun b xs z => by
    have nb : ∀ u', H b = some u' → u' ≠ u → b ≠ a := fun u' z1 z2 z3 => by
      rw [z3, e] at z1; cases z1; exact z2 rfl
    rcases z with (z | ⟨o, z⟩) | z
    · exact .inl (.inl (by rw [upd_ne (nb _ z fun q => n1 _ q.symm)]; exact z))
    · exact .inl (.inr ⟨o, by rw [upd_ne (nb _ z fun q => n2 _ _ q.symm)]; exact z⟩)
    · exact .inr z
  frz := fun b o x z => by
    have nb : b ≠ a := fun q => by rw [q, e] at z; cases z; exact n2 _ _ rfl
    rw [upd_ne nb]; exact z
  ids := fun _ _ z => z
theorem HRel.write {i : Nat} {a : Addr} {w : HO} {o o' : Ob} (r : HRel K cl H ι h) (ei : ι[i]? = some a) (eo : h[i]? = some o) (m : o.mut = true) (m' : o'.mut = true)
    (x : ObRel K cl (upd H a w) ι a o') : Ext K H ι (upd H a w) ι ∧ HRel K cl (upd H a w) ι (h.set i o') := by
  obtain ⟨u, eu, n1, n2⟩ := (r.ob i a o ei eo).there m
  have ex : Ext K H ι (upd H a w) ι := ext_write eu n1 n2
  have hi : i < h.length := (List.getElem?_eq_some_iff.mp eo).1
  refine ⟨ex, ⟨by simp [r.len], fun j b ob e1 e2 => ?_, fun j k b o1 o2 e1 e2 f1 f2 m1 m2 => ?_⟩⟩
  · by_cases hj : i = j
    · subst hj
      rw [List.getElem?_set_self hi] at e2
      cases e2
      rw [ei] at e1; cases e1
      exact x
    · rw [List.getElem?_set_ne hj] at e2
      refine (r.ob j b ob e1 e2).mono ex fun mb => ?_
      have : b ≠ a := fun q => by
        subst q
        exact hj (r.inj i j b o ob ei e1 eo e2 m mb)
      rw [upd_ne this]
  · have key : ∀ (j : Nat) (oo : Ob), (h.set i o')[j]? = some oo → oo.mut = true → ∃ oo', h[j]? = some oo' ∧ oo'.mut = true := fun j oo z mm => by
      by_cases hj : i = j
      · subst hj; exact ⟨o, eo, m⟩
      · rw [List.getElem?_set_ne hj] at z; exact ⟨oo, z, mm⟩
    obtain ⟨p1, q1, q2⟩ := key j o1 f1 m1
    obtain ⟨p2, q3, q4⟩ := key k o2 f2 m2
    exact r.inj j k b p1 p2 e1 e2 q1 q3 q2 q4
end

/-! ### slots -/
abbrev Sl := List (Option D)
structure SRel (K : PySem.W.Frag) (H : Hp) (ι : List Addr) (δ : Sl) (σ : L2.St) : Prop where
  len : δ.length = σ.length
  at_ : ∀ (i : Nat) (d : D), δ[i]? = some (some d) → ∃ v, σ[i]? = some (some v) ∧ RelD K H ι d v
section
variable {K : PySem.W.Frag} {H H' : Hp} {ι ι' : List Addr} {δ : Sl} {σ : L2.St}
theorem SRel.mono (x : Ext K H ι H' ι') (r : SRel K H ι δ σ) : SRel K H' ι' δ σ := ⟨r.len, fun i d e => by
  obtain ⟨v, e1, e2⟩ := r.at_ i d e
  exact ⟨v, e1, e2.mono x⟩⟩
theorem SRel.set {i : Nat} {d : D} {v : V} (r : SRel K H ι δ σ) (q : RelD K H ι d v) : SRel K H ι (δ.set i (some d)) (σ.set i (some v)) := ⟨by simp [r.len], fun j e z => by
  by_cases hj : i = j
  · subst hj
    by_cases hi : i < δ.length
    · rw [List.getElem?_set_self hi] at z
      cases z
      exact ⟨v, List.getElem?_set_self (by rw [← r.len]; exact hi), q⟩
    · rw [List.getElem?_eq_none (by simp; omega)] at z; cases z
  · rw [List.getElem?_set_ne hj] at z
    rw [List.getElem?_set_ne hj]
    exact r.at_ j e z⟩
/-- some slots forgotten -/
def dwipe (δ : Sl) : List Nat → Sl
  | [] => δ
  | v :: vs => (dwipe δ vs).set v none
theorem dwipe_length (δ : Sl) : ∀ vs : List Nat, (dwipe δ vs).length = δ.length
  | [] => rfl
  | v :: vs => by unfold dwipe; rw [List.length_set, dwipe_length δ vs]
theorem SRel.wipe (r : SRel K H ι δ σ) : ∀ vs : List Nat, SRel K H ι (dwipe δ vs) (L2.wipe σ vs)
  | [] => r
  | v :: vs => by
    have q := SRel.wipe r vs
    refine ⟨by unfold dwipe L2.wipe; simp [q.len], fun i d e => ?_⟩
    unfold dwipe at e
    unfold L2.wipe
    by_cases hi : v = i
    · subst hi
      by_cases hv : v < (dwipe δ vs).length
      · rw [List.getElem?_set_self hv] at e; cases e
      · rw [List.getElem?_eq_none (by simp; omega)] at e; cases e
    · rw [List.getElem?_set_ne hi] at e
      rw [List.getElem?_set_ne hi]
      exact q.at_ i d e
end
end Bn
end

section
/-! Bn.C: the small language, what it asks (weakest preconditions). -/
namespace Bn
open PySem PySem.Spec PyProof.Rows L2

inductive Op2 where | add | sub | mul | fdiv | mod | pow
  deriving DecidableEq
inductive Cm where | eq | ne | lt | le | gt | ge | is | isNot | in_ | notIn
  deriving DecidableEq
/-- built-in functions and types that are called -/
inductive Bi where | len | abs | max | min | all | any | sum | divmod | int | str | repr | list | tuple | sorted | reversed | dict | set
  deriving DecidableEq
/-- methods of built-in types -/
inductive Bm where
  | append | pop | extend | index | clear | reverse | insert | count
  | get | items | keys | values | update | setdefault
  | join | partition | split | sindex | upper | scount | add
  deriving DecidableEq

mutual
inductive E where
  | loc (i : Nat) | cst (d : D) | glob (g : String)
  | bin (op : Op2) (a b : E) | neg (a : E) | not (a : E)
  | cmp (op : Cm) (a b : E) | chain (o1 o2 : Cm) (a b c : E)
  | and (a b : E) | or (a b : E) | ife (t : T) (a b : E)
  | fld (a : E) (f : String) | ix (a i : E) | slc (a lo hi : E)
  | tup (es : Es) | lst (es : Es) | dct (kvs : Es)
  | call (f : String) (es : Es)
  | callK (f : String) (es : Es) (kn : List String) (ks : Es)
  | bi (f : Bi) (es : Es) | bm (m : Bm) (a : E) (es : Es)
  | lc (elt : E) (tg : Tg) (it : It) (t : T) (own : List Nat)
  | isi (a : E) (tys : List String)
inductive Es where
  | nil | cons (e : E) (es : Es)
inductive T where
  | tt | val (e : E) | not (t : T) | and (a b : T) | or (a b : T)
  | cmp (op : Cm) (a b : E) | chain (o1 o2 : Cm) (a b c : E)
inductive Tg where
  | nm (i : Nat) | tup (ts : Tgs) | sub (o i : E) | fld (o : E) (f : String)
inductive Tgs where
  | nil | cons (t : Tg) (ts : Tgs)
inductive It where
  | seq (e : E) | rng1 (a : E) | rng2 (a b : E) | rng3 (a b c : E) | enum (e : E) | zip (a b : E)
end
mutual
inductive S where
  | expr (e : E) | asg (t : Tg) (e : E) | set (i : Nat) (e : E)
  | aug (i : Nat) (op : Op2) (e : E) | augF (o : E) (f : String) (op : Op2) (e : E)
  | ret (e : E) | retN | pass | brk | cont
  | par (is : List Nat) (es : Es)
  | ife (t : T) (a b : Ss) | whl (t : T) (b : Ss) | for_ (tg : Tg) (it : It) (b : Ss)
inductive Ss where
  | nil | cons (s : S) (ss : Ss)
end

/-! ### values -/
def truD (h : Hh) : D → Option Bool
  | .non => some false
  | .bl b => some b
  | .int i => some (i != 0)
  | .str s => if s.length ≤ sizeLine then some (!s.isEmpty) else none
  | .tup xs => some (!xs.isEmpty)
  | .ref i => match h[i]? with
    | some (.lst xs) => some (!xs.isEmpty)
    | some (.klst xs) => some (!xs.isEmpty)
    | some (.dct xs) => some (!xs.isEmpty)
    | _ => none
/-- a list's items -/
def lsD (h : Hh) (i : Nat) : Option (List D) := match h[i]? with
  | some (.lst xs) => some xs
  | some (.klst xs) => some xs
  | _ => none

/-! ### data as a whole -/
mutual
inductive Deep (h : Hh) : D → PyData → Prop where
  | non : Deep h .non .none
  | bl (b : Bool) : Deep h (.bl b) (.bool b)
  | int (i : Int) : Deep h (.int i) (.int i)
  | str (s : List Nat) : Deep h (.str s) (.str (S2 s))
  | tup {ds : List D} {ys : List PyData} : DeepL h ds ys → Deep h (.tup ds) (.tuple ys)
  | lst {i : Nat} {ds : List D} {ys : List PyData} : lsD h i = some ds → DeepL h ds ys → Deep h (.ref i) (.list ys)
inductive DeepL (h : Hh) : List D → List PyData → Prop where
  | nil : DeepL h [] []
  | cons {d : D} {y : PyData} {ds : List D} {ys : List PyData} : Deep h d y → DeepL h ds ys → DeepL h (d :: ds) (y :: ys)
end
def laid (y : PyData) : Prop := y.canLay0 = true ∧ y.depth ≤ 180
def vEq (x y : D) (h : Hh) (Q : Bool → Prop) : Prop :=
  (∃ a b, Deep h x a ∧ Deep h y b ∧ laid a ∧ laid b ∧ Q (PyData.eqv a b)) ∨
    ∃ i j xs ys, x = .ref i ∧ y = .ref j ∧ lsD h i = some xs ∧ lsD h j = some ys ∧ xs.length ≠ ys.length ∧ Q false
/-- x in xs -/
def vInL (x : D) (xs : List D) (h : Hh) (Q : Bool → Prop) : Prop :=
  ∃ a bs, Deep h x a ∧ DeepL h xs bs ∧ laid a ∧ (∀ b ∈ bs, laid b) ∧ Q (bs.any fun z => PyData.eqv z a)
def keyEq : D → D → Bool
  | .int a, .int b => decide (a = b)
  | .str a, .str b => decide (a = b)
  | _, _ => false
def isKey : D → Bool
  | .int _ => true
  | .str _ => true
  | _ => false
def lookK (kvs : List (D × D)) (k : D) : Option D := (kvs.find? fun p => keyEq p.1 k).map (·.2)
def putK (kvs : List (D × D)) (k v : D) : List (D × D) := if (lookK kvs k).isSome then kvs.map fun p => if keyEq p.1 k then (p.1, v) else p else kvs ++ [(k, v)]
def vIn (x y : D) (h : Hh) (Q : Bool → Prop) : Prop := match y with
  | .str t => ∃ c, x = .str [c] ∧ Q (decide (c ∈ t))
  | .tup ys => vInL x ys h Q
  | .ref i => (∃ ys, lsD h i = some ys ∧ vInL x ys h Q) ∨ ∃ kvs, h[i]? = some (.dct kvs) ∧ isKey x = true ∧ Q (lookK kvs x).isSome
  | _ => False
def isNon : D → Bool
  | .non => true
  | _ => false
def vIs (x y : D) (Q : Bool → Prop) : Prop := match y with
  | .non => Q (isNon x)
  | .bl b => ∃ a, x = .bl a ∧ Q (decide (a = b))
  | _ => False
def vI2 (x y : D) (Q : Int → Int → Prop) : Prop := match x, y with
  | .int i, .int j => Q i j
  | _, _ => False
def vCmp (op : Cm) (x y : D) (h : Hh) (Q : Bool → Prop) : Prop := match op with
  | .eq => vEq x y h Q
  | .ne => vEq x y h fun b => Q (!b)
  | .lt => vI2 x y fun i j => Q (decide (i < j))
  | .le => vI2 x y fun i j => Q (decide (i ≤ j))
  | .gt => vI2 x y fun i j => Q (decide (j < i))
  | .ge => vI2 x y fun i j => Q (decide (j ≤ i))
  | .is => vIs x y Q
  | .isNot => vIs x y fun b => Q (!b)
  | .in_ => vIn x y h Q
  | .notIn => vIn x y h fun b => Q (!b)

abbrev QD := D → Hh → Prop
def vBin (op : Op2) (x y : D) (h : Hh) (Q : QD) : Prop := match op with
  | .add => match x, y with
    | .int i, .int j => Q (.int (i + j)) h
    | .str s, .str t => s.length + t.length ≤ sizeLine ∧ Q (.str (s ++ t)) h
    | .tup xs, .tup ys => xs.length + ys.length ≤ sizeLine ∧ Q (.tup (xs ++ ys)) h
    | .ref i, .ref j => ∃ xs ys, h[i]? = some (.lst xs) ∧ h[j]? = some (.lst ys) ∧ xs.length + ys.length ≤ sizeLine ∧ Q (.ref h.length) (h ++ [.lst (xs ++ ys)])
    | _, _ => False
  | .sub => vI2 x y fun i j => Q (.int (i - j)) h
  | .mul => match x, y with
    | .int i, .int j => CMul i j ∧ Q (.int (i * j)) h
    | .ref i, .int k => ∃ xs, h[i]? = some (.lst xs) ∧ -(2 ^ 63) ≤ k ∧ k < 2 ^ 63 ∧ xs.length * k.toNat ≤ sizeLine ∧ Q (.ref h.length) (h ++ [.lst (List.replicate k.toNat xs).flatten])
    | .str s, .int k => 0 ≤ k ∧ k < 2 ^ 63 ∧ s.length * k.toNat ≤ sizeLine ∧ Q (.str (List.replicate k.toNat s).flatten) h
    | _, _ => False
  | .fdiv => vI2 x y fun i j => CDiv i j ∧ Q (.int (i / j)) h
  | .mod => vI2 x y fun i j => 0 < j ∧ Q (.int (i % j)) h
  | .pow => vI2 x y fun i j => CPow i j ∧ Q (.int (i ^ j.toNat)) h
def vNeg (x : D) (h : Hh) (Q : QD) : Prop := match x with
  | .int i => Q (.int (-i)) h
  | _ => False
def vIx (x y : D) (h : Hh) (Q : QD) : Prop := match x with
  | .tup xs => ∃ i d, y = .int i ∧ atI xs i = some d ∧ Q d h
  | .str s => ∃ i c, y = .int i ∧ s.length ≤ sizeLine ∧ atI s i = some c ∧ Q (.str [c]) h
  | .ref l => (∃ xs i d, lsD h l = some xs ∧ y = .int i ∧ atI xs i = some d ∧ Q d h) ∨ ∃ kvs d, h[l]? = some (.dct kvs) ∧ isKey y = true ∧ lookK kvs y = some d ∧ Q d h
  | _ => False
def cut {α : Type} (xs : List α) (lo hi : Option Int) : List α := (xs.drop (HT.sIx xs.length 0 lo)).take (HT.sIx xs.length xs.length hi - HT.sIx xs.length 0 lo)
/-- an end of a slice: none where it is left out -/
def partI : D → Option (Option Int)
  | .non => some none
  | .int i => some (some i)
  | _ => none
def vSlc (x lo hi : D) (h : Hh) (Q : QD) : Prop := ∃ l u, partI lo = some l ∧ partI hi = some u ∧ match x with
  | .tup xs => Q (.tup (cut xs l u)) h
  | .str s => s.length ≤ sizeLine ∧ Q (.str (cut s l u)) h
  | .ref i => ∃ xs, lsD h i = some xs ∧ Q (.ref h.length) (h ++ [.lst (cut xs l u)])
  | _ => False
def fldD : List (String × D) → String → Option D
  | [], _ => none
  | (g, d) :: r, f => if g = f then some d else fldD r f
def putFd (f : String) (d : D) : List (String × D) → List (String × D)
  | [] => [(f, d)]
  | (g, e) :: r => if g = f then (g, d) :: r else (g, e) :: putFd f d r
def vFld (x : D) (f : String) (h : Hh) (Q : QD) : Prop := ∃ i c fs d, x = .ref i ∧ h[i]? = some (.ins c fs) ∧ fldD fs f = some d ∧ Q d h
/-- isinstance with a built-in type -/
def isTy (h : Hh) (t : String) : D → Option Bool
  | .non => some false
  | .bl _ => some (t == "bool" || t == "int")
  | .int _ => some (t == "int")
  | .str _ => some (t == "str")
  | .tup _ => some (t == "tuple")
  | .ref i => match h[i]? with
    | some (.lst _) => some (t == "list")
    | some (.klst _) => some (t == "list")
    | some (.dct _) => some (t == "dict")
    | _ => none

def isAny (h : Hh) : List String → D → Option Bool
  | [t], x => isTy h t x
  | _, _ => none
/-! ### built-ins -/
def intsD : List D → Option (List Int)
  | [] => some []
  | .int i :: r => (intsD r).map (i :: ·)
  | _ => none
def blsD : List D → Option (List Bool)
  | [] => some []
  | .bl i :: r => (blsD r).map (i :: ·)
  | _ => none
def strsD : List D → Option (List (List Nat))
  | [] => some []
  | .str i :: r => (strsD r).map (i :: ·)
  | _ => none
def lenD (h : Hh) : D → Option Nat
  | .str s => some s.length
  | .tup xs => some xs.length
  | .ref i => match h[i]? with
    | some (.lst xs) => some xs.length
    | some (.klst xs) => some xs.length
    | some (.dct kvs) => some kvs.length
    | _ => none
  | _ => none
def codes (x : Str) : List Nat := x.cps.toList
abbrev VB := List D → Hh → QD → Prop
def vLen : VB := fun ds h Q => ∃ x n, ds = [x] ∧ lenD h x = some n ∧ n ≤ sizeLine ∧ Q (.int n) h
def vAbs : VB := fun ds h Q => ∃ i, ds = [.int i] ∧ Q (.int (if i < 0 then -i else i)) h
def vMax : VB := fun ds h Q => ∃ i j, ds = [.int i, .int j] ∧ Q (.int (if j > i then j else i)) h
def vMin : VB := fun ds h Q => ∃ i j, ds = [.int i, .int j] ∧ Q (.int (if j < i then j else i)) h
def vAll : VB := fun ds h Q => ∃ l xs bs, ds = [.ref l] ∧ lsD h l = some xs ∧ blsD xs = some bs ∧ Q (.bl (bs.all id)) h
def vAny : VB := fun ds h Q => ∃ l xs bs, ds = [.ref l] ∧ lsD h l = some xs ∧ blsD xs = some bs ∧ Q (.bl (bs.any id)) h
def vSum : VB := fun ds h Q => ∃ l xs ns, ds = [.ref l] ∧ lsD h l = some xs ∧ intsD xs = some ns ∧ Q (.int ns.sum) h
def vDivmod : VB := fun ds h Q => ∃ i j, ds = [.int i, .int j] ∧ (0 < j ∧ j < 2 ^ 62) ∧ Q (.tup [.int (i / j), .int (i % j)]) h
def vInt : VB := fun ds h Q => (∃ s n, ds = [.str s] ∧ PySem.intText? (S2 s) = some n ∧ s.length ≤ 640 ∧ Q (.int n) h) ∨ ∃ i, ds = [.int i] ∧ Q (.int i) h
def vStr : VB := fun ds h Q => ∃ i, ds = [.int i] ∧ i.natAbs.log2 < 1920 ∧ Q (.str (codes (toString i))) h
def vRepr : VB := fun ds h Q => ∃ x y, ds = [x] ∧ Deep h x y ∧ y.showable = true ∧ y.depth ≤ 180 ∧ y.shown.length ≤ sizeLine ∧ Q (.str (codes y.shown)) h
def vNone : VB := fun _ _ _ => False
def vBi : Bi → VB
  | .len => vLen | .abs => vAbs | .max => vMax | .min => vMin | .all => vAll | .any => vAny | .sum => vSum | .divmod => vDivmod
  | .int => vInt | .str => vStr | .repr => vRepr | .list => vNone | .tuple => vNone | .sorted => vNone | .reversed => vNone | .dict => vNone | .set => vNone
abbrev VM := D → List D → Hh → QD → Prop
def mAppend : VM := fun x ds h Q => ∃ d l xs, ds = [d] ∧ x = .ref l ∧ h[l]? = some (.lst xs) ∧ xs.length < sizeLine ∧ Q .non (h.set l (.lst (xs ++ [d])))
def mJoin : VM := fun x ds h Q => ∃ l s xs ys, ds = [.ref l] ∧ x = .str s ∧ lsD h l = some xs ∧ strsD xs = some ys ∧ (ys.map (·.length)).sum + ys.length * s.length ≤ 16777216 ∧ Q (.str (codes (Txt.join (S2 s) (ys.map S2)))) h
def mPartition : VM := fun x ds h Q => ∃ t s, ds = [.str t] ∧ x = .str s ∧ t ≠ [] ∧ s.length ≤ sizeLine ∧
  Q (.tup [.str (codes (Txt.partition (S2 s) (S2 t)).1), .str (codes (Txt.partition (S2 s) (S2 t)).2.1), .str (codes (Txt.partition (S2 s) (S2 t)).2.2)]) h
def mSplit : VM := fun x ds h Q => ∃ t s, ds = [.str t] ∧ x = .str s ∧ t ≠ [] ∧ s.length + 2 ≤ sizeLine ∧ Q (.ref h.length) (h ++ [.lst ((Txt.split (S2 s) (S2 t)).map fun z => .str (codes z))])
def mSindex : VM := fun x ds h Q => ∃ t s k, ds = [.str t] ∧ x = .str s ∧ Txt.index0 (S2 s) (S2 t) = some k ∧ Q (.int (k : Nat)) h
def mNone : VM := fun _ _ _ _ => False
def vBm : Bm → VM
  | .append => mAppend | .join => mJoin | .partition => mPartition | .split => mSplit | .sindex => mSindex
  | .pop => mNone | .extend => mNone | .index => mNone | .clear => mNone | .reverse => mNone | .insert => mNone | .count => mNone
  | .get => mNone | .items => mNone | .keys => mNone | .values => mNone | .update => mNone | .setdefault => mNone | .upper => mNone | .scount => mNone | .add => mNone

/-- the type a method is of -/
def bmT : Bm → String
  | .append => "list" | .pop => "list" | .extend => "list" | .index => "list" | .clear => "list" | .reverse => "list" | .insert => "list" | .count => "list"
  | .get => "dict" | .items => "dict" | .keys => "dict" | .values => "dict" | .update => "dict" | .setdefault => "dict"
  | .join => "str" | .partition => "str" | .split => "str" | .sindex => "str" | .upper => "str" | .scount => "str" | .add => "set"
/-! ### what a loop walks -/
inductive Src where
  | fix (ds : List D) | seq (i : Nat) | enum (i : Nat)
/-- turn k: none: not served; some none: the end -/
def Src.at_ : Src → Hh → Nat → Option (Option D)
  | .fix ds, _, k => some ds[k]?
  | .seq i, h, k => (lsD h i).map fun xs => xs[k]?
  | .enum i, h, k => (lsD h i).map fun xs => (xs[k]?).map fun d => .tup [.int k, d]
def forLoop (src : Src) (turn : D → Sl → Hh → (Sl → Hh → Prop) → Prop) (fin : Sl → Hh → Prop) : Nat → Nat → Sl → Hh → Prop
  | 0, _, _, _ => False
  | n + 1, k, δ, h => match src.at_ h k with
    | none => False
    | some none => fin δ h
    | some (some d) => turn d δ h fun δ' h' => forLoop src turn fin n (k + 1) δ' h'
def lcLoop (src : Src) (D0 : Nat) (turn : D → Hh → (Option D → Hh → Prop) → Prop) (fin : Hh → Prop) : Nat → Nat → Hh → Prop
  | 0, _, _ => False
  | n + 1, k, h => match src.at_ h k with
    | none => False
    | some none => fin h
    | some (some d) => turn d h fun y h' => match y with
      | some y => ∃ acc, h'[D0]? = some (.lst acc) ∧ acc.length < sizeLine ∧ lcLoop src D0 turn fin n (k + 1) (h'.set D0 (.lst (acc ++ [y])))
      | none => lcLoop src D0 turn fin n (k + 1) h'
def whLoop (test : Sl → Hh → (Bool → Hh → Prop) → Prop) (body : Sl → Hh → (Sl → Hh → Prop) → Prop) (fin : Sl → Hh → Prop) : Nat → Sl → Hh → Prop
  | 0, _, _ => False
  | n + 1, δ, h => test δ h fun b h1 => if b = true then body δ h1 (whLoop test body fin n) else fin δ h1

def rngD (lo : Int) (n : Nat) : List D := (List.range n).map fun (k : Nat) => .int (lo + (k : Int))

/-! ### expressions -/
abbrev QX := Xc → Hh → Prop
abbrev CD := QD → QX → Prop
/-- the calls of defs; the making of instances -/
structure Cl where
  call : String → List D → Hh → CD
  con : String → Option D
  kw : String → Nat → List String → Option (List Nat)

def mapIx {α : Type} (xs : List α) : List Nat → Option (List α)
  | [] => some []
  | i :: r => match xs[i]?, mapIx xs r with
    | some x, some ys => some (x :: ys)
    | _, _ => none

def pairsD : List D → Option (List (D × D))
  | [] => some []
  | k :: v :: r => (pairsD r).map ((k, v) :: ·)
  | _ => none
/-- keys, all different -/
def ndK : List (D × D) → Bool
  | [] => true
  | p :: r => isKey p.1 && (r.all (fun q => isKey q.1 && !keyEq p.1 q.1) && ndK r)
def Tgs.len : Tgs → Nat
  | .nil => 0
  | .cons _ ts => ts.len + 1
/-- x[y] = d -/
def vSet (x y d : D) (h : Hh) (Q : Hh → Prop) : Prop :=
  (∃ l xs k j, x = .ref l ∧ h[l]? = some (.lst xs) ∧ y = .int k ∧ ixN xs.length k = some j ∧ Q (h.set l (.lst (xs.set j d))))
mutual
def wE (C : Cl) : E → Sl → Hh → CD
  | .loc i, δ, h => fun Q _ => ∃ d, δ[i]? = some (some d) ∧ Q d h
  | .cst d, _, h => fun Q _ => Q d h
  | .glob g, _, h => fun Q _ => ∃ d, C.con g = some d ∧ Q d h
  | .bin op a b, δ, h => fun Q R => wE C a δ h (fun x h1 => wE C b δ h1 (fun y h2 => vBin op x y h2 Q) R) R
  | .neg a, δ, h => fun Q R => wE C a δ h (fun x h1 => vNeg x h1 Q) R
  | .not a, δ, h => fun Q R => wE C a δ h (fun x h1 => ∃ c, x = .bl c ∧ Q (.bl (!c)) h1) R
  | .cmp op a b, δ, h => fun Q R => wE C a δ h (fun x h1 => wE C b δ h1 (fun y h2 => vCmp op x y h2 fun c => Q (.bl c) h2) R) R
  | .chain o1 o2 a b c, δ, h => fun Q R => wE C a δ h (fun x h1 => wE C b δ h1 (fun y h2 => vCmp o1 x y h2 fun k =>
      if k = true then wE C c δ h2 (fun z h3 => vCmp o2 y z h3 fun k => Q (.bl k) h3) R else Q (.bl false) h2) R) R
  | .and a b, δ, h => fun Q R => wE C a δ h (fun x h1 => ∃ c, x = .bl c ∧ if c = true then wE C b δ h1 Q R else Q (.bl false) h1) R
  | .or a b, δ, h => fun Q R => wE C a δ h (fun x h1 => ∃ c, x = .bl c ∧ if c = true then Q (.bl true) h1 else wE C b δ h1 Q R) R
  | .ife t a b, δ, h => fun Q R => wT C t δ h (fun c h1 => if c = true then wE C a δ h1 Q R else wE C b δ h1 Q R) R
  | .fld a f, δ, h => fun Q R => wE C a δ h (fun x h1 => vFld x f h1 Q) R
  | .ix a i, δ, h => fun Q R => wE C a δ h (fun x h1 => wE C i δ h1 (fun y h2 => vIx x y h2 Q) R) R
  | .slc a lo hi, δ, h => fun Q R => wE C a δ h (fun x h1 => wE C lo δ h1 (fun l h2 => (partI l).isSome = true ∧ wE C hi δ h2 (fun u h3 => vSlc x l u h3 Q) R) R) R
  | .tup es, δ, h => fun Q R => wEs C es δ h (fun ds h1 => ds.length ≤ sizeLine ∧ Q (.tup ds) h1) R
  | .lst es, δ, h => fun Q R => wEs C es δ h (fun ds h1 => ds.length ≤ sizeLine ∧ Q (.ref h1.length) (h1 ++ [.lst ds])) R
  | .dct kvs, δ, h => fun Q R => wEs C kvs δ (h ++ [.dct []]) (fun ds h2 => ∃ ps, pairsD ds = some ps ∧ ndK ps = true ∧ ps.length ≤ 15 ∧ h2[h.length]? = some (.dct []) ∧ Q (.ref h.length) (h2.set h.length (.dct ps))) R
  | .call f es, δ, h => fun Q R => wEs C es δ h (fun ds h1 => C.call f ds h1 Q R) R
  | .callK f es kn ks, δ, h => fun Q R => wEs C es δ h (fun ds h1 => wEs C ks δ h1 (fun zs h2 => ∃ g ds', zs.length = kn.length ∧ C.kw f ds.length kn = some g ∧ mapIx (ds ++ zs) g = some ds' ∧ C.call f ds' h2 Q R) R) R
  | .bi f es, δ, h => fun Q R => wEs C es δ h (fun ds h1 => vBi f ds h1 Q) R
  | .bm m a es, δ, h => fun Q R => wE C a δ h (fun x h1 => isTy h1 (bmT m) x = some true ∧ wEs C es δ h1 (fun ds h2 => vBm m x ds h2 Q) R) R
  | .lc elt tg it t own, δ, h => fun Q R => wI C it δ h (fun src h1 => ∃ n, lcLoop src h1.length (fun d h2 nx => wTg C tg d (dwipe δ own) h2 (fun δ3 h3 => wT C t δ3 h3 (fun b h4 =>
      if b = true then wE C elt δ3 h4 (fun y h5 => nx (some y) h5) (fun _ _ => False) else nx none h4) (fun _ _ => False)) (fun _ _ => False)) (fun h' => Q (.ref h1.length) h') n 0 (h1 ++ [.lst []])) R
  | .isi a tys, δ, h => fun Q R => wE C a δ h (fun x h1 => ∃ b, isAny h1 tys x = some b ∧ Q (.bl b) h1) R
def wEs (C : Cl) : Es → Sl → Hh → (List D → Hh → Prop) → QX → Prop
  | .nil, _, h => fun Q _ => Q [] h
  | .cons e es, δ, h => fun Q R => wE C e δ h (fun d h1 => wEs C es δ h1 (fun ds h2 => Q (d :: ds) h2) R) R
def wT (C : Cl) : T → Sl → Hh → (Bool → Hh → Prop) → QX → Prop
  | .tt, _, h => fun Q _ => Q true h
  | .val e, δ, h => fun Q R => wE C e δ h (fun x h1 => ∃ b, truD h1 x = some b ∧ Q b h1) R
  | .not t, δ, h => fun Q R => wT C t δ h (fun b h1 => Q (!b) h1) R
  | .and a b, δ, h => fun Q R => wT C a δ h (fun c h1 => if c = true then wT C b δ h1 Q R else Q false h1) R
  | .or a b, δ, h => fun Q R => wT C a δ h (fun c h1 => if c = true then Q true h1 else wT C b δ h1 Q R) R
  | .cmp op a b, δ, h => fun Q R => wE C a δ h (fun x h1 => wE C b δ h1 (fun y h2 => vCmp op x y h2 fun c => Q c h2) R) R
  | .chain o1 o2 a b c, δ, h => fun Q R => wE C a δ h (fun x h1 => wE C b δ h1 (fun y h2 => vCmp o1 x y h2 fun k =>
      if k = true then wE C c δ h2 (fun z h3 => vCmp o2 y z h3 fun k => Q k h3) R else Q false h2) R) R
def wTg (C : Cl) : Tg → D → Sl → Hh → (Sl → Hh → Prop) → QX → Prop
  | .nm i, d, δ, h => fun Q _ => Q (δ.set i (some d)) h
  | .tup ts, d, δ, h => fun Q R => ∃ ds, d = .tup ds ∧ ds.length = ts.len ∧ wTgs C ts ds δ h Q R
  | .sub o i, d, δ, h => fun Q R => wE C o δ h (fun x h1 => wE C i δ h1 (fun y h2 =>
      vSet x y d h2 (Q δ)) R) R
  | .fld o f, d, δ, h => fun Q R => wE C o δ h (fun x h1 => ∃ l c fs, x = .ref l ∧ h1[l]? = some (.ins c fs) ∧ fs.length < 1000 ∧ Q δ (h1.set l (.ins c (putFd f d fs)))) R
def wTgs (C : Cl) : Tgs → List D → Sl → Hh → (Sl → Hh → Prop) → QX → Prop
  | .nil, ds, δ, h => fun Q _ => ds = [] ∧ Q δ h
  | .cons t ts, ds, δ, h => fun Q R => ∃ d r, ds = d :: r ∧ wTg C t d δ h (fun δ1 h1 => wTgs C ts r δ1 h1 Q R) R
def wI (C : Cl) : It → Sl → Hh → (Src → Hh → Prop) → QX → Prop
  | .seq e, δ, h => fun Q R => wE C e δ h (fun x h1 => match x with
    | .tup ds => Q (.fix ds) h1
    | .str s => Q (.fix (s.map fun c => .str [c])) h1
    | .ref i => (lsD h1 i).isSome = true ∧ Q (.seq i) h1
    | _ => False) R
  | .rng1 a, δ, h => fun Q R => wE C a δ h (fun x h1 => ∃ j, x = .int j ∧ -(2 ^ 62) ≤ j ∧ j < 2 ^ 62 ∧ Q (.fix (rngD 0 j.toNat)) h1) R
  | .rng2 a b, δ, h => fun Q R => wE C a δ h (fun x h1 => wE C b δ h1 (fun y h2 => ∃ i j, x = .int i ∧ y = .int j ∧ (-(2 ^ 62) ≤ i ∧ i < 2 ^ 62 ∧ -(2 ^ 62) ≤ j ∧ j < 2 ^ 62) ∧ Q (.fix (rngD i (j - i).toNat)) h2) R) R
  | .rng3 _ _ _, _, _ => fun _ _ => False
  | .enum e, δ, h => fun Q R => wE C e δ h (fun x h1 => ∃ i, x = .ref i ∧ (lsD h1 i).isSome = true ∧ Q (.enum i) h1) R
  | .zip _ _, _, _ => fun _ _ => False
end

/-! ### statements -/
structure Ens where
  nx : Sl → Hh → Prop
  rt : QD
  bk : Sl → Hh → Prop := fun _ _ => False
  ct : Sl → Hh → Prop := fun _ _ => False
  ex : Xc → Sl → Hh → Prop := fun _ _ _ => False
def vAug (op : Op2) (x y : D) (h : Hh) (Q : QD) : Prop := match op with
  | .add => match x, y with
    | .int i, .int j => Q (.int (i + j)) h
    | .str s, .str t => s.length + t.length ≤ sizeLine ∧ Q (.str (s ++ t)) h
    | _, _ => False
  | .sub => vI2 x y fun i j => Q (.int (i - j)) h
  | _ => False
def setAll (δ : Sl) : List Nat → List D → Sl
  | i :: is, d :: ds => setAll (δ.set i (some d)) is ds
  | _, _ => δ
mutual
def wS (C : Cl) : S → Sl → Hh → Ens → Prop
  | .expr e, δ, h, D => wE C e δ h (fun _ h1 => D.nx δ h1) fun x h1 => D.ex x δ h1
  | .asg t e, δ, h, D => wE C e δ h (fun d h1 => wTg C t d δ h1 D.nx fun _ _ => False) fun x h1 => D.ex x δ h1
  | .set i e, δ, h, D => wE C e δ h (fun d h1 => D.nx (δ.set i (some d)) h1) fun x h1 => D.ex x δ h1
  | .aug i op e, δ, h, D => ∃ x, δ[i]? = some (some x) ∧ wE C e δ h (fun y h1 => vAug op x y h1 fun z h2 => D.nx (δ.set i (some z)) h2) fun x h1 => D.ex x δ h1
  | .augF o f op e, δ, h, D => False
  | .ret e, δ, h, D => wE C e δ h D.rt fun x h1 => D.ex x δ h1
  | .retN, _, h, D => D.rt .non h
  | .pass, δ, h, D => D.nx δ h
  | .brk, δ, h, D => D.bk δ h
  | .cont, δ, h, D => D.ct δ h
  | .par is es, δ, h, D => wEs C es δ h (fun ds h1 => ds.length = is.length ∧ D.nx (setAll δ is ds) h1) fun x h1 => D.ex x δ h1
  | .ife t a b, δ, h, D => wT C t δ h (fun c h1 => if c = true then wSs C a δ h1 D else wSs C b δ h1 D) fun x h1 => D.ex x δ h1
  | .whl t b, δ, h, D => ∃ n, whLoop (fun δ h Q => wT C t δ h Q fun x h1 => D.ex x δ h1) (fun δ h nx => wSs C b δ h { D with nx := nx, ct := nx, bk := D.nx }) D.nx n δ h
  | .for_ tg it b, δ, h, D => wI C it δ h (fun src h1 => ∃ n, forLoop src (fun d δ h nx => wTg C tg d δ h (fun δ1 h1 => wSs C b δ1 h1 { D with nx := nx, ct := nx, bk := D.nx }) fun _ _ => False) D.nx n 0 δ h1) fun x h1 => D.ex x δ h1
def wSs (C : Cl) : Ss → Sl → Hh → Ens → Prop
  | .nil, δ, h, D => D.nx δ h
  | .cons s ss, δ, h, D => wS C s δ h { D with nx := fun δ1 h1 => wSs C ss δ1 h1 D }
end

/-! ### defs -/
structure Fn where
  np : Nat
  ns : Nat
  body : Ss
/-- the table of the defs, the module's constants -/
structure Tb where
  fn : String → Option Fn
  con : String → Option D
  kw : String → Nat → List String → Option (List Nat) := fun _ _ _ => none
def slots (fn : Fn) (ds : List D) : Sl := ds.map some ++ List.replicate (fn.ns - ds.length) none
def wC (T : Tb) : Nat → String → List D → Hh → CD
  | 0, _, _, _ => fun _ _ => False
  | n + 1, f, ds, h => fun Q R => ∃ fn, T.fn f = some fn ∧ ds.length = fn.np ∧ wSs ⟨wC T n, T.con, T.kw⟩ fn.body (slots fn ds) h { nx := fun _ h' => Q .non h', rt := Q, ex := fun x _ h' => R x h' }
abbrev Tb.cl (T : Tb) (n : Nat) : Cl := ⟨wC T n, T.con, T.kw⟩
end Bn
end

section
/-! Bn.D: the operators keep what is asked. -/
namespace Bn
open PySem PySem.Spec PyProof.Rows L2

abbrev Kq (K : PySem.W.Frag) (cl : ClsT) (H : Hp) (ι : List Addr) (Q0 : QD) (Q : VK) : Prop :=
  ∀ (d : D) (h' : Hh) (ι' : List Addr) (H' : Hp) (w : V), Q0 d h' → Ext K H ι H' ι' → HRel K cl H' ι' h' → RelD K H' ι' d w → Q w H'
def rA (K : PySem.W.Frag) (cl : ClsT) (op : D → D → Hh → QD → Prop) : R2 := fun v u H Q =>
  ∃ ι h x y Q0, HRel K cl H ι h ∧ RelD K H ι x v ∧ RelD K H ι y u ∧ op x y h Q0 ∧ Kq K cl H ι Q0 Q
def rA1 (K : PySem.W.Frag) (cl : ClsT) (op : D → Hh → QD → Prop) : V → Hp → VK → Prop := fun v H Q =>
  ∃ ι h x Q0, HRel K cl H ι h ∧ RelD K H ι x v ∧ op x h Q0 ∧ Kq K cl H ι Q0 Q

section
variable {K : PySem.W.Frag} {cl : ClsT} {H : Hp} {ι : List Addr} {h : Hh} {Q0 : QD} {Q : VK}
/-- an answer with nothing new -/
theorem Kq.now (k : Kq K cl H ι Q0 Q) (r : HRel K cl H ι h) {d : D} {v : V} (q : Q0 d h) (e : RelD K H ι d v) : Q v H := k d h ι H v q .refl r e
/-- a new tuple -/
theorem Kq.tup (k : Kq K cl H ι Q0 Q) (r : HRel K cl H ι h) {ds : List D} {vs : List V} {p : Addr} (q : Q0 (.tup ds) h) (n : H p = none) (e : RelDs K H ι ds vs) : Q (.ref p) (upd H p (.tup vs)) :=
  k (.tup ds) h ι _ _ q (ext_same (same_new n)) (r.same (same_new n)) ⟨p, vs, rfl, .inl (.inl upd_same), e.mono (ext_same (same_new n))⟩
theorem ref_new (r : HRel K cl H ι h) {p : Addr} {u : HO} : RelD K (upd H p u) (ι ++ [p]) (.ref h.length) (.ref p) := ⟨p, by rw [← r.len]; simp, rfl⟩
/-- a new list -/
theorem Kq.lst (k : Kq K cl H ι Q0 Q) (r : HRel K cl H ι h) {ds : List D} {vs : List V} {p : Addr} (q : Q0 (.ref h.length) (h ++ [.lst ds])) (n : H p = none) (e : RelDs K H ι ds vs) : Q (.ref p) (upd H p (.lst vs)) :=
  k _ _ (ι ++ [p]) _ _ q (ext_new n) (r.new n ⟨vs, upd_same, e.mono (ext_new n)⟩) (ref_new r)
theorem RelDs.repl {ds : List D} {vs : List V} (e : RelDs K H ι ds vs) : ∀ n : Nat, RelDs K H ι (List.replicate n ds).flatten (List.replicate n vs).flatten
  | 0 => by simp [RelDs]
  | n + 1 => by
    rw [List.replicate_succ, List.replicate_succ, List.flatten_cons, List.flatten_cons]
    exact e.append (RelDs.repl e n)
end

section
variable {X : Cx} {cl : ClsT}
theorem ob_lst {K : PySem.W.Frag} {H : Hp} {ι : List Addr} {h : Hh} {i : Nat} {xs : List D} {v : V} (r : HRel K cl H ι h) (e : h[i]? = some (.lst xs)) (q : RelD K H ι (.ref i) v) : ∃ a vs, v = .ref a ∧ ι[i]? = some a ∧ H a = some (.lst vs) ∧ RelDs K H ι xs vs := by
  obtain ⟨a, rfl, ei, vs, e1, e2⟩ := r.of_ref e q
  exact ⟨a, vs, rfl, ei, e1, e2⟩
theorem ob_dct {K : PySem.W.Frag} {H : Hp} {ι : List Addr} {h : Hh} {i : Nat} {xs : List (D × D)} {v : V} (r : HRel K cl H ι h) (e : h[i]? = some (.dct xs)) (q : RelD K H ι (.ref i) v) : ∃ a ks, v = .ref a ∧ ι[i]? = some a ∧ H a = some (.dK ks) ∧ RelKv K H ι xs ks := by
  obtain ⟨a, rfl, ei, vs, e1, e2⟩ := r.of_ref e q
  exact ⟨a, vs, rfl, ei, e1, e2⟩
theorem ob_ls {K : PySem.W.Frag} {H : Hp} {ι : List Addr} {h : Hh} {i : Nat} {xs : List D} {v : V} (r : HRel K cl H ι h) (e : lsD h i = some xs) (q : RelD K H ι (.ref i) v) : ∃ a vs, v = .ref a ∧ SqL K H a vs ∧ RelDs K H ι xs vs := by
  unfold lsD at e
  split at e
  · cases e
    rename_i e
    obtain ⟨a, vs, e1, _, e2, e3⟩ := ob_lst r e q
    exact ⟨a, vs, e1, .of e2, e3⟩
  · cases e
    rename_i e
    obtain ⟨a, rfl, ei, vs, e1, e2⟩ := r.of_ref e q
    exact ⟨a, vs, rfl, e1.sq, e2⟩
  · cases e

theorem a_add : OpR X (binaryOp .Add) (rA X.K cl (vBin .add)) := by
  intro pins s σ H v u vv uu Q I rv ru ⟨ι, h, x, y, Q0, r, rx, ry, w, k⟩
  cases x <;> cases y <;> try exact False.elim w
  · cases rx; cases ry
    exact op_add pins s σ H _ _ vv uu Q I rv ru ⟨_, _, rfl, rfl, k.now r w rfl⟩
  · cases rx; cases ry
    refine op_add_str pins s σ H _ _ vv uu Q I rv ru ⟨_, _, rfl, rfl, by rw [S2_length, S2_length]; exact w.1, ?_⟩
    rw [S2_append]
    exact k.now r w.2 rfl
  · rename_i xs ys
    obtain ⟨a, vs, rfl, hs, hr⟩ := rx
    obtain ⟨b, ws, rfl, hs', hr'⟩ := ry
    refine op_catA pins s σ H _ _ vv uu Q I rv ru ⟨a, b, vs, ws, rfl, rfl, hs, hs', by rw [hr.length, hr'.length]; exact w.1, fun e => ?_, fun _ e => ?_, fun _ _ p n => ?_⟩
    · refine k.now r w.2 ⟨b, ws, rfl, hs', ?_⟩
      have := hr.append hr'
      rw [e, List.nil_append] at this
      exact this
    · refine k.now r w.2 ⟨a, vs, rfl, hs, ?_⟩
      have := hr.append hr'
      rw [e, List.append_nil] at this
      exact this
    · exact k.tup r w.2 n (hr.append hr')
  · obtain ⟨xs, ys, e1, e2, hl, q⟩ := w
    obtain ⟨a, vs, rfl, _, ha, hr⟩ := ob_lst r e1 rx
    obtain ⟨b, ws, rfl, _, hb, hr'⟩ := ob_lst r e2 ry
    exact op_cat pins s σ H _ _ vv uu Q I rv ru ⟨a, b, vs, ws, rfl, rfl, ha, hb, by rw [hr.length, hr'.length]; exact hl, fun p n => k.lst r q n (hr.append hr')⟩
theorem vI2_of {x y : D} {P : Int → Int → Prop} (w : vI2 x y P) : ∃ i j, x = .int i ∧ y = .int j ∧ P i j := by
  unfold vI2 at w
  split at w
  · exact ⟨_, _, rfl, rfl, w⟩
  · exact w.elim
theorem a_sub : OpR X (binaryOp .Sub) (rA X.K cl (vBin .sub)) := by
  intro pins s σ H v u vv uu Q I rv ru ⟨ι, h, x, y, Q0, r, rx, ry, w, k⟩
  obtain ⟨i, j, rfl, rfl, w⟩ := vI2_of w
  cases rx; cases ry
  exact op_sub pins s σ H _ _ vv uu Q I rv ru ⟨_, _, rfl, rfl, k.now r w rfl⟩
theorem a_fdiv : OpR X (binaryOp .FloorDiv) (rA X.K cl (vBin .fdiv)) := by
  intro pins s σ H v u vv uu Q I rv ru ⟨ι, h, x, y, Q0, r, rx, ry, w, k⟩
  obtain ⟨i, j, rfl, rfl, c, w⟩ := vI2_of w
  cases rx; cases ry
  exact op_fdiv pins s σ H _ _ vv uu Q I rv ru ⟨_, _, rfl, rfl, c, k.now r w rfl⟩
theorem a_mod : OpR X (binaryOp .Mod) (rA X.K cl (vBin .mod)) := by
  intro pins s σ H v u vv uu Q I rv ru ⟨ι, h, x, y, Q0, r, rx, ry, w, k⟩
  obtain ⟨i, j, rfl, rfl, c, w⟩ := vI2_of w
  cases rx; cases ry
  exact op_mod pins s σ H _ _ vv uu Q I rv ru ⟨_, _, rfl, rfl, c, k.now r w rfl⟩
theorem a_pow : OpR X (binaryOp .Pow) (rA X.K cl (vBin .pow)) := by
  intro pins s σ H v u vv uu Q I rv ru ⟨ι, h, x, y, Q0, r, rx, ry, w, k⟩
  obtain ⟨i, j, rfl, rfl, c, w⟩ := vI2_of w
  cases rx; cases ry
  exact op_pow pins s σ H _ _ vv uu Q I rv ru ⟨_, _, rfl, rfl, c, k.now r w rfl⟩
theorem a_neg : UnR X (unaryOp .USub) (rA1 X.K cl vNeg) := by
  intro pins s σ H v vv Q I rv ⟨ι, h, x, Q0, r, rx, w, k⟩
  unfold vNeg at w
  split at w
  · cases rx
    exact un_neg pins s σ H _ vv Q I rv ⟨_, rfl, k.now r w rfl⟩
  · exact w.elim

/-! ### data -/
mutual
theorem Deep.dp {K : PySem.W.Frag} {H : Hp} {ι : List Addr} {h : Hh} (r : HRel K cl H ι h) : ∀ {y : PyData} {d : D} {v : V}, Deep h d y → RelD K H ι d v → Dp K H v y
  | .none, _, _, x, q => by cases x; cases q; exact .non
  | .bool b, _, _, x, q => by cases x; cases q; exact .bl b
  | .int i, _, _, x, q => by cases x; cases q; exact .int i
  | .str s, _, _, x, q => by cases x; cases q; exact .str _
  | .list ys, _, _, x, q => by
    cases x with
    | lst e t =>
      obtain ⟨a, vs, rfl, hs, hr⟩ := ob_ls r e q
      exact .lst hs (DeepL.dp r t hr)
  | .tuple ys, _, _, x, q => by
    cases x with
    | tup t =>
      obtain ⟨a, vs, rfl, hs, hr⟩ := q
      exact .tup hs (DeepL.dp r t hr)
  | .dict _, _, _, x, _ => by cases x
theorem DeepL.dp {K : PySem.W.Frag} {H : Hp} {ι : List Addr} {h : Hh} (r : HRel K cl H ι h) : ∀ {ys : List PyData} {ds : List D} {vs : List V}, DeepL h ds ys → RelDs K H ι ds vs → DpAll K H vs ys
  | [], _, _, x, q => by
    cases x
    rw [show _ = [] from q]
    exact .nil
  | y :: ys, _, _, x, q => by
    cases x with
    | cons x1 x2 =>
      obtain ⟨v, t, rfl, q1, q2⟩ := q
      exact .cons (Deep.dp r x1 q1) (DeepL.dp r x2 q2)
end

/-! ### comparisons -/
def rC (K : PySem.W.Frag) (cl : ClsT) (op : D → D → Hh → (Bool → Prop) → Prop) : R2 := fun v u H Q =>
  ∃ ι h x y Q0, HRel K cl H ι h ∧ RelD K H ι x v ∧ RelD K H ι y u ∧ op x y h Q0 ∧ ∀ c, Q0 c → Q (.bl c) H
theorem fin_c {pins : List (Addr × Obj)} {σ : L2.St} {H : Hp} {s : Shared} {Q : VK} {c : Bool} (I : Inv X pins σ H s) (q : Q (.bl c) H) : EP X pins σ Q (.bool c) s := ⟨.bl c, H, I, rfl, q⟩
theorem min_le1 {u a b n : Nat} (h : a ≤ 180) (hu : u + 190 < n) : u + min a b < n := by omega
theorem sqL_isList {pins : List (Addr × Obj)} {σ : L2.St} {H : Hp} {s : Shared} {a : Addr} {vs : List V} (I : Inv X pins σ H s) (h : SqL X.K H a vs) : ∃ its : List Value, Vals vs its ∧ s.heap.IsList a its.toArray := by
  obtain ⟨its, rv, p, _⟩ := I.list h
  exact ⟨its, rv, p.isList⟩
theorem a_eqN (neg : Bool) (hu : X.A.units + 190 < cLine) : OpR X (compareOp (if neg then .NotEq else .Eq)) (rC X.K cl fun x y h Q => vEq x y h fun b => Q (if neg then !b else b)) := by
  intro pins s σ H v u vv uu Q I rv ru ⟨ι, h, x, y, Q0, r, rx, ry, w, k⟩
  rcases w with ⟨a, b, da, db, la, lb, q⟩ | ⟨i, j, xs, ys, rfl, rfl, e1, e2, ne, q⟩
  · obtain ⟨as, r1⟩ := Dp.reads I a v vv (da.dp r rx) rv
    obtain ⟨bs, r2⟩ := Dp.reads I b u uu (db.dp r ry) ru
    cases neg with
    | false => exact SeqAt.compareEq_reads r1 r2 la.1 lb.1 (min_le1 la.2 hu) (fin_c I (k _ q))
    | true => exact SeqAt.compareNe_reads r1 r2 la.1 lb.1 (min_le1 la.2 hu) (fin_c I (k _ q))
  · obtain ⟨a, vs, rfl, hs, hr⟩ := ob_ls r e1 rx
    obtain ⟨b, ws, rfl, hs', hr'⟩ := ob_ls r e2 ry
    obtain ⟨its, rv1, l1⟩ := sqL_isList I hs
    obtain ⟨jts, rv2, l2⟩ := sqL_isList I hs'
    cases rv; cases ru
    have hne : (its.toArray.size != jts.toArray.size) = true := by
      simp only [bne_iff_ne, ne_eq, List.size_toArray]
      rw [← rv1.length, ← rv2.length, hr.length, hr'.length]
      exact ne
    cases neg with
    | false => exact SeqAt.eq_list_lengthsAt l1 l2 hne (by omega) (fin_c I (k _ q))
    | true => exact SeqAt.RcNeAt.lists_lengths l1 l2 hne (by omega) _ _ _ _ (fin_c I (k _ q))
theorem a_eq (hu : X.A.units + 190 < cLine) : OpR X (compareOp .Eq) (rC X.K cl (vCmp .eq)) := a_eqN false hu
theorem a_ne (hu : X.A.units + 190 < cLine) : OpR X (compareOp .NotEq) (rC X.K cl (vCmp .ne)) := a_eqN true hu

theorem opB_of {f : Value → Value → Sem Value} {g : Int → Int → Bool} (o : OpR X f (rI0 fun i j => .bl (g i j))) {op : D → D → Hh → (Bool → Prop) → Prop} (e : ∀ x y h Q, op x y h Q → vI2 x y fun i j => Q (g i j)) : OpR X f (rC X.K cl op) := by
  intro pins s σ H v u vv uu Q I rv ru ⟨ι, h, x, y, Q0, r, rx, ry, w, k⟩
  obtain ⟨i, j, rfl, rfl, w2⟩ := vI2_of (e _ _ _ _ w)
  cases rx; cases ry
  exact o pins s σ H _ _ vv uu Q I rv ru ⟨_, _, rfl, rfl, k _ w2⟩
theorem a_lt : OpR X (compareOp .Lt) (rC X.K cl (vCmp .lt)) := opB_of op_lt fun _ _ _ _ w => w
theorem a_le : OpR X (compareOp .LtE) (rC X.K cl (vCmp .le)) := opB_of op_le fun _ _ _ _ w => w
theorem a_gt : OpR X (compareOp .Gt) (rC X.K cl (vCmp .gt)) := opB_of op_gt fun _ _ _ _ w => w
theorem a_ge : OpR X (compareOp .GtE) (rC X.K cl (vCmp .ge)) := opB_of op_ge fun _ _ _ _ w => w

theorem isNon_of {K : PySem.W.Frag} {H : Hp} {ι : List Addr} {x : D} {v : V} (r : RelD K H ι x v) : decide (v = .non) = isNon x := by
  cases x with
  | non => cases r; rfl
  | bl _ => cases r; rfl
  | int _ => cases r; rfl
  | str _ => cases r; rfl
  | tup _ => obtain ⟨a, vs, rfl, _⟩ := r; rfl
  | ref _ => obtain ⟨a, _, rfl⟩ := r; rfl
theorem a_isN (neg : Bool) : OpR X (compareOp (if neg then .IsNot else .Is)) (rC X.K cl fun x y _ Q => vIs x y fun b => Q (if neg then !b else b)) := by
  intro pins s σ H v u vv uu Q I rv ru ⟨ι, h, x, y, Q0, r, rx, ry, w, k⟩
  cases y <;> try exact False.elim w
  · cases ry
    cases neg with
    | false => exact op_isN pins s σ H _ _ vv uu Q I rv ru ⟨rfl, by rw [isNon_of rx]; exact k _ w⟩
    | true => exact op_notN pins s σ H _ _ vv uu Q I rv ru ⟨rfl, by rw [isNon_of rx]; exact k _ w⟩
  · obtain ⟨a, rfl, w⟩ := w
    cases ry; cases rx
    cases neg with
    | false => exact op_isBl pins s σ H _ _ vv uu Q I rv ru ⟨_, _, rfl, rfl, k _ w⟩
    | true => exact op_notBl pins s σ H _ _ vv uu Q I rv ru ⟨_, _, rfl, rfl, k _ w⟩
theorem a_is : OpR X (compareOp .Is) (rC X.K cl (vCmp .is)) := a_isN false
theorem a_isNot : OpR X (compareOp .IsNot) (rC X.K cl (vCmp .isNot)) := a_isN true

/-! ### in -/
theorem layAll : ∀ {bs : List PyData}, (∀ b ∈ bs, laid b) → PyData.canLayAll0 bs = true ∧ PyData.depthAll bs ≤ 180
  | [], _ => ⟨rfl, by decide⟩
  | b :: bs, h => by
    obtain ⟨h1, h2⟩ := layAll (bs := bs) fun c hc => h c (List.mem_cons_of_mem _ hc)
    obtain ⟨h3, h4⟩ := h b (List.mem_cons_self ..)
    refine ⟨?_, ?_⟩
    · show (PyData.canLay0 b && PyData.canLayAll0 bs) = true
      rw [h3, h1]; rfl
    · show max (PyData.depth b) (PyData.depthAll bs) ≤ 180
      omega
/-- x in a list, a tuple of data -/
theorem inL_ok {pins : List (Addr × Obj)} {s : Shared} {σ : L2.St} {H : Hp} {ι : List Addr} {h : Hh} {x : D} {xs : List D} {v : V} {vv : Value} {vs : List V} {a : Addr} {Q0 : Bool → Prop} {Q : VK} (neg : Bool) (hu : X.A.units + 190 < cLine) (I : Inv X pins σ H s)
    (r : HRel X.K cl H ι h) (rx : RelD X.K H ι x v) (rv : RelV v vv) (rs : RelDs X.K H ι xs vs) (hq : SqL X.K H a vs ∨ SqT X.K H a vs) (w : vInL x xs h Q0) (k : ∀ c, Q0 c → Q (.bl (if neg then !c else c)) H) :
    wpAny (model X.prog X.w) X.A (compareOp (if neg then .NotIn else .In) vv (.ref a)) (EP X pins σ Q) X.xe s := by
  obtain ⟨d, bs, dx, dl, ld, lb, q⟩ := w
  obtain ⟨l1, l2⟩ := layAll lb
  obtain ⟨as, r1⟩ := Dp.reads I d v vv (dx.dp r rx) rv
  have hroom : X.A.units + 1 + min (PyData.depthAll bs) d.depth < cLine := by omega
  rcases hq with hq | hq
  · obtain ⟨cs, r2⟩ := Dp.reads I (.list bs) (.ref a) (.ref a) (.lst hq (dl.dp r rs)) rfl
    cases neg with
    | false => exact SeqAt.in_list_reads r2 r1 l1 ld.1 hroom (fin_c I (k _ q))
    | true => exact SeqAt.notIn_list_reads r2 r1 l1 ld.1 hroom (fin_c I (k _ q))
  · obtain ⟨cs, r2⟩ := Dp.reads I (.tuple bs) (.ref a) (.ref a) (.tup hq (dl.dp r rs)) rfl
    cases neg with
    | false => exact SeqAt.in_tuple_reads r2 r1 l1 ld.1 hroom (fin_c I (k _ q))
    | true => exact SeqAt.notIn_tuple_reads r2 r1 l1 ld.1 hroom (fin_c I (k _ q))
theorem key_of {K : PySem.W.Frag} {H : Hp} {ι : List Addr} {x : D} {v : V} (e : isKey x = true) (r : RelD K H ι x v) : ∃ k, RelK x k ∧ v = kV k := by
  cases x <;> try cases e
  · cases r; exact ⟨.inl _, rfl, rfl⟩
  · cases r; exact ⟨.inr _, rfl, rfl⟩
theorem keyEq_of {p x : D} {k k' : Key} (r : RelK p k) (r' : RelK x k') : keyEq p x = decide (k = k') := by
  cases p <;> try exact False.elim r
  · cases x <;> try exact False.elim r'
    · cases r; cases r'
      rename_i a b
      show decide (a = b) = decide ((Sum.inl a : Key) = Sum.inl b)
      by_cases e : a = b
      · subst e; simp
      · rw [decide_eq_false e, decide_eq_false fun z => e (Sum.inl.inj z)]
    · cases r; cases r'
      show false = decide _
      exact (decide_eq_false nofun).symm
  · cases x <;> try exact False.elim r'
    · cases r; cases r'
      show false = decide _
      exact (decide_eq_false nofun).symm
    · cases r; cases r'
      rename_i a b
      show decide (a = b) = decide ((Sum.inr (S2 a) : Key) = Sum.inr (S2 b))
      by_cases e : a = b
      · subst e; simp
      · rw [decide_eq_false e, decide_eq_false fun z => e (S2_inj (Sum.inr.inj z))]
theorem look_of {K : PySem.W.Frag} {H : Hp} {ι : List Addr} {x : D} {k : Key} (rk : RelK x k) : ∀ {kvs : List (D × D)} {ks : List (Key × V)}, RelKv K H ι kvs ks →
    (∀ d, lookK kvs x = some d → ∃ v, valV ks k = some v ∧ RelD K H ι d v) ∧ (lookK kvs x = none → valV ks k = none)
  | [], _, r => by
    rw [show _ = [] from r]
    exact ⟨fun d z => (nomatch z), fun _ => rfl⟩
  | p :: ps, _, r => by
    obtain ⟨k', v, t, rfl, h1, h2, h3⟩ := r
    have ih := look_of (x := x) rk h3
    have e := keyEq_of h1 rk
    unfold lookK valV
    rw [List.find?_cons, List.find?_cons]
    by_cases hk : k' = k
    · rw [decide_eq_true hk] at e
      rw [e]
      simp only [hk, decide_true]
      refine ⟨fun d z => ⟨v, rfl, ?_⟩, fun z => nomatch z⟩
      cases z
      exact h2
    · rw [decide_eq_false hk] at e
      rw [e]
      simp only [hk, decide_false]
      exact ih
theorem a_inN (neg : Bool) (hr : Room n X.A) : OpR X (compareOp (if neg then .NotIn else .In)) (rC X.K cl fun x y h Q => vIn x y h fun b => Q (if neg then !b else b)) := by
  have hu : X.A.units + 190 < cLine := by have := hr.un; omega
  intro pins s σ H v u vv uu Q I rv ru ⟨ι, h, x, y, Q0, r, rx, ry, w, k⟩
  cases y <;> try exact False.elim w
  · obtain ⟨c, rfl, w⟩ := w
    rename_i t
    cases rx; cases ry
    have e : decide (c ∈ (S2 t).cps.toList) = decide (c ∈ t) := by
      refine decide_eq_decide.mpr ?_
      simp [S2]
    cases neg with
    | false => exact op_in_sign pins s σ H _ _ vv uu Q I rv ru ⟨c, _, rfl, rfl, by rw [e]; exact k _ w⟩
    | true => exact op_notIn_sign pins s σ H _ _ vv uu Q I rv ru ⟨c, _, rfl, rfl, by rw [e]; exact k _ w⟩
  · rename_i xs
    obtain ⟨a, vs, rfl, hs, hr'⟩ := ry
    cases ru
    exact inL_ok neg hu I r rx rv hr' (.inr hs) (show vInL x xs h (fun b => Q0 (if neg = true then !b else b)) from w) fun c q => k _ q
  · rcases w with ⟨ys, e, w⟩ | ⟨kvs, e, hk, w⟩
    · obtain ⟨a, vs, rfl, hs, hr'⟩ := ob_ls r e ry
      cases ru
      exact inL_ok neg hu I r rx rv hr' (.inl hs) w fun c q => k _ q
    · obtain ⟨a, ks, rfl, _, ha, hkv⟩ := ob_dct r e ry
      obtain ⟨key, rk, rfl⟩ := key_of hk rx
      cases ru
      have es : (lookK kvs x).isSome = (valV ks key).isSome := by
        obtain ⟨z1, z2⟩ := look_of (x := x) rk hkv
        cases q : lookK kvs x with
        | none => rw [z2 q]; rfl
        | some d => obtain ⟨v, e1, _⟩ := z1 d q; rw [e1]; rfl
      have h1 : X.A.units + 1 < cLine := by omega
      cases neg with
      | false => exact d_in h1 I (DGet.k ha) rv fun s3 I3 => ⟨.bl _, H, I3, rfl, by rw [← es]; exact k _ w⟩
      | true => exact d_notIn h1 I (DGet.k ha) rv fun s3 I3 => ⟨.bl _, H, I3, rfl, by rw [← es]; exact k _ w⟩
theorem a_in (hr : Room n X.A) : OpR X (compareOp .In) (rC X.K cl (vCmp .in_)) := a_inN false hr
theorem a_notIn (hr : Room n X.A) : OpR X (compareOp .NotIn) (rC X.K cl (vCmp .notIn)) := a_inN true hr
def cmOp : Cm → CmpOp
  | .eq => .Eq | .ne => .NotEq | .lt => .Lt | .le => .LtE | .gt => .Gt | .ge => .GtE | .is => .Is | .isNot => .IsNot | .in_ => .In | .notIn => .NotIn
theorem a_cmp (hr : Room n X.A) (op : Cm) : OpR X (compareOp (cmOp op)) (rC X.K cl (vCmp op)) := by
  have hu : X.A.units + 190 < cLine := by have := hr.un; omega
  cases op with
  | eq => exact a_eq hu
  | ne => exact a_ne hu
  | lt => exact a_lt
  | le => exact a_le
  | gt => exact a_gt
  | ge => exact a_ge
  | is => exact a_is
  | isNot => exact a_isNot
  | in_ => exact a_in hr
  | notIn => exact a_notIn hr

/-! ### products -/
theorem mul_str_codes (s : List Nat) (k : Int) (h0 : 0 ≤ k) : Txt.mul (S2 s) k = S2 (List.replicate k.toNat s).flatten := by
  have key : ∀ (n : Nat) (acc : Array Nat), ((List.replicate n s.toArray).foldl (· ++ ·) acc).toList = acc.toList ++ (List.replicate n s).flatten := by
    intro n
    induction n with
    | zero => intro acc; simp
    | succ n ih => intro acc; rw [List.replicate_succ, List.foldl_cons, ih, List.replicate_succ, List.flatten_cons]; simp
  unfold Txt.mul
  by_cases h1 : k < 1
  · have e : k = 0 := by omega
    subst e
    rfl
  · rw [if_neg h1]
    by_cases h2 : (k == 1 || (S2 s).length == 0) = true
    · rw [if_pos h2]
      simp only [Bool.or_eq_true, beq_iff_eq] at h2
      rcases h2 with h2 | h2
      · subst h2; simp [S2]
      · rw [S2_length] at h2
        have : s = [] := List.length_eq_zero_iff.mp h2
        subst this
        simp [S2]
    · rw [if_neg h2]
      show (⟨_⟩ : Str) = ⟨_⟩
      congr 1
      apply Array.ext'
      rw [show (S2 s).cps = s.toArray from rfl, key]
      simp
theorem a_mul : OpR X (binaryOp .Mult) (rA X.K cl (vBin .mul)) := by
  intro pins s σ H v u vv uu Q I rv ru ⟨ι, h, x, y, Q0, r, rx, ry, w, k⟩
  cases x <;> cases y <;> try exact False.elim w
  · cases rx; cases ry
    exact op_mul pins s σ H _ _ vv uu Q I rv ru ⟨_, _, rfl, rfl, w.1, k.now r w.2 rfl⟩
  · rename_i t j
    cases rx; cases ry
    obtain ⟨tk, rfl⟩ := rv
    obtain ⟨tk', rfl⟩ := ru
    obtain ⟨w1, w2, w3, w4⟩ := w
    have hn : ((t.length * j.toNat : Nat) : Int) = (t.length : Int) * j := by
      rw [Int.natCast_mul, Int.toNat_of_nonneg w1]
    refine PySem.SB.mul (x := S2 t) ⟨?_, fun h1 h2 => ?_, fun h1 h2 => ?_⟩ fun t' tk2 => ?_
    · have : ¬ j < -(2 ^ 63 : Int) := by omega
      rw [decide_eq_false this, decide_eq_false (by omega)]; rfl
    · rw [S2_length]
      have hs : (sizeLine : Int) ≤ 2 ^ 63 - 1 := by rw [sizeLine_eq]; decide
      have hm : (t.length : Int) * j ≤ 2 ^ 63 - 1 := by
        rw [← hn]
        have : ((t.length * j.toNat : Nat) : Int) ≤ (sizeLine : Int) := by exact_mod_cast w3
        omega
      have hj : (0 : Int) < j := by omega
      have := (Int.le_ediv_iff_mul_le hj).mpr hm
      omega
    · rw [S2_length]
      show decide (_ > sizeLine) = false
      exact decide_eq_false (by omega)
    · rw [mul_str_codes t j w1]
      exact ⟨.str _, H, I.tok _, ⟨_, rfl⟩, k.now r w4 rfl⟩
  · obtain ⟨xs, e, l1, l2, hl, q⟩ := w
    obtain ⟨a, vs, rfl, _, ha, hr⟩ := ob_lst r e rx
    cases ry
    exact op_rep pins s σ H _ _ vv uu Q I rv ru ⟨a, _, vs, rfl, rfl, ha, l1, l2, by rw [hr.length]; exact hl, fun p n => k.lst r q n (hr.repl _)⟩
def opOp : Op2 → Operator
  | .add => .Add | .sub => .Sub | .mul => .Mult | .fdiv => .FloorDiv | .mod => .Mod | .pow => .Pow
theorem a_bin (op : Op2) : OpR X (binaryOp (opOp op)) (rA X.K cl (vBin op)) := by
  cases op with
  | add => exact a_add
  | sub => exact a_sub
  | mul => exact a_mul
  | fdiv => exact a_fdiv
  | mod => exact a_mod
  | pow => exact a_pow
end
end Bn
end

section
/-! Bn.E: subscripts, slices, fields, built-ins keep what is asked. -/
namespace Bn
open PySem PySem.Spec PyProof.Rows L2
section
variable {X : Cx} {cl : ClsT} {n : Nat}
theorem atI_rel {K : PySem.W.Frag} {H : Hp} {ι : List Addr} {xs : List D} {vs : List V} {i : Int} {d : D} (r : RelDs K H ι xs vs) (e : atI xs i = some d) : ∃ v, atI vs i = some v ∧ RelD K H ι d v := by
  unfold atI at e ⊢
  rw [r.length]
  cases q : ixN xs.length i with
  | none => rw [q] at e; cases e
  | some j =>
    rw [q] at e
    exact r.get e
theorem ix_dict (hu : X.A.units + 1 < cLine) : IxR X (fun x y H Q => ∃ a v, x = .ref a ∧ DGet H a y (some v) ∧ Q v H) := by
  intro value slice pins s σ H x y v u Q I rx ry h hs
  obtain ⟨a, z, rfl, g, q⟩ := h
  cases rx
  have ty := dict_typeIs I g
  have got := d_getItem hu I g ry (E := X.xe) (Q := EP X pins σ Q) fun w' s3 I3 rw' => ⟨z, H, I3, rw', q⟩
  have fin : wpAny (model X.prog X.w) X.A (subscripted slice false (.ref a) u) (fun r s3 => wpAny (model X.prog X.w) X.A (letTemporaryGo value (.ref a) r >>= fun _ => pure r) (EP X pins σ Q) X.xe s3) X.xe s := by
    rw [hs]
    exact wpAny_operating (thn got fun r s3 h3 => wpAny_bind (wpAny_letTemporaryGo (wpAny_pure h3)))
  unfold subscriptTail
  refine wpAny_bind ?_
  rw [getitemInPython_of_ne ty.not_modules]
  refine wpAny_bind (wpAny_specialOf ty PySem.F.slot_dict_getitem.lookup ?_)
  first | exact wpAny_bind fin | exact wpAny_pure (wpAny_bind fin) | exact wpAny_bind (wpAny_pure (wpAny_bind fin))
theorem a_ix (hr : Room n X.A) : IxR X (rA X.K cl vIx) := by
  have h1 : X.A.units + 1 < cLine := by have := hr.un; omega
  intro value slice pins s σ H x y v u Q I rx ry ⟨ι, h, d, e, Q0, r, rd, re, w, k⟩ hs
  cases d <;> try exact False.elim w
  · obtain ⟨i, c, rfl, hl, ec, q⟩ := w
    cases rd; cases re
    refine ix_str value slice pins s σ H _ _ v u Q I rx ry ⟨_, i, c, rfl, rfl, by rw [S2_length]; exact hl, ?_, ?_⟩ hs
    · simpa [S2] using ec
    · exact k.now r q (by show V.str _ = V.str _; rfl)
  · obtain ⟨i, z, rfl, ez, q⟩ := w
    obtain ⟨a, vs, rfl, hs', hr'⟩ := rd
    cases re
    obtain ⟨y', ey, ry'⟩ := atI_rel hr' ez
    exact ix_tup value slice pins s σ H _ _ v u Q I rx ry ⟨a, vs, i, y', rfl, rfl, hs', ey, k.now r q ry'⟩ hs
  · rcases w with ⟨xs, i, z, e1, rfl, ez, q⟩ | ⟨kvs, z, e1, hk, ez, q⟩
    · obtain ⟨a, vs, rfl, hs', hr'⟩ := ob_ls r e1 rd
      cases re
      obtain ⟨y', ey, ry'⟩ := atI_rel hr' ez
      exact ix_list value slice pins s σ H _ _ v u Q I rx ry ⟨a, vs, i, y', rfl, rfl, hs', ey, k.now r q ry'⟩ hs
    · obtain ⟨a, ks, rfl, _, ha, hkv⟩ := ob_dct r e1 rd
      obtain ⟨key, rk, rfl⟩ := key_of hk re
      obtain ⟨y', ey, ry'⟩ := (look_of rk hkv).1 z ez
      exact ix_dict h1 value slice pins s σ H _ _ v u Q I rx ry ⟨a, y', rfl, by rw [← ey]; exact DGet.k ha, k.now r q ry'⟩ hs

/-! ### slices -/
theorem cut_rel {K : PySem.W.Frag} {H : Hp} {ι : List Addr} {xs : List D} {vs : List V} (r : RelDs K H ι xs vs) (l u : Option Int) : RelDs K H ι (cut xs l u) (cutV vs l u) := by
  unfold cut cutV
  rw [r.length]
  exact (r.drop _).take _
theorem cut_str (s : List Nat) (l u : Option Int) : cutS (S2 s) l u = S2 (cut s l u) := by
  unfold cutS cut S2
  simp [Str.length]
def rAS (K : PySem.W.Frag) (cl : ClsT) : V → Option Int → Option Int → Hp → VK → Prop := fun v lo hi H Q =>
  ∃ ι h x l u Q0, HRel K cl H ι h ∧ RelD K H ι x v ∧ partI l = some lo ∧ partI u = some hi ∧ vSlc x l u h Q0 ∧ Kq K cl H ι Q0 Q
theorem a_slc : SlR X (rAS X.K cl) := by
  intro pins s σ H v vv vl vu lo hi sl Q I rv hsl pl pu ⟨ι, h, x, l, u, Q0, r, rx, e1, e2, ⟨l', u', e3, e4, w⟩, k⟩
  rw [e1] at e3; cases e3
  rw [e2] at e4; cases e4
  cases x <;> try exact False.elim w
  · cases rx
    exact sl_str pins s σ H _ vv vl vu lo hi sl Q I rv hsl pl pu ⟨_, rfl, by rw [S2_length]; exact w.1, by rw [cut_str]; exact k.now r w.2 rfl⟩
  · rename_i xs
    obtain ⟨a, vs, rfl, hs, hr⟩ := rx
    refine sl_tupA pins s σ H _ vv vl vu lo hi sl Q I rv hsl pl pu ⟨a, vs, rfl, hs, fun ⟨z1, z2⟩ => ?_, fun _ p n => k.tup r w n (cut_rel hr lo hi)⟩
    have e : cut xs lo hi = xs := by
      unfold cut
      rw [hr.length] at z1 z2
      rw [z1, z2]
      simp
    have w' : Q0 (.tup (cut xs lo hi)) h := w
    rw [e] at w'
    exact k.now r w' ⟨a, vs, rfl, hs, hr⟩
  · obtain ⟨xs, e, q⟩ := w
    obtain ⟨a, vs, rfl, hs, hr⟩ := ob_ls r e rx
    exact sl_list pins s σ H _ vv vl vu lo hi sl Q I rv hsl pl pu ⟨a, vs, rfl, hs, fun p n => k.lst r q n (cut_rel hr lo hi)⟩

/-! ### built-in functions -/
def rB (K : PySem.W.Frag) (cl : ClsT) (op : List D → Hh → QD → Prop) : List V → Hp → VK → Prop := fun vs H Q =>
  ∃ ι h ds Q0, HRel K cl H ι h ∧ RelDs K H ι ds vs ∧ op ds h Q0 ∧ Kq K cl H ι Q0 Q
def rM (K : PySem.W.Frag) (cl : ClsT) (op : D → List D → Hh → QD → Prop) : V → List V → Hp → VK → Prop := fun v vs H Q =>
  ∃ ι h x ds Q0, HRel K cl H ι h ∧ RelD K H ι x v ∧ RelDs K H ι ds vs ∧ op x ds h Q0 ∧ Kq K cl H ι Q0 Q
theorem rel1 {K : PySem.W.Frag} {H : Hp} {ι : List Addr} {d : D} {vs : List V} (r : RelDs K H ι [d] vs) : ∃ v, vs = [v] ∧ RelD K H ι d v := by
  obtain ⟨v, t, rfl, h1, h2⟩ := r
  rw [show t = [] from h2]
  exact ⟨v, rfl, h1⟩
theorem rel2 {K : PySem.W.Frag} {H : Hp} {ι : List Addr} {d e : D} {vs : List V} (r : RelDs K H ι [d, e] vs) : ∃ v u, vs = [v, u] ∧ RelD K H ι d v ∧ RelD K H ι e u := by
  obtain ⟨v, t, rfl, h1, h2⟩ := r
  obtain ⟨u, rfl, h3⟩ := rel1 h2
  exact ⟨v, u, rfl, h1, h3⟩
theorem bls_rel {K : PySem.W.Frag} {H : Hp} {ι : List Addr} : ∀ {xs : List D} {bs : List Bool} {vs : List V}, blsD xs = some bs → RelDs K H ι xs vs → vs = bs.map V.bl
  | [], _, _, e, r => by cases e; exact r
  | .bl b :: xs, _, _, e, r => by
    obtain ⟨v, t, rfl, h1, h2⟩ := r
    cases h1
    unfold blsD at e
    cases q : blsD xs with
    | none => rw [q] at e; cases e
    | some cs =>
      rw [q] at e; cases e
      rw [bls_rel q h2]; rfl
  | .non :: _, _, _, e, _ => by cases e
  | .int _ :: _, _, _, e, _ => by cases e
  | .str _ :: _, _, _, e, _ => by cases e
  | .tup _ :: _, _, _, e, _ => by cases e
  | .ref _ :: _, _, _, e, _ => by cases e
theorem ints_rel {K : PySem.W.Frag} {H : Hp} {ι : List Addr} : ∀ {xs : List D} {bs : List Int} {vs : List V}, intsD xs = some bs → RelDs K H ι xs vs → vs = bs.map V.int
  | [], _, _, e, r => by cases e; exact r
  | .int b :: xs, _, _, e, r => by
    obtain ⟨v, t, rfl, h1, h2⟩ := r
    cases h1
    unfold intsD at e
    cases q : intsD xs with
    | none => rw [q] at e; cases e
    | some cs =>
      rw [q] at e; cases e
      rw [ints_rel q h2]; rfl
  | .non :: _, _, _, e, _ => by cases e
  | .bl _ :: _, _, _, e, _ => by cases e
  | .str _ :: _, _, _, e, _ => by cases e
  | .tup _ :: _, _, _, e, _ => by cases e
  | .ref _ :: _, _, _, e, _ => by cases e
theorem strs_rel {K : PySem.W.Frag} {H : Hp} {ι : List Addr} : ∀ {xs : List D} {bs : List (List Nat)} {vs : List V}, strsD xs = some bs → RelDs K H ι xs vs → vs = (bs.map S2).map V.str
  | [], _, _, e, r => by cases e; exact r
  | .str b :: xs, _, _, e, r => by
    obtain ⟨v, t, rfl, h1, h2⟩ := r
    cases h1
    unfold strsD at e
    cases q : strsD xs with
    | none => rw [q] at e; cases e
    | some cs =>
      rw [q] at e; cases e
      rw [strs_rel q h2]; rfl
  | .non :: _, _, _, e, _ => by cases e
  | .bl _ :: _, _, _, e, _ => by cases e
  | .int _ :: _, _, _, e, _ => by cases e
  | .tup _ :: _, _, _, e, _ => by cases e
  | .ref _ :: _, _, _, e, _ => by cases e
theorem S2_codes (x : Str) : S2 (codes x) = x := S2_of x
theorem kv_length {K : PySem.W.Frag} {H : Hp} {ι : List Addr} : ∀ {kvs : List (D × D)} {ks : List (Key × V)}, RelKv K H ι kvs ks → ks.length = kvs.length
  | [], _, r => by rw [show _ = [] from r]; rfl
  | _ :: _, _, r => by
    obtain ⟨k, v, t, rfl, h1, h2, h3⟩ := r
    rw [List.length_cons, List.length_cons, kv_length h3]
theorem pylong_small (i : Int) {j : Int} (h0 : 0 < j) (h1 : j < 2 ^ 62) : Builtin.divisionGoesByPylong i j = false := by
  unfold Builtin.divisionGoesByPylong
  have e : j.natAbs.log2 < 62 := by
    have : j.natAbs < 2 ^ 62 := by omega
    exact (Nat.log2_lt (by omega)).mpr this
  have e2 : (j == 0) = false := by simpa using (by omega : j ≠ 0)
  simp only [e2, Bool.false_eq_true, if_false]
  have : ¬ (j.natAbs.log2 / 30 + 1 > 300) := by omega
  rw [decide_eq_false this]
  rfl

theorem bi_len : CallR X (.builtin "len") (rB X.K cl vLen) := by
  rintro pins s σ H vs us Q I rs ⟨ι, h, ds, Q0, r, rd, ⟨x, n, rfl, e, hn, q⟩, k⟩
  obtain ⟨v, rfl, rx⟩ := rel1 rd
  have fin := k.now r q (v := .int n) rfl
  have ls : ∀ i xs, x = .ref i → lsD h i = some xs → xs.length = n → wpAny (model X.prog X.w) X.A (call (.builtin "len") us) (EP X pins σ Q) X.xe s := fun i xs e1 e2 e3 => by
    subst e1
    obtain ⟨a, ws, rfl, hs, hr⟩ := ob_ls r e2 rx
    exact call_len pins s σ H _ us Q I rs ⟨_, _, rfl, .inl ⟨ws, hs, rfl⟩, by rw [hr.length, e3]; exact fin⟩
  cases x with
  | str t =>
    cases e
    cases rx
    exact call_len pins s σ H _ us Q I rs ⟨_, _, rfl, ⟨by rw [S2_length]; exact hn, rfl⟩, by rw [S2_length]; exact fin⟩
  | tup xs =>
    cases e
    obtain ⟨a, ws, rfl, hs, hr⟩ := rx
    exact call_len pins s σ H _ us Q I rs ⟨_, _, rfl, .inr ⟨ws, hs, rfl⟩, by rw [hr.length]; exact fin⟩
  | ref i =>
    unfold lenD at e
    dsimp only at e
    cases q1 : h[i]? with
    | none => rw [q1] at e; cases e
    | some o =>
      rw [q1] at e
      cases o with
      | lst xs => cases e; exact ls i xs rfl (by unfold lsD; rw [q1]) rfl
      | klst xs => cases e; exact ls i xs rfl (by unfold lsD; rw [q1]) rfl
      | dct kvs =>
        cases e
        obtain ⟨a, ks, rfl, _, ha, hkv⟩ := ob_dct r q1 rx
        exact call_lenD pins s σ H _ us Q I rs ⟨a, ks, rfl, ha, by rw [kv_length hkv]; exact fin⟩
      | kdct kvs => cases e
      | ins c fs => cases e
  | non => cases e
  | bl b => cases e
  | int i => cases e
theorem bi_abs : CallR X (.builtin "abs") (rB X.K cl vAbs) := by
  rintro pins s σ H vs us Q I rs ⟨ι, h, ds, Q0, r, rd, ⟨i, rfl, q⟩, k⟩
  obtain ⟨v, rfl, rx⟩ := rel1 rd
  cases rx
  exact call_abs pins s σ H _ us Q I rs ⟨_, rfl, k.now r q rfl⟩
theorem bi_max (hc : X.calm = true) : CallR X (.builtin "max") (rB X.K cl vMax) := by
  rintro pins s σ H vs us Q I rs ⟨ι, h, ds, Q0, r, rd, ⟨i, j, rfl, q⟩, k⟩
  obtain ⟨v, u, rfl, rx, ry⟩ := rel2 rd
  cases rx; cases ry
  exact call_max2 hc pins s σ H _ us Q I rs ⟨_, _, rfl, k.now r q rfl⟩
theorem bi_min (hc : X.calm = true) : CallR X (.builtin "min") (rB X.K cl vMin) := by
  rintro pins s σ H vs us Q I rs ⟨ι, h, ds, Q0, r, rd, ⟨i, j, rfl, q⟩, k⟩
  obtain ⟨v, u, rfl, rx, ry⟩ := rel2 rd
  cases rx; cases ry
  exact call_min2 hc pins s σ H _ us Q I rs ⟨_, _, rfl, k.now r q rfl⟩
theorem bi_all (hc : X.calm = true) : CallR X (.builtin "all") (rB X.K cl vAll) := by
  rintro pins s σ H vs us Q I rs ⟨ι, h, ds, Q0, r, rd, ⟨l, xs, bs, rfl, e1, e2, q⟩, k⟩
  obtain ⟨v, rfl, rx⟩ := rel1 rd
  obtain ⟨a, ws, rfl, hs, hr⟩ := ob_ls r e1 rx
  rw [bls_rel e2 hr] at hs
  exact cr_all hc pins s σ H _ us Q I rs ⟨a, bs, rfl, hs, k.now r q rfl⟩
theorem bi_any (hc : X.calm = true) : CallR X (.builtin "any") (rB X.K cl vAny) := by
  rintro pins s σ H vs us Q I rs ⟨ι, h, ds, Q0, r, rd, ⟨l, xs, bs, rfl, e1, e2, q⟩, k⟩
  obtain ⟨v, rfl, rx⟩ := rel1 rd
  obtain ⟨a, ws, rfl, hs, hr⟩ := ob_ls r e1 rx
  rw [bls_rel e2 hr] at hs
  exact cr_any hc pins s σ H _ us Q I rs ⟨a, bs, rfl, hs, k.now r q rfl⟩
theorem bi_sum (hc : X.calm = true) : CallR X (.builtin "sum") (rB X.K cl vSum) := by
  rintro pins s σ H vs us Q I rs ⟨ι, h, ds, Q0, r, rd, ⟨l, xs, bs, rfl, e1, e2, q⟩, k⟩
  obtain ⟨v, rfl, rx⟩ := rel1 rd
  obtain ⟨a, ws, rfl, hs, hr⟩ := ob_ls r e1 rx
  rw [ints_rel e2 hr] at hs
  exact cr_sum hc pins s σ H _ us Q I rs ⟨a, bs, rfl, hs, k.now r q rfl⟩
theorem bi_divmod : CallR X (.builtin "divmod") (rB X.K cl vDivmod) := by
  rintro pins s σ H vs us Q I rs ⟨ι, h, ds, Q0, r, rd, ⟨i, j, rfl, ⟨h0, h1⟩, q⟩, k⟩
  obtain ⟨v, u, rfl, rx, ry⟩ := rel2 rd
  cases rx; cases ry
  exact call_divmodW pins s σ H _ us Q I rs ⟨_, _, rfl, ⟨h0, pylong_small i h0 h1⟩, fun p hn => k.tup r q hn (RelDs.cons rfl (RelDs.one rfl))⟩
theorem bi_int : CallR X (.type "int") (rB X.K cl vInt) := by
  rintro pins s σ H vs us Q I rs ⟨ι, h, ds, Q0, r, rd, w, k⟩
  rcases w with ⟨t, n, rfl, e, hl, q⟩ | ⟨i, rfl, q⟩
  · obtain ⟨v, rfl, rx⟩ := rel1 rd
    cases rx
    exact call_int_str pins s σ H _ us Q I rs ⟨_, _, rfl, e, by rw [S2_length]; exact hl, k.now r q rfl⟩
  · obtain ⟨v, rfl, rx⟩ := rel1 rd
    cases rx
    exact call_int1 pins s σ H _ us Q I rs (.inl ⟨_, rfl, k.now r q rfl⟩)
theorem bi_str : CallR X (.type "str") (rB X.K cl vStr) := by
  rintro pins s σ H vs us Q I rs ⟨ι, h, ds, Q0, r, rd, ⟨i, rfl, hl, q⟩, k⟩
  obtain ⟨v, rfl, rx⟩ := rel1 rd
  cases rx
  refine call_str_int pins s σ H _ us Q I rs ⟨_, rfl, hl, k.now r q ?_⟩
  show V.str _ = V.str _
  rw [S2_codes]
mutual
theorem noDict_of {h : Hh} : ∀ {y : PyData} {d : D}, Deep h d y → y.hasDict = false
  | .none, _, _ => rfl
  | .bool _, _, _ => rfl
  | .int _, _, _ => rfl
  | .str _, _, _ => rfl
  | .list ys, _, x => by cases x with | lst e t => exact noDictL_of t
  | .tuple ys, _, x => by cases x with | tup t => exact noDictL_of t
  | .dict _, _, x => by cases x
theorem noDictL_of {h : Hh} : ∀ {ys : List PyData} {ds : List D}, DeepL h ds ys → PyData.hasDictAll ys = false
  | [], _, _ => rfl
  | y :: ys, _, x => by
    cases x with
    | cons x1 x2 =>
      show (PyData.hasDict y || PyData.hasDictAll ys) = false
      rw [noDict_of x1, noDictL_of x2]; rfl
end
theorem bi_repr (hr : Room n X.A) (hg : X.A.guards = some []) : CallR X (.builtin "repr") (rB X.K cl vRepr) := by
  have hu : X.A.units + 190 < cLine := by have := hr.un; omega
  rintro pins s σ H vs us Q I rs ⟨ι, h, ds, Q0, r, rd, ⟨x, y, rfl, dy, sh, dp, hl, q⟩, k⟩
  obtain ⟨v, rfl, rx⟩ := rel1 rd
  obtain ⟨u, rfl, ru⟩ := vals1 rs
  have qf : Q (.str y.shown) H := k.now r q (by show V.str _ = V.str _; rw [S2_codes])
  obtain ⟨as, rr⟩ := Dp.reads I y v u (dy.dp r rx) ru
  have ref : ∀ a, u = .ref a → wpAny (model X.prog X.w) X.A (call (.builtin "repr") [u]) (EP X pins σ Q) X.xe s := fun a e => by
    subst e
    have nd := noDict_of dy
    exact repr_of_reads' rr sh (fun z => by rw [nd] at z; cases z) hg (by omega) (fun _ _ z => z) (fun h' u' tk hk => ⟨.str _, H, I.kept hk, ⟨_, rfl⟩, qf⟩) hl
  cases dy with
  | non => cases rx; cases ru; exact PySem.P.repr_of_none ⟨.str _, H, I.tok _, ⟨_, rfl⟩, qf⟩
  | bl b => cases rx; cases ru; exact PySem.P.repr_of_bool ⟨.str _, H, I.tok _, ⟨_, rfl⟩, qf⟩
  | int i => cases rx; obtain ⟨t, rfl⟩ := ru; exact PySem.P.repr_of_int (of_decide_eq_true sh) ⟨.str _, H, I.tok _, ⟨_, rfl⟩, qf⟩
  | str z => cases rx; obtain ⟨t, rfl⟩ := ru; exact PySem.P.repr_of_str ⟨.str _, H, I.tok _, ⟨_, rfl⟩, qf⟩ hl
  | tup t => obtain ⟨a, vs, rfl, _⟩ := rx; cases ru; exact ref a rfl
  | lst e t => obtain ⟨a, _, rfl⟩ := rx; cases ru; exact ref a rfl

/-! ### methods of built-in types -/
theorem write_lst {K : PySem.W.Frag} {H : Hp} {ι : List Addr} {h : Hh} {Q0 : QD} {Q : VK} {l : Nat} {a : Addr} {xs ys : List D} {ws : List V} {d : D} {v : V} (k : Kq K cl H ι Q0 Q) (r : HRel K cl H ι h) (ei : ι[l]? = some a) (eo : h[l]? = some (.lst xs))
    (q : Q0 d (h.set l (.lst ys))) (rs : RelDs K H ι ys ws) (rv : RelD K H ι d v) : Q v (upd H a (.lst ws)) := by
  obtain ⟨u, eu, n1, n2⟩ := (r.ob l a _ ei eo).there rfl
  have ex : Ext K H ι (upd H a (.lst ws)) ι := ext_write eu n1 n2
  obtain ⟨_, r'⟩ := r.write (w := .lst ws) (o' := .lst ys) ei eo rfl rfl ⟨ws, upd_same, rs.mono ex⟩
  exact k d _ ι _ v q ex r' (rv.mono ex)
theorem bm_append : MtR X "list.append" (rM X.K cl mAppend) := by
  rintro pins s σ H v vs vv us Q I rv rs ⟨ι, h, x, ds, Q0, r, rx, rd, ⟨d, l, xs, rfl, rfl, eo, hl, q⟩, k⟩
  obtain ⟨w, rfl, rw'⟩ := rel1 rd
  obtain ⟨a, ws, rfl, ei, ha, hr⟩ := ob_lst r eo rx
  exact mt_append pins s σ H _ _ vv us Q I rv rs ⟨a, ws, w, rfl, rfl, ha, by rw [hr.length]; exact hl, write_lst k r ei eo q (hr.append (RelDs.one rw')) rfl⟩
theorem bm_join : MtR X "str.join" (rM X.K cl mJoin) := by
  rintro pins s σ H v vs vv us Q I rv rs ⟨ι, h, x, ds, Q0, r, rx, rd, ⟨l, t, xs, ys, rfl, rfl, e1, e2, hl, q⟩, k⟩
  obtain ⟨w, rfl, rw'⟩ := rel1 rd
  obtain ⟨a, ws, rfl, hs, hr⟩ := ob_ls r e1 rw'
  cases rx
  rw [strs_rel e2 hr] at hs
  refine mt_join pins s σ H _ _ vv us Q I rv rs ⟨S2 t, a, ys.map S2, rfl, rfl, .inl hs, ?_, k.now r q ?_⟩
  · rw [List.map_map, S2_length, List.length_map]
    have : ((fun x : Str => x.length) ∘ S2) = List.length := funext S2_length
    rw [show (Str.length ∘ S2) = List.length from this]
    exact hl
  · show V.str _ = V.str _
    rw [S2_codes]
theorem len_pos {t : List Nat} (h : t ≠ []) : ((S2 t).length == 0) = false := by
  rw [S2_length]
  cases t with
  | nil => exact absurd rfl h
  | cons c r => rfl
theorem bm_partition : MtR X "str.partition" (rM X.K cl mPartition) := by
  rintro pins s σ H v vs vv us Q I rv rs ⟨ι, h, x, ds, Q0, r, rx, rd, ⟨t, z, rfl, rfl, ht, hl, q⟩, k⟩
  obtain ⟨w, rfl, rw'⟩ := rel1 rd
  cases rx; cases rw'
  have e : ∀ y : Str, RelD X.K H ι (.str (codes y)) (.str y) := fun y => by show V.str _ = V.str _; rw [S2_codes]
  exact mt_partition pins s σ H _ _ vv us Q I rv rs ⟨_, _, rfl, rfl, len_pos ht, by rw [S2_length]; exact hl, fun p hn => k.tup r q hn (RelDs.cons (e _) (RelDs.cons (e _) (RelDs.one (e _))))⟩
theorem rel_codes {K : PySem.W.Frag} {H : Hp} {ι : List Addr} : ∀ ys : List Str, RelDs K H ι (ys.map fun z => .str (codes z)) (ys.map V.str)
  | [] => rfl
  | y :: ys => ⟨_, _, rfl, by show V.str _ = V.str _; rw [S2_codes], rel_codes ys⟩
theorem bm_split : MtR X "str.split" (rM X.K cl mSplit) := by
  rintro pins s σ H v vs vv us Q I rv rs ⟨ι, h, x, ds, Q0, r, rx, rd, ⟨t, z, rfl, rfl, ht, hl, q⟩, k⟩
  obtain ⟨w, rfl, rw'⟩ := rel1 rd
  cases rx; cases rw'
  exact mt_split pins s σ H _ _ vv us Q I rv rs ⟨_, _, rfl, rfl, len_pos ht, by rw [S2_length]; exact hl, fun p hn => k.lst r q hn (rel_codes _)⟩
theorem bm_sindex : MtR X "str.index" (rM X.K cl mSindex) := by
  rintro pins s σ H v vs vv us Q I rv rs ⟨ι, h, x, ds, Q0, r, rx, rd, ⟨t, z, c, rfl, rfl, ec, q⟩, k⟩
  obtain ⟨w, rfl, rw'⟩ := rel1 rd
  obtain ⟨u, rfl, ru⟩ := vals1 rs
  cases rx; cases rw'
  obtain ⟨t1, rfl⟩ := rv
  obtain ⟨t2, rfl⟩ := ru
  unfold Txt.index0 at ec
  cases qo : Builtin.Str.occurrences (S2 z) (S2 t) 0 (S2 z).length 1 with
  | nil => rw [qo] at ec; cases ec
  | cons c' rest =>
    rw [qo] at ec; cases ec
    exact PySem.SC.index qo ⟨.int (c : Nat), H, I.tok _, ⟨_, rfl⟩, k.now r q rfl⟩
end
end Bn
end

section
/-! Bn.F: does a text have this form? -/
namespace Bn
open PySem PySem.Spec PyProof.Rows L2

mutual
def tgIds : Tg → List Nat
  | .nm i => [i]
  | .tup ts => tgsIds ts
  | .sub _ _ => []
  | .fld _ _ => []
def tgsIds : Tgs → List Nat
  | .nil => []
  | .cons t ts => tgIds t ++ tgsIds ts
end
def isTupE : Expr → Bool
  | .Tuple _ _ _ => true
  | _ => false
def enumOk : It → Expr → Bool
  | .enum _, t => isTupE t
  | _, _ => true

def visB (sc : Scope) (x : Str) : Bool := match sc.names.lookup x with
  | some .local => true
  | some .cell => true
  | some .free => true
  | _ => false
def locB (sc : Scope) (x : Str) : Bool := match sc.names.lookup x with
  | some .local => true
  | some .cell => true
  | _ => false
def plainName (x : Str) : Bool := !(x == ("__debug__" : Str)) && (!(x == ("__classdict__" : Str)) && !(x == ("__name__" : Str)))
def glB (sc : Scope) (x : Str) : Bool := (match sc.names.lookup x with
  | some .globalImplicit => true
  | _ => false) && plainName x
def slotB (N : List Str) (sc : Scope) (i : Nat) (x : Str) : Bool := decide (N[i]? = some x) && (visB sc x && plainName x)
def cstB : D → Const → Bool
  | .non, .none => true
  | .bl a, .bool b => a == b
  | .int i, .int j => decide (i = j)
  | .str s, .str x => decide (S2 s = x)
  | _, _ => false
def opB : Op2 → Operator → Bool
  | .add, .Add => true | .sub, .Sub => true | .mul, .Mult => true | .fdiv, .FloorDiv => true | .mod, .Mod => true | .pow, .Pow => true
  | _, _ => false
def cmB : Cm → CmpOp → Bool
  | .eq, .Eq => true | .ne, .NotEq => true | .lt, .Lt => true | .le, .LtE => true | .gt, .Gt => true | .ge, .GtE => true
  | .is, .Is => true | .isNot, .IsNot => true | .in_, .In => true | .notIn, .NotIn => true
  | _, _ => false
def biN : Bi → Str
  | .len => "len" | .abs => "abs" | .max => "max" | .min => "min" | .all => "all" | .any => "any" | .sum => "sum" | .divmod => "divmod"
  | .int => "int" | .str => "str" | .repr => "repr" | .list => "list" | .tuple => "tuple" | .sorted => "sorted" | .reversed => "reversed" | .dict => "dict" | .set => "set"
def bmN : Bm → Str
  | .append => "append" | .pop => "pop" | .extend => "extend" | .index => "index" | .clear => "clear" | .reverse => "reverse" | .insert => "insert" | .count => "count"
  | .get => "get" | .items => "items" | .keys => "keys" | .values => "values" | .update => "update" | .setdefault => "setdefault"
  | .join => "join" | .partition => "partition" | .split => "split" | .sindex => "index" | .upper => "upper" | .scount => "count" | .add => "add"
def noStar1 : Expr → Bool
  | .Starred _ _ => false
  | _ => true
def noSet : Expr → Bool
  | .Set _ _ _ => false
  | _ => true
def noSlice : Expr → Bool
  | .Slice _ _ _ _ => false
  | _ => true
def noBase : Expr → Bool
  | .Call (.Name id _) _ _ _ => !(id == ("super" : Str))
  | _ => true
/-- a test by the value alone -/
def plainT : Expr → Bool
  | .UnaryOp .Not _ _ => false
  | .BoolOp _ _ _ => false
  | .IfExp _ _ _ _ => false
  | .Compare _ _ _ _ => false
  | _ => true
def tyB : List String → Expr → Bool
  | [t], .Name x _ => decide (Str.ofString t = x)
  | _, _ => false

def ownP (N : List Str) (own : List Nat) : List (Str × Nat) := own.filterMap fun k => (N[k]?).map fun n => (n, k)
def tyOk (t : String) : Bool := decide (t ∈ ["str", "int", "list", "tuple", "dict", "bool"])
/-- which built-ins are served -/
def biOk : Bi → Bool
  | .len => true | .abs => true | .max => true | .min => true | .all => true | .any => true | .sum => true | .divmod => true
  | .int => true | .str => true | .repr => true | _ => false
def bmOk : Bm → Bool
  | .append => true | .join => true | .partition => true | .split => true | .sindex => true | _ => false
mutual
def ckE (tb : Tb) (N : List Str) (sc : Scope) : E → Expr → Bool
  | .loc i, .Name x _ => slotB N sc i x
  | .cst d, .Constant c _ _ => cstB d c
  | .glob g, .Name x _ => (tb.con g).isSome && (decide (Str.ofString g = x) && glB sc x)
  | .bin op a b, .BinOp x o y _ => opB op o && (ckE tb N sc a x && ckE tb N sc b y)
  | .neg a, .UnaryOp .USub x _ => ckE tb N sc a x
  | .not a, .UnaryOp .Not x _ => ckE tb N sc a x
  | .cmp op a b, .Compare x [o] [y] _ => cmB op o && (noSet y && (ckE tb N sc a x && ckE tb N sc b y))
  | .chain o1 o2 a b c, .Compare x [p1, p2] [y, z] _ => cmB o1 p1 && (cmB o2 p2 && (noSet y && (noSet z && (ckE tb N sc a x && (ckE tb N sc b y && ckE tb N sc c z)))))
  | .and a b, .BoolOp .And (x :: y :: rest) p => ckE tb N sc a x && (match rest with
    | [] => ckE tb N sc b y
    | _ => ckE tb N sc b (.BoolOp .And (y :: rest) p))
  | .or a b, .BoolOp .Or (x :: y :: rest) p => ckE tb N sc a x && (match rest with
    | [] => ckE tb N sc b y
    | _ => ckE tb N sc b (.BoolOp .Or (y :: rest) p))
  | .ife t a b, .IfExp c x y _ => ckT tb N sc t c && (ckE tb N sc a x && ckE tb N sc b y)
  | .ix a i, .Subscript x y _ => noSlice y && (ckE tb N sc a x && ckE tb N sc i y)
  | .slc a lo hi, .Subscript x (.Slice l u none _) _ => ckE tb N sc a x && ((match lo, l with
    | .cst .non, none => true
    | lo, some y => ckE tb N sc lo y
    | _, none => false) && (match hi, u with
    | .cst .non, none => true
    | hi, some y => ckE tb N sc hi y
    | _, none => false))
  | .tup es, .Tuple xs _ _ => ckEs tb N sc es xs
  | .lst es, .List xs _ => ckEs tb N sc es xs
  | .call f es, .Call (.Name x _) xs [] _ => (tb.fn f).isSome && (decide (Str.ofString f = x) && (glB sc x && ckEs tb N sc es xs))
  | .bi f (.cons e es), .Call (.Name x _) (y :: ys) [] _ => biOk f && (decide (biN f = x) && (glB sc x && (noStar1 y && (ckE tb N sc e y && ckEs tb N sc es ys))))
  | .bm m a (.cons e es), .Call (.Attribute o x ap) (y :: ys) [] p => bmOk m && (decide (bmN m = x) && (noBase o && ((ap.endLine == p.line) && (decide (ys.length < 20) && (ckE tb N sc a o && (noStar1 y && (ckE tb N sc e y && ckEs tb N sc es ys)))))))
  | .isi a [t], .Call (.Name x _) [y, .Name z _] [] _ => decide (x = ("isinstance" : Str)) && (glB sc x && (decide (Str.ofString t = z) && (glB sc z && (tyOk t && (noStar1 y && ckE tb N sc a y)))))
  | .dct kvs, .Dict ks vs _ => decide (ks.length ≤ 15) && ckPs tb N sc kvs ks vs
  | .callK f es kn ks, .Call (.Name x _) xs kws _ => ((tb.fn f).isSome && (tb.kw f xs.length kn).isSome) && (decide (Str.ofString f = x) && (glB sc x && ((match kws with | [] => false | _ => true) && (ckEs tb N sc es xs && ckKs tb N sc kn ks kws))))
  | .lc elt tg it t own, .ListComp x [⟨g, i, ifs, 0⟩] scope _ => blkC N sc scope (ownP N own) && (decide ((ownP N own).map (·.2) = own) && ((tgIds tg).all (fun i => decide (i ∈ own)) && (enumOk it g && (noSet i && (ckI tb N sc it i && (ckTg tb N (relS scope sc) scope tg g && ((match t, ifs with
    | .tt, [] => true
    | .tt, _ => false
    | t, [c] => ckT tb N (relS scope sc) t c
    | _, _ => false) && ckE tb N (relS scope sc) elt x)))))))
  | _, _ => false
def ckEs (tb : Tb) (N : List Str) (sc : Scope) : Es → List Expr → Bool
  | .nil, [] => true
  | .cons e es, x :: xs => noStar1 x && (ckE tb N sc e x && ckEs tb N sc es xs)
  | _, _ => false
def ckPs (tb : Tb) (N : List Str) (sc : Scope) : Es → List (Option Expr) → List Expr → Bool
  | .nil, [], [] => true
  | .cons k (.cons v r), some x :: ks, y :: vs => ckE tb N sc k x && (ckE tb N sc v y && ckPs tb N sc r ks vs)
  | _, _, _ => false
def ckKs (tb : Tb) (N : List Str) (sc : Scope) : List String → Es → List Keyword → Bool
  | [], .nil, [] => true
  | n :: kn, .cons e es, ⟨nm, x, _⟩ :: kws => decide (nm = some (Str.ofString n)) && (ckE tb N sc e x && ckKs tb N sc kn es kws)
  | _, _, _ => false
def ckT (tb : Tb) (N : List Str) (sc : Scope) : T → Expr → Bool
  | .val e, x => plainT x && ckE tb N sc e x
  | .not t, .UnaryOp .Not x _ => ckT tb N sc t x
  | .and a b, .BoolOp .And (x :: y :: rest) p => ckT tb N sc a x && (match rest with
    | [] => ckT tb N sc b y
    | _ => ckT tb N sc b (.BoolOp .And (y :: rest) p))
  | .or a b, .BoolOp .Or (x :: y :: rest) p => ckT tb N sc a x && (match rest with
    | [] => ckT tb N sc b y
    | _ => ckT tb N sc b (.BoolOp .Or (y :: rest) p))
  | .cmp op a b, .Compare x [o] [y] _ => cmB op o && (noSet y && (ckE tb N sc a x && ckE tb N sc b y))
  | .chain o1 o2 a b c, .Compare x [p1, p2] [y, z] _ => cmB o1 p1 && (cmB o2 p2 && (noSet y && (noSet z && (ckE tb N sc a x && (ckE tb N sc b y && ckE tb N sc c z)))))
  | _, _ => false
def ckTg (tb : Tb) (N : List Str) (sc raw : Scope) : Tg → Expr → Bool
  | .nm i, .Name x _ => decide (N[i]? = some x) && locB raw x
  | .tup ts, .Tuple xs _ _ => ckTgs tb N sc raw ts xs
  | .sub o i, .Subscript x y _ => noSlice y && (ckE tb N sc o x && ckE tb N sc i y)
  | _, _ => false
def ckTgs (tb : Tb) (N : List Str) (sc raw : Scope) : Tgs → List Expr → Bool
  | .nil, [] => true
  | .cons t ts, x :: xs => noStar1 x && (ckTg tb N sc raw t x && ckTgs tb N sc raw ts xs)
  | _, _ => false
def ckI (tb : Tb) (N : List Str) (sc : Scope) : It → Expr → Bool
  | .seq e, x => ckE tb N sc e x
  | .rng1 a, .Call (.Name x _) [y] [] _ => decide (x = ("range" : Str)) && (glB sc x && (noStar1 y && ckE tb N sc a y))
  | .rng2 a b, .Call (.Name x _) [y, z] [] _ => decide (x = ("range" : Str)) && (glB sc x && (noStar1 y && (noStar1 z && (ckE tb N sc a y && ckE tb N sc b z))))
  | .enum e, .Call (.Name x _) [y] [] _ => decide (x = ("enumerate" : Str)) && (glB sc x && (noStar1 y && ckE tb N sc e y))
  | _, _ => false
end
end Bn
end

section
/-! Bn.G: expressions keep what is asked. -/
namespace Bn
open PySem PySem.Spec PyProof.Rows L2

/-- an exception as it lies -/
def XRel (K : PySem.W.Frag) (cl : ClsT) (H : Hp) (ι : List Addr) (x : Xc) (c : Value) (d : Option Addr) : Prop :=
  ∃ C, cl x.cls = some C ∧ c = .ref C ∧ ((d = none ∧ x.fs = []) ∨ ∃ dx gs, d = some dx ∧ H dx = some (.xd gs) ∧ ∀ f z, fldD x.fs f = some z → ∃ v, gs.lookup (Str.ofString f) = some v ∧ RelD K H ι z v)
/-- what follows an answer, an exception -/
structure Kt {α β : Type} (K : PySem.W.Frag) (cl : ClsT) (W : WX) (RA : Hp → List Addr → α → β → Prop) (σ : L2.St) (H : Hp) (ι : List Addr) (Q0 : α → Hh → Prop) (R0 : QX) (Q : β → Hp → Prop) : Prop where
  q : ∀ (a : α) (h' : Hh) (ι' : List Addr) (H' : Hp) (b : β), Q0 a h' → Ext K H ι H' ι' → HRel K cl H' ι' h' → RA H' ι' a b → Q b H'
  r : ∀ (x : Xc) (h' : Hh) (ι' : List Addr) (H' : Hp) (c : Value) (d : Option Addr), R0 x h' → Ext K H ι H' ι' → HRel K cl H' ι' h' → XRel K cl H' ι' x c d → W c d σ H'
abbrev Md (α : Type) := Sl → Hh → (α → Hh → Prop) → QX → Prop
def tA {α β : Type} (K : PySem.W.Frag) (cl : ClsT) (W : WX) (RA : Hp → List Addr → α → β → Prop) (m : Md α) : L2.St → Hp → (β → Hp → Prop) → Prop := fun σ H Q =>
  ∃ ι h δ Q0 R0, HRel K cl H ι h ∧ SRel K H ι δ σ ∧ m δ h Q0 R0 ∧ Kt K cl W RA σ H ι Q0 R0 Q
abbrev RD (K : PySem.W.Frag) : Hp → List Addr → D → V → Prop := fun H ι d v => RelD K H ι d v
abbrev RDs (K : PySem.W.Frag) : Hp → List Addr → List D → List V → Prop := fun H ι d v => RelDs K H ι d v
abbrev RB : Hp → List Addr → Bool → Bool → Prop := fun _ _ a b => a = b
section
variable {α β : Type} {K : PySem.W.Frag} {cl : ClsT} {W : WX} {RA : Hp → List Addr → α → β → Prop} {σ : L2.St} {H H1 : Hp} {ι ι1 : List Addr} {Q0 : α → Hh → Prop} {R0 : QX} {Q : β → Hp → Prop}
theorem Kt.ext (k : Kt K cl W RA σ H ι Q0 R0 Q) (x : Ext K H ι H1 ι1) : Kt K cl W RA σ H1 ι1 Q0 R0 Q :=
  ⟨fun a h' ι' H' b q e => k.q a h' ι' H' b q (x.trans e), fun a h' ι' H' c d q e => k.r a h' ι' H' c d q (x.trans e)⟩
/-- another thing is wanted of the answer -/
theorem Kt.to {α' β' : Type} {RA' : Hp → List Addr → α' → β' → Prop} {Q0' : α' → Hh → Prop} {Q' : β' → Hp → Prop} (k : Kt K cl W RA σ H ι Q0 R0 Q)
    (q : ∀ (a : α') (h' : Hh) (ι' : List Addr) (H' : Hp) (b : β'), Q0' a h' → Ext K H ι H' ι' → HRel K cl H' ι' h' → RA' H' ι' a b → Kt K cl W RA σ H' ι' Q0 R0 Q → Q' b H') : Kt K cl W RA' σ H ι Q0' R0 Q' :=
  ⟨fun a h' ι' H' b z e r x => q a h' ι' H' b z e r x (k.ext e), k.r⟩
theorem Kt.kq {Q0 : QD} {Q : VK} (k : Kt K cl W (RD K) σ H ι Q0 R0 Q) : Kq K cl H ι Q0 Q := fun d h' ι' H' w q e r x => k.q d h' ι' H' w q e r x
theorem Kt.now (k : Kt K cl W RA σ H ι Q0 R0 Q) {h : Hh} (r : HRel K cl H ι h) {a : α} {b : β} (q : Q0 a h) (e : RA H ι a b) : Q b H := k.q a h ι H b q .refl r e
end
theorem _root_.L2.PE.imp {X : Cx} {e : Expr} {t t' : TE} (h : PE X e t) (i : ∀ σ H Q, t' σ H Q → t σ H Q) : PE X e t' := ⟨fun pins s σ H Q I w => h.run pins s σ H Q I (i σ H Q w)⟩
theorem _root_.L2.PT.imp {X : Cx} {e : Expr} {t t' : TT} (h : PT X e t) (i : ∀ σ H Q, t' σ H Q → t σ H Q) : PT X e t' := ⟨fun pins s σ H Q I w => h.run pins s σ H Q I (i σ H Q w)⟩
theorem _root_.L2.PW.imp {X : Cx} {e : Expr} {t t' : TT} (h : PW X e t) (i : ∀ σ H Q, t' σ H Q → t σ H Q) : PW X e t' := ⟨fun wh pins s σ H Q I w => h.run wh pins s σ H Q I (i σ H Q w)⟩
theorem _root_.L2.PA.imp {X : Cx} {e : List Expr} {t t' : TA} (h : PA X e t) (i : ∀ σ H Q, t' σ H Q → t σ H Q) : PA X e t' := ⟨fun pos pins s σ H Q I w => h.run pos pins s σ H Q I (i σ H Q w)⟩

def builtinNames : List Str := ["len", "abs", "max", "min", "all", "any", "sum", "divmod", "int", "str", "repr", "list", "tuple", "sorted", "reversed", "dict", "set", "isinstance", "range", "enumerate", "zip", "bool"]
/-- the promise that wC gives -/
def spA (K : PySem.W.Frag) (cl : ClsT) (T : Tb) (n : Nat) (f : String) : Sp := fun vs H Q E =>
  ∃ ι h ds Q0 R0, HRel K cl H ι h ∧ RelDs K H ι ds vs ∧ wC T n f ds h Q0 R0 ∧
    (∀ (d : D) (h' : Hh) (ι' : List Addr) (H' : Hp) (v : V), Q0 d h' → Ext K H ι H' ι' → HRel K cl H' ι' h' → RelD K H' ι' d v → Q v H') ∧
    ∀ (x : Xc) (h' : Hh) (ι' : List Addr) (H' : Hp) (c : Value) (d : Option Addr), R0 x h' → Ext K H ι H' ι' → HRel K cl H' ι' h' → XRel K cl H' ι' x c d → E c d H'
/-- a def's run, where no repr is under way -/
structure FnG (P : Program) (w : World) (K : PySem.W.Frag) (mg : Str → Option Value) (base : Heap) (k : Nat) (f : Addr) (fd : FuncData) (ps : List Str) (sp : Sp) : Prop where
  len : ∀ vs H Q E, sp vs H Q E → vs.length = ps.length
  run : ∀ (A : Around) (outer : List Env) (s : Shared) (H : Hp) (args : Args) (us : List Value) (vs : List V) (Q : VK) (E : XK), Room k A → A.guards = some [] → Env0 P w K mg base A outer s H → BindsTo s fd args (ps.zip us) → Vals vs us → sp vs H Q E →
    codeAny (model P w) A (.call (.ref f) args) (CR (L2.CX P w) outer P w H s Q E) s
/-- a call with keywords binds -/
def KwB (K : PySem.W.Frag) (fd : FuncData) (ps : List Str) (np : Nat) (kn : List String) (g : List Nat) : Prop :=
  ∀ (s : Shared) (us ws : List Value), K.In s.heap → us.length = np → ws.length = kn.length → ∃ as, mapIx (us ++ ws) g = some as ∧ BindsTo s fd ⟨us, (kn.map Str.ofString).zip ws⟩ (ps.zip as)
structure CallOk (X : Cx) (T : Tb) (cl : ClsT) (n : Nat) (f : String) (a : Addr) (fd : FuncData) (ps : List Str) : Prop where
  mg : X.mg (Str.ofString f) = some (.ref a)
  kp : PySem.W.keepIn X.K (.ref a) = true
  bind : Binds X.K fd ps []
  fn : FnG X.prog X.w X.K X.mg X.base n a fd ps (spA X.K cl T n f)
  kw : ∀ np kn g, T.kw f np kn = some g → KwB X.K fd ps np kn g
structure Good (X : Cx) (T : Tb) (cl : ClsT) (n : Nat) (W : WX) : Prop where
  nd : X.N.Nodup
  calm : X.calm = true
  room : Room n X.A
  gds : X.A.guards = some []
  tk : Takes X W
  free : ∀ x ∈ builtinNames, X.mg x = none
  con : ∀ g d, T.con g = some d → ∃ u v, X.mg (Str.ofString g) = some u ∧ RelV v u ∧ ∀ H ι, RelD X.K H ι d v
  call : ∀ f fn, T.fn f = some fn → ∃ a fd ps, CallOk X T cl n f a fd ps
theorem Good.blk {X : Cx} {T : Tb} {cl : ClsT} {n : Nat} {W : WX} (G : Good X T cl n W) (s : Shared) (H : Hp) (scope : Scope) (C : Addr) (c : List (Str × Addr)) (fp : List Addr) : Good (X.blk s H scope (compEnvC scope c C X.env) fp) T cl n (fun _ _ _ _ => False) :=
  ⟨G.nd, G.calm, G.room, G.gds, takes0, G.free, G.con, fun f fn e => let ⟨a, fd, ps, c⟩ := G.call f fn e; ⟨a, fd, ps, c.mg, c.kp, c.bind, c.fn, c.kw⟩⟩

section
variable {X : Cx} {T : Tb} {cl : ClsT} {n : Nat} {W : WX} {N : List Str} {sc : Scope}
abbrev tE' (X : Cx) (T : Tb) (cl : ClsT) (n : Nat) (W : WX) (e : E) : TE := tA X.K cl W (RD X.K) (wE (T.cl n) e)
abbrev tT' (X : Cx) (T : Tb) (cl : ClsT) (n : Nat) (W : WX) (e : Bn.T) : TT := tA X.K cl W RB (wT (T.cl n) e)
abbrev tEs' (X : Cx) (T : Tb) (cl : ClsT) (n : Nat) (W : WX) (e : Es) : TA := tA X.K cl W (RDs X.K) (wEs (T.cl n) e)
theorem and2 {a b : Bool} (h : (a && b) = true) : a = true ∧ b = true := Bool.and_eq_true_iff.mp h
theorem vis_of {x : Str} (h : visB sc x = true) : Vis sc x := by
  unfold visB at h
  split at h
  · exact .inl (by assumption)
  · exact .inr (.inl (by assumption))
  · exact .inr (.inr (by assumption))
  · cases h
theorem loc_of {x : Str} (h : locB sc x = true) : Loc sc x := by
  unfold locB at h
  split at h
  · exact .inl (by assumption)
  · exact .inr (by assumption)
  · cases h
theorem plain_of {x : Str} (h : plainName x = true) : (x == ("__debug__" : Str)) = false ∧ (x == ("__classdict__" : Str)) = false ∧ x ≠ "__name__" := by
  unfold plainName at h
  obtain ⟨h1, h2⟩ := and2 h
  obtain ⟨h2, h3⟩ := and2 h2
  refine ⟨by simpa using h1, by simpa using h2, ?_⟩
  intro e
  subst e
  simp at h3
theorem gl_of {x : Str} (e : X.env.scope = sc) (h : glB sc x = true) : Gl X x ∧ plainName x = true := by
  unfold glB at h
  obtain ⟨h1, h2⟩ := and2 h
  refine ⟨?_, h2⟩
  show X.env.scope.names.lookup x = some .globalImplicit
  rw [e]
  split at h1
  · assumption
  · cases h1
theorem s_loc {i : Nat} {x : Str} {pos : Pos} (eN : X.N = N) (es : X.env.scope = sc) (h : slotB N sc i x = true) : PE X (.Name x pos) (tE' X T cl n W (.loc i)) := by
  unfold slotB at h
  obtain ⟨h1, h2⟩ := and2 h
  obtain ⟨h2, h3⟩ := and2 h2
  obtain ⟨p1, p2, _⟩ := plain_of h3
  refine PE.imp (pe_var (i := i) (by rw [eN]; exact of_decide_eq_true h1) (by rw [es]; exact vis_of h2) p1 p2) fun σ H Q ⟨ι, h, δ, Q0, R0, r, sr, ⟨d, e, q⟩, k⟩ => ?_
  obtain ⟨v, e1, e2⟩ := sr.at_ i d e
  exact ⟨v, e1, k.now r q e2⟩
theorem s_cst {d : D} {c : Const} {j : Nat} {pos : Pos} (h : cstB d c = true) : PE X (.Constant c j pos) (tE' X T cl n W (.cst d)) := by
  cases d <;> cases c <;> try cases h
  · exact PE.imp pe_non fun σ H Q ⟨ι, h, δ, Q0, R0, r, sr, q, k⟩ => k.now (a := D.non) r q rfl
  · rename_i a b
    have e : a = b := by simpa [cstB] using h
    subst e
    exact PE.imp pe_bl fun σ H Q ⟨ι, h, δ, Q0, R0, r, sr, q, k⟩ => k.now (a := D.bl a) r q rfl
  · rename_i a b
    have e : a = b := by simpa [cstB] using h
    subst e
    exact PE.imp pe_int fun σ H Q ⟨ι, h, δ, Q0, R0, r, sr, q, k⟩ => k.now (a := D.int a) r q rfl
  · rename_i a b
    have e : S2 a = b := by simpa [cstB] using h
    subst e
    exact PE.imp pe_str fun σ H Q ⟨ι, h, δ, Q0, R0, r, sr, q, k⟩ => k.now (a := D.str a) r q rfl
theorem s_glob {g : String} {x : Str} {pos : Pos} (G : Good X T cl n W) (es : X.env.scope = sc) (h : (decide (Str.ofString g = x) && glB sc x) = true) (hc : (T.con g).isSome = true) : PE X (.Name x pos) (tE' X T cl n W (.glob g)) := by
  obtain ⟨h1, h2⟩ := and2 h
  obtain ⟨g1, g2⟩ := gl_of es h2
  obtain ⟨p1, _, _⟩ := plain_of g2
  have e1 : Str.ofString g = x := of_decide_eq_true h1
  obtain ⟨d, ec⟩ := Option.isSome_iff_exists.mp hc
  obtain ⟨u, v, em, rv, rd⟩ := G.con g d ec
  rw [e1] at em
  refine PE.imp (pe_glob g1 em rv p1) fun σ H Q ⟨ι, h, δ, Q0, R0, r, sr, ⟨d', e, q⟩, k⟩ => ?_
  have e' : T.con g = some d' := e
  rw [ec] at e'; cases e'
  exact k.now r q (rd H ι)
end
end Bn
end

section
/-! Bn.H: expressions, each form by itself. -/
namespace Bn
open PySem PySem.Spec PyProof.Rows L2

theorem base_of {o : Expr} {f : Str} {env : Env} {w : Sem Value} (h : noBase o = true) : attributeBase o f env w = w := by
  unfold attributeBase
  split
  · rename_i id p pos
    have e : (id != ("super" : Str)) = true := h
    simp only [e, Bool.true_or, if_true]
  · rfl
theorem behind_of {op : CmpOp} {e : Expr} (h : noSet e = true) : behindInMarks op e = false := by
  cases e <;> first
    | rfl
    | exact absurd h Bool.false_ne_true
theorem last_of {o p : CmpOp} {b c : Expr} (h : noSet c = true) : lastMarks [o, p] [b, c] = false := behind_of (op := p) h
theorem plainIx_of {e : Expr} (h : noSlice e = true) : PlainIx e := by
  intro o i
  cases e <;> first
    | rfl
    | exact absurd h Bool.false_ne_true
theorem star_of {e : Expr} {es : List Expr} {env : Env} (h : noStar1 e = true) : starEach (e :: es) env = (false, eval e env) :: starEach es env := by
  cases e <;> first
    | rfl
    | exact absurd h Bool.false_ne_true
theorem true_of {e : Expr} {env : Env} (h : plainT e = true) : ∀ whole, isTrue e env whole = (do let v ← whole; standAt e.pos; holding [v] (truthy v)) := by
  intro whole
  cases e <;> first
    | rfl
    | (rename_i op _ _; cases op <;> first | rfl | exact absurd h Bool.false_ne_true)
    | exact absurd h Bool.false_ne_true
theorem opB_of' {op : Op2} {o : Operator} (h : opB op o = true) : o = opOp op := by
  cases op <;> cases o <;> first | rfl | exact absurd h Bool.false_ne_true
theorem cmB_of {op : Cm} {o : CmpOp} (h : cmB op o = true) : o = cmOp op := by
  cases op <;> cases o <;> first | rfl | exact absurd h Bool.false_ne_true

section
variable {X : Cx} {T : Tb} {cl : ClsT} {n : Nat} {W : WX} {N : List Str} {sc : Scope} {pos : Pos}
/-- one operand -/
theorem one {a : E} {P : Sl → D → Hh → QD → QX → Prop} {σ : L2.St} {H : Hp} {Q : VK} {G : V → Hp → Prop}
    (w : tA X.K cl W (RD X.K) (fun δ h Q R => wE (T.cl n) a δ h (fun x h1 => P δ x h1 Q R) R) σ H Q)
    (g : ∀ (x : D) (v : V) (ι : List Addr) (h : Hh) (H1 : Hp) (δ : Sl) (Q0 : QD) (R0 : QX), HRel X.K cl H1 ι h → SRel X.K H1 ι δ σ → RelD X.K H1 ι x v → P δ x h Q0 R0 → Kt X.K cl W (RD X.K) σ H1 ι Q0 R0 Q → G v H1) :
    tE' X T cl n W a σ H G := by
  obtain ⟨ι, h, δ, Q0, R0, r, sr, w, k⟩ := w
  exact ⟨ι, h, δ, _, R0, r, sr, w, k.to fun x h1 ι1 H1 v q e r1 rx k1 => g x v ι1 h1 H1 δ Q0 R0 r1 (sr.mono e) rx q k1⟩
/-- two operands -/
theorem two {α β : Type} {RA : Hp → List Addr → α → β → Prop} {a b : E} {P : Sl → D → D → Hh → (α → Hh → Prop) → QX → Prop} {σ : L2.St} {H : Hp} {Q : β → Hp → Prop} {G : V → V → Hp → Prop}
    (w : tA X.K cl W RA (fun δ h Q R => wE (T.cl n) a δ h (fun x h1 => wE (T.cl n) b δ h1 (fun y h2 => P δ x y h2 Q R) R) R) σ H Q)
    (g : ∀ (x y : D) (v u : V) (ι : List Addr) (h : Hh) (H1 : Hp) (δ : Sl) (Q0 : α → Hh → Prop) (R0 : QX), HRel X.K cl H1 ι h → SRel X.K H1 ι δ σ → RelD X.K H1 ι x v → RelD X.K H1 ι y u → P δ x y h Q0 R0 → Kt X.K cl W RA σ H1 ι Q0 R0 Q → G v u H1) :
    tE' X T cl n W a σ H fun v H1 => tE' X T cl n W b σ H1 fun u H2 => G v u H2 := by
  obtain ⟨ι, h, δ, Q0, R0, r, sr, w, k⟩ := w
  refine ⟨ι, h, δ, _, R0, r, sr, w, k.to fun x h1 ι1 H1 v q e r1 rx k1 => ?_⟩
  refine ⟨ι1, h1, δ, _, R0, r1, sr.mono e, q, k1.to fun y h2 ι2 H2 u q2 e2 r2 ry k2 => ?_⟩
  exact g x y v u ι2 h2 H2 δ Q0 R0 r2 ((sr.mono e).mono e2) (rx.mono e2) ry q2 k2
theorem Kt.kc {σ : L2.St} {H : Hp} {ι : List Addr} {h : Hh} {Q0 : QD} {R0 : QX} {Q : VK} (k : Kt X.K cl W (RD X.K) σ H ι Q0 R0 Q) (r : HRel X.K cl H ι h) : ∀ c, Q0 (.bl c) h → Q (.bl c) H := fun c q => k.now r q rfl

theorem s_bin {op : Op2} {o : Operator} {a b : E} {x y : Expr} (ho : opB op o = true) (ha : PE X x (tE' X T cl n W a)) (hb : PE X y (tE' X T cl n W b)) : PE X (.BinOp x o y pos) (tE' X T cl n W (.bin op a b)) := by
  cases opB_of' ho
  refine PE.imp (pe_op (a_bin (cl := cl) op) ha hb) fun σ H Q w => two (RA := RD X.K) (P := fun _ x y h Q _ => vBin op x y h Q) w fun x y v u ι h H1 δ Q0 R0 r sr rx ry p k => ?_
  exact ⟨ι, h, x, y, Q0, r, rx, ry, p, k.kq⟩
theorem s_neg {a : E} {x : Expr} (ha : PE X x (tE' X T cl n W a)) : PE X (.UnaryOp .USub x pos) (tE' X T cl n W (.neg a)) :=
  PE.imp (pe_un (a_neg (cl := cl)) ha) fun σ H Q w => one (P := fun _ x h Q _ => vNeg x h Q) w fun x v ι h H1 δ Q0 R0 r sr rx p k => ⟨ι, h, x, Q0, r, rx, p, k.kq⟩
theorem s_not {a : E} {x : Expr} (ha : PE X x (tE' X T cl n W a)) : PE X (.UnaryOp .Not x pos) (tE' X T cl n W (.not a)) :=
  PE.imp (pe_not ha) fun σ H Q w => one (P := fun _ x h Q _ => ∃ c, x = .bl c ∧ Q (.bl (!c)) h) w fun x v ι h H1 δ Q0 R0 r sr rx p k => by
    obtain ⟨c, e, q⟩ := p
    subst e
    cases rx
    exact ⟨c, rfl, k.now r q rfl⟩
theorem s_cmp {op : Cm} {o : CmpOp} {a b : E} {x y : Expr} (G : Good X T cl n W) (ho : cmB op o = true) (hs : noSet y = true) (ha : PE X x (tE' X T cl n W a)) (hb : PE X y (tE' X T cl n W b)) : PE X (.Compare x [o] [y] pos) (tE' X T cl n W (.cmp op a b)) := by
  cases cmB_of ho
  refine PE.imp (pe_cmpR (a_cmp (cl := cl) G.room op) ha hb (behind_of hs)) fun σ H Q w => two (RA := RD X.K) (P := fun _ x y h Q _ => vCmp op x y h fun c => Q (D.bl c) h) w fun x y v u ι h H1 δ Q0 R0 r sr rx ry p k => ?_
  exact ⟨ι, h, x, y, _, r, rx, ry, p, k.kc r⟩
theorem t_cmp {op : Cm} {o : CmpOp} {a b : E} {x y : Expr} (G : Good X T cl n W) (ho : cmB op o = true) (hs : noSet y = true) (ha : PE X x (tE' X T cl n W a)) (hb : PE X y (tE' X T cl n W b)) : PT X (.Compare x [o] [y] pos) (tT' X T cl n W (.cmp op a b)) := by
  cases cmB_of ho
  refine PT.imp (pt_cmpR (a_cmp (cl := cl) G.room op) ha hb (behind_of hs)) fun σ H Q w => two (RA := RB) (P := fun _ x y h Q _ => vCmp op x y h fun c => Q c h) w fun x y v u ι h H1 δ Q0 R0 r sr rx ry p k => ?_
  exact ⟨ι, h, x, y, _, r, rx, ry, p, fun c q => ⟨c, rfl, k.now r q rfl⟩⟩
theorem s_chain {o1 o2 : Cm} {p1 p2 : CmpOp} {a b c : E} {x y z : Expr} (G : Good X T cl n W) (h1 : cmB o1 p1 = true) (h2 : cmB o2 p2 = true) (hs : noSet z = true) (ha : PE X x (tE' X T cl n W a)) (hb : PE X y (tE' X T cl n W b)) (hc : PE X z (tE' X T cl n W c)) :
    PE X (.Compare x [p1, p2] [y, z] pos) (tE' X T cl n W (.chain o1 o2 a b c)) := by
  cases cmB_of h1
  cases cmB_of h2
  refine PE.imp (pe_chain (a_cmp (cl := cl) G.room o1) (a_cmp (cl := cl) G.room o2) ha hb hc (last_of hs)) fun σ H Q w => two (RA := RD X.K) (P := fun δ x y h2 Q R => vCmp o1 x y h2 fun k =>
      if k = true then wE (T.cl n) c δ h2 (fun z h3 => vCmp o2 y z h3 fun k => Q (D.bl k) h3) R else Q (D.bl false) h2) w fun x y v u ι h H1 δ Q0 R0 r sr rx ry p k => ?_
  refine ⟨ι, h, x, y, _, r, rx, ry, p, fun c q => ⟨c, rfl, ?_⟩⟩
  cases c with
  | false => exact k.now r q rfl
  | true => exact ⟨ι, h, δ, _, R0, r, sr, q, k.to fun z h3 ι3 H3 w q3 e3 r3 rz k3 => ⟨ι3, h3, y, z, _, r3, ry.mono e3, rz, q3, k3.kc r3⟩⟩
theorem s_and {a b : E} {x y : Expr} {rest : List Expr} (ha : PE X x (tE' X T cl n W a)) (hb : PE X (.BoolOp .And (y :: rest) pos) (tE' X T cl n W b)) : PE X (.BoolOp .And (x :: y :: rest) pos) (tE' X T cl n W (.and a b)) :=
  PE.imp (pe_and ha hb) fun σ H Q w => one (P := fun δ x h Q R => ∃ c, x = .bl c ∧ if c = true then wE (T.cl n) b δ h Q R else Q (.bl false) h) w fun x v ι h H1 δ Q0 R0 r sr rx p k => by
    obtain ⟨c, e, q⟩ := p
    subst e
    cases rx
    refine ⟨c, rfl, ?_⟩
    cases c with
    | true => exact ⟨ι, h, δ, Q0, R0, r, sr, q, k⟩
    | false => exact k.now r q rfl
theorem s_or {a b : E} {x y : Expr} {rest : List Expr} (ha : PE X x (tE' X T cl n W a)) (hb : PE X (.BoolOp .Or (y :: rest) pos) (tE' X T cl n W b)) : PE X (.BoolOp .Or (x :: y :: rest) pos) (tE' X T cl n W (.or a b)) :=
  PE.imp (pe_or ha hb) fun σ H Q w => one (P := fun δ x h Q R => ∃ c, x = .bl c ∧ if c = true then Q (.bl true) h else wE (T.cl n) b δ h Q R) w fun x v ι h H1 δ Q0 R0 r sr rx p k => by
    obtain ⟨c, e, q⟩ := p
    subst e
    cases rx
    refine ⟨c, rfl, ?_⟩
    cases c with
    | true => exact k.now r q rfl
    | false => exact ⟨ι, h, δ, Q0, R0, r, sr, q, k⟩
theorem s_ife {t : Bn.T} {a b : E} {c x y : Expr} (hc : PT X c (tT' X T cl n W t)) (ha : PE X x (tE' X T cl n W a)) (hb : PE X y (tE' X T cl n W b)) : PE X (.IfExp c x y pos) (tE' X T cl n W (.ife t a b)) := by
  refine PE.imp (pe_ifExp hc ha hb) fun σ H Q ⟨ι, h, δ, Q0, R0, r, sr, w, k⟩ => ?_
  refine ⟨ι, h, δ, _, R0, r, sr, w, k.to fun c h1 ι1 H1 d q e r1 rc k1 => ?_⟩
  subst rc
  cases c with
  | true => exact ⟨ι1, h1, δ, Q0, R0, r1, sr.mono e, q, k1⟩
  | false => exact ⟨ι1, h1, δ, Q0, R0, r1, sr.mono e, q, k1⟩
theorem s_ix {a i : E} {x y : Expr} (G : Good X T cl n W) (hs : noSlice y = true) (ha : PE X x (tE' X T cl n W a)) (hb : PE X y (tE' X T cl n W i)) : PE X (.Subscript x y pos) (tE' X T cl n W (.ix a i)) :=
  PE.imp (pe_ix (a_ix (cl := cl) G.room) ha hb (plainIx_of hs)) fun σ H Q w => two (RA := RD X.K) (P := fun _ x y h Q _ => vIx x y h Q) w fun x y v u ι h H1 δ Q0 R0 r sr rx ry p k => ⟨ι, h, x, y, Q0, r, rx, ry, p, k.kq⟩
/-- an end of a slice -/
theorem po_val {e : Expr} {te : TE} (h : PE X e te) : PO X (some e) fun σ H Q => te σ H fun x H1 => (x = .non ∧ Q none H1) ∨ ∃ i, x = .int i ∧ Q (some i) H1 := by
  refine ⟨fun pins s σ H Q I hw => ?_⟩
  rw [evalPart_some]
  refine thn (h.run pins s σ H _ I hw) fun u s1 ⟨x, H1, I1, r1, q1⟩ => ?_
  rcases q1 with ⟨rfl, q⟩ | ⟨i, rfl, q⟩
  · cases r1
    exact ⟨none, H1, I1, .none, q⟩
  · obtain ⟨t, rfl⟩ := r1
    exact ⟨some i, H1, I1, .int i t, q⟩
/-- a part of a slice keeps what is asked -/
def POk (X : Cx) (T : Tb) (cl : ClsT) (n : Nat) (W : WX) (e : E) (o : Option Expr) : Prop :=
  PO X o fun σ H Q => tE' X T cl n W e σ H fun x H1 => (x = .non ∧ Q none H1) ∨ ∃ i, x = .int i ∧ Q (some i) H1
theorem po_no : POk X T cl n W (.cst .non) none := by
  refine ⟨fun pins s σ H Q I hw => ?_⟩
  rw [evalPart_none]
  obtain ⟨ι, h, δ, Q0, R0, r, sr, w, k⟩ := hw
  have q : (_ ∨ _) := k.now (a := D.non) (b := V.non) r w rfl
  rcases q with ⟨_, q⟩ | ⟨i, e, _⟩
  · exact wpAny_pure ⟨none, H, I, .none, q⟩
  · cases e
theorem part_rel {K : PySem.W.Frag} {H : Hp} {ι : List Addr} {d : D} {v : V} {o : Option Int} (r : RelD K H ι d v) (e : partI d = some o) : (v = .non ∧ o = none) ∨ ∃ i, v = .int i ∧ o = some i := by
  cases d <;> cases e
  · exact .inl ⟨r, rfl⟩
  · exact .inr ⟨_, r, rfl⟩
theorem s_slc {a lo hi : E} {x : Expr} {l u : Option Expr} {p2 : Pos} (ha : PE X x (tE' X T cl n W a)) (hl : POk X T cl n W lo l) (hu : POk X T cl n W hi u) : PE X (.Subscript x (.Slice l u none p2) pos) (tE' X T cl n W (.slc a lo hi)) := by
  refine PE.imp (pe_slice (a_slc (cl := cl)) ha hl hu) fun σ H Q ⟨ι, h, δ, Q0, R0, r, sr, w, k⟩ => ?_
  refine ⟨ι, h, δ, _, R0, r, sr, w, k.to fun x h1 ι1 H1 vx q e r1 rx k1 => ?_⟩
  refine ⟨ι1, h1, δ, _, R0, r1, sr.mono e, q, k1.to fun l h2 ι2 H2 vl q2 e2 r2 rl k2 => ?_⟩
  obtain ⟨il, q2⟩ := q2
  obtain ⟨ol, el⟩ := Option.isSome_iff_exists.mp il
  have fin : tE' X T cl n W hi σ H2 fun x H1 => (x = .non ∧ rAS X.K cl vx ol none H1 Q) ∨ ∃ i, x = .int i ∧ rAS X.K cl vx ol (some i) H1 Q :=
    ⟨ι2, h2, δ, _, R0, r2, (sr.mono e).mono e2, q2, k2.to fun u h3 ι3 H3 vu q3 e3 r3 ru k3 => by
      have q3' := q3
      obtain ⟨l', u', f1, f2, q4⟩ := q3
      rcases part_rel ru f2 with ⟨e1, e2⟩ | ⟨i, e1, e2⟩
      · subst e2
        exact .inl ⟨e1, ι3, h3, x, l, u, Q0, r3, (rx.mono e2).mono e3, el, f2, q3', k3.kq⟩
      · subst e2
        exact .inr ⟨i, e1, ι3, h3, x, l, u, Q0, r3, (rx.mono e2).mono e3, el, f2, q3', k3.kq⟩⟩
  rcases part_rel rl el with ⟨e3, e4⟩ | ⟨i, e3, e4⟩
  · subst e4
    exact .inl ⟨e3, fin⟩
  · subst e4
    exact .inr ⟨i, e3, fin⟩
theorem s_nil : PA X [] (tEs' X T cl n W .nil) := PA.imp pa_nil fun σ H Q ⟨ι, h, δ, Q0, R0, r, sr, w, k⟩ => k.now (a := ([] : List D)) r w rfl
theorem s_cons {e : E} {es : Es} {x : Expr} {xs : List Expr} (hs : noStar1 x = true) (ha : PE X x (tE' X T cl n W e)) (hb : PA X xs (tEs' X T cl n W es)) : PA X (x :: xs) (tEs' X T cl n W (.cons e es)) := by
  refine PA.imp (pa_cons ha hb (star_of hs)) fun σ H Q ⟨ι, h, δ, Q0, R0, r, sr, w, k⟩ => ?_
  refine ⟨ι, h, δ, _, R0, r, sr, w, k.to fun d h1 ι1 H1 v q e r1 rx k1 => ?_⟩
  refine ⟨ι1, h1, δ, _, R0, r1, sr.mono e, q, k1.to fun ds h2 ι2 H2 vs q2 e2 r2 rs k2 => ?_⟩
  exact k2.now (a := d :: ds) r2 q2 (.cons (rx.mono e2) rs)
theorem s_tup {es : Es} {xs : List Expr} {j : Nat} (h : PA X xs (tEs' X T cl n W es)) : PE X (.Tuple xs j pos) (tE' X T cl n W (.tup es)) := by
  refine PE.imp (pe_tup h) fun σ H Q ⟨ι, h, δ, Q0, R0, r, sr, w, k⟩ => ?_
  refine ⟨ι, h, δ, _, R0, r, sr, w, k.to fun ds h1 ι1 H1 vs q e r1 rs k1 => ⟨by rw [rs.length]; exact q.1, fun p hp => k1.kq.tup r1 q.2 hp rs⟩⟩
theorem s_lst {es : Es} {xs : List Expr} (h : PA X xs (tEs' X T cl n W es)) : PE X (.List xs pos) (tE' X T cl n W (.lst es)) := by
  refine PE.imp (pe_lst h) fun σ H Q ⟨ι, h, δ, Q0, R0, r, sr, w, k⟩ => ?_
  refine ⟨ι, h, δ, _, R0, r, sr, w, k.to fun ds h1 ι1 H1 vs q e r1 rs k1 => ⟨by rw [rs.length]; exact q.1, fun p hp => k1.kq.lst r1 q.2 hp rs⟩⟩

/-! ### tests -/
theorem tru_rel {K : PySem.W.Frag} {H : Hp} {ι : List Addr} {h : Hh} {d : D} {v : V} {b : Bool} (r : HRel K cl H ι h) (e : RelD K H ι d v) (t : truD h d = some b) : TruV K v H b := by
  cases d with
  | non => cases e; cases t; rfl
  | bl c => cases e; cases t; rfl
  | int i => cases e; cases t; rfl
  | str s =>
    cases e
    simp only [truD] at t
    split at t
    · rename_i hl
      cases t
      refine ⟨by rw [S2_length]; exact hl, ?_⟩
      rw [S2_length]
      cases s <;> simp
      omega
    · cases t
  | tup xs =>
    cases t
    obtain ⟨a, vs, rfl, hq, rs⟩ := e
    exact .inr (.inl ⟨vs, hq, by have := rs.length; cases vs <;> cases xs <;> simp_all⟩)
  | ref i =>
    simp only [truD] at t
    cases ho : h[i]? with
    | none => rw [ho] at t; cases t
    | some o =>
      rw [ho] at t
      cases o with
      | lst xs =>
        cases t
        obtain ⟨a, vs, rfl, hq, rs⟩ := ob_ls r (by unfold lsD; rw [ho]) e
        exact .inl ⟨vs, hq, by have := rs.length; cases vs <;> cases xs <;> simp_all⟩
      | klst xs =>
        cases t
        obtain ⟨a, vs, rfl, hq, rs⟩ := ob_ls r (by unfold lsD; rw [ho]) e
        exact .inl ⟨vs, hq, by have := rs.length; cases vs <;> cases xs <;> simp_all⟩
      | dct xs =>
        cases t
        obtain ⟨a, ks, rfl, _, hq, rs⟩ := ob_dct r ho e
        exact .inr (.inr ⟨ks, hq, by cases xs with
          | nil => cases rs; rfl
          | cons p ps => obtain ⟨k, v, z, rfl, _⟩ := rs; rfl⟩)
      | _ => cases t
theorem t_val {e : E} {x : Expr} (hp : plainT x = true) (ha : PE X x (tE' X T cl n W e)) : PT X x (tT' X T cl n W (.val e)) := by
  refine PT.imp (pt_truth ha (true_of hp)) fun σ H Q ⟨ι, h, δ, Q0, R0, r, sr, w, k⟩ => ?_
  refine ⟨ι, h, δ, _, R0, r, sr, w, k.to fun d h1 ι1 H1 v q e r1 rx k1 => ?_⟩
  obtain ⟨b, eb, q⟩ := q
  exact ⟨b, tru_rel r1 rx eb, k1.now r1 q rfl⟩
theorem t_not {t : Bn.T} {x : Expr} (ha : PT X x (tT' X T cl n W t)) : PT X (.UnaryOp .Not x pos) (tT' X T cl n W (.not t)) := by
  refine PT.imp (pt_not ha) fun σ H Q ⟨ι, h, δ, Q0, R0, r, sr, w, k⟩ => ?_
  exact ⟨ι, h, δ, _, R0, r, sr, w, k.to fun c h1 ι1 H1 d q e r1 rc k1 => by subst rc; exact k1.now r1 q rfl⟩
theorem pw_and' {a b : Bn.T} {x y : Expr} {rest : List Expr} (ha : PT X x (tT' X T cl n W a)) (hb : PW X (.BoolOp .And (y :: rest) pos) (tT' X T cl n W b)) : PW X (.BoolOp .And (x :: y :: rest) pos) (tT' X T cl n W (.and a b)) := by
  refine PW.imp (pw_and ha hb) fun σ H Q ⟨ι, h, δ, Q0, R0, r, sr, w, k⟩ => ?_
  refine ⟨ι, h, δ, _, R0, r, sr, w, k.to fun c h1 ι1 H1 d q e r1 rc k1 => ?_⟩
  subst rc
  cases c with
  | true => exact ⟨ι1, h1, δ, Q0, R0, r1, sr.mono e, q, k1⟩
  | false => exact k1.now r1 q rfl
theorem pw_or' {a b : Bn.T} {x y : Expr} {rest : List Expr} (ha : PT X x (tT' X T cl n W a)) (hb : PW X (.BoolOp .Or (y :: rest) pos) (tT' X T cl n W b)) : PW X (.BoolOp .Or (x :: y :: rest) pos) (tT' X T cl n W (.or a b)) := by
  refine PW.imp (pw_or ha hb) fun σ H Q ⟨ι, h, δ, Q0, R0, r, sr, w, k⟩ => ?_
  refine ⟨ι, h, δ, _, R0, r, sr, w, k.to fun c h1 ι1 H1 d q e r1 rc k1 => ?_⟩
  subst rc
  cases c with
  | true => exact k1.now r1 q rfl
  | false => exact ⟨ι1, h1, δ, Q0, R0, r1, sr.mono e, q, k1⟩
theorem t_chain {o1 o2 : Cm} {p1 p2 : CmpOp} {a b c : E} {x y z : Expr} (G : Good X T cl n W) (h1 : cmB o1 p1 = true) (h2 : cmB o2 p2 = true) (hs : noSet z = true) (ha : PE X x (tE' X T cl n W a)) (hb : PE X y (tE' X T cl n W b)) (hc : PE X z (tE' X T cl n W c)) :
    PT X (.Compare x [p1, p2] [y, z] pos) (tT' X T cl n W (.chain o1 o2 a b c)) := by
  cases cmB_of h1
  cases cmB_of h2
  refine PT.imp (pt_chain (a_cmp (cl := cl) G.room o1) (a_cmp (cl := cl) G.room o2) ha hb hc (last_of hs)) fun σ H Q w => two (RA := RB) (P := fun δ x y h2 Q R => vCmp o1 x y h2 fun k =>
      if k = true then wE (T.cl n) c δ h2 (fun z h3 => vCmp o2 y z h3 fun k => Q k h3) R else Q false h2) w fun x y v u ι h H1 δ Q0 R0 r sr rx ry p k => ?_
  refine ⟨ι, h, x, y, _, r, rx, ry, p, fun c q => ⟨c, rfl, ?_⟩⟩
  cases c with
  | false => exact ⟨false, rfl, k.now r q rfl⟩
  | true => exact ⟨ι, h, δ, _, R0, r, sr, q, k.to fun z h3 ι3 H3 w q3 e3 r3 rz k3 => ⟨ι3, h3, y, z, _, r3, ry.mono e3, rz, q3, fun c q => ⟨c, rfl, k3.now r3 q rfl⟩⟩⟩
end
end Bn
end

section
/-! Bn.I: calls of built-ins, what loops walk, targets, comprehensions. -/
namespace Bn
open PySem PySem.Spec PyProof.Rows L2

def stars0 : List Expr → Bool
  | [] => true
  | e :: es => noStar1 e && stars0 es
theorem back_of {pos : Pos} {env : Env} : ∀ {es : List Expr}, stars0 es = true → (backTo pos (starEach es env)).any (·.1) = false
  | [], _ => rfl
  | e :: es, h => by
    obtain ⟨h1, h2⟩ := and2 h
    rw [star_of h1]
    have := back_of (pos := pos) (env := env) h2
    simp [backTo] at this ⊢
    exact this
theorem back_all {pos : Pos} {env : Env} : ∀ {es : List Expr}, stars0 es = true → (backTo pos (starEach es env)).all (fun x => !x.1) = true
  | [], _ => rfl
  | e :: es, h => by
    obtain ⟨h1, h2⟩ := and2 h
    rw [star_of h1]
    have := back_all (pos := pos) (env := env) h2
    simp [backTo] at this ⊢
    exact this
theorem starsE {T : Tb} {N : List Str} {sc : Scope} : ∀ {es : Es} {xs : List Expr}, ckEs T N sc es xs = true → stars0 xs = true
  | .nil, [], _ => rfl
  | .nil, _ :: _, h => absurd h Bool.false_ne_true
  | .cons _ _, [], h => absurd h Bool.false_ne_true
  | .cons e es, x :: xs, h => by
    have h' : (noStar1 x && (ckE T N sc e x && ckEs T N sc es xs)) = true := h
    obtain ⟨h1, h2⟩ := and2 h'
    obtain ⟨h2, h3⟩ := and2 h2
    show (noStar1 x && stars0 xs) = true
    rw [h1, starsE h3]; rfl

section
variable {X : Cx} {T : Tb} {cl : ClsT} {n : Nat} {W : WX} {N : List Str} {sc : Scope} {pos : Pos}
theorem s_bi1 {f : Bi} {r : List V → Hp → VK → Prop} {es : Es} {t : TA} {e : TE} (hr : r = rB X.K cl (vBi f)) (ht : t = tEs' X T cl n W es) (he : e = tE' X T cl n W (.bi f es)) : ∀ σ H Q, e σ H Q → tCB r t σ H Q := by
  subst hr; subst ht; subst he
  intro σ H Q ⟨ι, h, δ, Q0, R0, r, sr, w, k⟩
  exact ⟨ι, h, δ, _, R0, r, sr, w, k.to fun ds h1 ι1 H1 vs q e r1 rs k1 => ⟨ι1, h1, ds, Q0, r1, rs, q, k1.kq⟩⟩
theorem s_bi {f : Bi} {es : Es} {x : Str} {y : Expr} {ys : List Expr} {p : Pos} (G : Good X T cl n W) (hk : biOk f = true) (e1 : decide (biN f = x) = true) (g : Gl X x) (hs : stars0 (y :: ys) = true) (ha : PA X (y :: ys) (tEs' X T cl n W es)) : PE X (.Call (.Name x p) (y :: ys) [] pos) (tE' X T cl n W (.bi f es)) := by
  have e2 := of_decide_eq_true e1
  subst e2
  obtain ⟨h1, h2⟩ := and2 hs
  have hst := star_of (es := ys) (env := X.env) h1
  have hpl := back_of (pos := pos) (env := X.env) h2
  cases f with
  | len => exact PE.imp (pe_callB (bi_len (cl := cl)) g (G.free _ (by decide)) (by decide +kernel) ha (by decide) (by decide) hst hpl) (s_bi1 (f := .len) rfl rfl rfl)
  | abs => exact PE.imp (pe_callB (bi_abs (cl := cl)) g (G.free _ (by decide)) (by decide +kernel) ha (by decide) (by decide) hst hpl) (s_bi1 (f := .abs) rfl rfl rfl)
  | max => exact PE.imp (pe_callB (bi_max (cl := cl) G.calm) g (G.free _ (by decide)) (by decide +kernel) ha (by decide) (by decide) hst hpl) (s_bi1 (f := .max) rfl rfl rfl)
  | min => exact PE.imp (pe_callB (bi_min (cl := cl) G.calm) g (G.free _ (by decide)) (by decide +kernel) ha (by decide) (by decide) hst hpl) (s_bi1 (f := .min) rfl rfl rfl)
  | all => exact PE.imp (pe_callB (bi_all (cl := cl) G.calm) g (G.free _ (by decide)) (by decide +kernel) ha (by decide) (by decide) hst hpl) (s_bi1 (f := .all) rfl rfl rfl)
  | any => exact PE.imp (pe_callB (bi_any (cl := cl) G.calm) g (G.free _ (by decide)) (by decide +kernel) ha (by decide) (by decide) hst hpl) (s_bi1 (f := .any) rfl rfl rfl)
  | sum => exact PE.imp (pe_callB (bi_sum (cl := cl) G.calm) g (G.free _ (by decide)) (by decide +kernel) ha (by decide) (by decide) hst hpl) (s_bi1 (f := .sum) rfl rfl rfl)
  | divmod => exact PE.imp (pe_callB (bi_divmod (cl := cl)) g (G.free _ (by decide)) (by decide +kernel) ha (by decide) (by decide) hst hpl) (s_bi1 (f := .divmod) rfl rfl rfl)
  | int => exact PE.imp (pe_callTy (bi_int (cl := cl)) g (G.free _ (by decide)) (by decide +kernel) ha (by decide) (by decide) hst hpl) (s_bi1 (f := .int) rfl rfl rfl)
  | str => exact PE.imp (pe_callTy (bi_str (cl := cl)) g (G.free _ (by decide)) (by decide +kernel) ha (by decide) (by decide) hst hpl) (s_bi1 (f := .str) rfl rfl rfl)
  | repr => exact PE.imp (pe_callB (bi_repr (cl := cl) G.room G.gds) g (G.free _ (by decide)) (by decide +kernel) ha (by decide) (by decide) hst hpl) (s_bi1 (f := .repr) rfl rfl rfl)
  | _ => exact absurd hk Bool.false_ne_true

/-- the type of a value -/
theorem tyV_of {K : PySem.W.Frag} {H : Hp} {ι : List Addr} {h : Hh} {t : String} {d : D} {v : V} (ht : t = "list" ∨ t = "str" ∨ t = "dict") (r : HRel K cl H ι h) (e : RelD K H ι d v) (ty : isTy h t d = some true) : tyV K t v H := by
  cases d with
  | non => cases ty
  | bl b => rcases ht with rfl | rfl | rfl <;> cases ty
  | int i => rcases ht with rfl | rfl | rfl <;> cases ty
  | str s => rcases ht with rfl | rfl | rfl <;> first | cases ty; done | (cases e; exact rfl)
  | tup xs => rcases ht with rfl | rfl | rfl <;> cases ty
  | ref i =>
    simp only [isTy] at ty
    cases ho : h[i]? with
    | none => rw [ho] at ty; cases ty
    | some o =>
      rw [ho] at ty
      cases o with
      | lst xs =>
        obtain ⟨a, vs, rfl, hq, rs⟩ := ob_ls r (by unfold lsD; rw [ho]) e
        rcases ht with rfl | rfl | rfl <;> first | cases ty; done | exact .inl ⟨rfl, vs, hq⟩
      | klst xs =>
        obtain ⟨a, vs, rfl, hq, rs⟩ := ob_ls r (by unfold lsD; rw [ho]) e
        rcases ht with rfl | rfl | rfl <;> first | cases ty; done | exact .inl ⟨rfl, vs, hq⟩
      | dct xs =>
        obtain ⟨a, ks, rfl, _, hq, rs⟩ := ob_dct r ho e
        rcases ht with rfl | rfl | rfl <;> first | cases ty; done | exact .inr (.inr (.inl ⟨rfl, .inl ⟨ks, hq⟩⟩))
      | _ => cases ty
theorem s_bm1 {m : Bm} (ht : bmT m = "list" ∨ bmT m = "str" ∨ bmT m = "dict") {a : E} {es : Es} : ∀ σ H Q, tE' X T cl n W (.bm m a es) σ H Q → tBM X.K (bmT m) (rM X.K cl (vBm m)) (tE' X T cl n W a) (tEs' X T cl n W es) σ H Q := by
  intro σ H Q ⟨ι, h, δ, Q0, R0, r, sr, w, k⟩
  refine ⟨ι, h, δ, _, R0, r, sr, w, k.to fun x h1 ι1 H1 v q e r1 rx k1 => ⟨tyV_of ht r1 rx q.1, ?_⟩⟩
  exact ⟨ι1, h1, δ, _, R0, r1, sr.mono e, q.2, k1.to fun ds h2 ι2 H2 vs q2 e2 r2 rs k2 => ⟨ι2, h2, x, ds, Q0, r2, rx.mono e2, rs, q2, k2.kq⟩⟩
theorem few_of {cpos : Pos} {es : List Expr} {env : Env} (hs : stars0 es = true) (hl : decide (es.length < 21) = true) :
    ((backTo cpos (starEach es env)).all (fun x => !x.1) && (backToKw cpos (keywordEach [] env)).all (fun x => x.1.isSome)
      && decide (es.length + ([] : List Keyword).length + (if ([] : List Keyword).isEmpty then 0 else 1) < 30)) = true := by
  have := of_decide_eq_true hl
  rw [back_all hs]
  simp [backToKw, keywordEach]
  omega
theorem s_bm {m : Bm} {a : E} {es : Es} {x : Str} {o y : Expr} {ys : List Expr} {ap : Pos} (G : Good X T cl n W) (hk : bmOk m = true) (e1 : decide (bmN m = x) = true) (hb : noBase o = true) (hl : (ap.endLine == pos.line) = true) (hn : decide (ys.length < 20) = true) (hs : stars0 (y :: ys) = true)
    (ho : PE X o (tE' X T cl n W a)) (ha : PA X (y :: ys) (tEs' X T cl n W es)) : PE X (.Call (.Attribute o x ap) (y :: ys) [] pos) (tE' X T cl n W (.bm m a es)) := by
  have e2 := of_decide_eq_true e1
  subst e2
  obtain ⟨h1, h2⟩ := and2 hs
  have hst := star_of (es := ys) (env := X.env) h1
  have hpl := back_of (pos := pos) (env := X.env) h2
  have hf := few_of (cpos := pos) (env := X.env) hs (decide_eq_true (by have := of_decide_eq_true hn; simp; omega))
  cases m with
  | append => exact PE.imp (pe_bm F.plainAttrs_list F.slot_list_append F.type_list_append (bm_append (cl := cl)) ho ha (base_of hb) hf hl hst hpl) (s_bm1 (m := .append) (.inl rfl))
  | join => exact PE.imp (pe_bm F.plainAttrs_str F.slot_str_join F.type_str_join (bm_join (cl := cl)) ho ha (base_of hb) hf hl hst hpl) (s_bm1 (m := .join) (.inr (.inl rfl)))
  | partition => exact PE.imp (pe_bm F.plainAttrs_str F.slot_str_partition F.type_str_partition (bm_partition (cl := cl)) ho ha (base_of hb) hf hl hst hpl) (s_bm1 (m := .partition) (.inr (.inl rfl)))
  | split => exact PE.imp (pe_bm F.plainAttrs_str F.slot_str_split F.type_str_split (bm_split (cl := cl)) ho ha (base_of hb) hf hl hst hpl) (s_bm1 (m := .split) (.inr (.inl rfl)))
  | sindex => exact PE.imp (pe_bm F.plainAttrs_str F.slot_str_index F.type_str_index (bm_sindex (cl := cl)) ho ha (base_of hb) hf hl hst hpl) (s_bm1 (m := .sindex) (.inr (.inl rfl)))
  | _ => exact absurd hk Bool.false_ne_true

/-! ### what loops walk -/
def RI (K : PySem.W.Frag) (cl : ClsT) : Hp → List Addr → Src → L2.It → Prop := fun H ι src J =>
  ∀ ι' H' h', Ext K H ι H' ι' → HRel K cl H' ι' h' → ∀ k, (src.at_ h' k = some none → J.stop k H') ∧
    ∀ d, src.at_ h' k = some (some d) → J.go k H' ∧ ∀ x H'', J.yld k H' x H'' → Ext K H' ι' H'' ι' ∧ HRel K cl H'' ι' h' ∧ RelD K H'' ι' d x
abbrev tI' (X : Cx) (T : Tb) (cl : ClsT) (n : Nat) (W : WX) (e : Bn.It) : TI := tA X.K cl W (RI X.K cl) (wI (T.cl n) e)
theorem _root_.L2.PI.imp {X : Cx} {tg e : Expr} {t t' : TI} (h : PI X tg e t) (i : ∀ σ H R, t' σ H R → t σ H R) : PI X tg e t' := ⟨fun pins s σ H R I w => h.run pins s σ H R I (i σ H R w)⟩
/-- any of the plain sequences -/
theorem pi_any {tg e : Expr} {te : TE} (he : PE X e te) : PI X tg e (fun σ H R => te σ H fun x H1 => (∃ p, x = .ref p ∧ (∃ xs, SqL X.K H1 p xs) ∧ R (Itl X.K p) H1) ∨ (∃ p, x = .ref p ∧ (∃ xs, SqT X.K H1 p xs) ∧ R (Itt X.K p) H1) ∨ ∃ z, x = .str z ∧ R (Its z) H1) := by
  refine ⟨fun pins s σ H R I h => ?_⟩
  refine thn (he.run pins s σ H _ I h) fun u t ⟨y, H1, I1, ry, w⟩ => ?_
  rcases w with ⟨p, ep, ⟨ws, hw⟩, w⟩ | ⟨p, ep, ⟨ws, hw⟩, w⟩ | ⟨z, ez, w⟩
  · subst ep
    cases ry
    obtain ⟨us, rv, hl, _⟩ := I1.list hw
    exact wpAny_pyIter_list hl.isList (pi_one (tk := t.toks) I1 _ (turn_list p _) ⟨_, Heap.get?_push_size _ rfl, rfl, rfl⟩ w)
  · subst ep
    cases ry
    obtain ⟨us, rv, hl, _⟩ := I1.tuple hw
    exact wpAny_pyIter_tuple (show t.heap.IsTuple p us.toArray from hl) (pi_one (tk := t.toks) I1 _ (turn_tuple p _) ⟨_, Heap.get?_push_size _ rfl, rfl, rfl⟩ w)
  · subst ez
    obtain ⟨tk, rfl⟩ := ry
    cases ha : z.cps.all (· < 128)
    · exact wpAny_pyIter_wide ha (pi_one (tk := t.toks) I1 _ (turn_str _ z tk "str_iterator" (.inr rfl)) ⟨_, Heap.get?_push_size _ rfl, rfl, rfl⟩ w)
    · exact wpAny_pyIter_ascii ha (pi_one (tk := t.toks) I1 _ (turn_str _ z tk "str_ascii_iterator" (.inl rfl)) ⟨_, Heap.get?_push_size _ rfl, rfl, rfl⟩ w)

theorem src_seq {K : PySem.W.Frag} {H : Hp} {ι : List Addr} {i : Nat} {a : Addr} (e : ι[i]? = some a) : RI K cl H ι (.seq i) (Itl K a) := by
  intro ι' H' h' x r k
  have q : RelD K H' ι' (.ref i) (.ref a) := ⟨a, x.ids i a e, rfl⟩
  refine ⟨fun z => ?_, fun d z => ?_⟩
  · simp only [Src.at_, Option.map_eq_some_iff] at z
    obtain ⟨xs, e1, e2⟩ := z
    obtain ⟨b, vs, eb, hq, rs⟩ := ob_ls r e1 q
    cases eb
    exact ⟨vs, hq, by rw [rs.length]; exact List.getElem?_eq_none_iff.mp e2⟩
  · simp only [Src.at_, Option.map_eq_some_iff] at z
    obtain ⟨xs, e1, e2⟩ := z
    obtain ⟨b, vs, eb, hq, rs⟩ := ob_ls r e1 q
    cases eb
    obtain ⟨v, ev, rd⟩ := rs.get e2
    refine ⟨⟨vs, v, hq, ev⟩, fun x H'' ⟨eH, y⟩ => ?_⟩
    subst eH
    have := y vs hq
    rw [ev] at this
    cases this
    exact ⟨.refl, r, rd⟩
theorem src_enum {K : PySem.W.Frag} {H : Hp} {ι : List Addr} {i : Nat} {a : Addr} (e : ι[i]? = some a) : RI K cl H ι (.enum i) (Ite K a) := by
  intro ι' H' h' x r k
  have q : RelD K H' ι' (.ref i) (.ref a) := ⟨a, x.ids i a e, rfl⟩
  refine ⟨fun z => ?_, fun d z => ?_⟩
  · simp only [Src.at_, Option.map_eq_some_iff] at z
    obtain ⟨xs, e1, e2⟩ := z
    obtain ⟨b, vs, eb, hq, rs⟩ := ob_ls r e1 q
    cases eb
    have e3 : xs[k]? = none := by simpa using e2
    exact ⟨vs, hq, by rw [rs.length]; exact List.getElem?_eq_none_iff.mp e3⟩
  · simp only [Src.at_, Option.map_eq_some_iff] at z
    obtain ⟨xs, e1, e2⟩ := z
    obtain ⟨d1, e2, e3⟩ := e2
    obtain ⟨b, vs, eb, hq, rs⟩ := ob_ls r e1 q
    cases eb
    obtain ⟨v, ev, rd⟩ := rs.get e2
    refine ⟨⟨vs, v, hq, ev⟩, fun x H'' ⟨p, y, ex, hp, eH, hy⟩ => ?_⟩
    have := hy vs hq
    rw [ev] at this
    cases this
    subst eH
    subst ex
    subst e3
    have sm := same_new (u := .tup [.int (k : Nat), v]) hp
    refine ⟨ext_same sm, r.same sm, p, [.int (k : Nat), v], rfl, .inl (.inl upd_same), ?_⟩
    exact .cons rfl (.one (rd.mono (ext_same sm)))
theorem src_tup {K : PySem.W.Frag} {H : Hp} {ι : List Addr} {ds : List D} {a : Addr} {vs : List V} (hq : SqT K H a vs) (rs : RelDs K H ι ds vs) : RI K cl H ι (.fix ds) (Itt K a) := by
  intro ι' H' h' x r k
  have hq' := x.tup a vs hq
  have rs' := rs.mono x
  refine ⟨fun z => ?_, fun d z => ?_⟩
  · have e2 : ds[k]? = none := Option.some.inj z
    exact ⟨vs, hq', by rw [rs.length]; exact List.getElem?_eq_none_iff.mp e2⟩
  · have e2 : ds[k]? = some d := Option.some.inj z
    obtain ⟨v, ev, rd⟩ := rs'.get e2
    refine ⟨⟨vs, v, hq', ev⟩, fun x H'' ⟨eH, y⟩ => ?_⟩
    subst eH
    have := y vs hq'
    rw [ev] at this
    cases this
    exact ⟨.refl, r, rd⟩
theorem src_str {K : PySem.W.Frag} {H : Hp} {ι : List Addr} {s : List Nat} : RI K cl H ι (.fix (s.map fun c => .str [c])) (Its (S2 s)) := by
  intro ι' H' h' x r k
  refine ⟨fun z => ?_, fun d z => ?_⟩
  · have e2 : (s.map fun c => D.str [c])[k]? = none := Option.some.inj z
    have := List.getElem?_eq_none_iff.mp e2
    simp at this
    simpa [Its, S2] using this
  · have e2 : (s.map fun c => D.str [c])[k]? = some d := Option.some.inj z
    rw [List.getElem?_map] at e2
    obtain ⟨c, e3, e4⟩ := Option.map_eq_some_iff.mp e2
    subst e4
    refine ⟨?_, fun x H'' ⟨eH, c', y, ex⟩ => ?_⟩
    · have := (List.getElem?_eq_some_iff.mp e3).1
      simpa [Its, S2] using this
    · subst eH
      have e5 : s[k]? = some c' := by simpa [S2] using y
      rw [e3] at e5
      cases e5
      exact ⟨.refl, r, ex⟩
theorem src_rng {K : PySem.W.Frag} {H : Hp} {ι : List Addr} {lo : Int} {m : Nat} : RI K cl H ι (.fix (rngD lo m)) (Itr lo m) := by
  intro ι' H' h' x r k
  refine ⟨fun z => ?_, fun d z => ?_⟩
  · have e2 : (rngD lo m)[k]? = none := Option.some.inj z
    have := List.getElem?_eq_none_iff.mp e2
    show m ≤ k
    simpa [rngD] using this
  · have e2 : (rngD lo m)[k]? = some d := Option.some.inj z
    unfold rngD at e2
    rw [List.getElem?_map] at e2
    obtain ⟨c, e3, e4⟩ := Option.map_eq_some_iff.mp e2
    subst e4
    obtain ⟨l, e5⟩ := List.getElem?_eq_some_iff.mp e3
    simp at l e5
    subst e5
    refine ⟨l, fun x H'' ⟨eH, ex⟩ => ?_⟩
    subst eH
    exact ⟨.refl, r, ex⟩
theorem i_seq {e : E} {tg x : Expr} (ha : PE X x (tE' X T cl n W e)) : PI X tg x (tI' X T cl n W (.seq e)) := by
  refine PI.imp (pi_any ha) fun σ H Q ⟨ι, h, δ, Q0, R0, r, sr, w, k⟩ => ?_
  refine ⟨ι, h, δ, _, R0, r, sr, w, k.to fun d h1 ι1 H1 v q e r1 rx k1 => ?_⟩
  cases d with
  | tup ds =>
    obtain ⟨a, vs, rfl, hq, rs⟩ := rx
    exact .inr (.inl ⟨a, rfl, ⟨vs, hq⟩, k1.now r1 q (src_tup hq rs)⟩)
  | str s =>
    cases rx
    exact .inr (.inr ⟨_, rfl, k1.now r1 q src_str⟩)
  | ref i =>
    obtain ⟨i1, q⟩ := q
    obtain ⟨xs, e1⟩ := Option.isSome_iff_exists.mp i1
    obtain ⟨a, ea, rfl⟩ := id rx
    obtain ⟨b, vs, eb, hq, rs⟩ := ob_ls r1 e1 rx
    cases eb
    exact .inl ⟨a, rfl, ⟨vs, hq⟩, k1.now r1 q (src_seq ea)⟩
  | _ => exact (show False from q).elim
theorem i_rng1 {a : E} {tg y : Expr} {p : Pos} (G : Good X T cl n W) (g : Gl X "range") (hs : noStar1 y = true) (ha : PE X y (tE' X T cl n W a)) : PI X tg (.Call (.Name "range" p) [y] [] pos) (tI' X T cl n W (.rng1 a)) := by
  refine PI.imp (pi_range1 g (G.free _ (by decide)) (pa_cons ha pa_nil (star_of hs)) (star_of hs)) fun σ H Q ⟨ι, h, δ, Q0, R0, r, sr, w, k⟩ => ?_
  refine ⟨ι, h, δ, _, R0, r, sr, w, k.to fun d h1 ι1 H1 v q e r1 rx k1 => ?_⟩
  obtain ⟨j, ed, q1, q2, q⟩ := q
  subst ed
  cases rx
  exact ⟨j, rfl, q1, q2, k1.now r1 q src_rng⟩
theorem i_rng2 {a b : E} {tg y z : Expr} {p : Pos} (G : Good X T cl n W) (g : Gl X "range") (hs : noStar1 y = true) (hs2 : noStar1 z = true) (ha : PE X y (tE' X T cl n W a)) (hb : PE X z (tE' X T cl n W b)) : PI X tg (.Call (.Name "range" p) [y, z] [] pos) (tI' X T cl n W (.rng2 a b)) := by
  refine PI.imp (pi_range2 g (G.free _ (by decide)) (pa_cons ha (pa_cons hb pa_nil (star_of hs2)) (star_of hs)) (by rw [star_of hs, star_of hs2]; rfl) (star_of hs2)) fun σ H Q ⟨ι, h, δ, Q0, R0, r, sr, w, k⟩ => ?_
  refine ⟨ι, h, δ, _, R0, r, sr, w, k.to fun d h1 ι1 H1 v q e r1 rx k1 => ?_⟩
  refine ⟨ι1, h1, δ, _, R0, r1, sr.mono e, q, k1.to fun d2 h2 ι2 H2 v2 q2 e2 r2 ry k2 => ?_⟩
  obtain ⟨i, j, ed, ed2, z, q⟩ := q2
  have rx' : RelD X.K H1 ι1 (.int i) v := by rw [← ed]; exact rx
  have ry' : RelD X.K H2 ι2 (.int j) v2 := by rw [← ed2]; exact ry
  cases rx'
  cases ry'
  exact ⟨i, j, rfl, z, k2.now r2 q src_rng⟩
theorem i_enum {a : E} {tg y : Expr} {p : Pos} (G : Good X T cl n W) (g : Gl X "enumerate") (ht : isTupE tg = true) (hs : noStar1 y = true) (ha : PE X y (tE' X T cl n W a)) : PI X tg (.Call (.Name "enumerate" p) [y] [] pos) (tI' X T cl n W (.enum a)) := by
  cases tg with
  | Tuple elts kk tp =>
    refine PI.imp (pi_enum g (G.free _ (by decide)) (pa_cons ha pa_nil (star_of hs)) (star_of hs)) fun σ H Q ⟨ι, h, δ, Q0, R0, r, sr, w, k⟩ => ?_
    refine ⟨ι, h, δ, _, R0, r, sr, w, k.to fun d h1 ι1 H1 v q e r1 rx k1 => ?_⟩
    obtain ⟨i, ed, i1, q⟩ := q
    subst ed
    obtain ⟨xs, e1⟩ := Option.isSome_iff_exists.mp i1
    obtain ⟨a, ea, rfl⟩ := id rx
    obtain ⟨b, vs, eb, hq, rs⟩ := ob_ls r1 e1 rx
    cases eb
    exact ⟨a, vs, rfl, hq, k1.now r1 q (src_enum ea)⟩
  | _ => exact absurd ht Bool.false_ne_true
end
end Bn
end

section
/-! Bn.J: targets, comprehensions, calls of defs. -/
namespace Bn
open PySem PySem.Spec PyProof.Rows L2

theorem _root_.L2.PE.by_ {X : Cx} {e : Expr} {t : TE} (h : ∀ σ H Q, t σ H Q → ∃ t', PE X e t' ∧ t' σ H Q) : PE X e t := ⟨fun pins s σ H Q I w => by
  obtain ⟨t', p, w'⟩ := h σ H Q w
  exact p.run pins s σ H Q I w'⟩
theorem _root_.L2.PG.imp {X : Cx} {e : Expr} {t t' : TG} (h : PG X e t) (i : ∀ v σ H Q, t' v σ H Q → t v σ H Q) : PG X e t' := ⟨fun pins s σ H v u Q I r w => h.run pins s σ H v u Q I r (i v σ H Q w)⟩
theorem _root_.L2.PGs.imp {X : Cx} {e : List Expr} {t t' : TGs} (h : PGs X e t) (i : ∀ v σ H Q, t' v σ H Q → t v σ H Q) : PGs X e t' := ⟨fun pins s σ H v u Q I r w => h.run pins s σ H v u Q I r (i v σ H Q w)⟩
theorem _root_.L2.PTs.imp {X : Cx} {e : List Expr} {t t' : TT} (h : PTs X e t) (i : ∀ σ H Q, t' σ H Q → t σ H Q) : PTs X e t' := ⟨fun pins s σ H Q I w => h.run pins s σ H Q I (i σ H Q w)⟩

theorem wipe_get (σ : L2.St) (j : Nat) : ∀ vs : List Nat, (L2.wipe σ vs)[j]? = if j ∈ vs then (σ[j]?).map (fun _ => none) else σ[j]?
  | [] => by simp [L2.wipe]
  | v :: vs => by
    have ih := wipe_get σ j vs
    unfold L2.wipe
    by_cases hj : v = j
    · subst hj
      rw [List.getElem?_set]
      have hl := wipe_length σ vs
      simp only [List.mem_cons, true_or, if_true, hl]
      by_cases hb : v < σ.length
      · simp [hb]
      · simp [hb]
    · rw [List.getElem?_set_ne hj, ih]
      have : ¬ j = v := fun e => hj e.symm
      simp [this]
theorem wipe_set {σ : L2.St} {i : Nat} {v : Option V} {vs : List Nat} (h : i ∈ vs) : L2.wipe (σ.set i v) vs = L2.wipe σ vs := by
  apply List.ext_getElem?
  intro j
  rw [wipe_get, wipe_get]
  by_cases hj : j ∈ vs
  · simp only [hj, if_true]
    rw [List.getElem?_set]
    by_cases e : i = j
    · subst e
      by_cases hb : i < σ.length
      · simp [hb]
      · simp [hb]
    · simp [e]
  · have : i ≠ j := fun e => hj (e ▸ h)
    simp only [hj, if_false]
    rw [List.getElem?_set_ne this]
theorem wipe_wipe {σ : L2.St} {vs : List Nat} : L2.wipe (L2.wipe σ vs) vs = L2.wipe σ vs := by
  apply List.ext_getElem?
  intro j
  rw [wipe_get, wipe_get]
  by_cases hj : j ∈ vs
  · simp only [hj, if_true, Option.map_map]
    rfl
  · simp [hj]

def tG (K : PySem.W.Frag) (T : Tb) (cl : ClsT) (n : Nat) (t : Tg) : TG := fun v σ H Q =>
  ∃ ι h δ d Q0, HRel K cl H ι h ∧ SRel K H ι δ σ ∧ RelD K H ι d v ∧ wTg (T.cl n) t d δ h Q0 (fun _ _ => False) ∧
    ∀ δ' h' ι' H' σ', Q0 δ' h' → Ext K H ι H' ι' → HRel K cl H' ι' h' → SRel K H' ι' δ' σ' → (∀ vs, (∀ i ∈ tgIds t, i ∈ vs) → L2.wipe σ' vs = L2.wipe σ vs) → Q σ' H'
def tGs' (K : PySem.W.Frag) (T : Tb) (cl : ClsT) (n : Nat) (t : Tgs) : TGs := fun us σ H Q =>
  ∃ ι h δ ds Q0, HRel K cl H ι h ∧ SRel K H ι δ σ ∧ RelDs K H ι ds us ∧ wTgs (T.cl n) t ds δ h Q0 (fun _ _ => False) ∧
    ∀ δ' h' ι' H' σ', Q0 δ' h' → Ext K H ι H' ι' → HRel K cl H' ι' h' → SRel K H' ι' δ' σ' → (∀ vs, (∀ i ∈ tgsIds t, i ∈ vs) → L2.wipe σ' vs = L2.wipe σ vs) → Q σ' H'
/-- names that may be stored -/
def Stores (X : Cx) (raw : Scope) : Prop := ∀ x, locB raw x = true → Loc X.env.scope x ∧ (X.fn x = true ∨ X.env.scope.names.lookup x = some .local)
def rSet (K : PySem.W.Frag) (cl : ClsT) : TSet := fun o i v H Q => ∃ ι h x y d Q0, HRel K cl H ι h ∧ RelD K H ι x o ∧ RelD K H ι y i ∧ RelD K H ι d v ∧ vSet x y d h Q0 ∧ ∀ h' H', Q0 h' → Ext K H ι H' ι → HRel K cl H' ι h' → Q H'
section
variable {X : Cx} {T : Tb} {cl : ClsT} {n : Nat} {W : WX} {N : List Str} {sc raw : Scope} {pos : Pos}
theorem a_set : PSet X (rSet X.K cl) := by
  rintro pins s σ H o i v ov iv u Q I ro ri rv ⟨ι, h, x, y, d, Q0, r, rx, ry, rd, w, k⟩
  obtain ⟨l, xs, j, j', rfl, eh, rfl, hj, q⟩ := w
  obtain ⟨a, vs, rfl, ei, hH, rs⟩ := ob_lst r eh rx
  cases ry
  have hl := rs.length
  refine set_list pins s σ H (.ref a) (.int j) v ov iv u Q I ro ri rv ⟨a, vs, j, j', rfl, rfl, hH, by rw [hl]; exact hj, ?_⟩
  have x := ext_write (K := X.K) (ι := ι) (w := .lst (vs.set j' v)) hH (fun _ z => by cases z) (fun _ _ z => by cases z)
  refine k _ _ q x (r.write (o' := .lst _) ei eh rfl rfl ⟨_, upd_same, (rs.mono x).set _ (rd.mono x)⟩).2
theorem g_nm {i : Nat} {x : Str} (G : Good X T cl n W) (eN : X.N = N) (hs : Stores X raw) (h : (decide (N[i]? = some x) && locB raw x) = true) : PG X (.Name x pos) (tG X.K T cl n (.nm i)) := by
  obtain ⟨h1, h2⟩ := and2 h
  obtain ⟨l1, l2⟩ := hs x h2
  refine PG.imp (pg_name (i := i) G.nd (by rw [eN]; exact of_decide_eq_true h1) l1 l2) fun v σ H Q ⟨ι, h, δ, d, Q0, r, sr, rd, w, k⟩ => ?_
  exact k _ _ ι H _ w .refl r (sr.set rd) fun vs hv => wipe_set (hv i (by simp [tgIds]))
theorem gs_nil : PGs X [] (tGs' X.K T cl n .nil) := by
  refine PGs.imp pgs_nil fun vs σ H Q ⟨ι, h, δ, ds, Q0, r, sr, rd, w, k⟩ => ?_
  obtain ⟨e, w⟩ := w
  subst e
  exact ⟨rd, k _ _ ι H _ w .refl r sr fun _ _ => rfl⟩
theorem gs_cons {t : Tg} {ts : Tgs} {e : Expr} {es : List Expr} (hs : noStar1 e = true) (h1 : PG X e (tG X.K T cl n t)) (h2 : PGs X es (tGs' X.K T cl n ts)) : PGs X (e :: es) (tGs' X.K T cl n (.cons t ts)) := by
  refine PGs.imp (pgs_cons h1 h2 (by cases e <;> first | rfl | exact absurd hs Bool.false_ne_true)) fun vs σ H Q ⟨ι, h, δ, ds, Q0, r, sr, rd, w, k⟩ => ?_
  obtain ⟨d, ds', e, w⟩ := w
  subst e
  obtain ⟨v, vs', e, rd, rds⟩ := rd
  subst e
  refine ⟨v, vs', rfl, ι, h, δ, d, _, r, sr, rd, w, fun δ1 h1 ι1 H1 σ1 q e1 r1 sr1 w1 => ?_⟩
  refine ⟨ι1, h1, δ1, ds', Q0, r1, sr1, rds.mono e1, q, fun δ2 h2 ι2 H2 σ2 q2 e2 r2 sr2 w2 => ?_⟩
  refine k _ _ _ _ _ q2 (e1.trans e2) r2 sr2 fun vs hv => ?_
  rw [w2 vs fun i hi => hv i (by simp [tgsIds, hi]), w1 vs fun i hi => hv i (by simp [tgsIds, hi])]
def starsG : Tgs → List Expr → Prop
  | .nil, es => es = []
  | .cons _ ts, es => ∃ e r, es = e :: r ∧ noStar1 e = true ∧ starsG ts r
theorem starsG_len {env : Env} : ∀ {ts : Tgs} {es : List Expr}, starsG ts es → (assignEach es env).length = ts.len ∧ (assignEach es env).findIdx? (·.1) = none
  | .nil, es, h => by cases h; exact ⟨rfl, rfl⟩
  | .cons _ ts, es, h => by
    obtain ⟨e, r, rfl, h1, h2⟩ := h
    obtain ⟨i1, i2⟩ := starsG_len (env := env) h2
    have e1 : assignEach (e :: r) env = (false, assign e env) :: assignEach r env := by cases e <;> first | rfl | exact absurd h1 Bool.false_ne_true
    rw [e1]
    refine ⟨by simp [i1, Tgs.len], ?_⟩
    rw [List.findIdx?_cons]
    simp [i2]
theorem g_tup {ts : Tgs} {es : List Expr} {j : Nat} (G : Good X T cl n W) (hs : starsG ts es) (h : PGs X es (tGs' X.K T cl n ts)) : PG X (.Tuple es j pos) (tG X.K T cl n (.tup ts)) := by
  obtain ⟨l1, l2⟩ := starsG_len (env := X.env) hs
  refine PG.imp (pg_tup G.calm h l1 l2) fun v σ H Q ⟨ι, h, δ, d, Q0, r, sr, rd, w, k⟩ => ?_
  obtain ⟨ds, e, hl, w⟩ := w
  subst e
  obtain ⟨a, vs, ev, hq, rs⟩ := rd
  exact ⟨a, vs, ev, hq, by rw [rs.length]; exact hl, ι, h, δ, ds, Q0, r, sr, rs, w, k⟩
theorem g_sub {o i : E} {x y : Expr} (hs : noSlice y = true) (ho : PE X x (tE' X T cl n W o)) (hi : PE X y (tE' X T cl n W i)) : PG X (.Subscript x y pos) (tG X.K T cl n (.sub o i)) := by
  refine PG.imp (pg_sub ho hi (a_set (cl := cl)) (by intro v; cases y <;> first | rfl | exact absurd hs Bool.false_ne_true)) fun v σ H Q ⟨ι, h, δ, d, Q0, r, sr, rd, w, k⟩ => ?_
  refine ⟨ι, h, δ, _, fun _ _ => False, r, sr, w, ⟨fun x h1 ι1 H1 vo q e r1 rx => ?_, fun _ _ _ _ _ _ z => False.elim z⟩⟩
  refine ⟨ι1, h1, δ, _, fun _ _ => False, r1, sr.mono e, q, ⟨fun y h2 ι2 H2 vi q2 e2 r2 ry => ?_, fun _ _ _ _ _ _ z => False.elim z⟩⟩
  refine ⟨ι2, h2, x, y, d, _, r2, rx.mono e2, ry, (rd.mono e).mono e2, q2, fun h3 H3 q3 e3 r3 => ?_⟩
  exact k δ h3 ι2 H3 σ q3 ((e.trans e2).trans e3) r3 (((sr.mono e).mono e2).mono e3) fun _ _ => rfl

/-! ### list comprehensions -/
abbrev W0 : WX := fun _ _ _ _ => False
theorem lc_sem {elt : E} {tg : Tg} {it : Bn.It} {t : Bn.T} {own vs : List Nat} (ev : vs = own) (ho : ∀ i ∈ tgIds tg, i ∈ own) (σ : L2.St) (H : Hp) (Q : VK) (w : tE' X T cl n W (.lc elt tg it t own) σ H Q) :
    tLc (tI' X T cl n W it) (tG X.K T cl n tg) (tA X.K cl W0 RB (wT (T.cl n) t)) (tA X.K cl W0 (RD X.K) (wE (T.cl n) elt)) vs σ H Q := by
  subst ev
  obtain ⟨ι, h, δ, Q0, R0, r, sr, w, k⟩ := w
  refine ⟨ι, h, δ, _, R0, r, sr, w, k.to fun src h1 ι1 H1 J q e r1 rj k1 D hD => ?_⟩
  obtain ⟨m, q⟩ := q
  have eD : (ι1 ++ [D])[h1.length]? = some D := by rw [← r1.len]; simp
  refine ⟨fun i m H' => ∃ ι' h', Ext X.K (upd H1 D (.lst [])) (ι1 ++ [D]) H' ι' ∧ HRel X.K cl H' ι' h' ∧ lcLoop src h1.length (fun d h2 nx => wTg (T.cl n) tg d (dwipe δ vs) h2 (fun δ3 h3 => wT (T.cl n) t δ3 h3 (fun b h4 =>
      if b = true then wE (T.cl n) elt δ3 h4 (fun y h5 => nx (some y) h5) (fun _ _ => False) else nx none h4) (fun _ _ => False)) (fun _ _ => False)) (fun h' => Q0 (.ref h1.length) h') m i h', ⟨m, ι1 ++ [D], _, .refl, r1.new (o := .lst []) hD ⟨[], upd_same, rfl⟩, q⟩, fun i m H' ⟨ι', h', x, r', lw⟩ => ?_⟩
  have x1 : Ext X.K H1 ι1 H' ι' := (ext_new hD).trans x
  cases m with
  | zero => exact lw.elim
  | succ m =>
    unfold lcLoop at lw
    obtain ⟨j1, j2⟩ := rj ι' H' h' x1 r' i
    cases hs : src.at_ h' i with
    | none => rw [hs] at lw; exact lw.elim
    | some o =>
      cases o with
      | none =>
        rw [hs] at lw
        exact .inl ⟨j1 hs, k1.q _ _ ι' H' (.ref D) lw x1 r' ⟨D, x.ids _ _ eD, rfl⟩⟩
      | some d =>
        rw [hs] at lw
        obtain ⟨g1, g2⟩ := j2 d hs
        refine .inr ⟨g1, fun H'' => ∃ ι'' h'', Ext X.K (upd H1 D (.lst [])) (ι1 ++ [D]) H'' ι'' ∧ HRel X.K cl H'' ι'' h'' ∧ lcLoop src h1.length _ _ m (i + 1) h'', fun H'' z => ⟨m, Nat.lt_succ_self m, z⟩, fun x0 H2 y2 => ?_⟩
        obtain ⟨e2, r2, rd2⟩ := g2 x0 H2 y2
        refine ⟨ι', h', dwipe δ vs, d, _, r2, (((sr.mono e).mono x1).mono e2).wipe vs, rd2, lw, fun δ3 h3 ι3 H3 σ3 q3 e3 r3 sr3 w3 => ⟨(w3 vs ho).trans wipe_wipe, ?_⟩⟩
        refine ⟨ι3, h3, δ3, _, fun _ _ => False, r3, sr3, q3, ⟨fun b h4 ι4 H4 c q4 e4 r4 eb => ?_, fun _ _ _ _ _ _ z => False.elim z⟩⟩
        cases eb
        have x4 : Ext X.K (upd H1 D (.lst [])) (ι1 ++ [D]) H4 ι4 := ((x.trans e2).trans e3).trans e4
        cases b with
        | false => exact ⟨ι4, h4, x4, r4, q4⟩
        | true =>
          refine ⟨ι4, h4, δ3, _, fun _ _ => False, r4, sr3.mono e4, q4, ⟨fun y h5 ι5 H5 v q5 e5 r5 ry => ?_, fun _ _ _ _ _ _ z => False.elim z⟩⟩
          obtain ⟨acc, ea, hl, q5⟩ := q5
          have x5 := x4.trans e5
          have eD5 := x5.ids _ _ eD
          obtain ⟨D', ws, eD', eDi, hH, rs⟩ := ob_lst r5 ea ⟨D, eD5, rfl⟩
          cases eD'
          have xw := ext_write (K := X.K) (ι := ι5) (w := .lst (ws ++ [v])) hH (fun _ z => by cases z) (fun _ _ z => by cases z)
          refine ⟨ws, hH, by rw [rs.length]; exact hl, ι5, _, x5.trans xw, ?_, q5⟩
          exact (r5.write (o' := .lst _) eD5 ea rfl rfl ⟨_, upd_same, (rs.mono xw).append (.one (ry.mono xw))⟩).2
theorem t_tt : PTs X [] (tT' X T cl n W .tt) := PTs.imp pts_nil fun σ H Q ⟨ι, h, δ, Q0, R0, r, sr, w, k⟩ => k.now (a := true) r w rfl
theorem folded_of {e : Expr} {env : Env} (h : noSet e = true) : ∀ x, foldedSetIterable e env x = pure x := by
  intro x
  cases e <;> first
    | rfl
    | exact absurd h Bool.false_ne_true

/-! ### calls of defs -/
theorem runG {k : Nat} {f : Addr} {fd : FuncData} {ps : List Str} {sp : Sp} {pins : List (Addr × Obj)} {σ : L2.St} {H : Hp} {s : Shared} {Q : VK} {us : List Value} {vs : List V} {E : XK} (F : FnG X.prog X.w X.K X.mg X.base k f fd ps sp) (hr : Room k X.A) (hg : X.A.guards = some []) (hb : Binds X.K fd ps [])
    (tk : Takes X W) (hE : ∀ c d H', E c d H' → W c d σ H') (I : Inv X pins σ H s) (r : Vals vs us) (w : sp vs H Q E) : wpAny (model X.prog X.w) X.A (call (.ref f) us) (EP X pins σ Q) X.xe s := by
  have hl : (us ++ []).length = ps.length := by rw [List.append_nil, ← r.length]; exact F.len _ _ _ _ w
  have hbb := hb s us I.kIn hl
  rw [List.append_nil] at hbb
  refine wpAny_call (codeAny_mono (F.run X.A X.stack s H ⟨us, []⟩ us vs Q E hr hg I.env0 hbb r w) fun z s' hz => ?_)
  cases z with
  | error e => exact tk e s' (XE.of_call I hE hz)
  | ok fl =>
    cases fl with
    | ret u => exact I.after hz
    | _ => exact False.elim hz
theorem call_sem {f : String} {es : Es} {σ : L2.St} {H : Hp} {Q : VK} (w : tE' X T cl n W (.call f es) σ H Q) : tEs' X T cl n W es σ H fun vs H1 => spA X.K cl T n f vs H1 Q fun c d H' => W c d σ H' := by
  obtain ⟨ι, h, δ, Q0, R0, r, sr, w, k⟩ := w
  exact ⟨ι, h, δ, _, R0, r, sr, w, k.to fun ds h1 ι1 H1 vs q e r1 rs k1 => ⟨ι1, h1, ds, Q0, R0, r1, rs, q, fun d h' ι' H' v q' e' r' rd => k1.q d h' ι' H' v q' e' r' rd, fun x h' ι' H' c d q' e' r' rx => k1.r x h' ι' H' c d q' e' r' rx⟩⟩
theorem s_call {f : String} {es : Es} {x : Str} {ys : List Expr} {p : Pos} (G : Good X T cl n W) (hf : (T.fn f).isSome = true) (e1 : decide (Str.ofString f = x) = true) (g : Gl X x) (hp : plainName x = true) (hs : stars0 ys = true) (h0 : ys = [] → es = .nil) (ha : PA X ys (tEs' X T cl n W es)) : PE X (.Call (.Name x p) ys [] pos) (tE' X T cl n W (.call f es)) := by
  have e2 := of_decide_eq_true e1
  obtain ⟨fn, ef⟩ := Option.isSome_iff_exists.mp hf
  obtain ⟨a, fd, ps, C⟩ := G.call f fn ef
  obtain ⟨p1, _, _⟩ := plain_of hp
  have hm : X.mg x = some (.ref a) := by rw [← e2]; exact C.mg
  refine ⟨fun pins s σ H Q I w => ?_⟩
  have w := call_sem w
  cases ys with
  | nil =>
    refine wpAny_Call_Name_kw (ld_glob I g hm ?_ p1)
    rw [h0 rfl] at w
    obtain ⟨ι, h, δ, Q0, R0, r, sr, w, k⟩ := w
    exact PySem.W.callWith_K0 I.kIn C.kp (runG C.fn G.room G.gds C.bind G.tk (fun c d H' z => z) I .nil (k.now (a := ([] : List D)) (b := ([] : List V)) r w rfl))
  | cons y ys =>
    obtain ⟨h1, h2⟩ := and2 hs
    refine wpAny_Call_Name_kw (ld_glob I g hm ?_ p1)
    refine PySem.W.callWith_K (h₀ := X.base) I.ok.mod.kin C.kp (thn (ha.run pos pins s σ H _ I w) fun us s1 ⟨vs, H1, I1, r, q⟩ => ⟨I1.kIn, ?_⟩) (star_of h1) (back_of h2)
    exact runG C.fn G.room G.gds C.bind G.tk (fun c d H' z => z) I1 r q

/-! ### calls with keywords -/
theorem mapIx_rel {K : PySem.W.Frag} {H : Hp} {ι : List Addr} {ds : List D} {vs : List V} (r : RelDs K H ι ds vs) : ∀ {g : List Nat} {ds' : List D}, mapIx ds g = some ds' → ∃ vs', mapIx vs g = some vs' ∧ RelDs K H ι ds' vs'
  | [], ds', e => by cases e; exact ⟨[], rfl, rfl⟩
  | i :: g, ds', e => by
    unfold mapIx at e
    split at e
    · rename_i x ys ex ey
      cases e
      obtain ⟨v, ev, rv⟩ := r.get ex
      obtain ⟨vs', ew, rw'⟩ := mapIx_rel r ey
      exact ⟨v :: vs', by unfold mapIx; rw [ev, ew], .cons rv rw'⟩
    · cases e
theorem mapIx_vals {vs : List V} {us : List Value} (r : Vals vs us) : ∀ {g : List Nat} {vs' : List V} {us' : List Value}, mapIx vs g = some vs' → mapIx us g = some us' → Vals vs' us'
  | [], vs', us', e, e' => by cases e; cases e'; exact .nil
  | i :: g, vs', us', e, e' => by
    unfold mapIx at e e'
    split at e
    · rename_i x ys ex ey
      cases e
      split at e'
      · rename_i u zs eu ez
        cases e'
        obtain ⟨u', eu', ru⟩ := r.get ex
        rw [eu] at eu'
        cases eu'
        exact .cons ru (mapIx_vals r ey ez)
      · cases e'
    · cases e
theorem callK_sem {f : String} {es ks : Es} {kn : List String} {σ : L2.St} {H : Hp} {Q : VK} (w : tE' X T cl n W (.callK f es kn ks) σ H Q) : tEs' X T cl n W es σ H fun vs H1 => tEs' X T cl n W ks σ H1 fun zs H2 => ∃ g vs', zs.length = kn.length ∧ T.kw f vs.length kn = some g ∧ mapIx (vs ++ zs) g = some vs' ∧ spA X.K cl T n f vs' H2 Q fun c d H' => W c d σ H' := by
  obtain ⟨ι, h, δ, Q0, R0, r, sr, w, k⟩ := w
  refine ⟨ι, h, δ, _, R0, r, sr, w, k.to fun ds h1 ι1 H1 vs q e r1 rs k1 => ?_⟩
  refine ⟨ι1, h1, δ, _, R0, r1, sr.mono e, q, k1.to fun zs h2 ι2 H2 ws q2 e2 r2 rz k2 => ?_⟩
  obtain ⟨g, ds', e0, e3, e4, q3⟩ := q2
  obtain ⟨vs', e5, rv⟩ := mapIx_rel ((rs.mono e2).append rz) e4
  exact ⟨g, vs', by rw [rz.length]; exact e0, by rw [rs.length]; exact e3, e5, ι2, h2, ds', Q0, R0, r2, rv, q3, fun d h' ι' H' v q' e' r' rd => k2.q d h' ι' H' v q' e' r' rd, fun x h' ι' H' c d q' e' r' rx => k2.r x h' ι' H' c d q' e' r' rx⟩
theorem runGK {k : Nat} {f : Addr} {fd : FuncData} {ps : List Str} {sp : Sp} {np : Nat} {kn : List String} {g : List Nat} {pins : List (Addr × Obj)} {σ : L2.St} {H : Hp} {s : Shared} {Q : VK} {us ws : List Value} {vs zs vs' : List V} {E : XK} (F : FnG X.prog X.w X.K X.mg X.base k f fd ps sp) (hr : Room k X.A) (hg : X.A.guards = some []) (hb : KwB X.K fd ps np kn g)
    (tk : Takes X W) (hE : ∀ c d H', E c d H' → W c d σ H') (I : Inv X pins σ H s) (r : Vals vs us) (rz : Vals zs ws) (hn : us.length = np) (hw : ws.length = kn.length) (em : mapIx (vs ++ zs) g = some vs') (w : sp vs' H Q E) : wpAny (model X.prog X.w) X.A (call (.ref f) us ((kn.map Str.ofString).zip ws)) (EP X pins σ Q) X.xe s := by
  obtain ⟨as, ea, hbb⟩ := hb s us ws I.kIn hn hw
  have rr := mapIx_vals (r.append rz) em ea
  refine wpAny_call (codeAny_mono (F.run X.A X.stack s H ⟨us, (kn.map Str.ofString).zip ws⟩ as vs' Q E hr hg I.env0 hbb rr w) fun z s' hz => ?_)
  cases z with
  | error e => exact tk e s' (XE.of_call I hE hz)
  | ok fl =>
    cases fl with
    | ret u => exact I.after hz
    | _ => exact False.elim hz
theorem kwAll {pos : Pos} {env : Env} : ∀ {kws : List Keyword} {kn : List String}, kws.map (·.arg) = kn.map (fun n => some (Str.ofString n)) →
    (backToKw pos (keywordEach kws env)).all (·.1.isSome) = true ∧ (backToKw pos (keywordEach kws env)).filterMap (·.1) = kn.map Str.ofString ∧ (backToKw pos (keywordEach kws env)).any (·.1.isNone) = false
  | [], [], _ => ⟨rfl, rfl, rfl⟩
  | [], _ :: _, h => by simp at h
  | _ :: _, [], h => by simp at h
  | ⟨nm, e, p⟩ :: kws, n :: kn, h => by
    simp only [List.map_cons, List.cons.injEq] at h
    obtain ⟨h1, h2⟩ := h
    obtain ⟨i1, i2, i3⟩ := kwAll (pos := pos) (env := env) h2
    have h1' : nm = some (Str.ofString n) := h1
    subst h1'
    have e : backToKw pos (keywordEach (⟨some (Str.ofString n), e, p⟩ :: kws) env) = (some (Str.ofString n), (do let v ← eval e env; standAt pos; pure v)) :: backToKw pos (keywordEach kws env) := rfl
    rw [e]
    refine ⟨by rw [List.all_cons, i1]; rfl, by rw [List.filterMap_cons, i2]; rfl, by rw [List.any_cons, i3]; rfl⟩
theorem s_callK {f : String} {es ks : Es} {kn : List String} {x : Str} {ys : List Expr} {kws : List Keyword} {p : Pos} (G : Good X T cl n W) (hf : (T.fn f).isSome = true) (e1 : decide (Str.ofString f = x) = true) (g : Gl X x) (hp : plainName x = true) (hs : stars0 ys = true) (h0 : ys = [] → es = .nil)
    (hk0 : kws.map (·.arg) = kn.map (fun n => some (Str.ofString n))) (ha : PA X ys (tEs' X T cl n W es)) (hk : PK X kws (tEs' X T cl n W ks)) : PE X (.Call (.Name x p) ys kws pos) (tE' X T cl n W (.callK f es kn ks)) := by
  have e2 := of_decide_eq_true e1
  obtain ⟨fn, ef⟩ := Option.isSome_iff_exists.mp hf
  obtain ⟨a, fd, ps, C⟩ := G.call f fn ef
  obtain ⟨p1, _, _⟩ := plain_of hp
  have hm : X.mg x = some (.ref a) := by rw [← e2]; exact C.mg
  obtain ⟨k1, k2, k3⟩ := kwAll (pos := pos) (env := X.env) hk0
  refine ⟨fun pins s σ H Q I w => ?_⟩
  have w := callK_sem w
  cases ys with
  | nil =>
    rw [h0 rfl] at w
    obtain ⟨ι, h, δ, Q0, R0, r, sr, w, k⟩ := w
    have w := k.now (a := ([] : List D)) (b := ([] : List V)) r w rfl
    refine wpAny_Call_Name_kw (ld_glob I g hm ?_ p1)
    refine PySem.W.callWith_KW0 (h₀ := X.base) I.ok.mod.kin C.kp k1 (thn (hk.run pos pins s σ H _ I w) fun ws s2 ⟨zs, H2, I2, rz, q2⟩ => ⟨I2.kIn, ?_⟩) (by rw [k3]; rfl)
    rw [k2]
    obtain ⟨gg, vs', ql, e3, e4, q3⟩ := q2
    exact runGK C.fn G.room G.gds (C.kw _ _ _ e3) G.tk (fun c d H' z => z) I2 .nil rz rfl (by rw [← rz.length]; exact ql) e4 q3
  | cons y ys =>
    obtain ⟨h1, h2⟩ := and2 hs
    refine wpAny_Call_Name_kw (ld_glob I g hm ?_ p1)
    refine PySem.W.callWith_KW (h₀ := X.base) I.ok.mod.kin C.kp k1 (thn (ha.run pos pins s σ H _ I w) fun us s1 ⟨vs, H1, I1, r, q⟩ => ?_) (by rw [k3, back_of hs]; rfl) (star_of h1)
    refine thn (hk.run pos pins s1 σ H1 _ I1 q) fun ws s2 ⟨zs, H2, I2, rz, q2⟩ => ⟨I2.kIn, ?_⟩
    rw [k2]
    obtain ⟨gg, vs', ql, e3, e4, q3⟩ := q2
    exact runGK C.fn G.room G.gds (C.kw _ _ _ e3) G.tk (fun c d H' z => z) I2 r rz r.length.symm (by rw [← rz.length]; exact ql) e4 q3

/-! ### dict displays -/
theorem nd_out {x : D} {k : Key} (rx : RelK x k) {K : PySem.W.Frag} {H : Hp} {ι : List Addr} : ∀ {ps : List (D × D)} {ks : List (Key × V)}, RelKv K H ι ps ks → (ps.all fun q => isKey q.1 && !keyEq x q.1) = true → ∀ q ∈ ks, q.1 ≠ k
  | [], ks, r, _ => by cases r; simp
  | p :: ps, ks, r, h => by
    obtain ⟨k', v, ks', rfl, rk, _, rr⟩ := r
    obtain ⟨h1, h2⟩ := and2 (show ((isKey p.1 && !keyEq x p.1) && ps.all fun q => isKey q.1 && !keyEq x q.1) = true from by simpa using h)
    intro q hq
    rcases List.mem_cons.mp hq with rfl | hq
    · have h3 := (and2 h1).2
      rw [keyEq_of rx rk] at h3
      intro e
      subst e
      simp at h3
    · exact nd_out rx rr h2 q hq
theorem merge_nd {K : PySem.W.Frag} {H : Hp} {ι : List Addr} : ∀ {ps : List (D × D)} {ks acc : List (Key × V)}, RelKv K H ι ps ks → ndK ps = true → (∀ q ∈ ks, ∀ a ∈ acc, a.1 ≠ q.1) → mergeK acc ks = acc ++ ks
  | [], ks, acc, r, _, _ => by cases r; show acc = acc ++ []; simp
  | p :: ps, ks, acc, r, h, ho => by
    obtain ⟨k', v, ks', rfl, rk, _, rr⟩ := r
    obtain ⟨h1, h2⟩ := and2 (show (isKey p.1 && ((ps.all fun q => isKey q.1 && !keyEq p.1 q.1) && ndK ps)) = true from h)
    obtain ⟨h2, h3⟩ := and2 h2
    have e : L2.putK acc k' v = acc ++ [(k', v)] := by
      unfold L2.putK
      have : (acc.any fun kv => decide (kv.1 = k')) = false := by
        rw [List.any_eq_false]
        intro a ha
        simpa using ho (k', v) (by simp) a ha
      rw [this]
      simp
    show mergeK (L2.putK acc k' v) ks' = _
    rw [e, merge_nd rr h3 fun q hq a ha => by
      rcases List.mem_append.mp ha with ha | ha
      · exact ho q (by simp [hq]) a ha
      · have : a = (k', v) := by simpa using ha
        subst this
        exact fun e => nd_out rk rr h2 q hq e.symm]
    simp
def trsOf (X : Cx) (T : Tb) (cl : ClsT) (n : Nat) (W : WX) : Es → List (TE × TE)
  | .cons k (.cons v r) => (tE' X T cl n W k, tE' X T cl n W v) :: trsOf X T cl n W r
  | _ => []
/-- the pairs, flat -/
def evenEs : Es → Prop
  | .nil => True
  | .cons _ (.cons _ r) => evenEs r
  | _ => False
theorem trs_sem : ∀ {es : Es} {σ : L2.St} {H : Hp} {Q : List (V × V) → Hp → Prop}, (tA X.K cl W (RDs X.K) (wEs (T.cl n) es) σ H fun vs H' => ∀ ps, vs = (ps.flatMap fun p => [p.1, p.2]) → Q ps H') → evenEs es → tPairs (trsOf X T cl n W es) σ H Q
  | .nil, σ, H, Q, ⟨ι, h, δ, Q0, R0, r, sr, w, k⟩, _ => k.now (a := ([] : List D)) (b := ([] : List V)) r w rfl [] rfl
  | .cons k .nil, σ, H, Q, _, ev => ev.elim
  | .cons k0 (.cons v0 r0), σ, H, Q, ⟨ι, h, δ, Q0, R0, r, sr, w, k⟩, ev => by
    refine ⟨ι, h, δ, _, R0, r, sr, w, k.to fun d1 h1 ι1 H1 v1 q1 e1 r1 rd1 k1 => ?_⟩
    refine ⟨ι1, h1, δ, _, R0, r1, sr.mono e1, q1, k1.to fun d2 h2 ι2 H2 v2 q2 e2 r2 rd2 k2 => ?_⟩
    refine trs_sem ⟨ι2, h2, δ, _, R0, r2, (sr.mono e1).mono e2, q2, k2.to fun ds h3 ι3 H3 vs q3 e3 r3 rs k3 => ?_⟩ ev
    intro ps hps
    exact k3.now (a := d1 :: d2 :: ds) (b := v1 :: v2 :: vs) r3 q3 (.cons ((rd1.mono e2).mono e3) (.cons (rd2.mono e3) rs)) ((v1, v2) :: ps) (by rw [hps]; rfl)
theorem pairs_flat {K : PySem.W.Frag} {H : Hp} {ι : List Addr} : ∀ {ds : List D} {ps : List (D × D)} {us : List V}, pairsD ds = some ps → ndK ps = true → RelDs K H ι ds us → ∃ ks : List (Key × V), RelKv K H ι ps ks ∧ us = ((ks.map fun kv => (kV kv.1, kv.2)).flatMap fun p => [p.1, p.2]) ∧ ks.length = ps.length
  | [], ps, us, e, _, r => by cases e; cases r; exact ⟨[], rfl, rfl, rfl⟩
  | [_], ps, us, e, _, r => by cases e
  | k :: v :: ds, ps, us, e, nd, r => by
    simp only [pairsD, Option.map_eq_some_iff] at e
    obtain ⟨ps', e1, e2⟩ := e
    subst e2
    obtain ⟨h1, h2⟩ := and2 (show (isKey k && ((ps'.all fun q => isKey q.1 && !keyEq k q.1) && ndK ps')) = true from nd)
    obtain ⟨_, h3⟩ := and2 h2
    obtain ⟨u1, r1, rfl, q1, r⟩ := r
    obtain ⟨u2, r2, rfl, q2, r⟩ := r
    obtain ⟨ks, a1, a2, a3⟩ := pairs_flat e1 h3 r
    obtain ⟨kk, b1, b2⟩ := key_of h1 q1
    subst b2
    exact ⟨(kk, u2) :: ks, ⟨kk, u2, ks, rfl, b1, q2, a1⟩, by rw [a2]; rfl, by simp [a3]⟩
theorem s_dct {es : Es} {keys : List (Option Expr)} {values : List Expr} (hp : PPs X pos keys values (trsOf X T cl n W es)) (ev : evenEs es) (hall : keys.all (·.isSome) = true) (hl : keys.length = values.length) (h15 : keys.length ≤ 15) (h0 : keys = [] → es = .nil) : PE X (.Dict keys values pos) (tE' X T cl n W (.dct es)) := by
  cases keys with
  | nil =>
    cases values with
    | cons => cases hl
    | nil =>
      cases h0 rfl
      refine PE.imp pe_dnewK fun σ H Q ⟨ι, h, δ, Q0, R0, r, sr, w, k⟩ p hp => ?_
      obtain ⟨ps, e1, _, _, _, q⟩ := w
      cases e1
      have e : (h ++ [Ob.dct []]).set h.length (.dct []) = h ++ [.dct []] := by simp
      rw [e] at q
      exact k.q _ _ (ι ++ [p]) _ _ q (ext_new hp) (r.new (o := .dct []) hp ⟨[], upd_same, rfl⟩) (ref_new r)
  | cons k0 ks0 =>
    refine PE.imp (pe_disp hp hall hl (by simp) h15) fun σ H Q ⟨ι, h, δ, Q0, R0, r, sr, w, k⟩ p hp => ?_
    have eD : (ι ++ [p])[h.length]? = some p := by rw [← r.len]; simp
    have x0 : Ext X.K H ι (upd H p (.dK [])) (ι ++ [p]) := ext_new hp
    have w : wEs (T.cl n) es δ (h ++ [.dct []]) (fun ds h2 => ∃ ps, pairsD ds = some ps ∧ ndK ps = true ∧ ps.length ≤ 15 ∧ h2[h.length]? = some (.dct []) ∧ Q0 (.ref h.length) (h2.set h.length (.dct ps))) R0 := w
    refine trs_sem ⟨ι ++ [p], h ++ [.dct []], δ, _, R0, r.new (o := .dct []) hp ⟨[], upd_same, rfl⟩, sr.mono x0, w, (k.ext x0).to fun ds h2 ι2 H2 us q e r2 rs k2 => ?_⟩ ev
    intro pvs hpv
    obtain ⟨ps, e1, nd, l15, eh, q⟩ := q
    obtain ⟨kvs, rk, eu, el⟩ := pairs_flat e1 nd rs
    have ei := e.ids _ _ eD
    obtain ⟨a, ks', ea, ei', eH, rk0⟩ := ob_dct r2 eh ⟨p, ei, rfl⟩
    cases ea
    cases rk0
    have epv : pvs = kvs.map fun kv => (kV kv.1, kv.2) := by
      rw [eu] at hpv
      clear eu
      revert hpv
      generalize kvs.map (fun kv => (kV kv.1, kv.2)) = l
      revert l
      induction pvs with
      | nil => intro l h; cases l with
        | nil => rfl
        | cons a b => simp at h
      | cons a b ih => intro l h; cases l with
        | nil => simp at h
        | cons c d =>
          simp only [List.flatMap_cons, List.cons_append, List.nil_append, List.cons.injEq] at h
          rw [ih d h.2.2, Prod.ext h.1 h.2.1]
    refine ⟨eH, kvs, epv, by rw [el]; exact l15, ?_⟩
    have em : mergeK [] kvs = kvs := by
      have := merge_nd (acc := []) rk nd (fun q _ a ha => by simp at ha)
      simpa using this
    rw [em]
    have xw := ext_write (K := X.K) (ι := ι2) (w := .dK kvs) eH (fun _ z => by cases z) (fun _ _ z => by cases z)
    exact k2.q _ _ ι2 _ _ q xw (r2.write (o' := .dct ps) ei eh rfl rfl ⟨kvs, upd_same, rk.mono xw⟩).2 ⟨p, ei, rfl⟩

/-! ### isinstance -/
def tyName (h : Hh) : D → Option String
  | .non => some "NoneType"
  | .bl _ => some "bool"
  | .int _ => some "int"
  | .str _ => some "str"
  | .tup _ => some "tuple"
  | .ref i => match h[i]? with
    | some (.lst _) => some "list"
    | some (.klst _) => some "list"
    | some (.dct _) => some "dict"
    | _ => none
theorem sqT_ty {K : PySem.W.Frag} {H : Hp} {a : Addr} {vs : List V} (h : SqT K H a vs) : TyX K H (.ref a) (.type "tuple") := by
  rcases h with (h | ⟨o, h⟩) | ⟨o, its, n, h1, h2, _⟩
  · exact .base (.tup h)
  · exact .fTuple h
  · exact .kTuple h1 h2
theorem tyX_of {K : PySem.W.Frag} {H : Hp} {ι : List Addr} {h : Hh} {d : D} {v : V} {t : String} (r : HRel K cl H ι h) (e : RelD K H ι d v) (ty : tyName h d = some t) : TyX K H v (.type t) := by
  cases d with
  | non => cases e; cases ty; exact .base .non
  | bl b => cases e; cases ty; exact .base (.bl b)
  | int b => cases e; cases ty; exact .base (.int b)
  | str b => cases e; cases ty; exact .base (.str _)
  | tup xs =>
    cases ty
    obtain ⟨a, vs, rfl, hq, _⟩ := e
    exact sqT_ty hq
  | ref i =>
    simp only [tyName] at ty
    cases ho : h[i]? with
    | none => rw [ho] at ty; cases ty
    | some o =>
      rw [ho] at ty
      cases o with
      | lst xs =>
        cases ty
        obtain ⟨a, vs, rfl, _, hq, _⟩ := ob_lst r ho e
        exact .base (.lst hq)
      | klst xs =>
        cases ty
        obtain ⟨a, rfl, _, vs, hk, _⟩ := r.of_ref ho e
        rcases hk with ⟨o, hk⟩ | ⟨o, its, n, h1, h2, _⟩
        · exact .base (.frz hk)
        · exact .kList h1 h2
      | dct xs =>
        cases ty
        obtain ⟨a, vs, rfl, _, hq, _⟩ := ob_dct r ho e
        exact .base (.dK hq)
      | _ => cases ty
theorem kit_is {h : Hh} {t : String} (ht : tyOk t = true) {d : D} {b : Bool} (e : isTy h t d = some b) : ∃ s, tyName h d = some s ∧ kitB s t = some b := by
  have ht : t ∈ ["str", "int", "list", "tuple", "dict", "bool"] := of_decide_eq_true ht
  simp only [List.mem_cons, List.not_mem_nil, or_false] at ht
  cases d with
  | ref i =>
    simp only [isTy, tyName] at e ⊢
    cases ho : h[i]? with
    | none => rw [ho] at e; cases e
    | some o =>
      rw [ho] at e
      cases o <;> first
        | (cases e; done)
        | (cases e; refine ⟨_, rfl, ?_⟩; rcases ht with rfl | rfl | rfl | rfl | rfl | rfl <;> decide +kernel)
  | _ => cases e; refine ⟨_, rfl, ?_⟩; rcases ht with rfl | rfl | rfl | rfl | rfl | rfl <;> decide +kernel
theorem boot_ty {t : String} (ht : tyOk t = true) : bootBuiltins (Str.ofString t) = some (.type t) := by
  have ht : t ∈ ["str", "int", "list", "tuple", "dict", "bool"] := of_decide_eq_true ht
  simp only [List.mem_cons, List.not_mem_nil, or_false] at ht
  rcases ht with rfl | rfl | rfl | rfl | rfl | rfl <;> decide +kernel
theorem s_isi {a : E} {t : String} {y : Expr} {p q : Pos} (G : Good X T cl n W) (g : Gl X "isinstance") (g2 : Gl X (Str.ofString t)) (pl : plainName (Str.ofString t) = true) (ht : tyOk t = true) (hs : noStar1 y = true) (ha : PE X y (tE' X T cl n W a)) :
    PE X (.Call (.Name "isinstance" p) [y, .Name (Str.ofString t) q] [] pos) (tE' X T cl n W (.isi a [t])) := by
  obtain ⟨p1, p2, p3⟩ := plain_of pl
  have hb : Str.ofString t ∈ builtinNames := by
    have ht : t ∈ ["str", "int", "list", "tuple", "dict", "bool"] := of_decide_eq_true ht
    simp only [List.mem_cons, List.not_mem_nil, or_false] at ht
    rcases ht with rfl | rfl | rfl | rfl | rfl | rfl <;> decide
  have ht' : PE X (.Name (Str.ofString t) q) (tC (.ty t)) := pe_bltn g2 (G.free _ hb) (boot_ty ht) rfl p3 p1
  refine PE.imp (pe_callB call_isi g (G.free _ (by decide)) (by decide +kernel) (pa_cons ha (pa_cons ht' pa_nil) (star_of hs)) (by decide) (by decide) (star_of hs) rfl) fun σ H Q ⟨ι, h, δ, Q0, R0, r, sr, w, k⟩ => ?_
  refine ⟨ι, h, δ, _, R0, r, sr, w, k.to fun d h1 ι1 H1 v q e r1 rd k1 => ?_⟩
  obtain ⟨b, eb, q⟩ := q
  obtain ⟨s, e1, e2⟩ := kit_is ht eb
  exact ⟨v, .ty t, _, _, b, rfl, .ty t, tyX_of r1 rd e1, kit_ty e2, k1.now r1 q rfl⟩
end
end Bn
end

section
/-! Bn.K: every expression of this form keeps what is asked. -/
namespace Bn
open PySem PySem.Spec PyProof.Rows L2

section
variable {T : Tb} {N : List Str} {sc : Scope}
theorem iv_loc {i : Nat} {x : Expr} (h : ckE T N sc (.loc i) x = true) : ∃ y p, x = .Name y p ∧ slotB N sc i y = true := by
  unfold ckE at h; split at h <;> first | contradiction | (rename_i hq; cases hq; exact ⟨_, _, rfl, h⟩)
theorem iv_cst {d : D} {x : Expr} (h : ckE T N sc (.cst d) x = true) : ∃ c k p, x = .Constant c k p ∧ cstB d c = true := by
  unfold ckE at h; split at h <;> first | contradiction | (rename_i hq; cases hq; exact ⟨_, _, _, rfl, h⟩)
theorem iv_glob {g : String} {x : Expr} (h : ckE T N sc (.glob g) x = true) : ∃ y p, x = .Name y p ∧ ((T.con g).isSome && (decide (Str.ofString g = y) && glB sc y)) = true := by
  unfold ckE at h; split at h <;> first | contradiction | (rename_i hq; cases hq; exact ⟨_, _, rfl, h⟩)
theorem iv_bin {op : Op2} {a b : E} {x : Expr} (h : ckE T N sc (.bin op a b) x = true) : ∃ x1 o y p, x = .BinOp x1 o y p ∧ (opB op o && (ckE T N sc a x1 && ckE T N sc b y)) = true := by
  unfold ckE at h; split at h <;> first | contradiction | (rename_i hq; cases hq; exact ⟨_, _, _, _, rfl, h⟩)
theorem iv_neg {a : E} {x : Expr} (h : ckE T N sc (.neg a) x = true) : ∃ x1 p, x = .UnaryOp .USub x1 p ∧ ckE T N sc a x1 = true := by
  unfold ckE at h; split at h <;> first | contradiction | (rename_i hq; cases hq; exact ⟨_, _, rfl, h⟩)
theorem iv_not {a : E} {x : Expr} (h : ckE T N sc (.not a) x = true) : ∃ x1 p, x = .UnaryOp .Not x1 p ∧ ckE T N sc a x1 = true := by
  unfold ckE at h; split at h <;> first | contradiction | (rename_i hq; cases hq; exact ⟨_, _, rfl, h⟩)
theorem iv_cmp {op : Cm} {a b : E} {x : Expr} (h : ckE T N sc (.cmp op a b) x = true) : ∃ x1 o y p, x = .Compare x1 [o] [y] p ∧ (cmB op o && (noSet y && (ckE T N sc a x1 && ckE T N sc b y))) = true := by
  unfold ckE at h; split at h <;> first | contradiction | (rename_i hq; cases hq; exact ⟨_, _, _, _, rfl, h⟩)
theorem iv_chain {o1 o2 : Cm} {a b c : E} {x : Expr} (h : ckE T N sc (.chain o1 o2 a b c) x = true) : ∃ x1 p1 p2 y z p, x = .Compare x1 [p1, p2] [y, z] p ∧ (cmB o1 p1 && (cmB o2 p2 && (noSet y && (noSet z && (ckE T N sc a x1 && (ckE T N sc b y && ckE T N sc c z)))))) = true := by
  unfold ckE at h; split at h <;> first | contradiction | (rename_i hq; cases hq; exact ⟨_, _, _, _, _, _, rfl, h⟩)
/-- the rest of an and, an or -/
def restB (k : E → Expr → Bool) (op : BoolOp) (b : E) (y : Expr) (rest : List Expr) (p : Pos) : Bool := match rest with
  | [] => k b y
  | _ => k b (.BoolOp op (y :: rest) p)
theorem iv_and {a b : E} {x : Expr} (h : ckE T N sc (.and a b) x = true) : ∃ x1 y rest p, x = .BoolOp .And (x1 :: y :: rest) p ∧ (ckE T N sc a x1 && restB (ckE T N sc) .And b y rest p) = true := by
  unfold ckE at h; split at h <;> first | contradiction | (rename_i hq; cases hq; exact ⟨_, _, _, _, rfl, h⟩)
theorem iv_or {a b : E} {x : Expr} (h : ckE T N sc (.or a b) x = true) : ∃ x1 y rest p, x = .BoolOp .Or (x1 :: y :: rest) p ∧ (ckE T N sc a x1 && restB (ckE T N sc) .Or b y rest p) = true := by
  unfold ckE at h; split at h <;> first | contradiction | (rename_i hq; cases hq; exact ⟨_, _, _, _, rfl, h⟩)
theorem iv_ife {t : Bn.T} {a b : E} {x : Expr} (h : ckE T N sc (.ife t a b) x = true) : ∃ c x1 y p, x = .IfExp c x1 y p ∧ (ckT T N sc t c && (ckE T N sc a x1 && ckE T N sc b y)) = true := by
  unfold ckE at h; split at h <;> first | contradiction | (rename_i hq; cases hq; exact ⟨_, _, _, _, rfl, h⟩)
theorem iv_ix {a b : E} {x : Expr} (h : ckE T N sc (.ix a b) x = true) : ∃ x1 y p, x = .Subscript x1 y p ∧ (noSlice y && (ckE T N sc a x1 && ckE T N sc b y)) = true := by
  unfold ckE at h; split at h <;> first | contradiction | (rename_i hq; cases hq; exact ⟨_, _, _, rfl, h⟩)
def endB (k : E → Expr → Bool) (lo : E) (l : Option Expr) : Bool := match lo, l with
  | .cst .non, none => true
  | lo, some y => k lo y
  | _, none => false
theorem iv_slc {a lo hi : E} {x : Expr} (h : ckE T N sc (.slc a lo hi) x = true) : ∃ x1 l u p2 p, x = .Subscript x1 (.Slice l u none p2) p ∧ (ckE T N sc a x1 && (endB (ckE T N sc) lo l && endB (ckE T N sc) hi u)) = true := by
  unfold ckE at h; split at h <;> first | contradiction | (rename_i hq; cases hq; exact ⟨_, _, _, _, _, rfl, h⟩)
theorem iv_tup {es : Es} {x : Expr} (h : ckE T N sc (.tup es) x = true) : ∃ xs j p, x = .Tuple xs j p ∧ ckEs T N sc es xs = true := by
  unfold ckE at h; split at h <;> first | contradiction | (rename_i hq; cases hq; exact ⟨_, _, _, rfl, h⟩)
theorem iv_lst {es : Es} {x : Expr} (h : ckE T N sc (.lst es) x = true) : ∃ xs p, x = .List xs p ∧ ckEs T N sc es xs = true := by
  unfold ckE at h; split at h <;> first | contradiction | (rename_i hq; cases hq; exact ⟨_, _, rfl, h⟩)
theorem iv_call {f : String} {es : Es} {x : Expr} (h : ckE T N sc (.call f es) x = true) : ∃ y p1 xs p, x = .Call (.Name y p1) xs [] p ∧ ((T.fn f).isSome && (decide (Str.ofString f = y) && (glB sc y && ckEs T N sc es xs))) = true := by
  unfold ckE at h; split at h <;> first | contradiction | (rename_i hq; cases hq; exact ⟨_, _, _, _, rfl, h⟩)
theorem iv_bi {f : Bi} {es : Es} {x : Expr} (h : ckE T N sc (.bi f es) x = true) : ∃ z p1 y ys p, x = .Call (.Name z p1) (y :: ys) [] p ∧ (biOk f && (decide (biN f = z) && (glB sc z && ckEs T N sc es (y :: ys)))) = true := by
  cases es with
  | nil => exact absurd h Bool.false_ne_true
  | cons e es => unfold ckE at h; split at h <;> first | contradiction | (rename_i hq; cases hq; exact ⟨_, _, _, _, _, rfl, h⟩)
theorem iv_bm {m : Bm} {a : E} {es : Es} {x : Expr} (h : ckE T N sc (.bm m a es) x = true) : ∃ o z ap y ys p, x = .Call (.Attribute o z ap) (y :: ys) [] p ∧ (bmOk m && (decide (bmN m = z) && (noBase o && ((ap.endLine == p.line) && (decide (ys.length < 20) && (ckE T N sc a o && ckEs T N sc es (y :: ys))))))) = true := by
  cases es with
  | nil => exact absurd h Bool.false_ne_true
  | cons e es => unfold ckE at h; split at h <;> first | contradiction | (rename_i hq; cases hq; exact ⟨_, _, _, _, _, _, rfl, h⟩)
def testsB (k : Bn.T → Expr → Bool) (t : Bn.T) (ifs : List Expr) : Bool := match t, ifs with
  | .tt, [] => true
  | .tt, _ => false
  | t, [c] => k t c
  | _, _ => false
theorem iv_lc {elt : E} {tg : Tg} {it : Bn.It} {t : Bn.T} {own : List Nat} {x : Expr} (h : ckE T N sc (.lc elt tg it t own) x = true) : ∃ x1 g i ifs scope p, x = .ListComp x1 [⟨g, i, ifs, 0⟩] scope p ∧
    (blkC N sc scope (ownP N own) && (decide ((ownP N own).map (·.2) = own) && ((tgIds tg).all (fun i => decide (i ∈ own)) && (enumOk it g && (noSet i && (ckI T N sc it i && (ckTg T N (relS scope sc) scope tg g && (testsB (ckT T N (relS scope sc)) t ifs && ckE T N (relS scope sc) elt x1)))))))) = true := by
  unfold ckE at h; split at h <;> first | contradiction | (rename_i hq; cases hq; exact ⟨_, _, _, _, _, _, rfl, h⟩)
theorem iv_es {e : E} {es : Es} {xs : List Expr} (h : ckEs T N sc (.cons e es) xs = true) : ∃ y ys, xs = y :: ys ∧ (noStar1 y && (ckE T N sc e y && ckEs T N sc es ys)) = true := by
  cases xs with
  | nil => exact absurd h Bool.false_ne_true
  | cons y ys => exact ⟨y, ys, rfl, h⟩
theorem it_val {e : E} {x : Expr} (h : ckT T N sc (.val e) x = true) : (plainT x && ckE T N sc e x) = true := h
theorem it_not {t : Bn.T} {x : Expr} (h : ckT T N sc (.not t) x = true) : ∃ y p, x = .UnaryOp .Not y p ∧ ckT T N sc t y = true := by
  unfold ckT at h; split at h <;> first | contradiction | (rename_i hq; cases hq; exact ⟨_, _, rfl, h⟩)
def restT (k : Bn.T → Expr → Bool) (op : BoolOp) (b : Bn.T) (y : Expr) (rest : List Expr) (p : Pos) : Bool := match rest with
  | [] => k b y
  | _ => k b (.BoolOp op (y :: rest) p)
theorem it_and {a b : Bn.T} {x : Expr} (h : ckT T N sc (.and a b) x = true) : ∃ x1 y rest p, x = .BoolOp .And (x1 :: y :: rest) p ∧ (ckT T N sc a x1 && restT (ckT T N sc) .And b y rest p) = true := by
  unfold ckT at h; split at h <;> first | contradiction | (rename_i hq; cases hq; exact ⟨_, _, _, _, rfl, h⟩)
theorem it_or {a b : Bn.T} {x : Expr} (h : ckT T N sc (.or a b) x = true) : ∃ x1 y rest p, x = .BoolOp .Or (x1 :: y :: rest) p ∧ (ckT T N sc a x1 && restT (ckT T N sc) .Or b y rest p) = true := by
  unfold ckT at h; split at h <;> first | contradiction | (rename_i hq; cases hq; exact ⟨_, _, _, _, rfl, h⟩)
theorem it_cmp {op : Cm} {a b : E} {x : Expr} (h : ckT T N sc (.cmp op a b) x = true) : ∃ x1 o y p, x = .Compare x1 [o] [y] p ∧ (cmB op o && (noSet y && (ckE T N sc a x1 && ckE T N sc b y))) = true := by
  unfold ckT at h; split at h <;> first | contradiction | (rename_i hq; cases hq; exact ⟨_, _, _, _, rfl, h⟩)
theorem it_chain {o1 o2 : Cm} {a b c : E} {x : Expr} (h : ckT T N sc (.chain o1 o2 a b c) x = true) : ∃ x1 p1 p2 y z p, x = .Compare x1 [p1, p2] [y, z] p ∧ (cmB o1 p1 && (cmB o2 p2 && (noSet y && (noSet z && (ckE T N sc a x1 && (ckE T N sc b y && ckE T N sc c z)))))) = true := by
  unfold ckT at h; split at h <;> first | contradiction | (rename_i hq; cases hq; exact ⟨_, _, _, _, _, _, rfl, h⟩)
variable {raw : Scope}
theorem ig_nm {i : Nat} {x : Expr} (h : ckTg T N sc raw (.nm i) x = true) : ∃ y p, x = .Name y p ∧ (decide (N[i]? = some y) && locB raw y) = true := by
  unfold ckTg at h; split at h <;> first | contradiction | (rename_i hq; cases hq; exact ⟨_, _, rfl, h⟩)
theorem ig_tup {ts : Tgs} {x : Expr} (h : ckTg T N sc raw (.tup ts) x = true) : ∃ xs j p, x = .Tuple xs j p ∧ ckTgs T N sc raw ts xs = true := by
  unfold ckTg at h; split at h <;> first | contradiction | (rename_i hq; cases hq; exact ⟨_, _, _, rfl, h⟩)
theorem ig_sub {o i : E} {x : Expr} (h : ckTg T N sc raw (.sub o i) x = true) : ∃ x1 y p, x = .Subscript x1 y p ∧ (noSlice y && (ckE T N sc o x1 && ckE T N sc i y)) = true := by
  unfold ckTg at h; split at h <;> first | contradiction | (rename_i hq; cases hq; exact ⟨_, _, _, rfl, h⟩)
theorem ig_fld {o : E} {f : String} {x : Expr} (h : ckTg T N sc raw (.fld o f) x = true) : False := absurd h Bool.false_ne_true
theorem ii_rng1 {a : E} {x : Expr} (h : ckI T N sc (.rng1 a) x = true) : ∃ z p1 y p, x = .Call (.Name z p1) [y] [] p ∧ (decide (z = ("range" : Str)) && (glB sc z && (noStar1 y && ckE T N sc a y))) = true := by
  unfold ckI at h; split at h <;> first | contradiction | (rename_i hq; cases hq; exact ⟨_, _, _, _, rfl, h⟩)
theorem ii_rng2 {a b : E} {x : Expr} (h : ckI T N sc (.rng2 a b) x = true) : ∃ z p1 y y2 p, x = .Call (.Name z p1) [y, y2] [] p ∧ (decide (z = ("range" : Str)) && (glB sc z && (noStar1 y && (noStar1 y2 && (ckE T N sc a y && ckE T N sc b y2))))) = true := by
  unfold ckI at h; split at h <;> first | contradiction | (rename_i hq; cases hq; exact ⟨_, _, _, _, _, rfl, h⟩)
theorem ii_enum {a : E} {x : Expr} (h : ckI T N sc (.enum a) x = true) : ∃ z p1 y p, x = .Call (.Name z p1) [y] [] p ∧ (decide (z = ("enumerate" : Str)) && (glB sc z && (noStar1 y && ckE T N sc a y))) = true := by
  unfold ckI at h; split at h <;> first | contradiction | (rename_i hq; cases hq; exact ⟨_, _, _, _, rfl, h⟩)
theorem ii_seq {a : E} {x : Expr} (h : ckI T N sc (.seq a) x = true) : ckE T N sc a x = true := h
theorem iv_isi {a : E} {tys : List String} {x : Expr} (h : ckE T N sc (.isi a tys) x = true) : ∃ t z p y w q p2, tys = [t] ∧ x = .Call (.Name z p) [y, .Name w q] [] p2 ∧ (decide (z = ("isinstance" : Str)) && (glB sc z && (decide (Str.ofString t = w) && (glB sc w && (tyOk t && (noStar1 y && ckE T N sc a y)))))) = true := by
  cases tys with
  | nil => exact absurd h Bool.false_ne_true
  | cons t r =>
    cases r with
    | cons => exact absurd h Bool.false_ne_true
    | nil => unfold ckE at h; split at h <;> first | contradiction | (rename_i hq; cases hq; exact ⟨_, _, _, _, _, _, _, rfl, rfl, h⟩)
theorem iv_dct {es : Es} {x : Expr} (h : ckE T N sc (.dct es) x = true) : ∃ ks vs p, x = .Dict ks vs p ∧ (decide (ks.length ≤ 15) && ckPs T N sc es ks vs) = true := by
  unfold ckE at h; split at h <;> first | contradiction | (rename_i hq; cases hq; exact ⟨_, _, _, rfl, h⟩)
theorem iv_callK {f : String} {es ks : Es} {kn : List String} {x : Expr} (h : ckE T N sc (.callK f es kn ks) x = true) : ∃ y p1 xs kws p, x = .Call (.Name y p1) xs kws p ∧ (((T.fn f).isSome && (T.kw f xs.length kn).isSome) && (decide (Str.ofString f = y) && (glB sc y && ((match kws with | [] => false | _ => true) && (ckEs T N sc es xs && ckKs T N sc kn ks kws))))) = true := by
  unfold ckE at h; split at h <;> first | contradiction | (rename_i hq; cases hq; exact ⟨_, _, _, _, _, rfl, h⟩)
theorem ckPs_facts : ∀ {es : Es} {ks : List (Option Expr)} {vs : List Expr}, ckPs T N sc es ks vs = true → evenEs es ∧ ks.all (·.isSome) = true ∧ ks.length = vs.length ∧ (ks = [] → es = .nil)
  | .nil, [], [], _ => ⟨True.intro, rfl, rfl, fun _ => rfl⟩
  | .nil, [], _ :: _, h => absurd h Bool.false_ne_true
  | .nil, _ :: _, _, h => absurd h Bool.false_ne_true
  | .cons _ .nil, _, _, h => absurd h Bool.false_ne_true
  | .cons _ (.cons _ _), [], _, h => absurd h Bool.false_ne_true
  | .cons _ (.cons _ _), none :: _, _, h => absurd h Bool.false_ne_true
  | .cons _ (.cons _ _), some _ :: _, [], h => absurd h Bool.false_ne_true
  | .cons k (.cons v r), some x :: ks, y :: vs, h => by
    obtain ⟨h1, h2⟩ := and2 (show (ckE T N sc k x && (ckE T N sc v y && ckPs T N sc r ks vs)) = true from h)
    obtain ⟨a, b, c, _⟩ := ckPs_facts (and2 h2).2
    exact ⟨a, by simpa using b, by simp [c], fun e => by simp at e⟩
theorem ckKs_args : ∀ {kn : List String} {es : Es} {kws : List Keyword}, ckKs T N sc kn es kws = true → kws.map (·.arg) = kn.map (fun n => some (Str.ofString n))
  | [], .nil, [], _ => rfl
  | [], .nil, _ :: _, h => absurd h Bool.false_ne_true
  | [], .cons _ _, _, h => absurd h Bool.false_ne_true
  | _ :: _, .nil, _, h => absurd h Bool.false_ne_true
  | _ :: _, .cons _ _, [], h => absurd h Bool.false_ne_true
  | n :: kn, .cons e es, ⟨nm, x, p⟩ :: kws, h => by
    obtain ⟨h1, h2⟩ := and2 (show (decide (nm = some (Str.ofString n)) && (ckE T N sc e x && ckKs T N sc kn es kws)) = true from h)
    have := of_decide_eq_true h1
    simp [this, ckKs_args (and2 h2).2]
end
end Bn
end

section
/-! Bn.L: every expression of this form keeps what is asked. -/
namespace Bn
open PySem PySem.Spec PyProof.Rows L2

section
variable {T : Tb} {cl : ClsT} {n : Nat} {N : List Str}
theorem stores_blk {X : Cx} {s : Shared} {H : Hp} {scope : Scope} {c : List (Str × Addr)} {C : Addr} {fp : List Addr} : Stores (X.blk s H scope (compEnvC scope c C X.env) fp) scope := by
  intro x h
  rcases loc_of h with e | e
  · exact ⟨.inl (lookup_relS_keep (by decide) e), .inr (lookup_relS_keep (by decide) e)⟩
  · exact ⟨.inr (lookup_relS_keep (by decide) e), .inl (by show (scope.names.lookup x == some .cell) = true; rw [e]; rfl)⟩
theorem starsG_of {sc raw : Scope} : ∀ {ts : Tgs} {es : List Expr}, ckTgs T N sc raw ts es = true → starsG ts es
  | .nil, [], _ => rfl
  | .nil, _ :: _, h => absurd h Bool.false_ne_true
  | .cons _ _, [], h => absurd h Bool.false_ne_true
  | .cons t ts, x :: xs, h => by
    obtain ⟨h1, h2⟩ := and2 (show (noStar1 x && (ckTg T N sc raw t x && ckTgs T N sc raw ts xs)) = true from h)
    exact ⟨x, xs, rfl, h1, starsG_of (and2 h2).2⟩
theorem es_nil {sc : Scope} : ∀ {es : Es}, ckEs T N sc es [] = true → es = .nil
  | .nil, _ => rfl
  | .cons _ _, h => absurd h Bool.false_ne_true

theorem _root_.L2.PK.imp {X : Cx} {e : List Keyword} {t t' : TA} (h : PK X e t) (i : ∀ σ H Q, t' σ H Q → t σ H Q) : PK X e t' := ⟨fun pos pins s σ H Q I w => h.run pos pins s σ H Q I (i σ H Q w)⟩
theorem k_nil {X : Cx} {W : WX} : PK X [] (tEs' X T cl n W .nil) := PK.imp pk_nil fun σ H Q ⟨ι, h, δ, Q0, R0, r, sr, w, k⟩ => k.now (a := ([] : List D)) r w rfl
theorem k_cons {X : Cx} {W : WX} {e : E} {es : Es} {x : Expr} {nm : Option Str} {p : Pos} {kws : List Keyword} (ha : PE X x (tE' X T cl n W e)) (hb : PK X kws (tEs' X T cl n W es)) : PK X (⟨nm, x, p⟩ :: kws) (tEs' X T cl n W (.cons e es)) := by
  refine PK.imp (pk_cons ha hb) fun σ H Q ⟨ι, h, δ, Q0, R0, r, sr, w, k⟩ => ?_
  refine ⟨ι, h, δ, _, R0, r, sr, w, k.to fun d h1 ι1 H1 v q e r1 rx k1 => ?_⟩
  refine ⟨ι1, h1, δ, _, R0, r1, sr.mono e, q, k1.to fun ds h2 ι2 H2 vs q2 e2 r2 rs k2 => ?_⟩
  exact k2.now (a := d :: ds) r2 q2 (.cons (rx.mono e2) rs)
theorem testsB_inv {k : Bn.T → Expr → Bool} {t : Bn.T} {ifs : List Expr} (h : testsB k t ifs = true) : (t = .tt ∧ ifs = []) ∨ ∃ y, ifs = [y] ∧ k t y = true := by
  unfold testsB at h
  split at h
  · exact .inl ⟨rfl, rfl⟩
  · cases h
  · exact .inr ⟨_, rfl, h⟩
  · cases h
theorem endB_inv {k : E → Expr → Bool} {lo : E} {l : Option Expr} (h : endB k lo l = true) : (lo = .cst .non ∧ l = none) ∨ ∃ y, l = some y ∧ k lo y = true := by
  unfold endB at h
  split at h
  · exact .inl ⟨rfl, rfl⟩
  · exact .inr ⟨_, rfl, h⟩
  · cases h
mutual
theorem sE {X : Cx} {W : WX} {sc : Scope} (G : Good X T cl n W) (eN : X.N = N) (es : X.env.scope = sc) : ∀ (e : E) (x : Expr), ckE T N sc e x = true → PE X x (tE' X T cl n W e)
  | .loc i, x, h => by
    obtain ⟨y, p, rfl, hh⟩ := iv_loc h
    have h := hh
    exact s_loc eN es h
  | .cst d, x, h => by
    obtain ⟨y, k, p, rfl, hh⟩ := iv_cst h
    have h := hh
    exact s_cst h
  | .glob g, x, h => by
    obtain ⟨y, p, rfl, hh⟩ := iv_glob h
    have h := hh
    exact s_glob G es (and2 h).2 (and2 h).1
  | .bin op a b, x, h => by
    obtain ⟨x1, o, y, p, rfl, hh⟩ := iv_bin h
    have h := hh
    obtain ⟨h1, h⟩ := and2 h
    obtain ⟨h2, h3⟩ := and2 h
    exact s_bin h1 (sE G eN es a x1 h2) (sE G eN es b y h3)
  | .neg a, x, h => by
    obtain ⟨x1, p, rfl, hh⟩ := iv_neg h
    have h := hh
    exact s_neg (sE G eN es a x1 h)
  | .not a, x, h => by
    obtain ⟨x1, p, rfl, hh⟩ := iv_not h
    have h := hh
    exact s_not (sE G eN es a x1 h)
  | .cmp op a b, x, h => by
    obtain ⟨x1, o, y, p, rfl, hh⟩ := iv_cmp h
    have h := hh
    obtain ⟨h1, h⟩ := and2 h
    obtain ⟨h2, h⟩ := and2 h
    obtain ⟨h3, h4⟩ := and2 h
    exact s_cmp G h1 h2 (sE G eN es a x1 h3) (sE G eN es b y h4)
  | .chain o1 o2 a b c, x, h => by
    obtain ⟨x1, p1, p2, y, z, p, rfl, hh⟩ := iv_chain h
    have h := hh
    obtain ⟨h1, h⟩ := and2 h
    obtain ⟨h2, h⟩ := and2 h
    obtain ⟨h3, h⟩ := and2 h
    obtain ⟨h4, h⟩ := and2 h
    obtain ⟨h5, h⟩ := and2 h
    obtain ⟨h6, h7⟩ := and2 h
    exact s_chain G h1 h2 h4 (sE G eN es a x1 h5) (sE G eN es b y h6) (sE G eN es c z h7)
  | .and a b, x, h => by
    obtain ⟨x1, y, rest, p, rfl, hh⟩ := iv_and h
    have h := hh
    obtain ⟨h1, h2⟩ := and2 h
    refine s_and (sE G eN es a x1 h1) ?_
    cases rest with
    | nil => exact pe_one (sE G eN es b y h2)
    | cons z zs => exact sE G eN es b _ h2
  | .or a b, x, h => by
    obtain ⟨x1, y, rest, p, rfl, hh⟩ := iv_or h
    have h := hh
    obtain ⟨h1, h2⟩ := and2 h
    refine s_or (sE G eN es a x1 h1) ?_
    cases rest with
    | nil => exact pe_one (sE G eN es b y h2)
    | cons z zs => exact sE G eN es b _ h2
  | .ife t a b, x, h => by
    obtain ⟨c, x1, y, p, rfl, hh⟩ := iv_ife h
    have h := hh
    obtain ⟨h1, h⟩ := and2 h
    obtain ⟨h2, h3⟩ := and2 h
    exact s_ife (sT G eN es t c h1) (sE G eN es a x1 h2) (sE G eN es b y h3)
  | .fld a f, x, h => absurd h Bool.false_ne_true
  | .ix a b, x, h => by
    obtain ⟨x1, y, p, rfl, hh⟩ := iv_ix h
    have h := hh
    obtain ⟨h1, h⟩ := and2 h
    obtain ⟨h2, h3⟩ := and2 h
    exact s_ix G h1 (sE G eN es a x1 h2) (sE G eN es b y h3)
  | .slc a lo hi, x, h => by
    obtain ⟨x1, l, u, p2, p, rfl, g⟩ := iv_slc h
    obtain ⟨h1, h⟩ := and2 g
    obtain ⟨h2, h3⟩ := and2 h
    refine s_slc (sE G eN es a x1 h1) ?_ ?_
    · rcases endB_inv h2 with ⟨rfl, rfl⟩ | ⟨y, rfl, g2⟩
      · exact po_no
      · exact po_val (sE G eN es lo y g2)
    · rcases endB_inv h3 with ⟨rfl, rfl⟩ | ⟨y, rfl, g3⟩
      · exact po_no
      · exact po_val (sE G eN es hi y g3)
  | .tup xs, x, h => by
    obtain ⟨ys, j, p, rfl, hh⟩ := iv_tup h
    have h := hh
    exact s_tup (sEs G eN es xs ys h)
  | .lst xs, x, h => by
    obtain ⟨ys, p, rfl, hh⟩ := iv_lst h
    have h := hh
    exact s_lst (sEs G eN es xs ys h)
  | .dct xs, x, h => by
    obtain ⟨ks, vs, p, rfl, hh⟩ := iv_dct h
    obtain ⟨h1, h2⟩ := and2 hh
    obtain ⟨a, b, c, d⟩ := ckPs_facts h2
    exact s_dct (sPs G eN es p xs ks vs h2) a b c (of_decide_eq_true h1) d
  | .call f xs, x, h => by
    obtain ⟨y, p1, ys, p, rfl, hh⟩ := iv_call h
    have h := hh
    obtain ⟨h1, h⟩ := and2 h
    obtain ⟨h2, h⟩ := and2 h
    obtain ⟨h3, h4⟩ := and2 h
    obtain ⟨g1, g2⟩ := gl_of es h3
    exact s_call G h1 h2 g1 g2 (starsE h4) (fun e => es_nil (by rw [e] at h4; exact h4)) (sEs G eN es xs ys h4)
  | .callK f xs kn ks, x, h => by
    obtain ⟨y, p1, ys, kws, p, rfl, hh⟩ := iv_callK h
    have h := hh
    obtain ⟨h0, h⟩ := and2 h
    obtain ⟨h2, h⟩ := and2 h
    obtain ⟨h3, h⟩ := and2 h
    obtain ⟨_, h⟩ := and2 h
    obtain ⟨h4, h5⟩ := and2 h
    obtain ⟨g1, g2⟩ := gl_of es h3
    exact s_callK G (and2 h0).1 h2 g1 g2 (starsE h4) (fun e => es_nil (by rw [e] at h4; exact h4)) (ckKs_args h5) (sEs G eN es xs ys h4) (sKs G eN es ks kn kws h5)
  | .bi f xs, x, h => by
    obtain ⟨z, p1, y, ys, p, rfl, g⟩ := iv_bi h
    obtain ⟨h1, h⟩ := and2 g
    obtain ⟨h2, h⟩ := and2 h
    obtain ⟨h3, h4⟩ := and2 h
    exact s_bi G h1 h2 (gl_of es h3).1 (starsE h4) (sEs G eN es xs (y :: ys) h4)
  | .bm m a xs, x, h => by
    obtain ⟨o, z, ap, y, ys, p, rfl, g⟩ := iv_bm h
    obtain ⟨h1, h⟩ := and2 g
    obtain ⟨h2, h⟩ := and2 h
    obtain ⟨h3, h⟩ := and2 h
    obtain ⟨h4, h⟩ := and2 h
    obtain ⟨h5, h⟩ := and2 h
    obtain ⟨h6, h7⟩ := and2 h
    exact s_bm G h1 h2 h3 h4 h5 (starsE h7) (sE G eN es a o h6) (sEs G eN es xs (y :: ys) h7)
  | .lc elt tg it t own, x, h => by
    obtain ⟨x1, g, i, ifs, scope, p, rfl, hh⟩ := iv_lc h
    have h := hh
    obtain ⟨h1, h⟩ := and2 h
    obtain ⟨h2, h⟩ := and2 h
    obtain ⟨h3, h⟩ := and2 h
    obtain ⟨h4, h⟩ := and2 h
    obtain ⟨h5, h⟩ := and2 h
    obtain ⟨h6, h⟩ := and2 h
    obtain ⟨h7, h⟩ := and2 h
    obtain ⟨h8, h9⟩ := and2 h
    subst es
    refine PE.imp (pe_lc G.calm G.nd (sI G eN rfl it g i h4 h6) (by rw [eN]; exact blkOk_by h1) (fun s H C c fp => sTg (G.blk s H scope C c fp) eN rfl stores_blk tg g h7)
      (fun s H C c fp => ?_) (fun s H C c fp => sE (G.blk s H scope C c fp) eN rfl elt x1 h9) (folded_of h5)) (lc_sem (W := W) (elt := elt) (t := t) (of_decide_eq_true h2) fun j hj => of_decide_eq_true (List.all_eq_true.mp h3 j hj))
    rcases testsB_inv h8 with ⟨rfl, rfl⟩ | ⟨y, rfl, g8⟩
    · exact t_tt
    · exact pts_one (sT (G.blk s H scope C c fp) eN rfl t _ g8)
  | .isi a tys, x, h => by
    obtain ⟨t, z, p, y, w, q, p2, rfl, rfl, hh⟩ := iv_isi h
    have h := hh
    obtain ⟨h1, h⟩ := and2 h
    obtain ⟨h2, h⟩ := and2 h
    obtain ⟨h3, h⟩ := and2 h
    obtain ⟨h4, h⟩ := and2 h
    obtain ⟨h5, h⟩ := and2 h
    obtain ⟨h6, h7⟩ := and2 h
    cases of_decide_eq_true h1
    cases of_decide_eq_true h3
    obtain ⟨g1, g2⟩ := gl_of es h4
    exact s_isi G (gl_of es h2).1 g1 g2 h5 h6 (sE G eN es a y h7)
termination_by structural e => e
theorem sEs {X : Cx} {W : WX} {sc : Scope} (G : Good X T cl n W) (eN : X.N = N) (es : X.env.scope = sc) : ∀ (e : Es) (x : List Expr), ckEs T N sc e x = true → PA X x (tEs' X T cl n W e)
  | .nil, [], h => s_nil
  | .nil, _ :: _, h => absurd h Bool.false_ne_true
  | .cons e r, x, h => by
    obtain ⟨y, ys, rfl, hh⟩ := iv_es h
    have h := hh
    obtain ⟨h1, h⟩ := and2 h
    obtain ⟨h2, h3⟩ := and2 h
    exact s_cons h1 (sE G eN es e y h2) (sEs G eN es r ys h3)
termination_by structural e => e
theorem sPs {X : Cx} {W : WX} {sc : Scope} (G : Good X T cl n W) (eN : X.N = N) (es : X.env.scope = sc) (p : Pos) : ∀ (e : Es) (ks : List (Option Expr)) (vs : List Expr), ckPs T N sc e ks vs = true → PPs X p ks vs (trsOf X T cl n W e)
  | .nil, [], [], h => pps_nil
  | .nil, [], _ :: _, h => absurd h Bool.false_ne_true
  | .nil, _ :: _, _, h => absurd h Bool.false_ne_true
  | .cons _ .nil, _, _, h => absurd h Bool.false_ne_true
  | .cons _ (.cons _ _), [], _, h => absurd h Bool.false_ne_true
  | .cons _ (.cons _ _), none :: _, _, h => absurd h Bool.false_ne_true
  | .cons _ (.cons _ _), some _ :: _, [], h => absurd h Bool.false_ne_true
  | .cons k (.cons v r), some x :: ks, y :: vs, h => by
    obtain ⟨h1, h2⟩ := and2 (show (ckE T N sc k x && (ckE T N sc v y && ckPs T N sc r ks vs)) = true from h)
    obtain ⟨h2, h3⟩ := and2 h2
    exact pps_cons (sE G eN es k x h1) (sE G eN es v y h2) (sPs G eN es p r ks vs h3)
termination_by structural e => e
theorem sKs {X : Cx} {W : WX} {sc : Scope} (G : Good X T cl n W) (eN : X.N = N) (es : X.env.scope = sc) : ∀ (e : Es) (kn : List String) (kws : List Keyword), ckKs T N sc kn e kws = true → PK X kws (tEs' X T cl n W e)
  | .nil, [], [], h => k_nil
  | .nil, [], _ :: _, h => absurd h Bool.false_ne_true
  | .nil, _ :: _, _, h => absurd h Bool.false_ne_true
  | .cons _ _, [], _, h => absurd h Bool.false_ne_true
  | .cons _ _, _ :: _, [], h => absurd h Bool.false_ne_true
  | .cons e r, n :: kn, ⟨nm, x, p⟩ :: kws, h => by
    obtain ⟨h1, h2⟩ := and2 (show (decide (nm = some (Str.ofString n)) && (ckE T N sc e x && ckKs T N sc kn r kws)) = true from h)
    obtain ⟨h2, h3⟩ := and2 h2
    exact k_cons (sE G eN es e x h2) (sKs G eN es r kn kws h3)
termination_by structural e => e
theorem sT {X : Cx} {W : WX} {sc : Scope} (G : Good X T cl n W) (eN : X.N = N) (es : X.env.scope = sc) : ∀ (e : Bn.T) (x : Expr), ckT T N sc e x = true → PT X x (tT' X T cl n W e)
  | .tt, x, h => absurd h Bool.false_ne_true
  | .val e, x, h => by
    obtain ⟨h1, h2⟩ := and2 (it_val h)
    exact t_val h1 (sE G eN es e x h2)
  | .not t, x, h => by
    obtain ⟨y, p, rfl, hh⟩ := it_not h
    have h := hh
    exact t_not (sT G eN es t y h)
  | .and a b, x, h => by
    obtain ⟨x1, y, rest, p, rfl, hh⟩ := it_and h
    have h := hh
    obtain ⟨h1, h2⟩ := and2 h
    cases rest with
    | nil => exact (pw_and' (sT G eN es a x1 h1) (pw_and1 (sT G eN es b y h2))).pt
    | cons z zs => exact (pw_and' (sT G eN es a x1 h1) (sW G eN es b .And y z zs p h2)).pt
  | .or a b, x, h => by
    obtain ⟨x1, y, rest, p, rfl, hh⟩ := it_or h
    have h := hh
    obtain ⟨h1, h2⟩ := and2 h
    cases rest with
    | nil => exact (pw_or' (sT G eN es a x1 h1) (pw_or1 (sT G eN es b y h2))).pt
    | cons z zs => exact (pw_or' (sT G eN es a x1 h1) (sW G eN es b .Or y z zs p h2)).pt
  | .cmp op a b, x, h => by
    obtain ⟨x1, o, y, p, rfl, hh⟩ := it_cmp h
    have h := hh
    obtain ⟨h1, h⟩ := and2 h
    obtain ⟨h2, h⟩ := and2 h
    obtain ⟨h3, h4⟩ := and2 h
    exact t_cmp G h1 h2 (sE G eN es a x1 h3) (sE G eN es b y h4)
  | .chain o1 o2 a b c, x, h => by
    obtain ⟨x1, p1, p2, y, z, p, rfl, hh⟩ := it_chain h
    have h := hh
    obtain ⟨h1, h⟩ := and2 h
    obtain ⟨h2, h⟩ := and2 h
    obtain ⟨h3, h⟩ := and2 h
    obtain ⟨h4, h⟩ := and2 h
    obtain ⟨h5, h⟩ := and2 h
    obtain ⟨h6, h7⟩ := and2 h
    exact t_chain G h1 h2 h4 (sE G eN es a x1 h5) (sE G eN es b y h6) (sE G eN es c z h7)
termination_by structural e => e
theorem sW {X : Cx} {W : WX} {sc : Scope} (G : Good X T cl n W) (eN : X.N = N) (es : X.env.scope = sc) : ∀ (b : Bn.T) (op : BoolOp) (y z : Expr) (zs : List Expr) (p : Pos), ckT T N sc b (.BoolOp op (y :: z :: zs) p) = true → PW X (.BoolOp op (y :: z :: zs) p) (tT' X T cl n W b)
  | .tt, _, y, z, zs, p, h => absurd h Bool.false_ne_true
  | .val e, _, y, z, zs, p, h => absurd (and2 (it_val (show ckT T N sc (.val e) _ = true from h))).1 Bool.false_ne_true
  | .not t, _, y, z, zs, p, h => by
    obtain ⟨_, _, q, _⟩ := it_not (show ckT T N sc (.not t) _ = true from h)
    cases q
  | .and a b, op, y, z, zs, p, h => by
    obtain ⟨x1, y', rest, p', q, h⟩ := it_and (show ckT T N sc (.and a b) _ = true from h)
    cases q
    obtain ⟨h1, h2⟩ := and2 h
    cases zs with
    | nil => exact pw_and' (sT G eN es a _ h1) (pw_and1 (sT G eN es b _ h2))
    | cons z zs => exact pw_and' (sT G eN es a _ h1) (sW G eN es b .And _ _ _ _ h2)
  | .or a b, op, y, z, zs, p, h => by
    obtain ⟨x1, y', rest, p', q, h⟩ := it_or (show ckT T N sc (.or a b) _ = true from h)
    cases q
    obtain ⟨h1, h2⟩ := and2 h
    cases zs with
    | nil => exact pw_or' (sT G eN es a _ h1) (pw_or1 (sT G eN es b _ h2))
    | cons z zs => exact pw_or' (sT G eN es a _ h1) (sW G eN es b .Or _ _ _ _ h2)
  | .cmp _ _ _, _, y, z, zs, p, h => by
    obtain ⟨_, _, _, _, q, _⟩ := it_cmp (show ckT T N sc (.cmp _ _ _) _ = true from h)
    cases q
  | .chain _ _ _ _ _, _, y, z, zs, p, h => by
    obtain ⟨_, _, _, _, _, _, q, _⟩ := it_chain (show ckT T N sc (.chain _ _ _ _ _) _ = true from h)
    cases q
termination_by structural e => e
theorem sTg {X : Cx} {W : WX} {sc raw : Scope} (G : Good X T cl n W) (eN : X.N = N) (es : X.env.scope = sc) (hs : Stores X raw) : ∀ (t : Tg) (x : Expr), ckTg T N sc raw t x = true → PG X x (tG X.K T cl n t)
  | .nm i, x, h => by
    obtain ⟨y, p, rfl, hh⟩ := ig_nm h
    have h := hh
    exact g_nm G eN hs h
  | .tup ts, x, h => by
    obtain ⟨xs, j, p, rfl, hh⟩ := ig_tup h
    have h := hh
    exact g_tup G (starsG_of h) (sTgs G eN es hs ts xs h)
  | .sub o i, x, h => by
    obtain ⟨x1, y, p, rfl, hh⟩ := ig_sub h
    have h := hh
    obtain ⟨h1, h⟩ := and2 h
    obtain ⟨h2, h3⟩ := and2 h
    exact g_sub h1 (sE G eN es o x1 h2) (sE G eN es i y h3)
  | .fld o f, x, h => absurd h Bool.false_ne_true
termination_by structural e => e
theorem sTgs {X : Cx} {W : WX} {sc raw : Scope} (G : Good X T cl n W) (eN : X.N = N) (es : X.env.scope = sc) (hs : Stores X raw) : ∀ (t : Tgs) (x : List Expr), ckTgs T N sc raw t x = true → PGs X x (tGs' X.K T cl n t)
  | .nil, [], h => gs_nil
  | .nil, _ :: _, h => absurd h Bool.false_ne_true
  | .cons _ _, [], h => absurd h Bool.false_ne_true
  | .cons t ts, x :: xs, h => by
    obtain ⟨h1, h2⟩ := and2 (show (noStar1 x && (ckTg T N sc raw t x && ckTgs T N sc raw ts xs)) = true from h)
    obtain ⟨h2, h3⟩ := and2 h2
    exact gs_cons h1 (sTg G eN es hs t x h2) (sTgs G eN es hs ts xs h3)
termination_by structural e => e
theorem sI {X : Cx} {W : WX} {sc : Scope} (G : Good X T cl n W) (eN : X.N = N) (es : X.env.scope = sc) : ∀ (t : Bn.It) (tg x : Expr), enumOk t tg = true → ckI T N sc t x = true → PI X tg x (tI' X T cl n W t)
  | .seq e, tg, x, _, h => i_seq (sE G eN es e x (ii_seq h))
  | .rng1 a, tg, x, _, h => by
    obtain ⟨z, p1, y, p, rfl, hh⟩ := ii_rng1 h
    have h := hh
    obtain ⟨h1, h⟩ := and2 h
    obtain ⟨h2, h⟩ := and2 h
    obtain ⟨h3, h4⟩ := and2 h
    cases of_decide_eq_true h1
    exact i_rng1 G (gl_of es h2).1 h3 (sE G eN es a y h4)
  | .rng2 a b, tg, x, _, h => by
    obtain ⟨z, p1, y, y2, p, rfl, hh⟩ := ii_rng2 h
    have h := hh
    obtain ⟨h1, h⟩ := and2 h
    obtain ⟨h2, h⟩ := and2 h
    obtain ⟨h3, h⟩ := and2 h
    obtain ⟨h4, h⟩ := and2 h
    obtain ⟨h5, h6⟩ := and2 h
    cases of_decide_eq_true h1
    exact i_rng2 G (gl_of es h2).1 h3 h4 (sE G eN es a y h5) (sE G eN es b y2 h6)
  | .rng3 _ _ _, _, _, _, h => absurd h Bool.false_ne_true
  | .enum a, tg, x, ho, h => by
    obtain ⟨z, p1, y, p, rfl, hh⟩ := ii_enum h
    have h := hh
    obtain ⟨h1, h⟩ := and2 h
    obtain ⟨h2, h⟩ := and2 h
    obtain ⟨h3, h4⟩ := and2 h
    cases of_decide_eq_true h1
    exact i_enum G (gl_of es h2).1 ho h3 (sE G eN es a y h4)
  | .zip _ _, _, _, _, h => absurd h Bool.false_ne_true
termination_by structural e => e
end
end
end Bn
end

section
/-! Bn.M: statements. -/
namespace Bn
open PySem PySem.Spec PyProof.Rows L2

def noComp : Expr → Bool
  | .ListComp _ _ _ _ => false
  | .SetComp _ _ _ _ => false
  | .DictComp _ _ _ _ _ => false
  | _ => true
/-- name = [..] at one line -/
def swB (sc : Scope) (y : Str) (py : Pos) : Expr → Bool
  | .ListComp _ _ scope pos => (match sc.kind with | .function => true | _ => false) && (decide (sc.names.lookup y = some .local) && ((py.line == pos.line) && !(scope.names.any fun (n, k) => n == y && (k == .local || k == .cell))))
  | _ => false
def isTupL : Expr → Bool
  | .Tuple _ _ _ => true
  | .List _ _ => true
  | _ => false
/-- no pair of displays -/
def noSwap (g x : Expr) : Bool := !isTupL g || !isTupE x
def isName : Expr → Bool
  | .Name _ _ => true
  | _ => false
def augB : Op2 → Operator → Bool
  | .add, .Add => true | .sub, .Sub => true
  | _, _ => false
/-- a pair's names -/
def parN (N : List Str) (sc : Scope) (l : Nat) : Nat → Expr → Bool
  | i, .Name x p => decide (N[i]? = some x) && (decide (sc.names.lookup x = some .local) && (p.line == l))
  | _, _ => false
def lineOf : Expr → Nat := fun e => e.pos.line
mutual
def ckS (tb : Tb) (N : List Str) (sc : Scope) : S → Stmt → Bool
  | .expr e, .Expr x _ => noComp x && ckE tb N sc e x
  | .pass, .Pass _ => true
  | .pass, .Expr (.Constant (.str _) _ _) _ => true
  | .brk, .Break _ => true
  | .cont, .Continue _ => true
  | .set i e, .Assign [.Name y py] x _ => decide (N[i]? = some y) && (locB sc y && ((noComp x || swB sc y py x) && ckE tb N sc e x))
  | .asg t e, .Assign [g] x _ => !isName g && (noStar1 g && (noComp x && (noSwap g x && (ckTg tb N sc sc t g && ckE tb N sc e x))))
  | .par [i, j] es, .Assign [.Tuple [x, y] _ _] (.Tuple [a, b] _ _) _ => parN N sc (lineOf x) i x && (parN N sc (lineOf x) j y && (decide (i ≠ j) && ((match sc.kind with | .function => true | _ => false) &&
      (!([a, b].all (foldedForSure 8)) && (!([a, b].all (constantsAlone 8)) && ckEs tb N sc es [a, b])))))
  | .aug i op e, .AugAssign (.Name y _) o x _ => augB op o && (decide (N[i]? = some y) && (locB sc y && ckE tb N sc e x))
  | .ret e, .Return (some x) _ => ckE tb N sc e x
  | .retN, .Return none _ => true
  | .ife t a b, .If c x y _ => ckT tb N sc t c && (ckSs tb N sc a x && ckSs tb N sc b y)
  | .whl t b, .While c x [] _ => ckT tb N sc t c && ckSs tb N sc b x
  | .for_ tg it b, .For g x body [] _ => noSet x && (enumOk it g && (ckI tb N sc it x && (ckTg tb N sc sc tg g && ckSs tb N sc b body)))
  | _, _ => false
def ckSs (tb : Tb) (N : List Str) (sc : Scope) : Ss → List Stmt → Bool
  | .nil, [] => true
  | .cons s ss, x :: xs => ckS tb N sc s x && ckSs tb N sc ss xs
  | _, _ => false
end

/-- what follows a statement -/
structure KS (K : PySem.W.Frag) (cl : ClsT) (W : WX) (H : Hp) (ι : List Addr) (D0 : Ens) (D : Ends) : Prop where
  nx : ∀ δ' h' ι' H' σ', D0.nx δ' h' → Ext K H ι H' ι' → HRel K cl H' ι' h' → SRel K H' ι' δ' σ' → D.nx σ' H'
  bk : ∀ δ' h' ι' H' σ', D0.bk δ' h' → Ext K H ι H' ι' → HRel K cl H' ι' h' → SRel K H' ι' δ' σ' → D.bk σ' H'
  ct : ∀ δ' h' ι' H' σ', D0.ct δ' h' → Ext K H ι H' ι' → HRel K cl H' ι' h' → SRel K H' ι' δ' σ' → D.ct σ' H'
  rt : ∀ d h' ι' H' v, D0.rt d h' → Ext K H ι H' ι' → HRel K cl H' ι' h' → RelD K H' ι' d v → D.rt v H'
  ex : ∀ x δ' h' ι' H' σ' c dd, D0.ex x δ' h' → Ext K H ι H' ι' → HRel K cl H' ι' h' → SRel K H' ι' δ' σ' → XRel K cl H' ι' x c dd → W c dd σ' H'
section
variable {K : PySem.W.Frag} {cl : ClsT} {W : WX} {H H1 : Hp} {ι ι1 : List Addr} {D0 : Ens} {D : Ends}
theorem KS.ext (k : KS K cl W H ι D0 D) (x : Ext K H ι H1 ι1) : KS K cl W H1 ι1 D0 D :=
  ⟨fun δ h ι' H' σ q e => k.nx δ h ι' H' σ q (x.trans e), fun δ h ι' H' σ q e => k.bk δ h ι' H' σ q (x.trans e), fun δ h ι' H' σ q e => k.ct δ h ι' H' σ q (x.trans e), fun d h ι' H' v q e => k.rt d h ι' H' v q (x.trans e), fun y δ h ι' H' σ c dd q e => k.ex y δ h ι' H' σ c dd q (x.trans e)⟩
end
def tS' (X : Cx) (T : Tb) (cl : ClsT) (n : Nat) (W : WX) (s : S) : TS := fun D σ H => ∃ ι h δ D0, HRel X.K cl H ι h ∧ SRel X.K H ι δ σ ∧ wS (T.cl n) s δ h D0 ∧ KS X.K cl W H ι D0 D
def tSs' (X : Cx) (T : Tb) (cl : ClsT) (n : Nat) (W : WX) (s : Ss) : TS := fun D σ H => ∃ ι h δ D0, HRel X.K cl H ι h ∧ SRel X.K H ι δ σ ∧ wSs (T.cl n) s δ h D0 ∧ KS X.K cl W H ι D0 D
structure GoodF (X : Cx) (T : Tb) (cl : ClsT) (n : Nat) (W : WX) : Prop extends Good X T cl n W where
  own : PassesOwn (model X.prog X.w) X.A X.env X.xe
  fnt : ∀ x, X.fn x = true
  bk : X.env.blockKind = .function
theorem _root_.L2.PS.imp {X : Cx} {e : Stmt} {t t' : TS} (h : PS X e t) (i : ∀ D σ H, t' D σ H → t D σ H) : PS X e t' := ⟨fun pins s σ H D I w => h.run pins s σ H D I (i D σ H w)⟩
theorem _root_.L2.PSs.imp {X : Cx} {e : List Stmt} {t t' : TS} (h : PSs X e t) (i : ∀ D σ H, t' D σ H → t D σ H) : PSs X e t' := ⟨fun pins s σ H D I w => h.run pins s σ H D I (i D σ H w)⟩
section
variable {X : Cx} {T : Tb} {cl : ClsT} {n : Nat} {W : WX} {N : List Str} {sc : Scope} {pos : Pos}
/-- an expression within a statement -/
theorem kt_of {α β : Type} {RA : Hp → List Addr → α → β → Prop} {Q0 : α → Hh → Prop} {Q : β → Hp → Prop} {σ : L2.St} {δ : Sl} {H : Hp} {ι : List Addr} {D0 : Ens} {D : Ends} (k : KS X.K cl W H ι D0 D) (sr : SRel X.K H ι δ σ)
    (q : ∀ a h' ι' H' b, Q0 a h' → Ext X.K H ι H' ι' → HRel X.K cl H' ι' h' → RA H' ι' a b → SRel X.K H' ι' δ σ → KS X.K cl W H' ι' D0 D → Q b H') : Kt X.K cl W RA σ H ι Q0 (fun x h' => D0.ex x δ h') Q :=
  ⟨fun a h' ι' H' b z e r rb => q a h' ι' H' b z e r rb (sr.mono e) (k.ext e), fun x h' ι' H' c d z e r xr => k.ex x δ h' ι' H' σ c d z e r (sr.mono e) xr⟩
theorem noComp_sw {x : Expr} {t : Option Expr} {l : Nat} {env : Env} (h : noComp x = true) : swapsWith x t l env = pure false := by
  cases x <;> first
    | rfl
    | exact absurd h Bool.false_ne_true
theorem p_expr {e : E} {x : Expr} (hc : noComp x = true) (he : PE X x (tE' X T cl n W e)) : PS X (.Expr x pos) (tS' X T cl n W (.expr e)) := by
  refine PS.imp (ps_expr he (noComp_sw hc)) fun D σ H ⟨ι, h, δ, D0, r, sr, w, k⟩ => ?_
  exact ⟨ι, h, δ, _, _, r, sr, w, kt_of k sr fun d h1 ι1 H1 v q e r1 rd sr1 k1 => k1.nx δ h1 ι1 H1 σ q .refl r1 sr1⟩
theorem p_pass : PS X (.Pass pos) (tS' X T cl n W .pass) := PS.imp ps_pass fun D σ H ⟨ι, h, δ, D0, r, sr, w, k⟩ => k.nx δ h ι H σ w .refl r sr
theorem p_doc {x j p2} : PS X (.Expr (.Constant (.str x) j p2) pos) (tS' X T cl n W .pass) := PS.imp ps_doc fun D σ H ⟨ι, h, δ, D0, r, sr, w, k⟩ => k.nx δ h ι H σ w .refl r sr
theorem p_brk : PS X (.Break pos) (tS' X T cl n W .brk) := PS.imp ps_break fun D σ H ⟨ι, h, δ, D0, r, sr, w, k⟩ => k.bk δ h ι H σ w .refl r sr
theorem p_cont : PS X (.Continue pos) (tS' X T cl n W .cont) := PS.imp ps_continue fun D σ H ⟨ι, h, δ, D0, r, sr, w, k⟩ => k.ct δ h ι H σ w .refl r sr
theorem p_ret {e : E} {x : Expr} (he : PE X x (tE' X T cl n W e)) : PS X (.Return (some x) pos) (tS' X T cl n W (.ret e)) := by
  refine PS.imp (ps_ret he) fun D σ H ⟨ι, h, δ, D0, r, sr, w, k⟩ => ?_
  exact ⟨ι, h, δ, _, _, r, sr, w, kt_of k sr fun d h1 ι1 H1 v q e r1 rd sr1 k1 => k1.rt d h1 ι1 H1 v q .refl r1 rd⟩
theorem p_retN : PS X (.Return none pos) (tS' X T cl n W .retN) := PS.imp ps_retN fun D σ H ⟨ι, h, δ, D0, r, sr, w, k⟩ => k.rt .non h ι H .non w .refl r rfl
theorem p_ife {t : Bn.T} {a b : Ss} {c : Expr} {x y : List Stmt} (hc : PT X c (tT' X T cl n W t)) (ha : PSs X x (tSs' X T cl n W a)) (hb : PSs X y (tSs' X T cl n W b)) : PS X (.If c x y pos) (tS' X T cl n W (.ife t a b)) := by
  refine PS.imp (ps_if hc ha hb) fun D σ H ⟨ι, h, δ, D0, r, sr, w, k⟩ => ?_
  refine ⟨ι, h, δ, _, _, r, sr, w, kt_of k sr fun c h1 ι1 H1 d q e r1 rc sr1 k1 => ?_⟩
  cases rc
  cases c with
  | true => exact ⟨ι1, h1, δ, D0, r1, sr1, q, k1⟩
  | false => exact ⟨ι1, h1, δ, D0, r1, sr1, q, k1⟩
theorem loc_fn (G : GoodF X T cl n W) : Stores X X.env.scope := fun x h => ⟨loc_of h, .inl (G.fnt x)⟩
theorem asg_name {i : Nat} {te : TE} {e : E} (he : ∀ σ H Q, tE' X T cl n W e σ H Q → te σ H Q) : ∀ D σ H, tS' X T cl n W (.set i e) D σ H → tAsg te (gName i) D σ H := by
  intro D σ H ⟨ι, h, δ, D0, r, sr, w, k⟩
  exact he σ H _ ⟨ι, h, δ, _, _, r, sr, w, kt_of k sr fun d h1 ι1 H1 v q e r1 rd sr1 k1 => k1.nx _ h1 ι1 H1 _ q .refl r1 (sr1.set rd)⟩
theorem p_set {i : Nat} {e : E} {x : Expr} {y : Str} {py : Pos} (G : GoodF X T cl n W) (eN : X.N = N) (h1 : decide (N[i]? = some y) = true) (h2 : locB X.env.scope y = true) (hc : noComp x = true) (he : PE X x (tE' X T cl n W e)) : PS X (.Assign [.Name y py] x pos) (tS' X T cl n W (.set i e)) :=
  PS.imp (ps_set G.nd (by rw [eN]; exact of_decide_eq_true h1) (loc_of h2) he (noComp_sw hc) (.inl (G.fnt y))) (asg_name fun _ _ _ z => z)
theorem p_asg {t : Tg} {e : E} {g x : Expr} (G : GoodF X T cl n W) (h1 : noStar1 g = true) (hc : noComp x = true) (hs : noSwap g x = true) (hg : PG X g (tG X.K T cl n t)) (he : PE X x (tE' X T cl n W e)) : PS X (.Assign [g] x pos) (tS' X T cl n W (.asg t e)) := by
  refine PS.imp (ps_asg he hg (noComp_sw hc) ?_ (by cases g <;> first | rfl | exact absurd h1 Bool.false_ne_true)) fun D σ H ⟨ι, h, δ, D0, r, sr, w, k⟩ => ?_
  · unfold swappedStores
    cases g <;> cases x <;> first
      | rfl
      | exact absurd hs Bool.false_ne_true
  · refine ⟨ι, h, δ, _, _, r, sr, w, kt_of k sr fun d h1 ι1 H1 v q e r1 rd sr1 k1 => ?_⟩
    exact ⟨ι1, h1, δ, d, _, r1, sr1, rd, q, fun δ' h' ι' H' σ' z e2 r2 sr2 _ => k1.nx δ' h' ι' H' σ' z e2 r2 sr2⟩
theorem a_aug (op : Op2) {o : Operator} (ho : augB op o = true) : PIp X o (rA X.K cl (vAug op)) := by
  rintro pins s σ H v u vv uu Q I rv ru ⟨ι, h, x, y, Q0, r, rx, ry, w, k⟩
  cases op <;> cases o <;> first | exact absurd ho Bool.false_ne_true | skip
  · cases x <;> cases y <;> try exact False.elim w
    · cases rx; cases ry
      exact iop_add pins s σ H _ _ vv uu Q I rv ru ⟨_, _, rfl, rfl, k.now r w rfl⟩
    · cases rx; cases ry
      refine iop_add_str pins s σ H _ _ vv uu Q I rv ru ⟨_, _, rfl, rfl, by rw [S2_length, S2_length]; exact w.1, ?_⟩
      rw [S2_append]
      exact k.now r w.2 rfl
  · obtain ⟨i, j, rfl, rfl, w⟩ := vI2_of w
    cases rx; cases ry
    exact iop_sub pins s σ H _ _ vv uu Q I rv ru ⟨_, _, rfl, rfl, k.now r w rfl⟩
theorem p_aug {i : Nat} {op : Op2} {o : Operator} {e : E} {x : Expr} {y : Str} {py : Pos} (G : GoodF X T cl n W) (eN : X.N = N) (ho : augB op o = true) (h1 : decide (N[i]? = some y) = true) (h2 : locB X.env.scope y = true) (he : PE X x (tE' X T cl n W e)) : PS X (.AugAssign (.Name y py) o x pos) (tS' X T cl n W (.aug i op e)) := by
  refine PS.imp (ps_aug G.nd (by rw [eN]; exact of_decide_eq_true h1) (loc_of h2) he (a_aug (cl := cl) op ho) (.inl (G.fnt y))) fun D σ H ⟨ι, h, δ, D0, r, sr, w, k⟩ => ?_
  obtain ⟨x0, e0, w⟩ := w
  obtain ⟨v0, e1, rx⟩ := sr.at_ i x0 e0
  refine ⟨v0, e1, ι, h, δ, _, _, r, sr, w, kt_of k sr fun d h1 ι1 H1 v q e r1 rd sr1 k1 => ?_⟩
  refine ⟨ι1, h1, x0, d, _, r1, rx.mono e, rd, q, fun z h2 ι2 H2 vz q2 e2 r2 rz => ?_⟩
  exact k1.nx _ h2 ι2 H2 _ q2 e2 r2 ((sr1.mono e2).set rz)
theorem p_nil : PSs X [] (tSs' X T cl n W .nil) := PSs.imp pss_nil fun D σ H ⟨ι, h, δ, D0, r, sr, w, k⟩ => k.nx δ h ι H σ w .refl r sr
theorem p_cons {s : S} {ss : Ss} {x : Stmt} {xs : List Stmt} (h1 : PS X x (tS' X T cl n W s)) (h2 : PSs X xs (tSs' X T cl n W ss)) : PSs X (x :: xs) (tSs' X T cl n W (.cons s ss)) := by
  refine PSs.imp (pss_cons h1 h2) fun D σ H ⟨ι, h, δ, D0, r, sr, w, k⟩ => ?_
  refine ⟨ι, h, δ, _, r, sr, w, ⟨fun δ' h' ι' H' σ' q e r' sr' => ⟨ι', h', δ', D0, r', sr', q, k.ext e⟩, k.bk, k.ct, k.rt, k.ex⟩⟩
theorem p_for {tg : Tg} {it : Bn.It} {b : Ss} {g x : Expr} {body : List Stmt} (G : GoodF X T cl n W) (hx : noSet x = true) (hi : PI X g x (tI' X T cl n W it)) (hg : PG X g (tG X.K T cl n tg)) (hb : PSs X body (tSs' X T cl n W b)) : PS X (.For g x body [] pos) (tS' X T cl n W (.for_ tg it b)) := by
  refine PS.imp (ps_for G.own G.calm hi hg hb (folded_of hx)) fun D σ H ⟨ι, h, δ, D0, r, sr, w, k⟩ => ?_
  refine ⟨ι, h, δ, _, _, r, sr, w, kt_of k sr fun src h1 ι1 H1 J q e r1 rj sr1 k1 => ?_⟩
  obtain ⟨m, q⟩ := q
  refine ⟨fun i m σ' H' => ∃ ι' h' δ', Ext X.K H1 ι1 H' ι' ∧ HRel X.K cl H' ι' h' ∧ SRel X.K H' ι' δ' σ' ∧ forLoop src (fun d δ h nx => wTg (T.cl n) tg d δ h (fun δ1 h1 => wSs (T.cl n) b δ1 h1 { D0 with nx := nx, ct := nx, bk := D0.nx }) fun _ _ => False) D0.nx m i δ' h',
    ⟨m, ι1, h1, δ, .refl, r1, sr1, q⟩, fun i m σ' H' ⟨ι', h', δ', x', r', sr', lw⟩ => ?_⟩
  cases m with
  | zero => exact lw.elim
  | succ m =>
    unfold forLoop at lw
    obtain ⟨j1, j2⟩ := rj ι' H' h' x' r' i
    cases hs : src.at_ h' i with
    | none => rw [hs] at lw; exact lw.elim
    | some o =>
      cases o with
      | none =>
        rw [hs] at lw
        exact .inl ⟨j1 hs, k1.nx δ' h' ι' H' σ' lw x' r' sr'⟩
      | some d =>
        rw [hs] at lw
        obtain ⟨g1, g2⟩ := j2 d hs
        refine .inr ⟨g1, fun σ'' H'' => ∃ ι'' h'' δ'', Ext X.K H1 ι1 H'' ι'' ∧ HRel X.K cl H'' ι'' h'' ∧ SRel X.K H'' ι'' δ'' σ'' ∧ forLoop src _ D0.nx m (i + 1) δ'' h'', fun σ'' H'' z => ⟨m, Nat.lt_succ_self m, z⟩, fun x0 H2 y2 => ?_⟩
        obtain ⟨e2, r2, rd2⟩ := g2 x0 H2 y2
        refine ⟨ι', h', δ', d, _, r2, sr'.mono e2, rd2, lw, fun δ3 h3 ι3 H3 σ3 q3 e3 r3 sr3 _ => ?_⟩
        have x3 := (x'.trans e2).trans e3
        have k3 := k1.ext x3
        refine ⟨ι3, h3, δ3, _, r3, sr3, q3, ⟨fun δ4 h4 ι4 H4 σ4 q4 e4 r4 sr4 => ⟨ι4, h4, δ4, x3.trans e4, r4, sr4, q4⟩, k3.nx, fun δ4 h4 ι4 H4 σ4 q4 e4 r4 sr4 => ⟨ι4, h4, δ4, x3.trans e4, r4, sr4, q4⟩, k3.rt, k3.ex⟩⟩
theorem p_whl {t : Bn.T} {b : Ss} {c : Expr} {body : List Stmt} (G : GoodF X T cl n W) (hc : PT X c (tT' X T cl n W t)) (hb : PSs X body (tSs' X T cl n W b)) : PS X (.While c body [] pos) (tS' X T cl n W (.whl t b)) := by
  refine PS.imp (ps_while G.own hc hb) fun D σ H ⟨ι, h, δ, D0, r, sr, w, k⟩ => ?_
  obtain ⟨m, q⟩ := w
  refine ⟨fun m σ' H' => ∃ ι' h' δ', Ext X.K H ι H' ι' ∧ HRel X.K cl H' ι' h' ∧ SRel X.K H' ι' δ' σ' ∧ whLoop (fun δ h Q => wT (T.cl n) t δ h Q fun x h1 => D0.ex x δ h1) (fun δ h nx => wSs (T.cl n) b δ h { D0 with nx := nx, ct := nx, bk := D0.nx }) D0.nx m δ' h',
    ⟨m, ι, h, δ, .refl, r, sr, q⟩, fun m σ' H' ⟨ι', h', δ', x', r', sr', lw⟩ => ?_⟩
  cases m with
  | zero => exact lw.elim
  | succ m =>
    unfold whLoop at lw
    refine ⟨ι', h', δ', _, _, r', sr', lw, kt_of (k.ext x') sr' fun c h1 ι1 H1 d q e r1 rc sr1 k1 => ?_⟩
    cases rc
    cases c with
    | false => exact k1.nx δ' h1 ι1 H1 σ' q .refl r1 sr1
    | true =>
      have x1 := x'.trans e
      refine ⟨fun σ'' H'' => ∃ ι'' h'' δ'', Ext X.K H ι H'' ι'' ∧ HRel X.K cl H'' ι'' h'' ∧ SRel X.K H'' ι'' δ'' σ'' ∧ whLoop _ _ D0.nx m δ'' h'', fun σ'' H'' z => ⟨m, Nat.lt_succ_self m, z⟩, ?_⟩
      refine ⟨ι1, h1, δ', _, r1, sr1, q, ⟨fun δ4 h4 ι4 H4 σ4 q4 e4 r4 sr4 => ⟨ι4, h4, δ4, x1.trans e4, r4, sr4, q4⟩, k1.nx, fun δ4 h4 ι4 H4 σ4 q4 e4 r4 sr4 => ⟨ι4, h4, δ4, x1.trans e4, r4, sr4, q4⟩, k1.rt, k1.ex⟩⟩
end
end Bn
end

section
/-! Bn.N: a def's body. -/
namespace Bn
open PySem PySem.Spec PyProof.Rows L2

section
variable {X : Cx} {T : Tb} {cl : ClsT} {n : Nat} {W : WX} {N : List Str} {sc : Scope} {pos : Pos}
theorem p_setLc {i : Nat} {e : E} {x : Expr} {y : Str} {py : Pos} (G : GoodF X T cl n W) (eN : X.N = N) (es : X.env.scope = sc) (h1 : decide (N[i]? = some y) = true) (hw : swB sc y py x = true) (h : ckE T N sc e x = true) : PS X (.Assign [.Name y py] x pos) (tS' X T cl n W (.set i e)) := by
  cases x with
  | ListComp elt gs scope p =>
    obtain ⟨w1, w2⟩ := and2 (show ((match sc.kind with | .function => true | _ => false) && (decide (sc.names.lookup y = some .local) && ((py.line == p.line) && !(scope.names.any fun (n, k) => n == y && (k == .local || k == .cell))))) = true from hw)
    obtain ⟨w2, w3⟩ := and2 w2
    obtain ⟨w3, w4⟩ := and2 w3
    have w1 : sc.kind = .function := by
      revert w1
      cases sc.kind <;> intro z <;> first | rfl | exact absurd z Bool.false_ne_true
    have w2 := of_decide_eq_true w2
    have w4 : (scope.names.any fun (n, k) => n == y && (k == .local || k == .cell)) = false := by simpa using w4
    subst es
    cases e with
    | lc elt' tg it t own =>
      obtain ⟨x1, g, i', ifs, scope', p', ex, hh⟩ := iv_lc h
      cases ex
      have h := hh
      obtain ⟨h1', h⟩ := and2 h
      obtain ⟨h2, h⟩ := and2 h
      obtain ⟨h3, h⟩ := and2 h
      obtain ⟨h4, h⟩ := and2 h
      obtain ⟨h5, h⟩ := and2 h
      obtain ⟨h6, h⟩ := and2 h
      obtain ⟨h7, h⟩ := and2 h
      obtain ⟨h8, h9⟩ := and2 h
      have G0 := G.toGood
      refine PS.imp (ps_setLc (i := i) G.calm G.nd (by rw [eN]; exact of_decide_eq_true h1) w2 (sw_true w1 w2 w3 w4) (sI G0 eN rfl it g i' h4 h6) (by rw [eN]; exact blkOk_by h1') (fun s H C c fp => sTg (G0.blk s H scope C c fp) eN rfl stores_blk tg g h7)
        (tt := tA X.K cl W0 RB (wT (T.cl n) t)) (te := tA X.K cl W0 (RD X.K) (wE (T.cl n) elt')) (fun s H C c fp => ?_) (fun s H C c fp => sE (G0.blk s H scope C c fp) eN rfl elt' elt h9) (folded_of h5)) (asg_name fun σ H Q => lc_sem (W := W) (elt := elt') (t := t) (of_decide_eq_true h2) (fun j hj => of_decide_eq_true (List.all_eq_true.mp h3 j hj)) σ H Q)
      rcases testsB_inv h8 with ⟨rfl, rfl⟩ | ⟨y, rfl, g8⟩
      · exact t_tt
      · exact pts_one (sT (G0.blk s H scope C c fp) eN rfl t _ g8)
    | bi f xs => obtain ⟨_, _, _, _, _, q, _⟩ := iv_bi h; cases q
    | isi a tys => obtain ⟨_, _, _, _, _, _, _, _, q, _⟩ := iv_isi h; cases q
    | bm f a xs => obtain ⟨_, _, _, _, _, _, q, _⟩ := iv_bm h; cases q
    | _ => exact absurd h Bool.false_ne_true
  | _ => exact absurd hw Bool.false_ne_true
def isStar : Expr → Bool
  | .Starred .. => true
  | _ => false
def nameAt (env : Env) (line : Nat) : Expr → Option Str
  | .Name id pos => if env.kindOf id == some .local && pos.line == line then some id else none
  | _ => none
theorem swap_eq {ts vs : List Expr} {k k2 : Nat} {p p2 : Pos} {env : Env} : swappedStores [.Tuple ts k p] (.Tuple vs k2 p2) env = (if (!(ts.length == 2 || ts.length == 3) || vs.length != ts.length || env.blockKind != .function) = true then pure none
    else if (vs.any isStar) = true then pure none
    else if ((ts.filterMap (nameAt env ((ts.head?.map (·.pos.line)).getD 0))).length != ts.length || (ts.filterMap (nameAt env ((ts.head?.map (·.pos.line)).getD 0))).eraseDups.length != (ts.filterMap (nameAt env ((ts.head?.map (·.pos.line)).getD 0))).length) = true then pure none
    else if (vs.all (foldedForSure 8)) = true then pure none
    else if (vs.all (constantsAlone 8)) = true then (do unsupported "assign.tuple-of-constant-expressions:order-of-the-stores"; pure (some (ts.filterMap (nameAt env ((ts.head?.map (·.pos.line)).getD 0)))))
    else pure (some (ts.filterMap (nameAt env ((ts.head?.map (·.pos.line)).getD 0))))) := by
  unfold swappedStores
  rfl
theorem swap2 {x y : Str} {px py pt : Pos} {kt k2 : Nat} {pt2 : Pos} {a b : Expr} {env : Env} (hb : env.blockKind = .function) (hx : env.kindOf x = some .local) (hy : env.kindOf y = some .local) (hl : (py.line == px.line) = true) (hne : x ≠ y) (sa : noStar1 a = true) (sb : noStar1 b = true)
    (h1 : ([a, b].all (foldedForSure 8)) = false) (h2 : ([a, b].all (constantsAlone 8)) = false) : swappedStores [.Tuple [.Name x px, .Name y py] kt pt] (.Tuple [a, b] k2 pt2) env = pure (some [x, y]) := by
  have st : ∀ e : Expr, noStar1 e = true → isStar e = false := fun e h => by cases e <;> first | rfl | exact absurd h Bool.false_ne_true
  have e1 : [a, b].any isStar = false := by simp [st a sa, st b sb]
  have e2 : [Expr.Name x px, Expr.Name y py].filterMap (nameAt env ((([Expr.Name x px, Expr.Name y py].head?).map (·.pos.line)).getD 0)) = [x, y] := by
    have := eq_of_beq hl
    simp [List.filterMap, nameAt, hx, hy, Expr.pos, this]
  have e3 : [x, y].eraseDups.length = 2 := by
    have : (y == x) = false := by simpa using fun e : y = x => hne e.symm
    simp [List.eraseDups_cons, this]
  rw [swap_eq, e2, e1, h1, h2, hb, e3]
  rfl
theorem p_par {i j : Nat} {es : Es} {x y : Str} {px py pt : Pos} {kt k2 : Nat} {pt2 : Pos} {a b : Expr} (G : GoodF X T cl n W) (eN : X.N = N) (hi : N[i]? = some x) (hj : N[j]? = some y) (hij : i ≠ j) (hx : X.env.scope.names.lookup x = some .local) (hy : X.env.scope.names.lookup y = some .local) (hl : (py.line == px.line) = true)
    (sa : noStar1 a = true) (sb : noStar1 b = true) (h1 : ([a, b].all (foldedForSure 8)) = false) (h2 : ([a, b].all (constantsAlone 8)) = false) (ha : PA X [a, b] (tEs' X T cl n W es)) : PS X (.Assign [.Tuple [.Name x px, .Name y py] kt pt] (.Tuple [a, b] k2 pt2) pos) (tS' X T cl n W (.par [i, j] es)) := by
  have hne : x ≠ y := fun e => by
    subst e
    have nd := G.nd
    rw [eN] at nd
    exact hij ((List.getElem?_inj (List.getElem?_eq_some_iff.mp hi).1 nd).mp (hi.trans hj.symm))
  refine PS.imp (ps_par (i := i) (j := j) G.calm G.nd (by rw [eN]; exact hi) (by rw [eN]; exact hj) hij hx hy ha (swap2 G.bk hx hy hl hne sa sb h1 h2)) fun D σ H ⟨ι, h, δ, D0, r, sr, w, k⟩ => ?_
  refine ⟨ι, h, δ, _, _, r, sr, w, kt_of k sr fun ds h1 ι1 H1 vs q e r1 rs sr1 k1 => ?_⟩
  obtain ⟨l, q⟩ := q
  match ds, l with
  | [d1, d2], _ =>
    obtain ⟨v1, v2, rfl, q1, q2⟩ := rel2 rs
    exact ⟨v1, v2, rfl, k1.nx _ h1 ι1 H1 _ q .refl r1 ((sr1.set q1).set q2)⟩
end

section
variable {T : Tb} {N : List Str} {sc : Scope}
theorem is_expr {e : E} {x : Stmt} (h : ckS T N sc (.expr e) x = true) : ∃ y p, x = .Expr y p ∧ (noComp y && ckE T N sc e y) = true := by
  unfold ckS at h; split at h <;> first | contradiction | (rename_i hq; cases hq; exact ⟨_, _, rfl, h⟩)
theorem is_pass {x : Stmt} (h : ckS T N sc .pass x = true) : (∃ p, x = .Pass p) ∨ ∃ s j p p2, x = .Expr (.Constant (.str s) j p) p2 := by
  unfold ckS at h; split at h <;> first | contradiction | (rename_i hq; cases hq; first | exact .inl ⟨_, rfl⟩ | exact .inr ⟨_, _, _, _, rfl⟩)
theorem is_brk {x : Stmt} (h : ckS T N sc .brk x = true) : ∃ p, x = .Break p := by
  unfold ckS at h; split at h <;> first | contradiction | (rename_i hq; cases hq; exact ⟨_, rfl⟩)
theorem is_cont {x : Stmt} (h : ckS T N sc .cont x = true) : ∃ p, x = .Continue p := by
  unfold ckS at h; split at h <;> first | contradiction | (rename_i hq; cases hq; exact ⟨_, rfl⟩)
theorem is_set {i : Nat} {e : E} {x : Stmt} (h : ckS T N sc (.set i e) x = true) : ∃ y py z p, x = .Assign [.Name y py] z p ∧ (decide (N[i]? = some y) && (locB sc y && ((noComp z || swB sc y py z) && ckE T N sc e z))) = true := by
  unfold ckS at h; split at h <;> first | contradiction | (rename_i hq; cases hq; exact ⟨_, _, _, _, rfl, h⟩)
theorem is_asg {t : Tg} {e : E} {x : Stmt} (h : ckS T N sc (.asg t e) x = true) : ∃ g z p, x = .Assign [g] z p ∧ (!isName g && (noStar1 g && (noComp z && (noSwap g z && (ckTg T N sc sc t g && ckE T N sc e z))))) = true := by
  unfold ckS at h; split at h <;> first | contradiction | (rename_i hq; cases hq; exact ⟨_, _, _, rfl, h⟩)
theorem is_aug {i : Nat} {op : Op2} {e : E} {x : Stmt} (h : ckS T N sc (.aug i op e) x = true) : ∃ y py o z p, x = .AugAssign (.Name y py) o z p ∧ (augB op o && (decide (N[i]? = some y) && (locB sc y && ckE T N sc e z))) = true := by
  unfold ckS at h; split at h <;> first | contradiction | (rename_i hq; cases hq; exact ⟨_, _, _, _, _, rfl, h⟩)
theorem is_ret {e : E} {x : Stmt} (h : ckS T N sc (.ret e) x = true) : ∃ y p, x = .Return (some y) p ∧ ckE T N sc e y = true := by
  unfold ckS at h; split at h <;> first | contradiction | (rename_i hq; cases hq; exact ⟨_, _, rfl, h⟩)
theorem is_retN {x : Stmt} (h : ckS T N sc .retN x = true) : ∃ p, x = .Return none p := by
  unfold ckS at h; split at h <;> first | contradiction | (rename_i hq; cases hq; exact ⟨_, rfl⟩)
theorem is_ife {t : Bn.T} {a b : Ss} {x : Stmt} (h : ckS T N sc (.ife t a b) x = true) : ∃ c y z p, x = .If c y z p ∧ (ckT T N sc t c && (ckSs T N sc a y && ckSs T N sc b z)) = true := by
  unfold ckS at h; split at h <;> first | contradiction | (rename_i hq; cases hq; exact ⟨_, _, _, _, rfl, h⟩)
theorem is_whl {t : Bn.T} {b : Ss} {x : Stmt} (h : ckS T N sc (.whl t b) x = true) : ∃ c y p, x = .While c y [] p ∧ (ckT T N sc t c && ckSs T N sc b y) = true := by
  unfold ckS at h; split at h <;> first | contradiction | (rename_i hq; cases hq; exact ⟨_, _, _, rfl, h⟩)
theorem is_for {tg : Tg} {it : Bn.It} {b : Ss} {x : Stmt} (h : ckS T N sc (.for_ tg it b) x = true) : ∃ g z body p, x = .For g z body [] p ∧ (noSet z && (enumOk it g && (ckI T N sc it z && (ckTg T N sc sc tg g && ckSs T N sc b body)))) = true := by
  unfold ckS at h; split at h <;> first | contradiction | (rename_i hq; cases hq; exact ⟨_, _, _, _, rfl, h⟩)
theorem is_par {i j : Nat} {es : Es} {x : Stmt} (h : ckS T N sc (.par [i, j] es) x = true) : ∃ x1 y1 k1 p1 a b k2 p2 p, x = .Assign [.Tuple [x1, y1] k1 p1] (.Tuple [a, b] k2 p2) p ∧ (parN N sc (lineOf x1) i x1 && (parN N sc (lineOf x1) j y1 && (decide (i ≠ j) && ((match sc.kind with | .function => true | _ => false) &&
      (!([a, b].all (foldedForSure 8)) && (!([a, b].all (constantsAlone 8)) && ckEs T N sc es [a, b])))))) = true := by
  unfold ckS at h; split at h <;> first | contradiction | (rename_i hq; cases hq; exact ⟨_, _, _, _, _, _, _, _, _, rfl, h⟩)
theorem parN_inv {l i : Nat} {x : Expr} (h : parN N sc l i x = true) : ∃ y p, x = .Name y p ∧ N[i]? = some y ∧ sc.names.lookup y = some .local ∧ (p.line == l) = true := by
  cases x with
  | Name y p =>
    obtain ⟨h1, h2⟩ := and2 (show (decide (N[i]? = some y) && (decide (sc.names.lookup y = some .local) && (p.line == l))) = true from h)
    obtain ⟨h2, h3⟩ := and2 h2
    exact ⟨y, p, rfl, of_decide_eq_true h1, of_decide_eq_true h2, h3⟩
  | _ => exact absurd h Bool.false_ne_true
variable {cl : ClsT} {n : Nat}
mutual
theorem sS {X : Cx} {W : WX} {sc : Scope} (G : GoodF X T cl n W) (eN : X.N = N) (es : X.env.scope = sc) : ∀ (e : S) (x : Stmt), ckS T N sc e x = true → PS X x (tS' X T cl n W e)
  | .expr e, x, h => by
    obtain ⟨y, p, rfl, hh⟩ := is_expr h
    obtain ⟨h1, h2⟩ := and2 hh
    exact p_expr h1 (sE G.toGood eN es e y h2)
  | .asg t e, x, h => by
    obtain ⟨g, z, p, rfl, hh⟩ := is_asg h
    have h := hh
    obtain ⟨h0, h⟩ := and2 h
    obtain ⟨h1, h⟩ := and2 h
    obtain ⟨h2, h⟩ := and2 h
    obtain ⟨h3, h⟩ := and2 h
    obtain ⟨h4, h5⟩ := and2 h
    subst es
    exact p_asg G h1 h2 h3 (sTg G.toGood eN rfl (loc_fn G) t g h4) (sE G.toGood eN rfl e z h5)
  | .set i e, x, h => by
    obtain ⟨y, py, z, p, rfl, hh⟩ := is_set h
    have h := hh
    obtain ⟨h1, h⟩ := and2 h
    obtain ⟨h2, h⟩ := and2 h
    obtain ⟨h3, h4⟩ := and2 h
    rcases Bool.or_eq_true_iff.mp h3 with g3 | g3
    · subst es
      exact p_set G eN h1 h2 g3 (sE G.toGood eN rfl e z h4)
    · exact p_setLc G eN es h1 g3 h4
  | .aug i op e, x, h => by
    obtain ⟨y, py, o, z, p, rfl, hh⟩ := is_aug h
    have h := hh
    obtain ⟨h1, h⟩ := and2 h
    obtain ⟨h2, h⟩ := and2 h
    obtain ⟨h3, h4⟩ := and2 h
    subst es
    exact p_aug G eN h1 h2 h3 (sE G.toGood eN rfl e z h4)
  | .augF _ _ _ _, x, h => absurd h Bool.false_ne_true
  | .ret e, x, h => by
    obtain ⟨y, p, rfl, hh⟩ := is_ret h
    exact p_ret (sE G.toGood eN es e y hh)
  | .retN, x, h => by
    obtain ⟨p, rfl⟩ := is_retN h
    exact p_retN
  | .pass, x, h => by
    rcases is_pass h with ⟨p, rfl⟩ | ⟨s, j, p, p2, rfl⟩
    · exact p_pass
    · exact p_doc
  | .brk, x, h => by
    obtain ⟨p, rfl⟩ := is_brk h
    exact p_brk
  | .cont, x, h => by
    obtain ⟨p, rfl⟩ := is_cont h
    exact p_cont
  | .par [i, j] xs, x, h => by
    obtain ⟨x1, y1, k1, p1, a, b, k2, p2, p, rfl, hh⟩ := is_par h
    have h := hh
    obtain ⟨h1, h⟩ := and2 h
    obtain ⟨h2, h⟩ := and2 h
    obtain ⟨h3, h⟩ := and2 h
    obtain ⟨h4, h⟩ := and2 h
    obtain ⟨h5, h⟩ := and2 h
    obtain ⟨h6, h7⟩ := and2 h
    obtain ⟨y, py, rfl, e1, l1, _⟩ := parN_inv h1
    obtain ⟨z, pz, rfl, e2, l2, l3⟩ := parN_inv h2
    obtain ⟨s1, s2⟩ := and2 (starsE h7)
    subst es
    exact p_par G eN e1 e2 (of_decide_eq_true h3) l1 l2 l3 s1 (and2 s2).1 (by rw [Bool.not_eq_true'] at h5; exact h5) (by rw [Bool.not_eq_true'] at h6; exact h6) (sEs G.toGood eN rfl xs _ h7)
  | .par [] _, x, h => absurd h Bool.false_ne_true
  | .par [_] _, x, h => absurd h Bool.false_ne_true
  | .par (_ :: _ :: _ :: _) _, x, h => absurd h Bool.false_ne_true
  | .ife t a b, x, h => by
    obtain ⟨c, y, z, p, rfl, hh⟩ := is_ife h
    obtain ⟨h1, h⟩ := and2 hh
    obtain ⟨h2, h3⟩ := and2 h
    exact p_ife (sT G.toGood eN es t c h1) (sSs G eN es a y h2) (sSs G eN es b z h3)
  | .whl t b, x, h => by
    obtain ⟨c, y, p, rfl, hh⟩ := is_whl h
    obtain ⟨h1, h2⟩ := and2 hh
    exact p_whl G (sT G.toGood eN es t c h1) (sSs G eN es b y h2)
  | .for_ tg it b, x, h => by
    obtain ⟨g, z, body, p, rfl, hh⟩ := is_for h
    have h := hh
    obtain ⟨h1, h⟩ := and2 h
    obtain ⟨h2, h⟩ := and2 h
    obtain ⟨h3, h⟩ := and2 h
    obtain ⟨h4, h5⟩ := and2 h
    subst es
    exact p_for G h1 (sI G.toGood eN rfl it g z h2 h3) (sTg G.toGood eN rfl (loc_fn G) tg g h4) (sSs G eN rfl b body h5)
termination_by structural e => e
theorem sSs {X : Cx} {W : WX} {sc : Scope} (G : GoodF X T cl n W) (eN : X.N = N) (es : X.env.scope = sc) : ∀ (e : Ss) (x : List Stmt), ckSs T N sc e x = true → PSs X x (tSs' X T cl n W e)
  | .nil, [], h => p_nil
  | .nil, _ :: _, h => absurd h Bool.false_ne_true
  | .cons _ _, [], h => absurd h Bool.false_ne_true
  | .cons s ss, x :: xs, h => by
    obtain ⟨h1, h2⟩ := and2 (show (ckS T N sc s x && ckSs T N sc ss xs) = true from h)
    exact p_cons (sS G eN es s x h1) (sSs G eN es ss xs h2)
termination_by structural e => e
end
end
end Bn
end

section
/-! Bn.O: defs, the table of the defs, the end. -/
namespace Bn
open PySem PySem.Spec PyProof.Rows L2

/-- what the module gives -/
structure ModF (K : PySem.W.Frag) (mg : Str → Option Value) (T : Tb) : Prop where
  free : ∀ x ∈ builtinNames, mg x = none
  con : ∀ g d, T.con g = some d → ∃ u v, mg (Str.ofString g) = some u ∧ RelV v u ∧ ∀ H ι, RelD K H ι d v
/-- one def of the table -/
structure DefF (K : PySem.W.Frag) (mg : Str → Option Value) (T : Tb) (f : String) (fn : Fn) (a : Addr) (fd : FuncData) (ps : List Str) : Prop where
  mg : mg (Str.ofString f) = some (.ref a)
  ex : ∃ (x qual : Str) (params : Arguments) (body : List Stmt) (scope : Scope) (dvs : List V) (kws : List (Str × V)) (N : List Str), FunD K x qual params body scope dvs kws a fd ∧ FnScope N ps scope ∧ fn.ns = N.length ∧ ckSs T N scope fn.body body = true
  np : fn.np = ps.length
  bind : Binds K fd ps []
  kw : ∀ np kn g, T.kw f np kn = some g → KwB K fd ps np kn g
def TabF (K : PySem.W.Frag) (mg : Str → Option Value) (T : Tb) : Prop := ∀ f fn, T.fn f = some fn → ∃ a fd ps, DefF K mg T f fn a fd ps

section
variable {P : Program} {w : World} {K : PySem.W.Frag} {mg : Str → Option Value} {base : Heap} {T : Tb} {cl : ClsT}
theorem srel_start {H : Hp} {ι : List Addr} {N : List Str} {fn : Fn} {ds : List D} {vs : List V} (r : RelDs K H ι ds vs) (hn : fn.ns = N.length) : SRel K H ι (slots fn ds) (L2.start N vs) := by
  have hl := r.length
  refine ⟨?_, fun i d e => ?_⟩
  · unfold slots L2.start
    simp [hl, hn]
  · unfold slots at e
    by_cases hi : i < ds.length
    · rw [List.getElem?_append_left (by simpa using hi), List.getElem?_map] at e
      cases ed : ds[i]? with
      | none => rw [ed] at e; cases e
      | some d' =>
        rw [ed] at e
        cases e
        obtain ⟨v, ev, rv⟩ := r.get ed
        refine ⟨v, ?_, rv⟩
        unfold L2.start
        rw [List.getElem?_append_left (by simp; omega), List.getElem?_map, ev]
        rfl
    · rw [List.getElem?_append_right (by simpa using hi), List.getElem?_replicate] at e
      split at e <;> cases e
theorem spA_len {n : Nat} {f : String} {fn : Fn} (ef : T.fn f = some fn) {vs : List V} {H : Hp} {Q : VK} {E : XK} (h : spA K cl T n f vs H Q E) : vs.length = fn.np := by
  obtain ⟨ι, h, ds, Q0, R0, r, rs, w, _⟩ := h
  cases n with
  | zero => exact w.elim
  | succ n =>
    obtain ⟨fn', e1, e2, _⟩ := w
    rw [ef] at e1
    cases e1
    rw [rs.length]; exact e2
/-- a def by its body, one level up -/
theorem gn_of {n : Nat} {f : String} {fn : Fn} {a : Addr} {fd : FuncData} {ps : List Str} (M : ModF K mg T) (ef : T.fn f = some fn) (F : DefF K mg T f fn a fd ps) (call : ∀ f' fn', T.fn f' = some fn' → ∃ a' fd' ps', DefF K mg T f' fn' a' fd' ps' ∧ PySem.W.keepIn K (.ref a') = true ∧ FnG P w K mg base n a' fd' ps' (spA K cl T n f')) : FnG P w K mg base (n + 1) a fd ps (spA K cl T (n + 1) f) := by
  obtain ⟨x, qual, params, body, scope, dvs, kws, N, FD, S, hns, ck⟩ := F.ex
  refine ⟨fun vs H Q E h => (spA_len ef h).trans F.np, fun A outer s H args us vs Q E hr hg e0 hb r hsp => ?_⟩
  obtain ⟨oc, od, dV, kV, doc, pm, an, cdv, ct, osl, rfl, lk, hcd, _, _⟩ := FD.ex
  have hl : vs.length = ps.length := (spA_len ef hsp).trans F.np
  have KX : K.In s.heap := e0.mod.kin.keeps fun b o e => (e0.bs b o e).1
  have lim : s.heap.NoLimit := e0.mod.nolimit.keeps fun b o e => (e0.bs b o e).1
  have hkind : ∀ y ∈ ps.zip us, scope.names.lookup y.1 = some .local ∨ (scope.names.lookup y.1 = some .cell ∧ ((cellsFrom (s.heap.objs.size + 1) scope.names []).lookup y.1).isSome = true) := fun ⟨m, v⟩ hy => by
    rcases S.par m (List.of_mem_zip hy).1 with q | q
    · exact .inl q
    · exact .inr ⟨q, PySem.W.cellsFrom_some _ _ _ (.inl q)⟩
  refine codeAny_call_function hr.depth (KX _ _ lk) rfl S.co S.gen rfl (PySem.W.codeRec_of KX hcd) (hb _ _ _ _ ?_)
  refine wpAny_newFunctionEnv_cells S.kind hkind fun env he s1 x1 => ?_
  subst he
  refine ⟨lim.keeps x1.toInCall.keep, codeAny_func ?_⟩
  have I : Inv (cxOf (L2.CX P w) P w K mg base N qual scope a cdv A outer s H E) [] (L2.start N vs) H s1 := inv_start S hr.hd e0 hl r x1
  have G : GoodF (cxOf (L2.CX P w) P w K mg base N qual scope a cdv A outer s H E) T cl n (fun c d _ H' => E c d H') :=
    { nd := S.nd, calm := rfl, room := hr.deeper _, gds := hg, tk := L2.takes_of rfl rfl rfl rfl, free := M.free, con := M.con, own := L2.passes_of rfl, fnt := fun _ => rfl
      bk := by
        have hk : (envOfC qual scope s.heap.objs.size a cdv).scope.kind = .function := S.kind
        show (envOfC qual scope s.heap.objs.size a cdv).blockKind = .function
        unfold Env.blockKind
        rw [hk]
        rfl
      call := fun f' fn' e' => by
        obtain ⟨a', fd', ps', F', kp', g'⟩ := call f' fn' e'
        exact ⟨a', fd', ps', F'.mg, kp', F'.bind, g', F'.kw⟩ }
  have hq : tSs' (cxOf (L2.CX P w) P w K mg base N qual scope a cdv A outer s H E) T cl n (fun c d _ H' => E c d H') fn.body { nx := fun _ H' => Q .non H', rt := Q } (L2.start N vs) H := by
    obtain ⟨ι, h, ds, Q0, R0, rh, rs, w0, kq, kr⟩ := hsp
    obtain ⟨fn', e1, e2, w1⟩ := w0
    rw [ef] at e1
    cases e1
    exact ⟨ι, h, slots fn ds, _, rh, srel_start rs hns, w1, ⟨fun δ' h' ι' H' σ' q e r' _ => kq .non h' ι' H' .non q e r' rfl, fun _ _ _ _ _ q => q.elim, fun _ _ _ _ _ q => q.elim, fun d h' ι' H' v q e r' rd => kq d h' ι' H' v q e r' rd, fun x δ' h' ι' H' σ' c d q e r' _ xr => kr x h' ι' H' c d q e r' xr⟩⟩
  refine wpAny_mono ((sSs G rfl rfl fn.body body ck).run [] s1 (L2.start N vs) H _ I hq) (fun fl s' hs => ?_) fun e s' hs => hs
  have fin : ∀ {σ' : L2.St} {H' : Hp} {v : V} {u : Value}, Inv (cxOf (L2.CX P w) P w K mg base N qual scope a cdv A outer s H E) [] σ' H' s' → RelV v u → Q v H' → CE outer P w H s Q u s' :=
    fun {σ' H' v u} J rv q => ⟨v, H', J.os, J.bare, J.base, J.hok, rv, q⟩
  cases fl with
  | ret u =>
    obtain ⟨v, σ', H', J, rv, q⟩ := hs
    exact fin J rv q
  | next =>
    obtain ⟨σ', H', J, q⟩ := hs
    exact fin (v := V.non) (u := Value.none) J rfl q
  | brk =>
    obtain ⟨_, _, _, q⟩ := hs
    exact q.elim
  | cont =>
    obtain ⟨_, _, _, q⟩ := hs
    exact q.elim
theorem DefF.kp {f : String} {fn : Fn} {a : Addr} {fd : FuncData} {ps : List Str} (F : DefF K mg T f fn a fd ps) : PySem.W.keepIn K (.ref a) = true := by
  obtain ⟨_, _, _, _, _, _, _, _, FD, _⟩ := F.ex
  exact FD.kp
/-- every def of the table keeps its promise, at every level -/
theorem tab_ok (M : ModF K mg T) (TF : TabF K mg T) : ∀ (n : Nat) (f : String) (fn : Fn) (a : Addr) (fd : FuncData) (ps : List Str), T.fn f = some fn → DefF K mg T f fn a fd ps → FnG P w K mg base n a fd ps (spA K cl T n f)
  | 0, f, fn, a, fd, ps, ef, F => ⟨fun vs H Q E ⟨ι, h, ds, Q0, R0, r, rs, w, _⟩ => w.elim, fun A outer s H args us vs Q E hr hg e0 hb r ⟨ι, h, ds, Q0, R0, rh, rs, w, _⟩ => w.elim⟩
  | n + 1, f, fn, a, fd, ps, ef, F => gn_of M ef F fun f' fn' e' => by
    obtain ⟨a', fd', ps', F'⟩ := TF f' fn' e'
    exact ⟨a', fd', ps', F', F'.kp, tab_ok M TF n f' fn' a' fd' ps' e' F'⟩
end

/-! ### the end -/
/-- the script as it is read -/
def scr (ns : List Int) : Hh := [.klst (ns.map D.int)]
theorem ints_relD {K : PySem.W.Frag} {H : Hp} {ι : List Addr} : ∀ ns : List Int, RelDs K H ι (ns.map D.int) (ns.map V.int)
  | [] => rfl
  | n :: ns => .cons rfl (ints_relD ns)
theorem scr_rel {K : PySem.W.Frag} {cl : ClsT} {H : Hp} {a : Addr} {ns : List Int} (hO : Only H) (hS : SqL K H a (ns.map V.int)) : HRel K cl H [a] (scr ns) where
  len := rfl
  ob := fun i b o e1 e2 => by
    cases i with
    | zero =>
      cases e1
      cases e2
      refine ⟨ns.map V.int, ?_, ints_relD ns⟩
      rcases hS with (h | ⟨o, h⟩) | h
      · rcases hO a with z | ⟨o, xs, z⟩
        · rw [z] at h; cases h
        · rw [z] at h; cases h
      · exact .inl ⟨o, h⟩
      · exact .inr h
    | succ i => simp at e1
  inj := fun i j b o o' e1 e2 e3 e4 m m' => by
    cases i with
    | zero => cases e3; cases m
    | succ i => simp at e1
theorem law_at {P : Program} {w : World} {K : PySem.W.Frag} {mg mb : Str → Option Value} {k : Nat} {fa a : Addr} {fd : FuncData} {x : Str} {sp : Sp} {s₁ : Shared} {us : List Value} {ns : List Int}
    (KX : K.In s₁.heap) (hm : s₁.heap.Ns mainGlobals mg) (hb : s₁.heap.Ns builtinsNs mb) (hbb : ∀ y : Str, y ≠ "__name__" → mb y = bootBuiltins y) (hlim : s₁.heap.NoLimit) (hg : s₁.gens = #[])
    (ha : s₁.heap.get? a = some { cls := .type "list", data := .seq us.toArray }) (hi : IntsAre us ns) (hl : ns.length ≤ sizeLine) (hr : Room k callerA)
    (F : ∀ base : Heap, K.In base → base.Ns mainGlobals mg → FnG P w K mg base k fa fd [x] sp) (hbind : ∀ (s : Shared) (u : Value), K.In s.heap → BindsTo s fd ⟨[u], []⟩ [(x, u)])
    (hsp : ∀ H : Hp, Only H → SqL K H a (ns.map V.int) → sp [.ref a] H (fun v _ => v = .bl true) fun _ _ _ => False) :
    codeAny (model P w) callerA (.call (.ref fa) ⟨[.ref a], []⟩) (fun r s' => r = .ok (.ret (.bool true)) ∧ OldK s₁.heap s'.heap ∧ s'.os = s₁.os ∧ AllBare s'.gens) s₁ := by
  have rv := vals_ints hi
  have nl := hi.length
  have go : ∀ H : Hp, Only H → SqL K H a (ns.map V.int) → HOk P w H s₁.heap → (∀ b, H b ≠ none → b = a ∧ K.lookup a = none) →
      codeAny (model P w) callerA (.call (.ref fa) ⟨[.ref a], []⟩) (fun r s' => r = .ok (.ret (.bool true)) ∧ OldK s₁.heap s'.heap ∧ s'.os = s₁.os ∧ AllBare s'.gens) s₁ := by
    intro H hO hS hok hA
    have gb : ∀ {b : Addr} {o : Obj}, s₁.heap.get? b = some o → H b = none → (hidT s₁.heap H).get? b = some o := fun e n => hidT_get e n
    have nd : ∀ {b : Addr} {o : Obj} {es : Array DictEntry} {ep : Nat}, s₁.heap.get? b = some o → o.data = .dict es ep → H b = none := fun {b o es ep} e d => by
      cases q : H b with
      | none => rfl
      | some u =>
        obtain ⟨rfl, _⟩ := hA b (by rw [q]; simp)
        rw [ha] at e
        cases e
        exact absurd d (by simp)
    have nk : ∀ {b : Addr} {m : Str → Option Value}, s₁.heap.Ns b m → (hidT s₁.heap H).Ns b m := fun {b m} ⟨o, es, ep, e, d, z⟩ => ⟨o, es, ep, gb e (nd e d), d, z⟩
    have kb : K.In (hidT s₁.heap H) := fun b o e => gb (KX b o e) (by
      cases q : H b with
      | none => rfl
      | some u =>
        obtain ⟨rfl, z⟩ := hA b (by rw [q]; simp)
        rw [z] at e
        cases e)
    have md : Mod K mg (hidT s₁.heap H) := ⟨kb, nk hm, ⟨mb, nk hb, hbb⟩, let ⟨mc, z1, z2⟩ := hlim; ⟨mc, nk z1, z2⟩⟩
    have e0 : Env0 P w K mg (hidT s₁.heap H) callerA [] s₁ H := ⟨rfl, md, fun b o e => of_hidT e, Nat.le_of_eq (hidT_size _ _), trivial, fun b z => absurd (show b ∈ ([] : List Addr) from z) (by simp), hok, .of_eq hg⟩
    refine codeAny_mono ((F _ kb (nk hm)).run callerA [] s₁ H ⟨[.ref a], []⟩ [.ref a] [.ref a] _ _ hr rfl e0 (hbind s₁ (.ref a) KX) (.cons rfl .nil) (hsp H hO hS)) fun r s' h => ?_
    cases r with
    | error e =>
      obtain ⟨_, _, _, _, _, _, _, _, _, _, _, _, z⟩ := (show L2.CX P w [] H s₁ (fun _ _ _ => False) e s' from h)
      exact z.elim
    | ok fl =>
      cases fl with
      | ret u =>
        obtain ⟨v, H', os, bare, un, hok', r', q⟩ := h
        cases (show v = V.bl true from q)
        cases (show u = Value.bool true from r')
        refine ⟨rfl, OldK.of_keep fun b o e => ?_, os, bare⟩
        cases q : H b with
        | none => exact un.keep b o e q (fun z => absurd (show b ∈ ([] : List Addr) from z) (by simp)) (by simp)
        | some u =>
          rcases hO b with z | ⟨ob, xs, z⟩
          · rw [q] at z
            cases z
          · obtain ⟨e1, _⟩ := hok b _ z
            obtain ⟨e2, _⟩ := hok' b _ (un.frzs b ob _ z)
            rw [e] at e1
            cases e1
            exact e2
      | _ => exact False.elim h
  cases hk : K.lookup a with
  | some o =>
    have e := KX a o hk
    rw [ha] at e
    cases e
    exact go (fun _ => none) (fun _ => .inl rfl) (.inr ⟨_, us.toArray, _, hk, rfl, rfl, rfl, by rw [List.size_toArray, nl]; exact hl, by simpa using rv⟩) (fun b u z => by cases (show (none : Option HO) = some u from z)) fun b z => absurd rfl z
  | none =>
    refine go (fun b => if b = a then some (.frz { cls := .type "list", data := .seq us.toArray } (.lst (ns.map V.int))) else none) (fun b => ?_) (.inl (.inr ⟨{ cls := .type "list", data := .seq us.toArray }, if_pos rfl⟩)) (fun b u z => ?_) fun b z => ?_
    · by_cases q : b = a
      · exact .inr ⟨_, _, if_pos q⟩
      · exact .inl (if_neg q)
    · by_cases q : b = a
      · cases (if_pos q).symm.trans z
        subst q
        exact ⟨ha, by rw [List.length_map]; exact hl, us, _, rv, ha⟩
      · cases (if_neg q).symm.trans z
    · by_cases q : b = a
      · exact ⟨q, hk⟩
      · exact absurd (if_neg q) z
/-- a law over the table: what is left is plain -/
theorem walk_g {l : PySem.W.OpenLaw} {n k : Nat} {q : Program} {loose : List Str} {XP : (Str → Option Value) → Heap → Prop} {YP : World → Heap → Prop} {d : DefRec} {x : Str} {T : Tb} {fn : Fn} {f : String}
    (hn : l.most = some n) (hn2 : n ≤ sizeLine) (hdf : d.params.defaults = []) (hr : Room k callerA) (ef : T.fn f = some fn)
    (F : ∀ (w : World) (mg : Str → Option Value) (fa : Addr) (h : Heap), YP w h → h.Ns mainGlobals mg → mg d.name = some (.ref fa) →
      ∃ (K : PySem.W.Frag) (fd : FuncData) (cl : ClsT), K.In h ∧ ModF K mg T ∧ TabF K mg T ∧ DefF K mg T f fn fa fd [x])
    (math : ∀ ns : List Int, ns.length ≤ n → wC T k f [.ref 0] (scr ns) (fun d _ => d = .bl true) fun _ _ => False) :
    PySem.W.WalkO q loose XP YP l.row.toRowW d [] (fun f vs => PySem.call f vs) := by
  refine Att.attach_call hn hdf fun w s₀ s₁ mg mb fa o pm cd doc a vs ns G Y ho hd hcd hmg hobj hints hlen hg => ?_
  obtain ⟨K, fd, cl, KX, M, TF, FD⟩ := F w mg fa _ Y G.T.g hmg
  refine law_at KX G.T.g G.T.b G.T.builtins G.T.nolimit hg hobj hints (Nat.le_trans hlen hn2) hr (fun base _ _ => tab_ok (cl := cl) M TF k f fn fa fd [x] ef FD) (fun s u X => FD.bind s [u] X rfl) fun H hO hS => ?_
  refine ⟨[a], scr ns, [.ref 0], _, _, scr_rel hO hS, .one ⟨a, rfl, rfl⟩, math ns hlen, fun d h' ι' H' v q _ _ rd => ?_, fun _ _ _ _ _ _ q => q.elim⟩
  subst q
  exact rd
end Bn
end

section
/-! Bn.P: the table as a datum, the head's facts. -/
namespace Bn
open PySem PySem.Spec PyProof.Rows L2

/-- a value that stands in the written part -/
def itemsOf (K : PySem.W.Frag) (a : Addr) : Option (List Value) := match K.lookup a with
  | some ⟨.type c, _, .seq its _, _⟩ => if c = "tuple" ∧ its.size ≤ sizeLine then some its.toList else none
  | _ => none
mutual
def valB (K : PySem.W.Frag) : D → Value → Bool
  | .non, .none => true
  | .bl a, .bool b => a == b
  | .int i, .int j _ => decide (i = j)
  | .str s, .str y _ => decide (S2 s = y)
  | .tup ds, .ref a => (match itemsOf K a with
    | some us => valBs K ds us
    | none => false)
  | _, _ => false
def valBs (K : PySem.W.Frag) : List D → List Value → Bool
  | [], [] => true
  | d :: ds, u :: us => valB K d u && valBs K ds us
  | _, _ => false
end
theorem items_ok {K : PySem.W.Frag} {a : Addr} {us : List Value} {vs : List V} (e : itemsOf K a = some us) (r : Vals vs us) (H : Hp) : SqT K H a vs := by
  unfold itemsOf at e
  split at e
  · rename_i c od its n sl q
    split at e
    · rename_i hc
      cases e
      exact .inr ⟨_, its, n, q, by rw [hc.1], rfl, hc.2, r⟩
    · cases e
  · cases e
mutual
theorem valB_ok {K : PySem.W.Frag} : ∀ (d : D) (u : Value), valB K d u = true → ∃ v, RelV v u ∧ ∀ H ι, RelD K H ι d v
  | .non, u, h => by
    cases u <;> first | exact absurd h Bool.false_ne_true | exact ⟨.non, rfl, fun _ _ => rfl⟩
  | .bl a, u, h => by
    cases u <;> first | exact absurd h Bool.false_ne_true | (have e := eq_of_beq h; subst e; exact ⟨.bl a, rfl, fun _ _ => rfl⟩)
  | .int i, u, h => by
    cases u <;> first | exact absurd h Bool.false_ne_true | (have e := of_decide_eq_true h; subst e; exact ⟨.int i, ⟨_, rfl⟩, fun _ _ => rfl⟩)
  | .str s, u, h => by
    cases u <;> first | exact absurd h Bool.false_ne_true | (have e := of_decide_eq_true h; subst e; exact ⟨.str (S2 s), ⟨_, rfl⟩, fun _ _ => rfl⟩)
  | .tup ds, u, h => by
    cases u with
    | ref a =>
      have h' : (match itemsOf K a with
        | some us => valBs K ds us
        | none => false) = true := h
      cases e : itemsOf K a with
      | none => rw [e] at h'; cases h'
      | some us =>
        rw [e] at h'
        obtain ⟨vs, r, rd⟩ := valBs_ok ds us h'
        exact ⟨.ref a, rfl, fun H ι => ⟨a, vs, rfl, items_ok e r H, rd H ι⟩⟩
    | _ => exact absurd h Bool.false_ne_true
  | .ref i, u, h => by cases u <;> exact absurd h Bool.false_ne_true
theorem valBs_ok {K : PySem.W.Frag} : ∀ (ds : List D) (us : List Value), valBs K ds us = true → ∃ vs, Vals vs us ∧ ∀ H ι, RelDs K H ι ds vs
  | [], [], _ => ⟨[], .nil, fun _ _ => rfl⟩
  | [], _ :: _, h => absurd h Bool.false_ne_true
  | _ :: _, [], h => absurd h Bool.false_ne_true
  | d :: ds, u :: us, h => by
    obtain ⟨h1, h2⟩ := and2 (show (valB K d u && valBs K ds us) = true from h)
    obtain ⟨v, r, rd⟩ := valB_ok d u h1
    obtain ⟨vs, rs, rds⟩ := valBs_ok ds us h2
    exact ⟨v :: vs, .cons r rs, fun H ι => .cons (rd H ι) (rds H ι)⟩
end
/-- a module constant -/
def conF (K : PySem.W.Frag) (g : String) (d : D) : Bool := match PySem.W.nsIn K mainGlobals (Str.ofString g) with
  | some (some v) => valB K d v
  | _ => false
theorem conF_ok {K : PySem.W.Frag} {h : Heap} {mg : Str → Option Value} (X : K.In h) (G : h.Ns mainGlobals mg) {g : String} {d : D} (c : conF K g d = true) : ∃ u v, mg (Str.ofString g) = some u ∧ RelV v u ∧ ∀ H ι, RelD K H ι d v := by
  unfold conF at c
  split at c
  · rename_i v e
    obtain ⟨x, r, rd⟩ := valB_ok d v c
    exact ⟨v, x, PySem.W.mg_of X G e, r, rd⟩
  · cases c

structure Ent where
  nm : String
  d : He.DefD
  N : List Str
  ps : List Str
  body : Ss
  kws : List (Nat × List String × List Nat) := []
def Ent.fn (e : Ent) : Fn := ⟨e.ps.length, e.N.length, e.body⟩
def tbOf (es : List Ent) (cons : List (String × D)) : Tb where
  fn f := (es.find? fun e => decide (e.nm = f)).map Ent.fn
  con g := (cons.find? fun p => decide (p.1 = g)).map (·.2)
  kw f np kn := (es.find? fun e => decide (e.nm = f)).bind fun e => (e.kws.find? fun k => decide (k.1 = np ∧ k.2.1 = kn)).map (·.2.2)
def scB (N ps : List Str) (sc : Scope) : Bool := (match sc.kind with | .function => true | _ => false) && (!sc.isCoroutine && (!sc.isGenerator && (decide N.Nodup && (decide (N.take ps.length = ps) && (ps.all (fun x => locB sc x) && sc.names.all fun y => !decide (y.2 = .free))))))
theorem scB_ok {N ps : List Str} {sc : Scope} (h : scB N ps sc = true) : FnScope N ps sc := by
  unfold scB at h
  obtain ⟨h1, h⟩ := and2 h
  obtain ⟨h2, h⟩ := and2 h
  obtain ⟨h3, h⟩ := and2 h
  obtain ⟨h4, h⟩ := and2 h
  obtain ⟨h5, h⟩ := and2 h
  obtain ⟨h6, h7⟩ := and2 h
  refine ⟨?_, by simpa using h2, by simpa using h3, of_decide_eq_true h4, of_decide_eq_true h5, fun x hx => loc_of (List.all_eq_true.mp h6 x hx), fun y hy => by simpa using List.all_eq_true.mp h7 y hy⟩
  revert h1
  cases sc.kind <;> intro z <;> first | rfl | exact absurd z Bool.false_ne_true
def okE (T : Tb) (e : Ent) : Bool := decide (e.d.at_ = (Str.ofString e.nm, none)) && (e.d.dfl.isEmpty && (e.d.kwd.isEmpty && (scB e.N e.ps e.d.scope && ckSs T e.N e.d.scope e.body e.d.body)))
def BindE (e : Ent) : Prop := ∀ (kV doc pm : Value) (an : Option Addr) (cdv ct : Value) (us : List Value), us.length = e.ps.length → bindArgs (PySem.W.fnOf e.d.name e.d.qual e.d.params e.d.body e.d.scope .none kV doc pm an cdv ct) ⟨us, []⟩ = pure (e.ps.zip us)
def KwE (e : Ent) (k : Nat × List String × List Nat) : Prop := ∀ (kV doc pm : Value) (an : Option Addr) (cdv ct : Value) (us ws : List Value), us.length = k.1 → ws.length = k.2.1.length →
  ∃ as, mapIx (us ++ ws) k.2.2 = some as ∧ bindArgs (PySem.W.fnOf e.d.name e.d.qual e.d.params e.d.body e.d.scope .none kV doc pm an cdv ct) ⟨us, (k.2.1.map Str.ofString).zip ws⟩ = pure (e.ps.zip as)

/-! ### the head's facts -/
def okB (es : List Ent) (cons : List (String × D)) (K : PySem.W.Frag) : Bool :=
  (builtinNames.all fun x => (He.Fa.free x).ok K) && ((es.all fun e => (He.Fa.glo (Str.ofString e.nm)).ok K && e.d.ok K) && cons.all fun p => conF K p.1 p.2)
def obsB (es : List Ent) (cons : List (String × D)) (K : PySem.W.Frag) : He.AlD := (okB es cons K, es.map fun e => He.fnW K e.d.at_)
def valE (es : List Ent) : He.AlD := (true, es.map fun e => e.d.val)
def SaysB (es : List Ent) (cons : List (String × D)) (K : PySem.W.Frag) : Prop := obsB es cons K = valE es
def obsBG (n : Nat) (es : List Ent) (cons : List (String × D)) (g : Addr → Option Obj) : He.AlD := obsB es cons (He.frG g (He.asD g n))
def hookB (n : Nat) (es : List Ent) (cons : List (String × D)) : PySem.W.Hook where
  α := He.AlD
  obs := fun s => obsBG n es cons s.heap.get?
  val := fun _ => valE es
  says := fun _ h => ∃ K : PySem.W.Frag, K.In h ∧ SaysB es cons K
  of := fun _ _ e => ⟨_, He.frG_in, e⟩
  keeps := fun _ _ _ ⟨K, hK, c⟩ k => ⟨K, PySem.W.Frag.In.keeps hK k, c⟩
theorem obsB_eq {n : Nat} {es : List Ent} {cons : List (String × D)} {g : Addr → Option Obj} {s : Shared} (h : ∀ a, g a = s.heap.get? a) : obsBG n es cons g = (hookB n es cons).obs s := by
  have e : g = s.heap.get? := funext h
  rw [e] <;> rfl
section
variable {es : List Ent} {cons : List (String × D)} {K : PySem.W.Frag} {h : Heap} {mg : Str → Option Value}
theorem mod_of (X : K.In h) (G : h.Ns mainGlobals mg) (c : SaysB es cons K) : ModF K mg (tbOf es cons) := by
  have c1 : okB es cons K = true := congrArg (fun z : He.AlD => z.1) c
  obtain ⟨a1, a2⟩ := and2 (show ((builtinNames.all fun x => (He.Fa.free x).ok K) && ((es.all fun e => (He.Fa.glo (Str.ofString e.nm)).ok K && e.d.ok K) && cons.all fun p => conF K p.1 p.2)) = true from c1)
  obtain ⟨a2, a3⟩ := and2 a2
  refine ⟨fun x hx => He.free_ok X G (List.all_eq_true.mp a1 x hx), fun g d e => ?_⟩
  obtain ⟨p, ep, e2⟩ := Option.map_eq_some_iff.mp (show (cons.find? fun p => decide (p.1 = g)).map (·.2) = some d from e)
  have hm := List.mem_of_find?_eq_some ep
  have hg : p.1 = g := by
    have t := List.find?_some ep
    simpa using t
  have := List.all_eq_true.mp a3 p hm
  rw [hg, e2] at this
  exact conF_ok X G this
theorem ent_of (X : K.In h) (G : h.Ns mainGlobals mg) (c : SaysB es cons K) (hok : es.all (okE (tbOf es cons)) = true) (hb : ∀ e ∈ es, BindE e) (hk : ∀ e ∈ es, ∀ k ∈ e.kws, KwE e k) {f : String} {e : Ent} (ef : (es.find? fun e => decide (e.nm = f)) = some e) :
    ∃ fd, DefF K mg (tbOf es cons) f e.fn (He.fAd K (Str.ofString f, none)) fd e.ps := by
  have c1 : okB es cons K = true := congrArg (fun z : He.AlD => z.1) c
  obtain ⟨a1, a2⟩ := and2 (show ((builtinNames.all fun x => (He.Fa.free x).ok K) && ((es.all fun e => (He.Fa.glo (Str.ofString e.nm)).ok K && e.d.ok K) && cons.all fun p => conF K p.1 p.2)) = true from c1)
  obtain ⟨a2, a3⟩ := and2 a2
  have c2 : es.map (fun e => He.fnW K e.d.at_) = es.map fun e => e.d.val := congrArg (fun z : He.AlD => z.2) c
  have hm := List.mem_of_find?_eq_some ef
  have hn : e.nm = f := by
    have t := List.find?_some ef
    simpa using t
  obtain ⟨b1, b2⟩ := and2 (List.all_eq_true.mp a2 e hm)
  obtain ⟨i, hi, ei⟩ := List.mem_iff_getElem.mp hm
  have e3 : He.fnW K e.d.at_ = e.d.val := by
    have := congrArg (fun l => l[i]?) c2
    simp only [List.getElem?_map, List.getElem?_eq_getElem hi, ei, Option.map_some, Option.some.injEq] at this
    exact this
  obtain ⟨fd, FD⟩ := He.DefD.funD e3 b2
  have o := List.all_eq_true.mp hok e hm
  obtain ⟨o1, o⟩ := and2 (show (decide (e.d.at_ = (Str.ofString e.nm, none)) && (e.d.dfl.isEmpty && (e.d.kwd.isEmpty && (scB e.N e.ps e.d.scope && ckSs (tbOf es cons) e.N e.d.scope e.body e.d.body)))) = true from o)
  obtain ⟨o2, o⟩ := and2 o
  obtain ⟨o3, o⟩ := and2 o
  obtain ⟨o4, o5⟩ := and2 o
  have o1 := of_decide_eq_true o1
  have o2 : e.d.dfl = [] := by simpa using o2
  have o3 : e.d.kwd = [] := by simpa using o3
  have z1 : e.d.dvs K = [] := by unfold He.DefD.dvs; rw [o2]; rfl
  have z2 : e.d.kws K = [] := by unfold He.DefD.kws; rw [o3]; rfl
  rw [z1, z2, o1, hn] at FD
  refine ⟨fd, by have := He.glo_ok X G b1; rw [hn] at this; exact this, ⟨_, _, _, _, _, _, _, e.N, FD, scB_ok o4, rfl, o5⟩, rfl, FD.bindsN fun kV doc pm an cdv ct us hl => hb e hm kV doc pm an cdv ct us hl, fun np kn g eg => ?_⟩
  have eg : ((es.find? fun e => decide (e.nm = f)).bind fun e => (e.kws.find? fun k => decide (k.1 = np ∧ k.2.1 = kn)).map (·.2.2)) = some g := eg
  rw [ef] at eg
  obtain ⟨kk, ek, e5⟩ := Option.map_eq_some_iff.mp (show (e.kws.find? fun k => decide (k.1 = np ∧ k.2.1 = kn)).map (·.2.2) = some g from eg)
  have hkm := List.mem_of_find?_eq_some ek
  obtain ⟨e6, e7⟩ : kk.1 = np ∧ kk.2.1 = kn := by
    have t := List.find?_some ek
    simpa using t
  intro s us ws KI l1 l2
  obtain ⟨oc, od, dV, kV, doc, pm, an, cdv, ct, osl, rfl, lk, hcd, hD, hK⟩ := FD.ex
  rcases hD with ⟨_, rfl⟩ | ⟨q, _⟩
  · obtain ⟨as, m1, m2⟩ := hk e hm kk hkm kV doc pm an cdv ct us ws (by rw [e6]; exact l1) (by rw [e7]; exact l2)
    rw [e5] at m1
    rw [e7] at m2
    exact ⟨as, m1, .of_eq m2⟩
  · exact absurd rfl q
theorem tab_of (X : K.In h) (G : h.Ns mainGlobals mg) (c : SaysB es cons K) (hok : es.all (okE (tbOf es cons)) = true) (hb : ∀ e ∈ es, BindE e) (hk : ∀ e ∈ es, ∀ k ∈ e.kws, KwE e k) : TabF K mg (tbOf es cons) := by
  intro f fn ef
  obtain ⟨e, e1, e2⟩ := Option.map_eq_some_iff.mp (show (es.find? fun e => decide (e.nm = f)).map Ent.fn = some fn from ef)
  subst e2
  obtain ⟨fd, F⟩ := ent_of X G c hok hb hk e1
  exact ⟨_, fd, _, F⟩
end
end Bn
end

section
/-! Bn.Q: rules for the plain law. -/
namespace Bn
open PySem PySem.Spec PyProof.Rows L2

theorem lc_rule {src : Src} {D0 : Nat} {turn : D → Hh → (Option D → Hh → Prop) → Prop} {fin : Hh → Prop} (ds : List D) (I : Nat → Hh → Prop) (items : ∀ k h, I k h → src.at_ h k = some ds[k]?)
    (step : ∀ k d h (nx : Option D → Hh → Prop), ds[k]? = some d → I k h → (∀ y h' acc, h'[D0]? = some (.lst acc) → acc.length < sizeLine → I (k + 1) (h'.set D0 (.lst (acc ++ [y]))) → nx (some y) h') → (∀ h', I (k + 1) h' → nx none h') → turn d h nx)
    (hf : ∀ h, I ds.length h → fin h) (h : Hh) (h0 : I 0 h) : ∃ n, lcLoop src D0 turn fin n 0 h := by
  have go : ∀ m k h, k + m = ds.length → I k h → lcLoop src D0 turn fin (m + 1) k h := by
    intro m
    induction m with
    | zero =>
      intro k h e i
      have hk : k = ds.length := by omega
      unfold lcLoop
      rw [items k h i, hk, List.getElem?_eq_none (Nat.le_refl _)]
      exact hf h (hk ▸ i)
    | succ m ih =>
      intro k h e i
      have hk : k < ds.length := by omega
      unfold lcLoop
      rw [items k h i, List.getElem?_eq_getElem hk]
      refine step k _ h _ (List.getElem?_eq_getElem hk) i (fun y h' acc e1 e2 e3 => ⟨acc, e1, e2, ih (k + 1) _ (by omega) e3⟩) fun h' e3 => ih (k + 1) h' (by omega) e3
  exact ⟨ds.length + 1, go ds.length 0 h (by omega) h0⟩
theorem for_rule {src : Src} {turn : D → Sl → Hh → (Sl → Hh → Prop) → Prop} {fin : Sl → Hh → Prop} (ds : List D) (I : Nat → Sl → Hh → Prop) (items : ∀ k δ h, I k δ h → src.at_ h k = some ds[k]?)
    (step : ∀ k d δ h (nx : Sl → Hh → Prop), ds[k]? = some d → I k δ h → (∀ δ' h', I (k + 1) δ' h' → nx δ' h') → turn d δ h nx)
    (hf : ∀ δ h, I ds.length δ h → fin δ h) (δ : Sl) (h : Hh) (h0 : I 0 δ h) : ∃ n, forLoop src turn fin n 0 δ h := by
  have go : ∀ m k δ h, k + m = ds.length → I k δ h → forLoop src turn fin (m + 1) k δ h := by
    intro m
    induction m with
    | zero =>
      intro k δ h e i
      have hk : k = ds.length := by omega
      unfold forLoop
      rw [items k δ h i, hk, List.getElem?_eq_none (Nat.le_refl _)]
      exact hf δ h (hk ▸ i)
    | succ m ih =>
      intro k δ h e i
      have hk : k < ds.length := by omega
      unfold forLoop
      rw [items k δ h i, List.getElem?_eq_getElem hk]
      exact step k _ δ h _ (List.getElem?_eq_getElem hk) i fun δ' h' e3 => ih (k + 1) δ' h' (by omega) e3
  exact ⟨ds.length + 1, go ds.length 0 δ h (by omega) h0⟩
/-- a pure list comprehension -/
theorem lc_pure {src : Src} {turn : D → Hh → (Option D → Hh → Prop) → Prop} {fin : Hh → Prop} {h0 : Hh} (ds : List D) (f : D → Option D) (hl : ds.length ≤ sizeLine) (items : ∀ acc k, src.at_ (h0 ++ [.lst acc]) k = some ds[k]?)
    (step : ∀ d ∈ ds, ∀ acc (nx : Option D → Hh → Prop), nx (f d) (h0 ++ [.lst acc]) → turn d (h0 ++ [.lst acc]) nx) (hf : fin (h0 ++ [.lst (ds.filterMap f)])) : ∃ n, lcLoop src h0.length turn fin n 0 (h0 ++ [.lst []]) := by
  refine lc_rule ds (fun k h => h = h0 ++ [.lst ((ds.take k).filterMap f)]) (fun k h e => by rw [e]; exact items _ k) (fun k d h nx ed e n1 n2 => ?_) (fun h e => by rw [e, List.take_length]; exact hf) _ (by simp)
  subst e
  have hm : d ∈ ds := List.mem_of_getElem? ed
  have hk : k < ds.length := (List.getElem?_eq_some_iff.mp ed).1
  refine step d hm _ nx ?_
  have et : (ds.take (k + 1)).filterMap f = (ds.take k).filterMap f ++ (f d).toList := by
    rw [List.take_add_one, List.filterMap_append, ed]
    cases hfd : f d <;> simp [hfd]
  cases hfd : f d with
  | none => exact n2 _ (by rw [et, hfd]; simp)
  | some y =>
    refine n1 y _ ((ds.take k).filterMap f) (by simp) ?_ (by rw [et, hfd]; simp)
    have := List.length_filterMap_le f (ds.take k)
    rw [List.length_take] at this
    omega
/-- over a text's signs -/
theorem lc_chars {turn : D → Hh → (Option D → Hh → Prop) → Prop} {fin : Hh → Prop} {h0 : Hh} {s : List Nat} (g : Nat → Option D) (hl : s.length ≤ sizeLine)
    (step : ∀ c ∈ s, ∀ acc (nx : Option D → Hh → Prop), nx (g c) (h0 ++ [.lst acc]) → turn (.str [c]) (h0 ++ [.lst acc]) nx) (hf : fin (h0 ++ [.lst (s.filterMap g)])) : ∃ n, lcLoop (.fix (s.map fun c => D.str [c])) h0.length turn fin n 0 (h0 ++ [.lst []]) := by
  refine lc_pure (s.map fun c => D.str [c]) (fun d => match d with
    | .str [c] => g c
    | _ => none) (by simpa using hl) (fun _ _ => rfl) (fun d hd acc nx q => ?_) ?_
  · obtain ⟨c, hc, rfl⟩ := List.mem_map.mp hd
    exact step c hc acc nx q
  · rw [List.filterMap_map]
    exact hf
/-! ### the heap -/
theorem get_app {h g : Hh} {i : Nat} {o : Ob} (e : h[i]? = some o) : (h ++ g)[i]? = some o := by
  rw [List.getElem?_append_left (List.getElem?_eq_some_iff.mp e).1]; exact e
theorem get_new {h : Hh} {o : Ob} : (h ++ [o])[h.length]? = some o := by simp
theorem get_set {h : Hh} {i : Nat} {o u : Ob} (e : h[i]? = some u) : (h.set i o)[i]? = some o := by
  rw [List.getElem?_set_self (List.getElem?_eq_some_iff.mp e).1]
theorem get_set_ne {h : Hh} {i j : Nat} {o u : Ob} (e : h[j]? = some u) (n : i ≠ j) : (h.set i o)[j]? = some u := by
  rw [List.getElem?_set_ne n]; exact e
/-! ### forms that one meets -/
theorem ix_lst {h : Hh} {p : Nat} {xs : List D} {i : Int} {Q : QD} {d : D} (hp : lsD h p = some xs) (e : atI xs i = some d) (q : Q d h) : vIx (.ref p) (.int i) h Q := .inl ⟨xs, i, d, hp, rfl, e, q⟩
theorem ix_tup {h : Hh} {xs : List D} {i : Int} {Q : QD} {d : D} (e : atI xs i = some d) (q : Q d h) : vIx (.tup xs) (.int i) h Q := ⟨i, d, rfl, e, q⟩
theorem ls_of {h : Hh} {p : Nat} {xs : List D} (e : h[p]? = some (.lst xs)) : lsD h p = some xs := by unfold lsD; rw [e]
theorem ls_ofk {h : Hh} {p : Nat} {xs : List D} (e : h[p]? = some (.klst xs)) : lsD h p = some xs := by unfold lsD; rw [e]
theorem ix_lst_iff {h : Hh} {p : Nat} {xs : List D} {i : Int} {Q : QD} (hp : h[p]? = some (.lst xs)) : vIx (.ref p) (.int i) h Q ↔ ∃ d, atI xs i = some d ∧ Q d h := by
  refine ⟨fun w => ?_, fun ⟨d, e, q⟩ => ix_lst (ls_of hp) e q⟩
  rcases w with ⟨ys, j, d, e1, e2, e3, q⟩ | ⟨kvs, d, e1, _⟩
  · rw [ls_of hp] at e1
    cases e1
    cases e2
    exact ⟨d, e3, q⟩
  · rw [hp] at e1; cases e1
theorem ix_klst_iff {h : Hh} {p : Nat} {xs : List D} {i : Int} {Q : QD} (hp : h[p]? = some (.klst xs)) : vIx (.ref p) (.int i) h Q ↔ ∃ d, atI xs i = some d ∧ Q d h := by
  refine ⟨fun w => ?_, fun ⟨d, e, q⟩ => ix_lst (ls_ofk hp) e q⟩
  rcases w with ⟨ys, j, d, e1, e2, e3, q⟩ | ⟨kvs, d, e1, _⟩
  · rw [ls_ofk hp] at e1
    cases e1
    cases e2
    exact ⟨d, e3, q⟩
  · rw [hp] at e1; cases e1
theorem ix_tup_iff {h : Hh} {xs : List D} {i : Int} {Q : QD} : vIx (.tup xs) (.int i) h Q ↔ ∃ d, atI xs i = some d ∧ Q d h := by
  refine ⟨fun ⟨j, d, e, a, q⟩ => ?_, fun ⟨d, e, q⟩ => ⟨i, d, rfl, e, q⟩⟩
  cases e
  exact ⟨d, a, q⟩
theorem set_lst_iff {h : Hh} {p : Nat} {xs : List D} {i : Int} {d : D} {Q : Hh → Prop} (hp : h[p]? = some (.lst xs)) : vSet (.ref p) (.int i) d h Q ↔ ∃ j, ixN xs.length i = some j ∧ Q (h.set p (.lst (xs.set j d))) := by
  refine ⟨fun ⟨l, ys, k, j, e1, e2, e3, e4, q⟩ => ?_, fun ⟨j, e, q⟩ => ⟨p, xs, i, j, rfl, hp, rfl, e, q⟩⟩
  cases e1
  cases e3
  rw [hp] at e2
  cases e2
  exact ⟨j, e4, q⟩
theorem atI_nat {α : Type} {xs : List α} {i : Int} (h0 : 0 ≤ i) : atI xs i = xs[i.toNat]? := by
  unfold atI ixN
  rw [if_pos h0]
  by_cases h : i < xs.length
  · simp [h]
  · simp [h]; omega
theorem atI0 {α : Type} {x : α} {xs : List α} : atI (x :: xs) 0 = some x := by rw [atI_nat (by decide)]; rfl
theorem atI1 {α : Type} {x y : α} {xs : List α} : atI (x :: y :: xs) 1 = some y := by rw [atI_nat (by decide)]; rfl
theorem atI2 {α : Type} {x y z : α} {xs : List α} : atI (x :: y :: z :: xs) 2 = some z := by rw [atI_nat (by decide)]; rfl
theorem ixN0 {n : Nat} : ixN (n + 1) 0 = some 0 := by simp [ixN] <;> omega
theorem ixN1 {n : Nat} : ixN (n + 2) 1 = some 1 := by simp [ixN] <;> omega
theorem slot_ex {d : D} {P : D → Prop} : (∃ x, some (some d) = some (some x) ∧ P x) ↔ P d := by simp
theorem ex_eq {α : Type} {a : α} {P : α → Prop} : (∃ x, a = x ∧ P x) ↔ P a := by simp
theorem isi1 {h : Hh} {t : String} {x : D} : isAny h [t] x = isTy h t x := rfl
theorem tru_bl {h : Hh} {b : Bool} : truD h (.bl b) = some b := rfl
theorem tru_int {h : Hh} {i : Int} : truD h (.int i) = some (i != 0) := rfl
theorem ty_str {h : Hh} {s : List Nat} : isTy h "str" (.str s) = some true := rfl
def okS (s : List Nat) : Prop := ∀ c ∈ s, c < 1114112
theorem lay_str {s : List Nat} (h : okS s) : laid (.str (S2 s)) := by
  refine ⟨?_, by simp [PyData.depth]⟩
  simp only [PyData.canLay0, PyData.strOk]
  rw [Array.all_eq_true_iff_forall_mem]
  intro c hc
  exact decide_eq_true (h c (by simpa [S2] using hc))
theorem S2_eq {s t : List Nat} : (S2 s == S2 t) = decide (s = t) := by
  by_cases e : s = t
  · subst e; simp
  · rw [decide_eq_false e]
    exact beq_eq_false_iff_ne.mpr fun z => e (S2_inj z)
theorem eq_str {h : Hh} {s t : List Nat} {Q : Bool → Prop} (hs : okS s) (ht : okS t) : vEq (.str s) (.str t) h Q ↔ Q (decide (s = t)) := by
  constructor
  · rintro (⟨a, b, d1, d2, _, _, q⟩ | ⟨i, j, xs, ys, e, _⟩)
    · cases d1; cases d2
      have : PyData.eqv (.str (S2 s)) (.str (S2 t)) = decide (s = t) := S2_eq
      rw [this] at q
      exact q
    · cases e
  · intro q
    refine .inl ⟨_, _, .str s, .str t, lay_str hs, lay_str ht, ?_⟩
    have : PyData.eqv (.str (S2 s)) (.str (S2 t)) = decide (s = t) := S2_eq
    rw [this]
    exact q
theorem lay_int {i : Int} : laid (.int i) := ⟨rfl, by simp [PyData.depth]⟩
theorem lay_non : laid .none := ⟨rfl, by simp [PyData.depth]⟩
theorem eq_int {h : Hh} {i j : Int} {Q : Bool → Prop} : vEq (.int i) (.int j) h Q ↔ Q (decide (i = j)) := by
  have e : PyData.eqv (.int i) (.int j) = decide (i = j) := by
    show (i == j) = _
    by_cases z : i = j <;> simp [z]
  constructor
  · rintro (⟨a, b, d1, d2, _, _, q⟩ | ⟨i, j, xs, ys, e, _⟩)
    · cases d1; cases d2
      rw [e] at q
      exact q
    · cases e
  · intro q
    exact .inl ⟨_, _, .int i, .int j, lay_int, lay_int, by rw [e]; exact q⟩
theorem eq_non_int {h : Hh} {j : Int} {Q : Bool → Prop} : vEq .non (.int j) h Q ↔ Q false := by
  constructor
  · rintro (⟨a, b, d1, d2, _, _, q⟩ | ⟨i, j, xs, ys, e, _⟩)
    · cases d1; cases d2
      exact q
    · cases e
  · intro q
    exact .inl ⟨_, _, .non, .int j, lay_non, lay_int, q⟩
theorem deepL_strs {h : Hh} : ∀ {ds : List D} {ys : List (List Nat)}, strsD ds = some ys → ∀ {bs : List PyData}, DeepL h ds bs ↔ bs = ys.map fun y => PyData.str (S2 y)
  | [], ys, e, bs => by
    cases e
    exact ⟨fun z => by cases z; rfl, fun z => by subst z; exact .nil⟩
  | .str s :: ds, ys, e, bs => by
    simp only [strsD, Option.map_eq_some_iff] at e
    obtain ⟨zs, e1, e2⟩ := e
    subst e2
    constructor
    · intro z
      cases z with
      | cons a b =>
        cases a
        rw [(deepL_strs e1).mp b]
        rfl
    · intro z
      subst z
      exact .cons (.str s) ((deepL_strs e1).mpr rfl)
  | .non :: _, _, e, _ => by cases e
  | .bl _ :: _, _, e, _ => by cases e
  | .int _ :: _, _, e, _ => by cases e
  | .tup _ :: _, _, e, _ => by cases e
  | .ref _ :: _, _, e, _ => by cases e
theorem in_strs {h : Hh} {s : List Nat} {ds : List D} {ys : List (List Nat)} {Q : Bool → Prop} (e : strsD ds = some ys) (hs : okS s) (hy : ∀ y ∈ ys, okS y) : vIn (.str s) (.tup ds) h Q ↔ Q (decide (s ∈ ys)) := by
  have key : ((ys.map fun y => PyData.str (S2 y)).any fun z => PyData.eqv z (.str (S2 s))) = decide (s ∈ ys) := by
    rw [List.any_map]
    have : ((fun z => PyData.eqv z (.str (S2 s))) ∘ fun y => PyData.str (S2 y)) = fun y => decide (y = s) := funext fun y => S2_eq
    rw [this]
    by_cases hm : s ∈ ys
    · rw [decide_eq_true hm, List.any_eq_true]
      exact ⟨s, hm, by simp⟩
    · rw [decide_eq_false hm, List.any_eq_false]
      intro y hy
      simp
      exact fun z => hm (z ▸ hy)
  constructor
  · rintro ⟨a, bs, d1, d2, _, _, q⟩
    cases d1
    rw [(deepL_strs e).mp d2, key] at q
    exact q
  · intro q
    refine ⟨_, _, .str s, (deepL_strs e).mpr rfl, lay_str hs, fun b hb => ?_, by rw [key]; exact q⟩
    obtain ⟨y, hy', rfl⟩ := List.mem_map.mp hb
    exact lay_str (hy y hy')
theorem in_str1 {h : Hh} {c : Nat} {t : List Nat} {Q : Bool → Prop} : vIn (.str [c]) (.str t) h Q ↔ Q (decide (c ∈ t)) := by
  constructor
  · rintro ⟨c', e, q⟩
    cases e
    exact q
  · intro q
    exact ⟨c, rfl, q⟩
theorem okS_app {a b : List Nat} (h1 : okS a) (h2 : okS b) : okS (a ++ b) := fun c hc => (List.mem_append.mp hc).elim (h1 c) (h2 c)
theorem okS_sub {a b : List Nat} (h : okS b) (s : a.Sublist b) : okS a := fun c hc => h c (s.subset hc)
theorem eq_nil {h : Hh} {i j : Nat} {xs : List D} {Q : Bool → Prop} (hi : h[i]? = some (.lst xs)) (hj : h[j]? = some (.lst [])) (q : Q (decide (xs = []))) : vEq (.ref i) (.ref j) h Q := by
  cases xs with
  | nil =>
    refine .inl ⟨_, _, .lst (ls_of hi) .nil, .lst (ls_of hj) .nil, ⟨rfl, by simp [PyData.depth, PyData.depthAll]⟩, ⟨rfl, by simp [PyData.depth, PyData.depthAll]⟩, ?_⟩
    have e : PyData.eqv (.list []) (.list []) = true := rfl
    rw [e]
    simpa using q
  | cons x xs => exact .inr ⟨i, j, _, _, rfl, rfl, ls_of hi, ls_of hj, by simp, by simpa using q⟩
section
variable {h : Hh} {i j : Int} {s t : List Nat} {Q : QD} {xs ys : List D}
theorem i2_int {P : Int → Int → Prop} : vI2 (.int i) (.int j) P ↔ P i j := .rfl
theorem add_int : vBin .add (.int i) (.int j) h Q ↔ Q (.int (i + j)) h := .rfl
theorem add_str : vBin .add (.str s) (.str t) h Q ↔ s.length + t.length ≤ sizeLine ∧ Q (.str (s ++ t)) h := .rfl
theorem add_tup : vBin .add (.tup xs) (.tup ys) h Q ↔ xs.length + ys.length ≤ sizeLine ∧ Q (.tup (xs ++ ys)) h := .rfl
theorem sub_int : vBin .sub (.int i) (.int j) h Q ↔ Q (.int (i - j)) h := .rfl
theorem mul_int : vBin .mul (.int i) (.int j) h Q ↔ CMul i j ∧ Q (.int (i * j)) h := .rfl
theorem fdiv_int : vBin .fdiv (.int i) (.int j) h Q ↔ CDiv i j ∧ Q (.int (i / j)) h := .rfl
theorem mod_int : vBin .mod (.int i) (.int j) h Q ↔ 0 < j ∧ Q (.int (i % j)) h := .rfl
theorem pow_int : vBin .pow (.int i) (.int j) h Q ↔ CPow i j ∧ Q (.int (i ^ j.toNat)) h := .rfl
theorem neg_int : vNeg (.int i) h Q ↔ Q (.int (-i)) h := .rfl
theorem len_str' : lenD h (.str s) = some s.length := rfl
theorem len_tup' : lenD h (.tup xs) = some xs.length := rfl
theorem len_lst' {p : Nat} (e : h[p]? = some (.lst xs)) : lenD h (.ref p) = some xs.length := by simp [lenD, e]
theorem len_klst' {p : Nat} (e : h[p]? = some (.klst xs)) : lenD h (.ref p) = some xs.length := by simp [lenD, e]
theorem part_non : partI .non = some none := rfl
theorem part_int : partI (.int i) = some (some i) := rfl
end
end Bn
end

section
namespace K11
open PySem PySem.Spec Bn
abbrev st (i : Nat) : Stmt := PySem.Challenge.pw_boundnames_k11_wishes_and_names.main.body.getD i (.Pass ⟨0, 0, 0, 0⟩)
def b_is_wish : Ss := (.cons (.ife (.or (.not (.val (.isi (.loc 0) ["str"]))) (.not (.chain .le .le (.cst (.int 1)) (.bi .len (.cons (.loc 0) .nil)) (.glob "MOST_LETTERS")))) (.cons (.ret (.cst (.bl false))) .nil) .nil) (.cons (.ret (.and (.cmp .notIn (.loc 0) (.glob "RESERVED")) (.bi .all (.cons (.lc (.cmp .in_ (.loc 1) (.glob "LETTERS")) (.nm 1) (.seq (.loc 0)) .tt [1]) .nil)))) .nil))
def b_is_mark_text : Ss := (.cons (.ife (.or (.cmp .eq (.loc 0) (.cst (.str []))) (.or (.cmp .gt (.bi .len (.cons (.loc 0) .nil)) (.bi .len (.cons (.bi .str (.cons (.glob "MOST_MARK") .nil)) .nil))) (.cmp .eq (.ix (.loc 0) (.cst (.int 0))) (.cst (.str [48]))))) (.cons (.ret (.cst (.bl false))) .nil) .nil) (.cons (.ret (.and (.bi .all (.cons (.lc (.cmp .in_ (.loc 1) (.glob "DIGITS")) (.nm 1) (.seq (.loc 0)) .tt [1]) .nil)) (.chain .le .le (.glob "LEAST_MARK") (.bi .int (.cons (.loc 0) .nil)) (.glob "MOST_MARK")))) .nil))
def b_is_name : Ss := (.cons (.ife (.not (.val (.isi (.loc 0) ["str"]))) (.cons (.ret (.cst (.bl false))) .nil) .nil) (.cons (.asg (.tup (.cons (.nm 1) (.cons (.nm 2) (.cons (.nm 3) .nil)))) (.bm .partition (.loc 0) (.cons (.cst (.str [39])) .nil))) (.cons (.ret (.and (.call "is_wish" (.cons (.loc 1) .nil)) (.or (.cmp .eq (.loc 2) (.cst (.str []))) (.call "is_mark_text" (.cons (.loc 3) .nil))))) .nil)))
def b_split_name : Ss := (.cons (.asg (.tup (.cons (.nm 1) (.cons (.nm 2) (.cons (.nm 3) .nil)))) (.bm .partition (.loc 0) (.cons (.cst (.str [39])) .nil))) (.cons (.ret (.tup (.cons (.loc 1) (.cons (.ife (.cmp .eq (.loc 2) (.cst (.str []))) (.cst .non) (.bi .int (.cons (.loc 3) .nil))) .nil)))) .nil))
def b__law_pot : Ss := (.cons (.set 2 (.ife (.cmp .lt (.loc 1) (.bi .len (.cons (.loc 0) .nil))) (.ix (.loc 0) (.loc 1)) (.cst (.int 0)))) (.cons (.ret (.lst (.cons (.bi .max (.cons (.cst (.int 0)) (.cons (.bin .sub (.bi .abs (.cons (.loc 2) .nil)) (.bin .pow (.cst (.int 10)) (.cst (.int 18)))) .nil))) (.cons (.bin .add (.bin .add (.bin .mod (.bi .abs (.cons (.loc 2) .nil)) (.cst (.int 2147483563))) (.bin .mul (.cst (.int 101)) (.loc 1))) (.cst (.int 7))) .nil)))) .nil))
def b__law_take : Ss := (.cons (.ife (.cmp .gt (.ix (.loc 0) (.cst (.int 0))) (.cst (.int 0))) (.cons (.asg (.tup (.cons (.sub (.loc 0) (.cst (.int 0))) (.cons (.nm 2) .nil))) (.bi .divmod (.cons (.ix (.loc 0) (.cst (.int 0))) (.cons (.loc 1) .nil)))) (.cons (.ret (.loc 2)) .nil)) .nil) (.cons (.asg (.sub (.loc 0) (.cst (.int 1))) (.bin .mod (.bin .add (.bin .mul (.ix (.loc 0) (.cst (.int 1))) (.cst (.int 39373))) (.cst (.int 9311))) (.cst (.int 2147483629)))) (.cons (.ret (.bin .mod (.bin .fdiv (.bin .mod (.bin .mul (.ix (.loc 0) (.cst (.int 1))) (.ix (.loc 0) (.cst (.int 1)))) (.cst (.int 2147483563))) (.cst (.int 11))) (.loc 1))) .nil)))
def b__law_is_wish : Ss := (.cons (.ife (.or (.not (.val (.isi (.loc 0) ["str"]))) (.or (.not (.chain .lt .lt (.cst (.int 0)) (.bi .len (.cons (.loc 0) .nil)) (.cst (.int 9)))) (.cmp .in_ (.loc 0) (.tup (.cons (.cst (.str [108, 101, 116])) (.cons (.cst (.str [105, 110])) (.cons (.cst (.str [102, 117, 110])) (.cons (.cst (.str [105, 102])) (.cons (.cst (.str [116, 104, 101, 110])) (.cons (.cst (.str [101, 108, 115, 101])) .nil)))))))))) (.cons (.ret (.cst (.bl false))) .nil) .nil) (.cons (.ret (.cmp .eq (.lc (.loc 1) (.nm 1) (.seq (.loc 0)) (.cmp .notIn (.loc 1) (.cst (.str [97, 98, 99, 100, 101, 102, 103, 104, 105, 106, 107, 108, 109, 110, 111, 112, 113, 114, 115, 116, 117, 118, 119, 120, 121, 122]))) [1]) (.lst .nil))) .nil))
def b__law_mark_of : Ss := (.cons (.ife (.cmp .notIn (.cst (.str [39])) (.loc 0)) (.cons (.ret (.cst .non)) .nil) .nil) (.cons (.set 1 (.slc (.loc 0) (.bin .add (.bm .sindex (.loc 0) (.cons (.cst (.str [39])) .nil)) (.cst (.int 1))) (.cst .non))) (.cons (.ife (.or (.cmp .eq (.loc 1) (.cst (.str []))) (.cmp .ne (.lc (.loc 2) (.nm 2) (.seq (.loc 1)) (.cmp .notIn (.loc 2) (.cst (.str [48, 49, 50, 51, 52, 53, 54, 55, 56, 57]))) [2]) (.lst .nil))) (.cons (.ret (.cst (.int 0))) .nil) .nil) (.cons (.ret (.ife (.and (.cmp .eq (.bi .str (.cons (.bi .int (.cons (.loc 1) .nil)) .nil)) (.loc 1)) (.chain .lt .lt (.cst (.int 1)) (.bi .int (.cons (.loc 1) .nil)) (.cst (.int 1000)))) (.bi .int (.cons (.loc 1) .nil)) (.cst (.int 0)))) .nil))))
def b__law_is_name : Ss := (.cons (.ife (.not (.val (.isi (.loc 0) ["str"]))) (.cons (.ret (.cst (.bl false))) .nil) .nil) (.cons (.ret (.and (.call "_law_is_wish" (.cons (.ix (.bm .split (.loc 0) (.cons (.cst (.str [39])) .nil)) (.cst (.int 0))) .nil)) (.cmp .ne (.call "_law_mark_of" (.cons (.loc 0) .nil)) (.cst (.int 0))))) .nil))
def b__law_word : Ss := (.cons (.set 1 (.cst (.str [97, 98, 99, 100, 101, 102, 103, 104, 105, 106, 107, 108, 109, 110, 111, 112, 113, 114, 115, 116, 117, 118, 119, 120, 121, 122]))) (.cons (.set 2 (.call "_law_take" (.cons (.loc 0) (.cons (.cst (.int 5)) .nil)))) (.cons (.set 3 (.bin .add (.cst (.int 1)) (.call "_law_take" (.cons (.loc 0) (.cons (.ix (.lst (.cons (.cst (.int 1)) (.cons (.cst (.int 3)) (.cons (.cst (.int 10)) .nil)))) (.call "_law_take" (.cons (.loc 0) (.cons (.cst (.int 3)) .nil)))) .nil))))) (.cons (.set 4 (.bm .join (.cst (.str [])) (.cons (.lc (.ix (.loc 1) (.call "_law_take" (.cons (.loc 0) (.cons (.cst (.int 26)) .nil)))) (.nm 8) (.rng1 (.loc 3)) .tt [8]) .nil))) (.cons (.set 5 (.ix (.lst (.cons (.cst (.str [108, 101, 116])) (.cons (.cst (.str [105, 110])) (.cons (.cst (.str [102, 117, 110])) (.cons (.cst (.str [105, 102])) (.cons (.cst (.str [116, 104, 101, 110])) (.cons (.cst (.str [101, 108, 115, 101])) .nil))))))) (.call "_law_take" (.cons (.loc 0) (.cons (.cst (.int 6)) .nil))))) (.cons (.set 6 (.bm .join (.cst (.str [])) (.cons (.lc (.ix (.loc 1) (.call "_law_take" (.cons (.loc 0) (.cons (.cst (.int 26)) .nil)))) (.nm 8) (.rng1 (.bin .add (.cst (.int 7)) (.call "_law_take" (.cons (.loc 0) (.cons (.cst (.int 3)) .nil))))) .tt [8]) .nil))) (.cons (.set 7 (.ix (.lst (.cons (.bin .add (.loc 5) (.ix (.loc 1) (.call "_law_take" (.cons (.loc 0) (.cons (.cst (.int 26)) .nil))))) (.cons (.slc (.loc 5) (.cst (.int 1)) (.cst .non)) .nil))) (.call "_law_take" (.cons (.loc 0) (.cons (.cst (.int 2)) .nil))))) (.cons (.ret (.ix (.lst (.cons (.loc 4) (.cons (.loc 4) (.cons (.loc 5) (.cons (.loc 7) (.cons (.loc 6) .nil)))))) (.loc 2))) .nil))))))))
def b__law_marked : Ss := (.cons (.set 2 (.lst (.cons (.cst (.str [50])) (.cons (.cst (.str [57, 57, 57])) (.cons (.cst (.str [49])) (.cons (.cst (.str [49, 48, 48, 48])) (.cons (.cst (.str [48])) (.cons (.bi .str (.cons (.call "_law_take" (.cons (.loc 0) (.cons (.cst (.int 1101)) .nil))) .nil)) (.cons (.bin .add (.cst (.str [48])) (.bi .str (.cons (.bin .add (.cst (.int 2)) (.call "_law_take" (.cons (.loc 0) (.cons (.cst (.int 98)) .nil)))) .nil))) .nil))))))))) (.cons (.set 2 (.bin .add (.loc 2) (.lst (.cons (.cst (.str [])) (.cons (.cst (.str [49, 50, 39, 51])) (.cons (.cst (.str [45, 50])) .nil)))))) (.cons (.ret (.bin .add (.bin .add (.loc 1) (.cst (.str [39]))) (.ix (.loc 2) (.call "_law_take" (.cons (.loc 0) (.cons (.cst (.int 10)) .nil)))))) .nil)))
def b__law_bent : Ss := (.cons (.par [2, 3] (.cons (.call "_law_take" (.cons (.loc 0) (.cons (.bin .add (.bi .len (.cons (.loc 1) .nil)) (.cst (.int 1))) .nil))) (.cons (.ix (.cst (.str [97, 122, 65, 90, 48, 57, 39, 63, 32, 95, 45, 10, 46])) (.call "_law_take" (.cons (.loc 0) (.cons (.cst (.int 13)) .nil)))) .nil))) (.cons (.par [4, 5] (.cons (.slc (.loc 1) (.cst .non) (.loc 2)) (.cons (.slc (.loc 1) (.bin .add (.loc 2) (.cst (.int 1))) (.cst .non)) .nil))) (.cons (.ret (.ix (.lst (.cons (.bin .add (.bin .add (.loc 4) (.loc 3)) (.slc (.loc 1) (.loc 2) (.cst .non))) (.cons (.bin .add (.loc 4) (.loc 5)) (.cons (.bin .add (.bin .add (.loc 4) (.loc 3)) (.loc 5)) .nil)))) (.call "_law_take" (.cons (.loc 0) (.cons (.cst (.int 3)) .nil))))) .nil)))
def b__law_word_right : Ss := (.cons (.set 1 (.lst (.cons (.call "is_wish" (.cons (.loc 0) .nil)) (.cons (.callK "is_wish" .nil ["value"] (.cons (.loc 0) .nil)) (.cons (.call "is_name" (.cons (.loc 0) .nil)) (.cons (.callK "is_name" .nil ["value"] (.cons (.loc 0) .nil)) .nil)))))) (.cons (.set 2 (.lst (.cons (.call "_law_is_wish" (.cons (.loc 0) .nil)) (.cons (.call "_law_is_wish" (.cons (.loc 0) .nil)) (.cons (.call "_law_is_name" (.cons (.loc 0) .nil)) (.cons (.call "_law_is_name" (.cons (.loc 0) .nil)) .nil)))))) (.cons (.ife (.cmp .ne (.bi .repr (.cons (.loc 1) .nil)) (.bi .repr (.cons (.loc 2) .nil))) (.cons (.ret (.cst (.bl false))) .nil) .nil) (.cons (.ife (.not (.val (.ix (.loc 2) (.cst (.int 2))))) (.cons (.ret (.cst (.bl true))) .nil) .nil) (.cons (.set 3 (.tup (.cons (.ix (.bm .split (.loc 0) (.cons (.cst (.str [39])) .nil)) (.cst (.int 0))) (.cons (.call "_law_mark_of" (.cons (.loc 0) .nil)) .nil)))) (.cons (.ret (.cmp .eq (.bi .repr (.cons (.lst (.cons (.call "split_name" (.cons (.loc 0) .nil)) (.cons (.callK "split_name" .nil ["name"] (.cons (.loc 0) .nil)) .nil))) .nil)) (.bi .repr (.cons (.lst (.cons (.loc 3) (.cons (.loc 3) .nil))) .nil)))) .nil))))))
def b__law_right : Ss := (.cons (.set 1 (.call "_law_word" (.cons (.loc 0) .nil))) (.cons (.set 2 (.call "_law_marked" (.cons (.loc 0) (.cons (.loc 1) .nil)))) (.cons (.set 3 (.lst (.cons (.loc 1) (.cons (.loc 2) (.cons (.call "_law_bent" (.cons (.loc 0) (.cons (.loc 1) .nil))) (.cons (.call "_law_bent" (.cons (.loc 0) (.cons (.loc 2) .nil))) (.cons (.bin .mul (.loc 1) (.cst (.int 2))) .nil))))))) (.cons (.expr (.bm .append (.loc 3) (.cons (.call "_law_bent" (.cons (.loc 0) (.cons (.call "_law_bent" (.cons (.loc 0) (.cons (.loc 2) .nil))) .nil))) .nil))) (.cons (.set 4 (.lst (.cons (.cst .non) (.cons (.cst (.int 0)) (.cons (.cst (.int 5)) (.cons (.cst (.bl true)) (.cons (.cst (.bl false)) (.cons (.lst .nil) (.cons (.tup .nil) (.cons (.dct .nil) (.cons (.lst (.cons (.loc 1) .nil)) (.cons (.tup (.cons (.loc 1) .nil)) (.cons (.dct (.cons (.loc 1) (.cons (.cst (.int 1)) .nil))) (.cons (.bin .pow (.cst (.int 10)) (.cst (.int 40))) .nil)))))))))))))) (.cons (.ret (.bi .all (.cons (.lc (.call "_law_word_right" (.cons (.loc 5) .nil)) (.nm 5) (.seq (.bin .add (.loc 3) (.loc 4))) .tt [5]) .nil))) .nil))))))
def b_law : Ss := (.cons (.ife (.cmp .ne (.bi .repr (.cons (.glob "MOST_MARK") .nil)) (.cst (.str [57, 57, 57]))) (.cons (.ret (.cst (.bl false))) .nil) .nil) (.cons (.ife (.not (.val (.bi .all (.cons (.lc (.call "_law_word_right" (.cons (.loc 1) .nil)) (.nm 1) (.seq (.lst (.cons (.cst (.str [])) (.cons (.cst (.str [39])) (.cons (.cst (.str [39, 50])) (.cons (.cst (.str [120, 39])) (.cons (.cst (.str [120, 39, 50])) (.cons (.cst (.str [108, 101, 116, 39, 50])) .nil)))))))) .tt [1]) .nil)))) (.cons (.ret (.cst (.bl false))) .nil) .nil) (.cons (.ret (.bi .all (.cons (.lc (.call "_law_right" (.cons (.call "_law_pot" (.cons (.loc 0) (.cons (.loc 2) .nil))) .nil)) (.nm 2) (.rng1 (.bi .max (.cons (.cst (.int 1)) (.cons (.bi .min (.cons (.cst (.int 6)) (.cons (.bi .len (.cons (.loc 0) .nil)) .nil))) .nil)))) .tt [2]) .nil))) .nil)))
def e_is_wish : Ent := ⟨"is_wish", ⟨("is_wish", none), "is_wish", "is_wish", L2.defArgs (st 7), L2.defBody (st 7), L2.defScope (st 7), [], []⟩, ["value", "letter"], ["value"], b_is_wish, [(0, ["value"], [0])]⟩
def e_is_mark_text : Ent := ⟨"is_mark_text", ⟨("is_mark_text", none), "is_mark_text", "is_mark_text", L2.defArgs (st 8), L2.defBody (st 8), L2.defScope (st 8), [], []⟩, ["text", "digit"], ["text"], b_is_mark_text, []⟩
def e_is_name : Ent := ⟨"is_name", ⟨("is_name", none), "is_name", "is_name", L2.defArgs (st 9), L2.defBody (st 9), L2.defScope (st 9), [], []⟩, ["value", "wish", "tick", "mark"], ["value"], b_is_name, [(0, ["value"], [0])]⟩
def e_split_name : Ent := ⟨"split_name", ⟨("split_name", none), "split_name", "split_name", L2.defArgs (st 10), L2.defBody (st 10), L2.defScope (st 10), [], []⟩, ["name", "wish", "tick", "mark"], ["name"], b_split_name, [(0, ["name"], [0])]⟩
def e__law_pot : Ent := ⟨"_law_pot", ⟨("_law_pot", none), "_law_pot", "_law_pot", L2.defArgs (st 12), L2.defBody (st 12), L2.defScope (st 12), [], []⟩, ["_law_script", "_law_k", "_law_cell"], ["_law_script", "_law_k"], b__law_pot, []⟩
def e__law_take : Ent := ⟨"_law_take", ⟨("_law_take", none), "_law_take", "_law_take", L2.defArgs (st 13), L2.defBody (st 13), L2.defScope (st 13), [], []⟩, ["_law_pot_here", "_law_many", "_law_digit"], ["_law_pot_here", "_law_many"], b__law_take, []⟩
def e__law_is_wish : Ent := ⟨"_law_is_wish", ⟨("_law_is_wish", none), "_law_is_wish", "_law_is_wish", L2.defArgs (st 14), L2.defBody (st 14), L2.defScope (st 14), [], []⟩, ["_law_word_here", "_law_sign"], ["_law_word_here"], b__law_is_wish, []⟩
def e__law_mark_of : Ent := ⟨"_law_mark_of", ⟨("_law_mark_of", none), "_law_mark_of", "_law_mark_of", L2.defArgs (st 15), L2.defBody (st 15), L2.defScope (st 15), [], []⟩, ["_law_word_here", "_law_digits", "_law_sign"], ["_law_word_here"], b__law_mark_of, []⟩
def e__law_is_name : Ent := ⟨"_law_is_name", ⟨("_law_is_name", none), "_law_is_name", "_law_is_name", L2.defArgs (st 16), L2.defBody (st 16), L2.defScope (st 16), [], []⟩, ["_law_word_here"], ["_law_word_here"], b__law_is_name, []⟩
def e__law_word : Ent := ⟨"_law_word", ⟨("_law_word", none), "_law_word", "_law_word", L2.defArgs (st 17), L2.defBody (st 17), L2.defScope (st 17), [], []⟩, ["_law_pot_here", "_law_letters", "_law_way", "_law_size", "_law_plain", "_law_reserved", "_law_long", "_law_near", "_law_k"], ["_law_pot_here"], b__law_word, []⟩
def e__law_marked : Ent := ⟨"_law_marked", ⟨("_law_marked", none), "_law_marked", "_law_marked", L2.defArgs (st 18), L2.defBody (st 18), L2.defScope (st 18), [], []⟩, ["_law_pot_here", "_law_word_here", "_law_marks"], ["_law_pot_here", "_law_word_here"], b__law_marked, []⟩
def e__law_bent : Ent := ⟨"_law_bent", ⟨("_law_bent", none), "_law_bent", "_law_bent", L2.defArgs (st 19), L2.defBody (st 19), L2.defScope (st 19), [], []⟩, ["_law_pot_here", "_law_word_here", "_law_at", "_law_sign", "_law_ahead", "_law_behind"], ["_law_pot_here", "_law_word_here"], b__law_bent, []⟩
def e__law_word_right : Ent := ⟨"_law_word_right", ⟨("_law_word_right", none), "_law_word_right", "_law_word_right", L2.defArgs (st 20), L2.defBody (st 20), L2.defScope (st 20), [], []⟩, ["_law_word_here", "_law_told", "_law_due", "_law_parts"], ["_law_word_here"], b__law_word_right, []⟩
def e__law_right : Ent := ⟨"_law_right", ⟨("_law_right", none), "_law_right", "_law_right", L2.defArgs (st 21), L2.defBody (st 21), L2.defScope (st 21), [], []⟩, ["_law_pot_here", "_law_word_here", "_law_marked_here", "_law_some", "_law_odd", "_law_each"], ["_law_pot_here"], b__law_right, []⟩
def e_law : Ent := ⟨"law", ⟨("law", none), "law", "law", L2.defArgs (st 22), L2.defBody (st 22), L2.defScope (st 22), [], []⟩, ["_law_script", "_law_word_here", "_law_k"], ["_law_script"], b_law, []⟩
def tab : List Ent := [e_is_wish, e_is_mark_text, e_is_name, e_split_name, e__law_pot, e__law_take, e__law_is_wish, e__law_mark_of, e__law_is_name, e__law_word, e__law_marked, e__law_bent, e__law_word_right, e__law_right, e_law]
def cons : List (String × D) := [("DIGITS", (.str [48, 49, 50, 51, 52, 53, 54, 55, 56, 57])), ("LEAST_MARK", (.int 2)), ("LETTERS", (.str [97, 98, 99, 100, 101, 102, 103, 104, 105, 106, 107, 108, 109, 110, 111, 112, 113, 114, 115, 116, 117, 118, 119, 120, 121, 122])), ("MOST_LETTERS", (.int 8)), ("MOST_MARK", (.int 999)), ("RESERVED", (.tup [(.str [108, 101, 116]), (.str [105, 110]), (.str [102, 117, 110]), (.str [105, 102]), (.str [116, 104, 101, 110]), (.str [101, 108, 115, 101])]))]
abbrev TT : Tb := tbOf tab cons
theorem con_DIGITS : TT.con "DIGITS" = some (.str [48, 49, 50, 51, 52, 53, 54, 55, 56, 57]) := rfl
theorem con_LEAST_MARK : TT.con "LEAST_MARK" = some (.int 2) := rfl
theorem con_LETTERS : TT.con "LETTERS" = some (.str [97, 98, 99, 100, 101, 102, 103, 104, 105, 106, 107, 108, 109, 110, 111, 112, 113, 114, 115, 116, 117, 118, 119, 120, 121, 122]) := rfl
theorem con_MOST_LETTERS : TT.con "MOST_LETTERS" = some (.int 8) := rfl
theorem con_MOST_MARK : TT.con "MOST_MARK" = some (.int 999) := rfl
theorem con_RESERVED : TT.con "RESERVED" = some (.tup [(.str [108, 101, 116]), (.str [105, 110]), (.str [102, 117, 110]), (.str [105, 102]), (.str [116, 104, 101, 110]), (.str [101, 108, 115, 101])]) := rfl
theorem go_is_wish {n : Nat} {d0 : D} {h : Hh} {Q : QD} {R : QX} (w : wSs (TT.cl n) b_is_wish [some d0, none] h { nx := fun _ h1 => Q .non h1, rt := Q, ex := fun x _ h1 => R x h1 }) : wC TT (n + 1) "is_wish" [d0] h Q R := ⟨e_is_wish.fn, rfl, rfl, w⟩
theorem go_is_mark_text {n : Nat} {d0 : D} {h : Hh} {Q : QD} {R : QX} (w : wSs (TT.cl n) b_is_mark_text [some d0, none] h { nx := fun _ h1 => Q .non h1, rt := Q, ex := fun x _ h1 => R x h1 }) : wC TT (n + 1) "is_mark_text" [d0] h Q R := ⟨e_is_mark_text.fn, rfl, rfl, w⟩
theorem go_is_name {n : Nat} {d0 : D} {h : Hh} {Q : QD} {R : QX} (w : wSs (TT.cl n) b_is_name [some d0, none, none, none] h { nx := fun _ h1 => Q .non h1, rt := Q, ex := fun x _ h1 => R x h1 }) : wC TT (n + 1) "is_name" [d0] h Q R := ⟨e_is_name.fn, rfl, rfl, w⟩
theorem go_split_name {n : Nat} {d0 : D} {h : Hh} {Q : QD} {R : QX} (w : wSs (TT.cl n) b_split_name [some d0, none, none, none] h { nx := fun _ h1 => Q .non h1, rt := Q, ex := fun x _ h1 => R x h1 }) : wC TT (n + 1) "split_name" [d0] h Q R := ⟨e_split_name.fn, rfl, rfl, w⟩
theorem go__law_pot {n : Nat} {d0 d1 : D} {h : Hh} {Q : QD} {R : QX} (w : wSs (TT.cl n) b__law_pot [some d0, some d1, none] h { nx := fun _ h1 => Q .non h1, rt := Q, ex := fun x _ h1 => R x h1 }) : wC TT (n + 1) "_law_pot" [d0, d1] h Q R := ⟨e__law_pot.fn, rfl, rfl, w⟩
theorem go__law_take {n : Nat} {d0 d1 : D} {h : Hh} {Q : QD} {R : QX} (w : wSs (TT.cl n) b__law_take [some d0, some d1, none] h { nx := fun _ h1 => Q .non h1, rt := Q, ex := fun x _ h1 => R x h1 }) : wC TT (n + 1) "_law_take" [d0, d1] h Q R := ⟨e__law_take.fn, rfl, rfl, w⟩
theorem go__law_is_wish {n : Nat} {d0 : D} {h : Hh} {Q : QD} {R : QX} (w : wSs (TT.cl n) b__law_is_wish [some d0, none] h { nx := fun _ h1 => Q .non h1, rt := Q, ex := fun x _ h1 => R x h1 }) : wC TT (n + 1) "_law_is_wish" [d0] h Q R := ⟨e__law_is_wish.fn, rfl, rfl, w⟩
theorem go__law_mark_of {n : Nat} {d0 : D} {h : Hh} {Q : QD} {R : QX} (w : wSs (TT.cl n) b__law_mark_of [some d0, none, none] h { nx := fun _ h1 => Q .non h1, rt := Q, ex := fun x _ h1 => R x h1 }) : wC TT (n + 1) "_law_mark_of" [d0] h Q R := ⟨e__law_mark_of.fn, rfl, rfl, w⟩
theorem go__law_is_name {n : Nat} {d0 : D} {h : Hh} {Q : QD} {R : QX} (w : wSs (TT.cl n) b__law_is_name [some d0] h { nx := fun _ h1 => Q .non h1, rt := Q, ex := fun x _ h1 => R x h1 }) : wC TT (n + 1) "_law_is_name" [d0] h Q R := ⟨e__law_is_name.fn, rfl, rfl, w⟩
theorem go__law_word {n : Nat} {d0 : D} {h : Hh} {Q : QD} {R : QX} (w : wSs (TT.cl n) b__law_word [some d0, none, none, none, none, none, none, none, none] h { nx := fun _ h1 => Q .non h1, rt := Q, ex := fun x _ h1 => R x h1 }) : wC TT (n + 1) "_law_word" [d0] h Q R := ⟨e__law_word.fn, rfl, rfl, w⟩
theorem go__law_marked {n : Nat} {d0 d1 : D} {h : Hh} {Q : QD} {R : QX} (w : wSs (TT.cl n) b__law_marked [some d0, some d1, none] h { nx := fun _ h1 => Q .non h1, rt := Q, ex := fun x _ h1 => R x h1 }) : wC TT (n + 1) "_law_marked" [d0, d1] h Q R := ⟨e__law_marked.fn, rfl, rfl, w⟩
theorem go__law_bent {n : Nat} {d0 d1 : D} {h : Hh} {Q : QD} {R : QX} (w : wSs (TT.cl n) b__law_bent [some d0, some d1, none, none, none, none] h { nx := fun _ h1 => Q .non h1, rt := Q, ex := fun x _ h1 => R x h1 }) : wC TT (n + 1) "_law_bent" [d0, d1] h Q R := ⟨e__law_bent.fn, rfl, rfl, w⟩
theorem go__law_word_right {n : Nat} {d0 : D} {h : Hh} {Q : QD} {R : QX} (w : wSs (TT.cl n) b__law_word_right [some d0, none, none, none] h { nx := fun _ h1 => Q .non h1, rt := Q, ex := fun x _ h1 => R x h1 }) : wC TT (n + 1) "_law_word_right" [d0] h Q R := ⟨e__law_word_right.fn, rfl, rfl, w⟩
theorem go__law_right {n : Nat} {d0 : D} {h : Hh} {Q : QD} {R : QX} (w : wSs (TT.cl n) b__law_right [some d0, none, none, none, none, none] h { nx := fun _ h1 => Q .non h1, rt := Q, ex := fun x _ h1 => R x h1 }) : wC TT (n + 1) "_law_right" [d0] h Q R := ⟨e__law_right.fn, rfl, rfl, w⟩
theorem go_law {n : Nat} {d0 : D} {h : Hh} {Q : QD} {R : QX} (w : wSs (TT.cl n) b_law [some d0, none, none] h { nx := fun _ h1 => Q .non h1, rt := Q, ex := fun x _ h1 => R x h1 }) : wC TT (n + 1) "law" [d0] h Q R := ⟨e_law.fn, rfl, rfl, w⟩
theorem bind_is_wish : BindE e_is_wish := fun kV doc pm an cdv ct us hl => match us, hl with | [_], _ => rfl
theorem kw_is_wish : ∀ k ∈ e_is_wish.kws, KwE e_is_wish k := by
  intro k hk
  simp only [e_is_wish, List.mem_cons, List.not_mem_nil, or_false] at hk
  rcases hk with rfl
  · exact fun kV doc pm an cdv ct us ws h1 h2 => match us, ws, h1, h2 with | [], [_], _, _ => ⟨_, rfl, rfl⟩
theorem bind_is_mark_text : BindE e_is_mark_text := fun kV doc pm an cdv ct us hl => match us, hl with | [_], _ => rfl
theorem kw_is_mark_text : ∀ k ∈ e_is_mark_text.kws, KwE e_is_mark_text k := by
  intro k hk
  exact absurd hk (by simp [e_is_mark_text])
theorem bind_is_name : BindE e_is_name := fun kV doc pm an cdv ct us hl => match us, hl with | [_], _ => rfl
theorem kw_is_name : ∀ k ∈ e_is_name.kws, KwE e_is_name k := by
  intro k hk
  simp only [e_is_name, List.mem_cons, List.not_mem_nil, or_false] at hk
  rcases hk with rfl
  · exact fun kV doc pm an cdv ct us ws h1 h2 => match us, ws, h1, h2 with | [], [_], _, _ => ⟨_, rfl, rfl⟩
theorem bind_split_name : BindE e_split_name := fun kV doc pm an cdv ct us hl => match us, hl with | [_], _ => rfl
theorem kw_split_name : ∀ k ∈ e_split_name.kws, KwE e_split_name k := by
  intro k hk
  simp only [e_split_name, List.mem_cons, List.not_mem_nil, or_false] at hk
  rcases hk with rfl
  · exact fun kV doc pm an cdv ct us ws h1 h2 => match us, ws, h1, h2 with | [], [_], _, _ => ⟨_, rfl, rfl⟩
theorem bind__law_pot : BindE e__law_pot := fun kV doc pm an cdv ct us hl => match us, hl with | [_, _], _ => rfl
theorem kw__law_pot : ∀ k ∈ e__law_pot.kws, KwE e__law_pot k := by
  intro k hk
  exact absurd hk (by simp [e__law_pot])
theorem bind__law_take : BindE e__law_take := fun kV doc pm an cdv ct us hl => match us, hl with | [_, _], _ => rfl
theorem kw__law_take : ∀ k ∈ e__law_take.kws, KwE e__law_take k := by
  intro k hk
  exact absurd hk (by simp [e__law_take])
theorem bind__law_is_wish : BindE e__law_is_wish := fun kV doc pm an cdv ct us hl => match us, hl with | [_], _ => rfl
theorem kw__law_is_wish : ∀ k ∈ e__law_is_wish.kws, KwE e__law_is_wish k := by
  intro k hk
  exact absurd hk (by simp [e__law_is_wish])
theorem bind__law_mark_of : BindE e__law_mark_of := fun kV doc pm an cdv ct us hl => match us, hl with | [_], _ => rfl
theorem kw__law_mark_of : ∀ k ∈ e__law_mark_of.kws, KwE e__law_mark_of k := by
  intro k hk
  exact absurd hk (by simp [e__law_mark_of])
theorem bind__law_is_name : BindE e__law_is_name := fun kV doc pm an cdv ct us hl => match us, hl with | [_], _ => rfl
theorem kw__law_is_name : ∀ k ∈ e__law_is_name.kws, KwE e__law_is_name k := by
  intro k hk
  exact absurd hk (by simp [e__law_is_name])
theorem bind__law_word : BindE e__law_word := fun kV doc pm an cdv ct us hl => match us, hl with | [_], _ => rfl
theorem kw__law_word : ∀ k ∈ e__law_word.kws, KwE e__law_word k := by
  intro k hk
  exact absurd hk (by simp [e__law_word])
theorem bind__law_marked : BindE e__law_marked := fun kV doc pm an cdv ct us hl => match us, hl with | [_, _], _ => rfl
theorem kw__law_marked : ∀ k ∈ e__law_marked.kws, KwE e__law_marked k := by
  intro k hk
  exact absurd hk (by simp [e__law_marked])
theorem bind__law_bent : BindE e__law_bent := fun kV doc pm an cdv ct us hl => match us, hl with | [_, _], _ => rfl
theorem kw__law_bent : ∀ k ∈ e__law_bent.kws, KwE e__law_bent k := by
  intro k hk
  exact absurd hk (by simp [e__law_bent])
theorem bind__law_word_right : BindE e__law_word_right := fun kV doc pm an cdv ct us hl => match us, hl with | [_], _ => rfl
theorem kw__law_word_right : ∀ k ∈ e__law_word_right.kws, KwE e__law_word_right k := by
  intro k hk
  exact absurd hk (by simp [e__law_word_right])
theorem bind__law_right : BindE e__law_right := fun kV doc pm an cdv ct us hl => match us, hl with | [_], _ => rfl
theorem kw__law_right : ∀ k ∈ e__law_right.kws, KwE e__law_right k := by
  intro k hk
  exact absurd hk (by simp [e__law_right])
theorem bind_law : BindE e_law := fun kV doc pm an cdv ct us hl => match us, hl with | [_], _ => rfl
theorem kw_law : ∀ k ∈ e_law.kws, KwE e_law k := by
  intro k hk
  exact absurd hk (by simp [e_law])
theorem binds_all : ∀ e ∈ tab, BindE e := by
  intro e he
  simp only [tab, List.mem_cons, List.not_mem_nil, or_false] at he
  rcases he with rfl | rfl | rfl | rfl | rfl | rfl | rfl | rfl | rfl | rfl | rfl | rfl | rfl | rfl | rfl
  · exact bind_is_wish
  · exact bind_is_mark_text
  · exact bind_is_name
  · exact bind_split_name
  · exact bind__law_pot
  · exact bind__law_take
  · exact bind__law_is_wish
  · exact bind__law_mark_of
  · exact bind__law_is_name
  · exact bind__law_word
  · exact bind__law_marked
  · exact bind__law_bent
  · exact bind__law_word_right
  · exact bind__law_right
  · exact bind_law
theorem kws_all : ∀ e ∈ tab, ∀ k ∈ e.kws, KwE e k := by
  intro e he
  simp only [tab, List.mem_cons, List.not_mem_nil, or_false] at he
  rcases he with rfl | rfl | rfl | rfl | rfl | rfl | rfl | rfl | rfl | rfl | rfl | rfl | rfl | rfl | rfl
  · exact kw_is_wish
  · exact kw_is_mark_text
  · exact kw_is_name
  · exact kw_split_name
  · exact kw__law_pot
  · exact kw__law_take
  · exact kw__law_is_wish
  · exact kw__law_mark_of
  · exact kw__law_is_name
  · exact kw__law_word
  · exact kw__law_marked
  · exact kw__law_bent
  · exact kw__law_word_right
  · exact kw__law_right
  · exact kw_law
theorem tab_good : tab.all (okE TT) = true := by decide +kernel

end K11
end

section
namespace K11
open PySem PySem.Spec Bn PyProof.Rows
abbrev R : PySem.W.OpenRow := PySem.W.OpenLaw.row PySem.Challenge.rw_boundnames_k11_wishes_and_names
def ob (s : PySem.W.SharedT) : He.AlD := obsBG 4 tab cons (HandSHeadRun.getT s)
theorem ob_eq (s : PySem.W.SharedT) : ob s = (hookB 4 tab cons).obs s.abs := obsB_eq (HandSHeadRun.getT_eq s)
theorem run (w : World) : HandSHeadRun.RunEq R (PySem.W.view R.prog [22]) (hookB 4 tab cons) ob 4000 ["LETTERS", "DIGITS", "RESERVED", "MOST_LETTERS", "LEAST_MARK", "MOST_MARK", "is_wish", "is_mark_text", "is_name", "split_name", "_law_pot", "_law_take", "_law_is_wish", "_law_mark_of", "_law_is_name", "_law_word", "_law_marked", "_law_bent", "_law_word_right", "_law_right"] w := by
  intro os
  kernel_rfl
end K11
end

section
namespace K11
open PySem PySem.Spec Bn L2

/-! ### texts cut at a tick -/
theorem cut39 : ∀ s : List Nat, 39 ∉ s ∨ ∃ a b, s = a ++ 39 :: b ∧ 39 ∉ a
  | [] => .inl (by simp)
  | c :: s => by
    by_cases e : c = 39
    · exact .inr ⟨[], s, by rw [e]; rfl, by simp⟩
    · rcases cut39 s with h | ⟨a, b, h1, h2⟩
      · exact .inl (by simp [h]; exact fun z => e z.symm)
      · exact .inr ⟨c :: a, b, by rw [h1]; rfl, by simp [h2]; exact fun z => e z.symm⟩
theorem cd_S2 (s : List Nat) : codes (S2 s) = s := by simp [codes, S2]
theorem cd_empty : codes Str.empty = [] := rfl
theorem tick : TL.tl (S2 [39]) = 39 :: [] := rfl
theorem part_no {s : List Nat} (h : 39 ∉ s) : Txt.partition (S2 s) (S2 [39]) = (S2 s, Str.empty, Str.empty) := TL.partition_none tick (by simpa [TL.tl, S2] using h)
theorem part_yes {a b : List Nat} (h : 39 ∉ a) : Txt.partition (S2 (a ++ 39 :: b)) (S2 [39]) = (S2 a, S2 [39], S2 b) := by
  have e : S2 (a ++ 39 :: b) = S2 a ++ S2 [39] ++ S2 b := by rw [S2_append, S2_append]; simp
  rw [e]
  exact TL.partition_app tick (by simpa [TL.tl, S2] using h)
theorem split_hd {s a : List Nat} (h : 39 ∉ a) (e : s = a ∨ ∃ b, s = a ++ 39 :: b) : ∃ r, (Txt.split (S2 s) (S2 [39])).map (fun z => D.str (codes z)) = D.str a :: r := by
  have e1 := TL.split_spl (S2 s) (S2 [39]) (by simp [TL.tl, S2]) (TL.kind_ok (by simp [S2]))
  have e2 : ∃ r, TL.spl [39] 0 [] s = a :: r := by
    rcases e with rfl | ⟨b, rfl⟩
    · exact ⟨[], by rw [TL.spl_last1 h]; rfl⟩
    · exact ⟨_, by have := TL.spl_part1 (S := []) (rest := b) (acc := []) h; simpa using this⟩
  obtain ⟨r, e2⟩ := e2
  have e3 : (Txt.split (S2 s) (S2 [39])).map TL.tl = a :: r := by
    rw [e1]
    simpa [TL.tl, S2] using e2
  refine ⟨r.map D.str, ?_⟩
  have e4 : (Txt.split (S2 s) (S2 [39])).map (fun z => D.str (codes z)) = ((Txt.split (S2 s) (S2 [39])).map TL.tl).map D.str := by rw [List.map_map]; rfl
  rw [e4, e3]
  rfl
theorem sub_len {x : Str} {i : Nat} : (Builtin.Str.strSub x 0 i).length = min i x.length := by
  simp [Builtin.Str.strSub, Str.length]
theorem index_yes {a b : List Nat} (h : 39 ∉ a) : Txt.index0 (S2 (a ++ 39 :: b)) (S2 [39]) = some a.length := by
  have p := part_yes (b := b) h
  unfold Txt.index0
  unfold Txt.partition at p
  cases q : Builtin.Str.occurrences (S2 (a ++ 39 :: b)) (S2 [39]) 0 (S2 (a ++ 39 :: b)).length 1 with
  | nil =>
    rw [q] at p
    have := congrArg (fun z => codes z.1) p
    simp [cd_S2] at this
  | cons i r =>
    rw [q] at p
    have e1 : Builtin.Str.strSub (S2 (a ++ 39 :: b)) 0 i = S2 a := congrArg (fun z => z.1) p
    have e2 := congrArg Str.length e1
    rw [sub_len, S2_length, S2_length, List.length_append, List.length_cons] at e2
    have e3 : i = a.length := by omega
    rw [e3]
    rfl
end K11
end

section
namespace K11
open PySem PySem.Spec Bn L2
/-! ### figures -/
def dig (c : Nat) : Bool := decide (c ∈ [48, 49, 50, 51, 52, 53, 54, 55, 56, 57])
theorem dig_iff {c : Nat} : dig c = true ↔ 48 ≤ c ∧ c ≤ 57 := by
  simp [dig]; omega
abbrev val (b : List Nat) : Nat := NumText.digitsVal b
/-- what a mark is worth, 0 where it is none -/
def mk (b : List Nat) : Int := if b ≠ [] ∧ b.all dig = true ∧ b.head? ≠ some 48 ∧ 2 ≤ val b ∧ val b ≤ 999 then (val b : Int) else 0
theorem alld {b : List Nat} (h : b.all dig = true) : NumText.AllDigits b := fun c hc => dig_iff.mp (List.all_eq_true.mp h c hc)
theorem int_dig {b : List Nat} (h : b.all dig = true) (hn : b ≠ []) (hl : b.length ≤ 640) : intText? (S2 b) = some (val b : Int) := by
  have e : (S2 b).cps.toList = b := by simp [S2]
  have := intText_digits (x := S2 b) (by rw [e]; exact alld h) (by rw [e]; exact hn) (by rw [S2_length]; omega)
  rw [e] at this
  exact this
theorem ofNat_toNat {c : Nat} (h : 48 ≤ c ∧ c ≤ 57) : (Char.ofNat c).toNat = c := by
  have : c.isValidChar := Or.inl (by omega)
  rw [Char.ofNat, dif_pos this]
  rfl
theorem str_of_val {b : List Nat} (h : b.all dig = true) : codes (PySem.Str.ofString (toString (val b : Int))) = (match b.dropWhile (· == 48) with
    | [] => [48]
    | c :: r => c :: r) := by
  show (PySem.Str.ofString (toString ((val b : Nat) : Int))).cps.toList = _
  rw [W.KIN.signs_num, NumText.toDigits_all b (alld h)]
  cases e : b.dropWhile (· == 48) with
  | nil => rfl
  | cons c r =>
    have hs : ∀ x ∈ (c :: r), 48 ≤ x ∧ x ≤ 57 := fun x hx => alld h x ((List.dropWhile_sublist _).subset (e ▸ hx))
    show ((c :: r).map Char.ofNat).map Char.toNat = c :: r
    rw [List.map_map]
    conv => rhs; rw [← List.map_id (c :: r)]
    exact List.map_congr_left fun x hx => ofNat_toNat (hs x hx)
theorem len_of_val {b : List Nat} (h : b.all dig = true) (h0 : b.head? ≠ some 48) (hn : b ≠ []) (hv : val b ≤ 999) : b.length ≤ 3 := by
  have e := NumText.toDigits_all b (alld h)
  have hd : b.dropWhile (· == 48) = b := by
    cases b with
    | nil => rfl
    | cons c r =>
      have : (c == 48) = false := by simpa using h0
      rw [List.dropWhile_cons, this]; rfl
  rw [hd] at e
  cases b with
  | nil => simp
  | cons c r =>
    have l := toDigits_len_pow (b := 10) (k := 3) (n := val (c :: r)) (by decide) (by decide) (by show NumText.digitsVal (c :: r) < _; have : NumText.digitsVal (c :: r) ≤ 999 := hv; omega)
    have e' : Nat.toDigits 10 (val (c :: r)) = (c :: r).map Char.ofNat := e
    rw [e'] at l
    simpa using l
theorem ifc {A B : Prop} [Decidable A] [Decidable B] (h : A ↔ B) {α : Type} {x y : α} : (if A then x else y) = if B then x else y := by
  by_cases q : A
  · rw [if_pos q, if_pos (h.mp q)]
  · rw [if_neg q, if_neg fun z => q (h.mpr z)]
/-- the law's reading of the figures behind a tick -/
theorem mk_law {b : List Nat} (h : b.all dig = true) (hn : b ≠ []) : (if codes (PySem.Str.ofString (toString (val b : Int))) = b ∧ (1 < (val b : Int) ∧ (val b : Int) < 1000) then (val b : Int) else 0) = mk b := by
  rw [str_of_val h]
  unfold mk
  refine ifc ?_
  by_cases h0 : b.head? = some 48
  · refine ⟨fun z => ?_, fun z => absurd h0 z.2.2.1⟩
    cases b with
    | nil => cases h0
    | cons c r =>
      have ec : c = 48 := by simpa using h0
      subst ec
      obtain ⟨e, v1, v2⟩ := z
      rw [List.dropWhile_cons] at e
      simp only [beq_self_eq_true, if_true] at e
      cases ed : r.dropWhile (· == 48) with
      | nil =>
        rw [ed] at e
        cases e
        simp [val, NumText.digitsVal] at v1
      | cons x y =>
        rw [ed] at e
        have l := congrArg List.length e
        have l2 := (List.dropWhile_sublist (p := (· == 48)) (l := r)).length_le
        rw [ed] at l2
        simp at l l2
        omega
  · have hd : b.dropWhile (· == 48) = b := by
      cases b with
      | nil => rfl
      | cons c r =>
        have : (c == 48) = false := by simpa using h0
        rw [List.dropWhile_cons, this]; rfl
    rw [hd]
    cases b with
    | nil => exact absurd rfl hn
    | cons c r =>
      have e1 : (c :: r) = c :: r := rfl
      constructor
      · intro z
        have := z.2
        exact ⟨hn, h, h0, by omega, by omega⟩
      · intro z
        have := z.2.2.2
        exact ⟨e1, by omega, by omega⟩
end K11
end

section
namespace K11
open PySem PySem.Spec Bn L2
def letters : List Nat := [97, 98, 99, 100, 101, 102, 103, 104, 105, 106, 107, 108, 109, 110, 111, 112, 113, 114, 115, 116, 117, 118, 119, 120, 121, 122]
def resv : List (List Nat) := [[108, 101, 116], [105, 110], [102, 117, 110], [105, 102], [116, 104, 101, 110], [101, 108, 115, 101]]
def Keep (h h1 : Hh) : Prop := ∀ (i : Nat) (o : Ob), h[i]? = some o → h1[i]? = some o
theorem Keep.app {h g : Hh} : Keep h (h ++ g) := fun i o e => get_app e
theorem Keep.refl {h : Hh} : Keep h h := fun _ _ e => e
def wishB (s : List Nat) : Bool := decide (1 ≤ s.length ∧ s.length ≤ 8) && (decide (s ∉ resv) && s.all fun c => decide (c ∈ letters))
theorem resv_ok : ∀ y ∈ resv, okS y := by unfold okS; decide
theorem in_resv {s : List Nat} {h : Hh} {Q : Bool → Prop} (ho : okS s) : vIn (.str s) (.tup [.str [108, 101, 116], .str [105, 110], .str [102, 117, 110], .str [105, 102], .str [116, 104, 101, 110], .str [101, 108, 115, 101]]) h Q ↔ Q (decide (s ∈ resv)) := in_strs rfl ho resv_ok
theorem in_let {c : Nat} {h : Hh} {Q : Bool → Prop} : vIn (.str [c]) (.str [97, 98, 99, 100, 101, 102, 103, 104, 105, 106, 107, 108, 109, 110, 111, 112, 113, 114, 115, 116, 117, 118, 119, 120, 121, 122]) h Q ↔ Q (decide (c ∈ letters)) := in_str1
theorem in_dig {c : Nat} {h : Hh} {Q : Bool → Prop} : vIn (.str [c]) (.str [48, 49, 50, 51, 52, 53, 54, 55, 56, 57]) h Q ↔ Q (dig c) := in_str1
theorem all_bls {xs : List D} {bs : List Bool} (e : blsD xs = some bs) {h : Hh} {Q : QD} {i : Nat} (hi : h[i]? = some (.lst xs)) (q : Q (.bl (bs.all id)) h) : vAll [.ref i] h Q := ⟨i, xs, bs, rfl, ls_of hi, e, q⟩
theorem bls_map {α : Type} (f : α → Bool) : ∀ s : List α, blsD (s.filterMap fun c => some (D.bl (f c))) = some (s.map f)
  | [] => rfl
  | c :: s => by
    have ih := bls_map f s
    simp only [List.filterMap_cons, blsD, ih, Option.map_some, List.map_cons]
theorem line_le {n : Nat} (h : n ≤ 1000) : n ≤ sizeLine := by unfold sizeLine; omega
theorem wish_ok {n : Nat} {s : List Nat} {h : Hh} {Q : QD} {R : QX} (hl : s.length ≤ 1000) (ho : okS s) (q : ∀ h', Keep h h' → Q (.bl (wishB s)) h') : wC TT (n + 1) "is_wish" [.str s] h Q R := by
  apply go_is_wish
  unfold b_is_wish
  simp only [wSs, wS, wT, wE, wEs, wTg, wTgs, wI, vCmp, i2_int, vBi, vDivmod, add_int, add_str, add_tup, sub_int, mul_int, fdiv_int, mod_int, pow_int, neg_int, vMax, vMin, vAbs, vLen, len_str', len_tup', part_non, part_int, Option.isSome_some, Option.some.injEq, exists_and_left, exists_eq_left', exists_eq_left, List.getElem?_cons_zero, List.getElem?_cons_succ, List.set_cons_zero, List.set_cons_succ, List.length_cons, List.length_nil, D.tup.injEq, D.int.injEq, D.str.injEq, D.bl.injEq, D.ref.injEq, List.cons.injEq, and_true, true_and, and_assoc, Tgs.len, atI0, atI1, atI2, ixN0, ixN1, decide_eq_true_eq, isi1, dwipe, Bool.not_eq_true', decide_eq_false_iff_not, tru_bl, tru_int, ty_str, eq_int, eq_non_int, in_str1, Bool.not_true, Bool.not_false, Bool.false_eq_true, reduceCtorEq, reduceIte, con_RESERVED, con_LETTERS, con_MOST_LETTERS, in_resv ho]
  refine ⟨line_le hl, ?_⟩
  have q0 : wishB s = false → Q (.bl false) h := fun e => by rw [← e]; exact q h .refl
  split
  · split
    · exact q0 (by unfold wishB; rw [decide_eq_false (by omega)]; rfl)
    · split
      · rename_i h1 h2 h3
        refine lc_chars (fun c => some (.bl (decide (c ∈ letters)))) (line_le hl) (fun c hc acc nx z => ?_) ?_
        · exact in_let.mpr z
        · refine all_bls (bls_map (fun c => decide (c ∈ letters)) s) get_new ?_
          have e : (s.map fun c => decide (c ∈ letters)).all id = wishB s := by
            unfold wishB
            rw [decide_eq_true (by omega), decide_eq_true h3, List.all_map]
            rfl
          rw [e]
          exact q _ .app
      · rename_i h3
        exact q0 (by unfold wishB; rw [decide_eq_false h3]; simp)
  · exact q0 (by unfold wishB; rw [decide_eq_false (by omega)]; rfl)
theorem filt_none (s : List Nat) (L : List Nat) : (s.filterMap (fun c => if c ∈ L then none else some (D.str [c])) = []) ↔ s.all (fun c => decide (c ∈ L)) = true := by
  induction s with
  | nil => simp
  | cons c s ih =>
    rw [List.filterMap_cons]
    by_cases h : c ∈ L
    · simp [h, ih]
    · simp [h]
theorem lwish_ok {n : Nat} {s : List Nat} {h : Hh} {Q : QD} {R : QX} (hl : s.length ≤ 1000) (ho : okS s) (q : ∀ h', Keep h h' → Q (.bl (wishB s)) h') : wC TT (n + 1) "_law_is_wish" [.str s] h Q R := by
  apply go__law_is_wish
  unfold b__law_is_wish
  simp only [wSs, wS, wT, wE, wEs, wTg, wTgs, wI, vCmp, i2_int, vBi, vDivmod, add_int, add_str, add_tup, sub_int, mul_int, fdiv_int, mod_int, pow_int, neg_int, vMax, vMin, vAbs, vLen, len_str', len_tup', part_non, part_int, Option.isSome_some, Option.some.injEq, exists_and_left, exists_eq_left', exists_eq_left, List.getElem?_cons_zero, List.getElem?_cons_succ, List.set_cons_zero, List.set_cons_succ, List.length_cons, List.length_nil, D.tup.injEq, D.int.injEq, D.str.injEq, D.bl.injEq, D.ref.injEq, List.cons.injEq, and_true, true_and, and_assoc, Tgs.len, atI0, atI1, atI2, ixN0, ixN1, decide_eq_true_eq, isi1, dwipe, Bool.not_eq_true', decide_eq_false_iff_not, tru_bl, tru_int, ty_str, eq_int, eq_non_int, in_str1, Bool.not_true, Bool.not_false, Bool.false_eq_true, reduceCtorEq, reduceIte, in_resv ho]
  refine ⟨line_le hl, ?_⟩
  have q0 : wishB s = false → Q (.bl false) h := fun e => by rw [← e]; exact q h .refl
  split
  · split
    · exact q0 (by unfold wishB; rw [decide_eq_false (by omega)]; rfl)
    · split
      · rename_i h3
        exact ⟨by decide, q0 (by unfold wishB; rw [show decide (s ∉ resv) = false from decide_eq_false fun z => z h3]; simp)⟩
      · rename_i h1 h2 h3
        refine ⟨by decide, ?_⟩
        refine lc_chars (fun c => if c ∈ letters then none else some (.str [c])) (line_le hl) (fun c hc acc nx z => ?_) ?_
        · refine in_let.mpr ?_
          by_cases hm : c ∈ letters
          · rw [if_pos hm] at z
            rw [if_neg (by rw [show decide (c ∈ letters) = true from decide_eq_true hm]; simp)]
            exact z
          · rw [if_neg hm] at z
            rw [if_pos (decide_eq_false hm)]
            exact z
        · refine ⟨by decide, eq_nil (get_app get_new) get_new ?_⟩
          have e : decide (s.filterMap (fun c => if c ∈ letters then none else some (D.str [c])) = []) = wishB s := by
            unfold wishB
            rw [decide_eq_true (show 1 ≤ s.length ∧ s.length ≤ 8 by omega), show decide (s ∉ resv) = true from decide_eq_true h3]
            cases hh : s.all (fun c => decide (c ∈ letters)) with
            | true => rw [decide_eq_true ((filt_none s letters).mpr hh)]; rfl
            | false => rw [decide_eq_false (fun z => by rw [(filt_none s letters).mp z] at hh; cases hh)]; rfl
          rw [e]
          exact q _ fun i o z => get_app (get_app z)
  · exact q0 (by unfold wishB; rw [decide_eq_false (by omega)]; rfl)
/-- the same of what is no text -/
theorem wish_no {n : Nat} {x : D} {h : Hh} {Q : QD} {R : QX} (hx : isTy h "str" x = some false) (q : Q (.bl false) h) : wC TT (n + 1) "is_wish" [x] h Q R := by
  apply go_is_wish
  unfold b_is_wish
  simp only [wSs, wS, wT, wE, wEs, wTg, wTgs, wI, vCmp, i2_int, vBi, vDivmod, add_int, add_str, add_tup, sub_int, mul_int, fdiv_int, mod_int, pow_int, neg_int, vMax, vMin, vAbs, vLen, len_str', len_tup', part_non, part_int, Option.isSome_some, Option.some.injEq, exists_and_left, exists_eq_left', exists_eq_left, List.getElem?_cons_zero, List.getElem?_cons_succ, List.set_cons_zero, List.set_cons_succ, List.length_cons, List.length_nil, D.tup.injEq, D.int.injEq, D.str.injEq, D.bl.injEq, D.ref.injEq, List.cons.injEq, and_true, true_and, and_assoc, Tgs.len, atI0, atI1, atI2, ixN0, ixN1, decide_eq_true_eq, isi1, dwipe, Bool.not_eq_true', decide_eq_false_iff_not, tru_bl, tru_int, ty_str, eq_int, eq_non_int, in_str1, Bool.not_true, Bool.not_false, Bool.false_eq_true, reduceCtorEq, reduceIte, hx]
  exact q
theorem name_no {n : Nat} {x : D} {h : Hh} {Q : QD} {R : QX} (hx : isTy h "str" x = some false) (q : Q (.bl false) h) : wC TT (n + 1) "is_name" [x] h Q R := by
  apply go_is_name
  unfold b_is_name
  simp only [wSs, wS, wT, wE, wEs, wTg, wTgs, wI, vCmp, i2_int, vBi, vDivmod, add_int, add_str, add_tup, sub_int, mul_int, fdiv_int, mod_int, pow_int, neg_int, vMax, vMin, vAbs, vLen, len_str', len_tup', part_non, part_int, Option.isSome_some, Option.some.injEq, exists_and_left, exists_eq_left', exists_eq_left, List.getElem?_cons_zero, List.getElem?_cons_succ, List.set_cons_zero, List.set_cons_succ, List.length_cons, List.length_nil, D.tup.injEq, D.int.injEq, D.str.injEq, D.bl.injEq, D.ref.injEq, List.cons.injEq, and_true, true_and, and_assoc, Tgs.len, atI0, atI1, atI2, ixN0, ixN1, decide_eq_true_eq, isi1, dwipe, Bool.not_eq_true', decide_eq_false_iff_not, tru_bl, tru_int, ty_str, eq_int, eq_non_int, in_str1, Bool.not_true, Bool.not_false, Bool.false_eq_true, reduceCtorEq, reduceIte, hx]
  exact q
theorem lwish_no {n : Nat} {x : D} {h : Hh} {Q : QD} {R : QX} (hx : isTy h "str" x = some false) (q : Q (.bl false) h) : wC TT (n + 1) "_law_is_wish" [x] h Q R := by
  apply go__law_is_wish
  unfold b__law_is_wish
  simp only [wSs, wS, wT, wE, wEs, wTg, wTgs, wI, vCmp, i2_int, vBi, vDivmod, add_int, add_str, add_tup, sub_int, mul_int, fdiv_int, mod_int, pow_int, neg_int, vMax, vMin, vAbs, vLen, len_str', len_tup', part_non, part_int, Option.isSome_some, Option.some.injEq, exists_and_left, exists_eq_left', exists_eq_left, List.getElem?_cons_zero, List.getElem?_cons_succ, List.set_cons_zero, List.set_cons_succ, List.length_cons, List.length_nil, D.tup.injEq, D.int.injEq, D.str.injEq, D.bl.injEq, D.ref.injEq, List.cons.injEq, and_true, true_and, and_assoc, Tgs.len, atI0, atI1, atI2, ixN0, ixN1, decide_eq_true_eq, isi1, dwipe, Bool.not_eq_true', decide_eq_false_iff_not, tru_bl, tru_int, ty_str, eq_int, eq_non_int, in_str1, Bool.not_true, Bool.not_false, Bool.false_eq_true, reduceCtorEq, reduceIte, hx]
  exact q
theorem lname_no {n : Nat} {x : D} {h : Hh} {Q : QD} {R : QX} (hx : isTy h "str" x = some false) (q : Q (.bl false) h) : wC TT (n + 1) "_law_is_name" [x] h Q R := by
  apply go__law_is_name
  unfold b__law_is_name
  simp only [wSs, wS, wT, wE, wEs, wTg, wTgs, wI, vCmp, i2_int, vBi, vDivmod, add_int, add_str, add_tup, sub_int, mul_int, fdiv_int, mod_int, pow_int, neg_int, vMax, vMin, vAbs, vLen, len_str', len_tup', part_non, part_int, Option.isSome_some, Option.some.injEq, exists_and_left, exists_eq_left', exists_eq_left, List.getElem?_cons_zero, List.getElem?_cons_succ, List.set_cons_zero, List.set_cons_succ, List.length_cons, List.length_nil, D.tup.injEq, D.int.injEq, D.str.injEq, D.bl.injEq, D.ref.injEq, List.cons.injEq, and_true, true_and, and_assoc, Tgs.len, atI0, atI1, atI2, ixN0, ixN1, decide_eq_true_eq, isi1, dwipe, Bool.not_eq_true', decide_eq_false_iff_not, tru_bl, tru_int, ty_str, eq_int, eq_non_int, in_str1, Bool.not_true, Bool.not_false, Bool.false_eq_true, reduceCtorEq, reduceIte, hx]
  exact q
/-! ### marks -/
theorem digits_eq : ([48, 49, 50, 51, 52, 53, 54, 55, 56, 57] : List Nat) = [48, 49, 50, 51, 52, 53, 54, 55, 56, 57] := rfl
theorem mk_ne {b : List Nat} : decide (mk b ≠ 0) = (decide (b ≠ []) && (b.all dig && (decide (b.head? ≠ some 48) && (decide (2 ≤ val b) && decide (val b ≤ 999))))) := by
  unfold mk
  split
  · rename_i z
    obtain ⟨z1, z2, z3, z4, z5⟩ := z
    rw [decide_eq_true (show ((val b : Int) ≠ 0) by omega), decide_eq_true z1, z2, decide_eq_true z3, decide_eq_true z4, decide_eq_true z5]
    rfl
  · rename_i z
    rw [decide_eq_false (by simp)]
    symm
    rw [Bool.eq_false_iff]
    intro y
    simp only [Bool.and_eq_true, decide_eq_true_eq] at y
    exact z y
theorem str_int {i : Int} {h : Hh} {Q : QD} : vStr [.int i] h Q ↔ i.natAbs.log2 < 1920 ∧ Q (.str (codes (PySem.Str.ofString (toString i)))) h := by
  constructor
  · rintro ⟨j, e, q⟩
    cases e
    exact q
  · intro q
    exact ⟨i, rfl, q⟩
theorem str999 {h : Hh} {Q : QD} : vStr [.int 999] h Q ↔ Q (.str [57, 57, 57]) h := by
  rw [str_int]
  exact ⟨fun z => z.2, fun z => ⟨by decide, z⟩⟩
theorem ix_str0 {c : Nat} {r : List Nat} {h : Hh} {Q : QD} (hl : (c :: r).length ≤ 1000) : vIx (.str (c :: r)) (.int 0) h Q ↔ Q (.str [c]) h := by
  constructor
  · rintro ⟨i, d, e, l, a, q⟩
    cases e
    rw [atI0] at a
    cases a
    exact q
  · intro q
    exact ⟨0, c, rfl, line_le hl, atI0, q⟩
theorem mark_ok {n : Nat} {b : List Nat} {h : Hh} {Q : QD} {R : QX} (hl : b.length ≤ 600) (ho : okS b) (q : ∀ h', Keep h h' → Q (.bl (decide (mk b ≠ 0))) h') : wC TT (n + 1) "is_mark_text" [.str b] h Q R := by
  apply go_is_mark_text
  unfold b_is_mark_text
  have q0 : decide (mk b ≠ 0) = false → Q (.bl false) h := fun e => by rw [← e]; exact q h .refl
  cases b with
  | nil =>
    simp only [wSs, wS, wT, wE, wEs, wTg, wTgs, wI, vCmp, i2_int, vBi, vDivmod, add_int, add_str, add_tup, sub_int, mul_int, fdiv_int, mod_int, pow_int, neg_int, vMax, vMin, vAbs, vLen, len_str', len_tup', part_non, part_int, Option.isSome_some, Option.some.injEq, exists_and_left, exists_eq_left', exists_eq_left, List.getElem?_cons_zero, List.getElem?_cons_succ, List.set_cons_zero, List.set_cons_succ, List.length_cons, List.length_nil, D.tup.injEq, D.int.injEq, D.str.injEq, D.bl.injEq, D.ref.injEq, List.cons.injEq, and_true, true_and, and_assoc, Tgs.len, atI0, atI1, atI2, ixN0, ixN1, decide_eq_true_eq, isi1, dwipe, Bool.not_eq_true', decide_eq_false_iff_not, tru_bl, tru_int, ty_str, eq_int, eq_non_int, in_str1, Bool.not_true, Bool.not_false, Bool.false_eq_true, reduceCtorEq, reduceIte, con_MOST_MARK, con_LEAST_MARK, con_DIGITS, eq_str ho (show okS [] by unfold okS; decide), str999]
    exact q0 (by rw [mk_ne]; rfl)
  | cons c r =>
    simp only [wSs, wS, wT, wE, wEs, wTg, wTgs, wI, vCmp, i2_int, vBi, vDivmod, add_int, add_str, add_tup, sub_int, mul_int, fdiv_int, mod_int, pow_int, neg_int, vMax, vMin, vAbs, vLen, len_str', len_tup', part_non, part_int, Option.isSome_some, Option.some.injEq, exists_and_left, exists_eq_left', exists_eq_left, List.getElem?_cons_zero, List.getElem?_cons_succ, List.set_cons_zero, List.set_cons_succ, List.length_cons, List.length_nil, D.tup.injEq, D.int.injEq, D.str.injEq, D.bl.injEq, D.ref.injEq, List.cons.injEq, and_true, true_and, and_assoc, Tgs.len, atI0, atI1, atI2, ixN0, ixN1, decide_eq_true_eq, isi1, dwipe, Bool.not_eq_true', decide_eq_false_iff_not, tru_bl, tru_int, ty_str, eq_int, eq_non_int, in_str1, Bool.not_true, Bool.not_false, Bool.false_eq_true, reduceCtorEq, reduceIte, con_MOST_MARK, con_LEAST_MARK, con_DIGITS, eq_str ho (show okS [] by unfold okS; decide), str999, ix_str0 (show (c :: r).length ≤ 1000 by omega), eq_str (show okS [c] from fun z hz => ho z (by simp at hz; simp [hz])) (show okS [48] by unfold okS; decide)]
    refine ⟨line_le (by simp at hl; omega), by decide, ?_⟩
    split
    · rename_i hz
      refine q0 ?_
      refine decide_eq_false fun z => ?_
      by_cases hm : (c :: r) ≠ [] ∧ (c :: r).all dig = true ∧ (c :: r).head? ≠ some 48 ∧ 2 ≤ val (c :: r) ∧ val (c :: r) ≤ 999
      · have := len_of_val hm.2.1 hm.2.2.1 hm.1 hm.2.2.2.2
        simp at this
        omega
      · exact z (if_neg hm)
    · split
      · rename_i _ hc
        refine q0 ?_
        rw [mk_ne, hc]
        simp
      · rename_i hz hc
        refine lc_chars (fun c => some (.bl (dig c))) (line_le (by omega)) (fun c hc acc nx z => in_dig.mpr z) ?_
        refine all_bls (bls_map dig (c :: r)) get_new ⟨_, rfl, ?_⟩
        have e : ((c :: r).map dig).all id = (c :: r).all dig := by rw [List.all_map]; rfl
        rw [e]
        have e2 : decide ((c :: r).head? ≠ some 48) = true := decide_eq_true (by simpa using hc)
        cases hd : (c :: r).all dig with
        | false =>
          rw [if_neg (by simp)]
          have := q (h ++ [.lst ((c :: r).filterMap fun c => some (.bl (dig c)))]) .app
          rw [mk_ne, hd] at this
          simpa using this
        | true =>
          rw [if_pos rfl]
          refine .inl ⟨_, _, rfl, int_dig hd (by simp) (by omega), by omega, ?_⟩
          have := q (h ++ [.lst ((c :: r).filterMap fun c => some (.bl (dig c)))]) .app
          rw [mk_ne, hd, e2, decide_eq_true (show (c :: r) ≠ [] by simp)] at this
          show if (2 : Int) ≤ (val (c :: r) : Int) then _ else _
          split
          · rename_i h2
            rw [decide_eq_true (show 2 ≤ val (c :: r) by omega)] at this
            have e3 : decide ((val (c :: r) : Int) ≤ 999) = decide (val (c :: r) ≤ 999) := by
              by_cases z : val (c :: r) ≤ 999
              · rw [decide_eq_true z, decide_eq_true (by omega)]
              · rw [decide_eq_false z, decide_eq_false (by omega)]
            show Q (.bl (decide ((val (c :: r) : Int) ≤ 999))) _
            rw [e3]
            exact this
          · rename_i h2
            rw [decide_eq_false (show ¬ 2 ≤ val (c :: r) by omega)] at this
            exact this
/-- how a text stands to its tick -/
inductive Cut : List Nat → List Nat → Option (List Nat) → Prop where
  | no {s : List Nat} (h : 39 ∉ s) : Cut s s none
  | yes {a b : List Nat} (h : 39 ∉ a) : Cut (a ++ 39 :: b) a (some b)
theorem cut_of (s : List Nat) : ∃ a o, Cut s a o := by
  rcases cut39 s with h | ⟨a, b, rfl, h⟩
  · exact ⟨_, _, .no h⟩
  · exact ⟨_, _, .yes h⟩
def nameB (a : List Nat) : Option (List Nat) → Bool
  | none => wishB a
  | some b => wishB a && decide (mk b ≠ 0)
theorem part_v {s a : List Nat} {o : Option (List Nat)} (c : Cut s a o) {h : Hh} {Q : QD} (hl : s.length ≤ 1000) (q : Q (.tup [.str a, .str (match o with | none => [] | some _ => [39]), .str (o.getD [])]) h) : mPartition (.str s) [.str [39]] h Q := by
  refine ⟨[39], s, rfl, rfl, by simp, line_le hl, ?_⟩
  cases c with
  | no hn =>
    rw [part_no hn]
    simp only [cd_S2, cd_empty]
    exact q
  | yes hn =>
    rw [part_yes hn]
    simp only [cd_S2]
    exact q
theorem Cut.len {s a : List Nat} {o : Option (List Nat)} (c : Cut s a o) : a.length ≤ s.length ∧ (o.getD []).length ≤ s.length := by
  cases c <;> simp <;> omega
theorem Cut.ok {s a : List Nat} {o : Option (List Nat)} (c : Cut s a o) (h : okS s) : okS a ∧ okS (o.getD []) := by
  cases c with
  | no => exact ⟨h, fun c hc => absurd hc (by simp)⟩
  | yes => exact ⟨fun c hc => h c (by simp [hc]), fun c hc => h c (by simp at hc; simp [hc])⟩
theorem name_ok {n : Nat} {s a : List Nat} {o : Option (List Nat)} {h : Hh} {Q : QD} {R : QX} (c : Cut s a o) (hl : s.length ≤ 500) (ho : okS s) (q : ∀ h', Keep h h' → Q (.bl (nameB a o)) h') : wC TT (n + 2) "is_name" [.str s] h Q R := by
  apply go_is_name
  unfold b_is_name
  simp only [wSs, wS, wT, wE, wEs, wTg, wTgs, wI, vCmp, i2_int, vBi, vDivmod, add_int, add_str, add_tup, sub_int, mul_int, fdiv_int, mod_int, pow_int, neg_int, vMax, vMin, vAbs, vLen, len_str', len_tup', part_non, part_int, Option.isSome_some, Option.some.injEq, exists_and_left, exists_eq_left', exists_eq_left, List.getElem?_cons_zero, List.getElem?_cons_succ, List.set_cons_zero, List.set_cons_succ, List.length_cons, List.length_nil, D.tup.injEq, D.int.injEq, D.str.injEq, D.bl.injEq, D.ref.injEq, List.cons.injEq, and_true, true_and, and_assoc, Tgs.len, atI0, atI1, atI2, ixN0, ixN1, decide_eq_true_eq, isi1, dwipe, Bool.not_eq_true', decide_eq_false_iff_not, tru_bl, tru_int, ty_str, eq_int, eq_non_int, in_str1, Bool.not_true, Bool.not_false, Bool.false_eq_true, reduceCtorEq, reduceIte, vBm, bmT]
  refine part_v c (by omega) ⟨_, rfl, rfl, _, _, rfl, _, _, rfl, _, _, rfl, rfl, ?_⟩
  obtain ⟨l1, l2⟩ := c.len
  obtain ⟨o1, o2⟩ := c.ok ho
  refine wish_ok (by omega) o1 fun h1 k1 => ⟨_, rfl, ?_⟩
  cases o with
  | none =>
    have q' := q h1 k1
    unfold nameB at q'
    cases hw : wishB a with
    | false => rw [if_neg (by simp)]; rw [hw] at q'; exact q'
    | true =>
      rw [if_pos rfl]
      rw [hw] at q'
      refine (eq_str (show okS [] by unfold okS; decide) (show okS [] by unfold okS; decide)).mpr ?_
      simpa using q'
  | some b =>
    cases hw : wishB a with
    | false =>
      have q' := q h1 k1
      unfold nameB at q'
      rw [hw] at q'
      rw [if_neg (by simp)]; exact q'
    | true =>
      rw [if_pos rfl]
      refine (eq_str (show okS [39] by unfold okS; decide) (show okS [] by unfold okS; decide)).mpr ?_
      rw [if_neg (by simp)]
      refine mark_ok (by simpa using Nat.le_trans l2 (by omega)) o2 fun h2 k2 => ?_
      have q' := q h2 fun i o e => k2 i o (k1 i o e)
      unfold nameB at q'
      rw [hw] at q'
      exact q'
/-- the law's words -/
theorem split_v {s a : List Nat} {o : Option (List Nat)} (c : Cut s a o) {h : Hh} {Q : QD} (hl : s.length ≤ 1000) (q : ∀ r, Q (.ref h.length) (h ++ [.lst (.str a :: r)])) : mSplit (.str s) [.str [39]] h Q := by
  refine ⟨[39], s, rfl, rfl, by simp, by unfold sizeLine; omega, ?_⟩
  obtain ⟨r, e⟩ := split_hd (s := s) (a := a) (by cases c <;> assumption) (by cases c; exact .inl rfl; exact .inr ⟨_, rfl⟩)
  rw [e]
  exact q r
/-- the law's mark -/
def markD : Option (List Nat) → D
  | none => .non
  | some b => .int (mk b)
theorem cut_tail {a b : List Nat} : cut (a ++ 39 :: b) (some ((a.length : Int) + 1)) none = b := by
  unfold cut
  have e : ((a.length : Int) + 1) = ((a.length + 1 : Nat) : Int) := by omega
  rw [HT.sIx_none, e, HT.sIx_nat]
  have e2 : min (a.length + 1) (a ++ 39 :: b).length = a.length + 1 := by simp
  rw [e2, show a ++ 39 :: b = (a ++ [39]) ++ b by simp, show a.length + 1 = (a ++ [39]).length by simp, List.drop_left]
  have e3 : (a ++ [39] ++ b).length - (a ++ [39]).length = b.length := by simp; omega
  rw [e3, List.take_length]
theorem fold_lt : ∀ (b : List Nat) (k : Nat), (∀ c ∈ b, 48 ≤ c ∧ c ≤ 57) → b.foldl (fun acc c => acc * 10 + (c - 48)) k < (k + 1) * 10 ^ b.length
  | [], k, _ => by simp
  | c :: b, k, h => by
    have hc := h c (by simp)
    have ih := fold_lt b (k * 10 + (c - 48)) fun x hx => h x (by simp [hx])
    rw [List.foldl_cons, List.length_cons, Nat.pow_succ]
    refine Nat.lt_of_lt_of_le ih ?_
    have : (k * 10 + (c - 48) + 1) ≤ (k + 1) * 10 := by omega
    calc (k * 10 + (c - 48) + 1) * 10 ^ b.length ≤ ((k + 1) * 10) * 10 ^ b.length := Nat.mul_le_mul_right _ this
      _ = (k + 1) * (10 ^ b.length * 10) := by rw [Nat.mul_assoc, Nat.mul_comm 10]
theorem val_lt {b : List Nat} (h : b.all dig = true) : val b < 10 ^ b.length := by
  have := fold_lt b 0 (alld h)
  rw [Nat.zero_add, Nat.one_mul] at this
  exact this
set_option exponentiation.threshold 3000 in
theorem val_log {b : List Nat} (h : b.all dig = true) (hl : b.length ≤ 500) : ((val b : Int)).natAbs.log2 < 1920 := by
  rw [Int.natAbs_natCast]
  by_cases h0 : val b = 0
  · rw [h0]; decide
  · rw [Nat.log2_lt h0]
    refine Nat.lt_of_lt_of_le (val_lt h) (Nat.le_trans (Nat.pow_le_pow_right (by decide) hl) (by decide))
theorem str_ok {b : List Nat} (h : b.all dig = true) : okS (codes (PySem.Str.ofString (toString (val b : Int)))) := by
  rw [str_of_val h]
  cases e : b.dropWhile (· == 48) with
  | nil => unfold okS; decide
  | cons c r =>
    intro x hx
    have hx : x ∈ c :: r := hx
    rw [← e] at hx
    have := alld h x ((List.dropWhile_sublist _).subset hx)
    omega
theorem filt_dig (s : List Nat) : (s.filterMap (fun c => if dig c = true then none else some (D.str [c])) = []) ↔ s.all dig = true := by
  induction s with
  | nil => simp
  | cons c s ih =>
    rw [List.filterMap_cons]
    by_cases h : dig c = true
    · simp [h, ih]
    · simp [h]
theorem lmark_ok {n : Nat} {s a : List Nat} {o : Option (List Nat)} {h : Hh} {Q : QD} {R : QX} (c : Cut s a o) (hl : s.length ≤ 500) (ho : okS s) (q : ∀ h', Keep h h' → Q (markD o) h') : wC TT (n + 1) "_law_mark_of" [.str s] h Q R := by
  apply go__law_mark_of
  unfold b__law_mark_of
  simp only [wSs, wS, wT, wE, wEs, wTg, wTgs, wI, vCmp, i2_int, vBi, vDivmod, add_int, add_str, add_tup, sub_int, mul_int, fdiv_int, mod_int, pow_int, neg_int, vMax, vMin, vAbs, vLen, len_str', len_tup', part_non, part_int, Option.isSome_some, Option.some.injEq, exists_and_left, exists_eq_left', exists_eq_left, List.getElem?_cons_zero, List.getElem?_cons_succ, List.set_cons_zero, List.set_cons_succ, List.length_cons, List.length_nil, D.tup.injEq, D.int.injEq, D.str.injEq, D.bl.injEq, D.ref.injEq, List.cons.injEq, and_true, true_and, and_assoc, Tgs.len, atI0, atI1, atI2, ixN0, ixN1, decide_eq_true_eq, isi1, dwipe, Bool.not_eq_true', decide_eq_false_iff_not, tru_bl, tru_int, ty_str, eq_int, eq_non_int, in_str1, Bool.not_true, Bool.not_false, Bool.false_eq_true, reduceCtorEq, reduceIte, vBm, bmT]
  cases c with
  | no hn =>
    rw [if_pos hn]
    exact q h .refl
  | @yes a b hn =>
    rw [if_neg (by simp)]
    refine ⟨[39], _, a.length, rfl, rfl, index_yes hn, rfl, ?_⟩
    refine ⟨_, _, rfl, rfl, line_le (by omega), ?_⟩
    rw [cut_tail]
    have lb : b.length ≤ 500 := by simp at hl; omega
    have ob : okS b := fun c hc => ho c (by simp [hc])
    refine (eq_str ob (show okS [] by unfold okS; decide)).mpr ?_
    by_cases hb : b = []
    · rw [if_pos (decide_eq_true hb)]
      have e : mk b = 0 := if_neg fun z => z.1 hb
      have this : Q (.int (mk b)) h := q h .refl
      rw [e] at this
      exact this
    · rw [if_neg (by simpa using hb)]
      refine lc_chars (fun c => if dig c = true then none else some (.str [c])) (line_le (by omega)) (fun c hc acc nx z => in_dig.mpr ?_) ⟨by decide, eq_nil (get_app get_new) get_new ?_⟩
      · cases hd : dig c with
        | true => rw [hd] at z; rw [if_neg (by simp)]; exact z
        | false => rw [hd] at z; rw [if_pos rfl]; exact z
      · have k1 : Keep h (h ++ [.lst (b.filterMap fun c => if dig c = true then none else some (D.str [c]))] ++ [.lst []]) := fun i o z => get_app (get_app z)
        have q' := q _ k1
        revert q'
        generalize h ++ [.lst (b.filterMap fun c => if dig c = true then none else some (D.str [c]))] ++ [.lst []] = h2
        intro q'
        have q' : Q (.int (mk b)) h2 := q'
        cases hd : b.all dig with
        | false =>
          rw [decide_eq_false (fun z => by rw [(filt_dig b).mp z] at hd; cases hd), if_pos rfl]
          have e : mk b = 0 := if_neg fun z => by rw [hd] at z; exact absurd z.2.1 (by simp)
          rw [e] at q'
          exact q'
        | true =>
          rw [decide_eq_true ((filt_dig b).mpr hd), if_neg (by simp)]
          have hi : ∀ {Q : QD}, Q (.int (val b)) h2 → vInt [.str b] h2 Q := fun z => .inl ⟨_, _, rfl, int_dig hd hb (by omega), by omega, z⟩
          have lv := val_log hd lb
          refine hi (str_int.mpr ⟨lv, ?_⟩)
          have os := str_ok hd
          refine (eq_str os ob).mpr ?_
          have e := mk_law hd hb
          by_cases h1 : codes (PySem.Str.ofString (toString (val b : Int))) = b
          · rw [if_pos (decide_eq_true h1)]
            refine hi ?_
            show if (1 : Int) < (val b : Int) then _ else _
            split
            · rename_i h2'
              show if (val b : Int) < 1000 then _ else _
              split
              · rename_i h3
                rw [if_pos ⟨h1, h2', h3⟩] at e
                refine hi ?_
                rw [← e] at q'
                exact q'
              · rename_i h3
                rw [if_neg (fun z => h3 z.2.2)] at e
                rw [← e] at q'
                exact q'
            · rename_i h2'
              rw [if_neg (fun z => h2' z.2.1)] at e
              rw [← e] at q'
              exact q'
          · rw [if_neg (by simpa using h1)]
            rw [if_neg (fun z => h1 z.1)] at e
            rw [← e] at q'
            exact q'
theorem lname_ok {n : Nat} {s a : List Nat} {o : Option (List Nat)} {h : Hh} {Q : QD} {R : QX} (c : Cut s a o) (hl : s.length ≤ 500) (ho : okS s) (q : ∀ h', Keep h h' → Q (.bl (nameB a o)) h') : wC TT (n + 2) "_law_is_name" [.str s] h Q R := by
  apply go__law_is_name
  unfold b__law_is_name
  simp only [wSs, wS, wT, wE, wEs, wTg, wTgs, wI, vCmp, i2_int, vBi, vDivmod, add_int, add_str, add_tup, sub_int, mul_int, fdiv_int, mod_int, pow_int, neg_int, vMax, vMin, vAbs, vLen, len_str', len_tup', part_non, part_int, Option.isSome_some, Option.some.injEq, exists_and_left, exists_eq_left', exists_eq_left, List.getElem?_cons_zero, List.getElem?_cons_succ, List.set_cons_zero, List.set_cons_succ, List.length_cons, List.length_nil, D.tup.injEq, D.int.injEq, D.str.injEq, D.bl.injEq, D.ref.injEq, List.cons.injEq, and_true, true_and, and_assoc, Tgs.len, atI0, atI1, atI2, ixN0, ixN1, decide_eq_true_eq, isi1, dwipe, Bool.not_eq_true', decide_eq_false_iff_not, tru_bl, tru_int, ty_str, eq_int, eq_non_int, in_str1, Bool.not_true, Bool.not_false, Bool.false_eq_true, reduceCtorEq, reduceIte, vBm, bmT]
  obtain ⟨l1, l2⟩ := c.len
  obtain ⟨o1, o2⟩ := c.ok ho
  refine split_v c (by omega) fun r => ix_lst (ls_of get_new) atI0 ?_
  refine lwish_ok (by omega) o1 fun h1 k1 => ⟨_, rfl, ?_⟩
  have k1 : Keep h h1 := fun i o e => k1 i o (get_app e)
  cases hw : wishB a with
  | false =>
    have q' := q h1 k1
    rw [if_neg (by simp)]
    cases o <;> (unfold nameB at q'; rw [hw] at q'; exact q')
  | true =>
    rw [if_pos rfl]
    refine lmark_ok c hl ho fun h2 k2 => ?_
    have q' := q h2 fun i o e => k2 i o (k1 i o e)
    cases o with
    | none =>
      refine eq_non_int.mpr ?_
      unfold nameB at q'
      rw [hw] at q'
      exact q'
    | some b =>
      refine eq_int.mpr ?_
      unfold nameB at q'
      rw [hw] at q'
      have e : (!decide (mk b = 0)) = decide (mk b ≠ 0) := by by_cases z : mk b = 0 <;> simp [z]
      rw [e]
      simpa using q'
/-- a valid name's parts -/
theorem parts_ok {n : Nat} {s a : List Nat} {o : Option (List Nat)} {h : Hh} {Q : QD} {R : QX} (c : Cut s a o) (hl : s.length ≤ 500) (hv : nameB a o = true) (q : ∀ h', Keep h h' → Q (.tup [.str a, markD o]) h') : wC TT (n + 1) "split_name" [.str s] h Q R := by
  apply go_split_name
  unfold b_split_name
  simp only [wSs, wS, wT, wE, wEs, wTg, wTgs, wI, vCmp, i2_int, vBi, vDivmod, add_int, add_str, add_tup, sub_int, mul_int, fdiv_int, mod_int, pow_int, neg_int, vMax, vMin, vAbs, vLen, len_str', len_tup', part_non, part_int, Option.isSome_some, Option.some.injEq, exists_and_left, exists_eq_left', exists_eq_left, List.getElem?_cons_zero, List.getElem?_cons_succ, List.set_cons_zero, List.set_cons_succ, List.length_cons, List.length_nil, D.tup.injEq, D.int.injEq, D.str.injEq, D.bl.injEq, D.ref.injEq, List.cons.injEq, and_true, true_and, and_assoc, Tgs.len, atI0, atI1, atI2, ixN0, ixN1, decide_eq_true_eq, isi1, dwipe, Bool.not_eq_true', decide_eq_false_iff_not, tru_bl, tru_int, ty_str, eq_int, eq_non_int, in_str1, Bool.not_true, Bool.not_false, Bool.false_eq_true, reduceCtorEq, reduceIte, vBm, bmT]
  refine part_v c (by omega) ⟨_, rfl, rfl, _, _, rfl, _, _, rfl, _, _, rfl, rfl, ?_⟩
  obtain ⟨l1, l2⟩ := c.len
  cases o with
  | none =>
    refine (eq_str (show okS [] by unfold okS; decide) (show okS [] by unfold okS; decide)).mpr ?_
    rw [if_pos (by simp)]
    exact ⟨by decide, q h .refl⟩
  | some b =>
    refine (eq_str (show okS [39] by unfold okS; decide) (show okS [] by unfold okS; decide)).mpr ?_
    have hv : (wishB a && decide (mk b ≠ 0)) = true := hv
    obtain ⟨_, h2⟩ := and2 hv
    have q' : Q (.tup [.str a, .int (mk b)]) h := q h .refl
    have hb : b.length ≤ 500 := by simp at l2; omega
    rw [mk_ne] at h2
    obtain ⟨b1, h2⟩ := and2 h2
    obtain ⟨b2, h2⟩ := and2 h2
    obtain ⟨b3, h2⟩ := and2 h2
    obtain ⟨b4, b5⟩ := and2 h2
    have e : mk b = (val b : Int) := if_pos ⟨of_decide_eq_true b1, b2, of_decide_eq_true b3, of_decide_eq_true b4, of_decide_eq_true b5⟩
    rw [e] at q'
    rw [if_neg (by simp)]
    exact .inl ⟨_, _, rfl, int_dig b2 (of_decide_eq_true b1) (by show b.length ≤ 640; omega), by show b.length ≤ 640; omega, by decide, q'⟩
end K11
end

section
namespace K11
open PySem PySem.Spec Bn L2
open PySem.Builtin.Str in
theorem rc_let : ∀ c ∈ letters, reprChar 39 c = [c] := by decide +kernel
open PySem.Builtin.Str in
theorem fold_rc : ∀ (s : List Nat) (acc : Array Nat), (∀ c ∈ s, c ∈ letters) → (s.foldl (fun out c => out ++ (reprChar 39 c).toArray) acc).toList = acc.toList ++ s
  | [], acc, _ => by simp
  | c :: s, acc, h => by
    rw [List.foldl_cons, fold_rc s _ fun x hx => h x (by simp [hx]), rc_let c (h c (by simp))]
    simp
theorem repr_let {s : List Nat} (h : ∀ c ∈ s, c ∈ letters) : reprText (S2 s) = S2 (39 :: (s ++ [39])) := by
  have hq : reprQuote (S2 s) = 39 := by
    unfold reprQuote
    have : 39 ∉ s := fun z => absurd (h 39 z) (by decide)
    simp [S2, this]
  apply TL.ext_tl
  unfold reprText
  rw [hq]
  show (Array.push _ 39).toList = _
  rw [Array.toList_push]
  have := fold_rc s #[39] h
  simp only [S2]
  rw [← Array.foldl_toList]
  rw [this]
  simp [TL.tl]
theorem cd_app (x y : Str) : codes (x ++ y) = codes x ++ codes y := by
  show (x.cps ++ y.cps).toList = _
  simp [codes]
theorem len_cd (x : Str) : x.length = (codes x).length := by simp [codes, Str.length]

def markP : Option (List Nat) → PyData
  | none => .none
  | some b => .int (mk b)
theorem deep_mark {h : Hh} : ∀ o, Deep h (markD o) (markP o)
  | none => .non
  | some b => .int (mk b)
def twoP (a : List Nat) (o : Option (List Nat)) : PyData := .list [.tuple [.str (S2 a), markP o], .tuple [.str (S2 a), markP o]]
theorem mk_bound (b : List Nat) : 0 ≤ mk b ∧ mk b ≤ 999 := by
  unfold mk
  split
  · rename_i z
    have := z.2.2.2.2
    omega
  · omega
theorem num_text : ∀ i : Fin 1000, okS (codes (PySem.Str.ofString (toString ((i.val : Nat) : Int)))) ∧ (codes (PySem.Str.ofString (toString ((i.val : Nat) : Int)))).length ≤ 3 := by
  unfold okS
  decide +kernel
theorem mark_text (o : Option (List Nat)) : okS (codes (markP o).shown) ∧ (codes (markP o).shown).length ≤ 4 ∧ (markP o).showable = true ∧ (markP o).depth ≤ 1 := by
  cases o with
  | none => unfold okS; decide +kernel
  | some b =>
    obtain ⟨h1, h2⟩ := mk_bound b
    have e : mk b = (((mk b).toNat : Nat) : Int) := by omega
    have hl : (mk b).toNat < 1000 := by omega
    have this : okS (codes (PySem.Str.ofString (toString (((mk b).toNat : Nat) : Int)))) ∧ (codes (PySem.Str.ofString (toString (((mk b).toNat : Nat) : Int)))).length ≤ 3 := num_text ⟨(mk b).toNat, hl⟩
    have e2 : (markP (some b)).shown = PySem.Str.ofString (toString (((mk b).toNat : Nat) : Int)) := by
      show PySem.Str.ofString (toString (mk b)) = _
      rw [← e]
    rw [e2]
    refine ⟨this.1, by have := this.2; omega, ?_, ?_⟩
    · show decide ((mk b).natAbs.log2 < 1920) = true
      refine decide_eq_true ?_
      by_cases h0 : (mk b).natAbs = 0
      · rw [h0]; decide
      · rw [Nat.log2_lt h0]
        have : (mk b).natAbs < 2 ^ 10 := by omega
        refine Nat.lt_of_lt_of_le this (Nat.pow_le_pow_right (by decide) (by decide))
    · simp [markP, PyData.depth]
theorem two_ok {a : List Nat} {o : Option (List Nat)} (hw : wishB a = true) (hn : nameB a o = true) : okS (codes (twoP a o).shown) ∧ (twoP a o).shown.length ≤ 1000 ∧ (twoP a o).showable = true ∧ (twoP a o).depth ≤ 180 := by
  obtain ⟨w1, w2⟩ := and2 (show (decide (1 ≤ a.length ∧ a.length ≤ 8) && (decide (a ∉ resv) && a.all fun c => decide (c ∈ letters))) = true from hw)
  have la := of_decide_eq_true w1
  have ha : ∀ c ∈ a, c ∈ letters := fun c hc => of_decide_eq_true (List.all_eq_true.mp (and2 w2).2 c hc)
  obtain ⟨m1, m2, m3, m4⟩ := mark_text o
  have oa : okS a := fun c hc => by
    have := ha c hc
    have : ∀ c ∈ letters, c < 1114112 := by decide
    exact this c (ha c hc)
  have et : (PyData.tuple [.str (S2 a), markP o]).shown = ("(" : Str) ++ (reprText (S2 a) ++ ", " ++ (markP o).shown) ++ ")" := rfl
  have e : (twoP a o).shown = ((("[" : Str) ++ ("" : Str) ++ (PyData.tuple [.str (S2 a), markP o]).shown) ++ (", " : Str) ++ (PyData.tuple [.str (S2 a), markP o]).shown) ++ ("]" : Str) := rfl
  have l1 : ∀ x y : List Nat, okS x → okS y → okS (x ++ y) := fun x y => okS_app
  have c1 : codes (PyData.tuple [.str (S2 a), markP o]).shown = [40] ++ ((39 :: (a ++ [39])) ++ [44, 32] ++ codes (markP o).shown) ++ [41] := by
    rw [et, cd_app, cd_app, cd_app, cd_app, repr_let ha, cd_S2]
    rfl
  have o1 : okS (codes (PyData.tuple [.str (S2 a), markP o]).shown) := by
    rw [c1]
    refine okS_app (okS_app (by unfold okS; decide) (okS_app (okS_app ?_ (by unfold okS; decide)) m1)) (by unfold okS; decide)
    intro c hc
    simp at hc
    rcases hc with rfl | hc | rfl
    · decide
    · exact oa c hc
    · decide
  have n1 : (codes (PyData.tuple [.str (S2 a), markP o]).shown).length ≤ 20 := by
    rw [c1]
    simp
    omega
  refine ⟨?_, ?_, ?_, ?_⟩
  · rw [e, cd_app, cd_app, cd_app, cd_app, cd_app]
    exact okS_app (okS_app (okS_app (okS_app (okS_app (by unfold okS; decide) (by unfold okS; decide)) o1) (by unfold okS; decide)) o1) (by unfold okS; decide)
  · rw [len_cd, e, cd_app, cd_app, cd_app, cd_app, cd_app]
    simp only [List.length_append]
    have : (codes ("[" : Str)).length = 1 := rfl
    have : (codes ("" : Str)).length = 0 := rfl
    have : (codes (", " : Str)).length = 2 := rfl
    have : (codes ("]" : Str)).length = 1 := rfl
    omega
  · show ((true && ((markP o).showable && true)) && ((true && ((markP o).showable && true)) && true)) = true
    rw [m3]; rfl
  · have : (twoP a o).depth ≤ 5 := by
      simp only [twoP, PyData.depth, PyData.depthAll]
      omega
    omega
theorem kwv_wish : TT.kw "is_wish" 0 ["value"] = some [0] := rfl
theorem kwv_name : TT.kw "is_name" 0 ["value"] = some [0] := rfl
theorem kwv_split : TT.kw "split_name" 0 ["name"] = some [0] := rfl
theorem map0 {x : D} : mapIx ([] ++ [x]) [0] = some [x] := rfl
def four (w v : Bool) : PyData := .list [.bool w, .bool w, .bool v, .bool v]
theorem four_ok (w v : Bool) : okS (codes (four w v).shown) ∧ (four w v).shown.length ≤ 1000 ∧ (four w v).showable = true ∧ (four w v).depth ≤ 180 := by
  cases w <;> cases v <;> (unfold okS; decide +kernel)
theorem repr_four {w v : Bool} {i : Nat} {h : Hh} {Q : QD} (hi : h[i]? = some (.lst [.bl w, .bl w, .bl v, .bl v])) (q : Q (.str (codes (four w v).shown)) h) : vRepr [.ref i] h Q := by
  obtain ⟨h1, h2, h3, h4⟩ := four_ok w v
  exact ⟨_, four w v, rfl, .lst (ls_of hi) (.cons (.bl w) (.cons (.bl w) (.cons (.bl v) (.cons (.bl v) .nil)))), h3, h4, line_le h2, q⟩
theorem Keep.trans {a b c : Hh} (k : Keep a b) (l : Keep b c) : Keep a c := fun i o e => l i o (k i o e)
abbrev Gives (h0 : Hh) (f : String) (x y : D) : Prop := ∀ (n : Nat) (h : Hh) (Q : QD) (R : QX), Keep h0 h → (∀ h', Keep h h' → Q y h') → wC TT (n + 2) f [x] h Q R
theorem right_gen {n : Nat} {x : D} {w v : Bool} {h : Hh} {Q : QD} {R : QX} (g1 : Gives h "is_wish" x (.bl w)) (g2 : Gives h "is_name" x (.bl v)) (g3 : Gives h "_law_is_wish" x (.bl w)) (g4 : Gives h "_law_is_name" x (.bl v))
    (hv : v = true → ∃ s a o, x = .str s ∧ Cut s a o ∧ s.length ≤ 500 ∧ okS s ∧ nameB a o = true) (q : ∀ h', Keep h h' → Q (.bl true) h') : wC TT (n + 3) "_law_word_right" [x] h Q R := by
  apply go__law_word_right
  unfold b__law_word_right
  simp only [wSs, wS, wT, wE, wEs, wTg, wTgs, wI, vCmp, i2_int, vBi, vDivmod, add_int, add_str, add_tup, sub_int, mul_int, fdiv_int, mod_int, pow_int, neg_int, vMax, vMin, vAbs, vLen, len_str', len_tup', part_non, part_int, Option.isSome_some, Option.some.injEq, exists_and_left, exists_eq_left', exists_eq_left, List.getElem?_cons_zero, List.getElem?_cons_succ, List.set_cons_zero, List.set_cons_succ, List.length_cons, List.length_nil, D.tup.injEq, D.int.injEq, D.str.injEq, D.bl.injEq, D.ref.injEq, List.cons.injEq, and_true, true_and, and_assoc, Tgs.len, atI0, atI1, atI2, ixN0, ixN1, decide_eq_true_eq, isi1, dwipe, Bool.not_eq_true', decide_eq_false_iff_not, tru_bl, tru_int, ty_str, eq_int, eq_non_int, in_str1, Bool.not_true, Bool.not_false, Bool.false_eq_true, reduceCtorEq, reduceIte, kwv_wish, kwv_name, map0]
  refine g1 n _ _ _ .refl fun h1 k1 => g1 n _ _ _ k1 fun h2 k2 => g2 n _ _ _ (k1.trans k2) fun h3 k3 => g2 n _ _ _ ((k1.trans k2).trans k3) fun h4 k4 => ⟨by decide, ?_⟩
  have K4 : Keep h (h4 ++ [Ob.lst [.bl w, .bl w, .bl v, .bl v]]) := (((k1.trans k2).trans k3).trans k4).trans .app
  refine g3 n _ _ _ K4 fun h5 k5 => g3 n _ _ _ (K4.trans k5) fun h6 k6 => g4 n _ _ _ ((K4.trans k5).trans k6) fun h7 k7 => g4 n _ _ _ (((K4.trans k5).trans k6).trans k7) fun h8 k8 => ⟨by decide, ?_⟩
  have t1 : (h8 ++ [Ob.lst [.bl w, .bl w, .bl v, .bl v]])[h4.length]? = some (.lst [.bl w, .bl w, .bl v, .bl v]) := get_app (k8 _ _ (k7 _ _ (k6 _ _ (k5 _ _ get_new))))
  have kk : Keep h (h8 ++ [Ob.lst [.bl w, .bl w, .bl v, .bl v]]) := fun i o e => get_app (k8 _ _ (k7 _ _ (k6 _ _ (k5 _ _ (get_app (k4 _ _ (k3 _ _ (k2 _ _ (k1 _ _ e)))))))))
  refine repr_four t1 (repr_four get_new ((eq_str (four_ok w v).1 (four_ok w v).1).mpr ?_))
  rw [if_neg (by simp)]
  refine ix_lst (ls_of get_new) atI2 ⟨v, rfl, ?_⟩
  cases v with
  | false => rw [if_pos rfl]; exact q _ kk
  | true =>
    rw [if_neg (by simp)]
    obtain ⟨s, a, o, rfl, c, hl, ho, hn⟩ := hv rfl
    have hw : wishB a = true := by
      cases o with
      | none => exact hn
      | some b => exact (and2 (show (wishB a && decide (mk b ≠ 0)) = true from hn)).1
    have e1 : vBm .split = mSplit := rfl
    rw [e1]
    refine ⟨rfl, split_v c (by omega) fun r => ix_lst (ls_of get_new) atI0 ?_⟩
    refine lmark_ok c hl ho fun h9 k9 => ⟨by decide, ?_⟩
    refine parts_ok c hl hn fun h10 k10 => ⟨_, kwv_split, _, map0, ?_⟩
    refine parts_ok c hl hn fun h11 k11 => ⟨by decide, ?_⟩
    obtain ⟨p1, p2, p3, p4⟩ := two_ok hw hn
    have d1 : ∀ {i : Nat} {g : Hh}, g[i]? = some (.lst [.tup [.str a, markD o], .tup [.str a, markD o]]) → Deep g (.ref i) (twoP a o) := fun z => .lst (ls_of z) (.cons (.tup (.cons (.str a) (.cons (deep_mark o) .nil))) (.cons (.tup (.cons (.str a) (.cons (deep_mark o) .nil))) .nil))
    refine ⟨_, twoP a o, rfl, d1 get_new, p3, p4, line_le p2, by decide, ?_⟩
    refine ⟨_, twoP a o, rfl, d1 get_new, p3, p4, line_le p2, ?_⟩
    refine (eq_str p1 p1).mpr ?_
    rw [decide_eq_true (show codes (twoP a o).shown = codes (twoP a o).shown from rfl)]
    exact q _ (fun i o e => get_app (get_app (k11 _ _ (k10 _ _ (k9 _ _ (get_app (kk i o e)))))))
end K11
end

section
namespace K11
open PySem PySem.Spec Bn L2
theorem right_str {n : Nat} {s : List Nat} {h : Hh} {Q : QD} {R : QX} (hl : s.length ≤ 500) (ho : okS s) (q : ∀ h', Keep h h' → Q (.bl true) h') : wC TT (n + 3) "_law_word_right" [.str s] h Q R := by
  obtain ⟨a, o, c⟩ := cut_of s
  exact right_gen (w := wishB s) (v := nameB a o) (fun n h Q R _ q => wish_ok (by omega) ho q) (fun n h Q R _ q => name_ok c hl ho q) (fun n h Q R _ q => lwish_ok (by omega) ho q) (fun n h Q R _ q => lname_ok c hl ho q) (fun hv => ⟨s, a, o, rfl, c, hl, ho, hv⟩) q
theorem isTy_keep {h h1 : Hh} {x : D} {b : Bool} (k : Keep h h1) (e : isTy h "str" x = some b) : isTy h1 "str" x = some b := by
  cases x with
  | ref i =>
    simp only [isTy] at e ⊢
    cases ho : h[i]? with
    | none => rw [ho] at e; cases e
    | some o => rw [ho] at e; rw [k i o ho]; exact e
  | _ => exact e
theorem right_no {n : Nat} {x : D} {h : Hh} {Q : QD} {R : QX} (hx : isTy h "str" x = some false) (q : ∀ h', Keep h h' → Q (.bl true) h') : wC TT (n + 3) "_law_word_right" [x] h Q R := by
  exact right_gen (w := false) (v := false) (fun n g Q R k q => wish_no (isTy_keep k hx) (q _ .refl)) (fun n g Q R k q => name_no (isTy_keep k hx) (q _ .refl)) (fun n g Q R k q => lwish_no (isTy_keep k hx) (q _ .refl)) (fun n g Q R k q => lname_no (isTy_keep k hx) (q _ .refl)) (fun hv => absurd hv (by simp)) q
/-! ### what is drawn -/
def Pot (h : Hh) (p : Nat) : Prop := ∃ a b : Int, h[p]? = some (.lst [.int a, .int b]) ∧ 0 ≤ a ∧ 0 ≤ b ∧ b < 4294967296
/-- the heap grows, the pot turns -/
structure Gr (p : Nat) (h h1 : Hh) : Prop where
  keep : ∀ (i : Nat) (o : Ob), i ≠ p → h[i]? = some o → h1[i]? = some o
  pot : Pot h1 p
theorem Gr.trans {p : Nat} {h h1 h2 : Hh} (a : Gr p h h1) (b : Gr p h1 h2) : Gr p h h2 := ⟨fun i o n e => b.keep i o n (a.keep i o n e), b.pot⟩
theorem Gr.refl {p : Nat} {h : Hh} (a : Pot h p) : Gr p h h := ⟨fun _ _ _ e => e, a⟩
theorem Pot.app {p : Nat} {h g : Hh} (a : Pot h p) : Pot (h ++ g) p := by
  obtain ⟨x, y, e, z⟩ := a
  exact ⟨x, y, get_app e, z⟩
theorem Gr.app {p : Nat} {h h1 g : Hh} (a : Gr p h h1) : Gr p h (h1 ++ g) := ⟨fun i o n e => get_app (a.keep i o n e), a.pot.app⟩
theorem Gr.of_keep {p : Nat} {h h1 : Hh} (a : Pot h p) (k : Keep h h1) : Gr p h h1 := ⟨fun i o _ e => k i o e, by obtain ⟨x, y, e, z⟩ := a; exact ⟨x, y, k _ _ e, z⟩⟩
theorem take_ok {n p : Nat} {m : Int} {h : Hh} {Q : QD} {R : QX} (hp : Pot h p) (hm : 0 < m) (hm2 : m < 1000000)
    (q : ∀ (d : Nat) h', Gr p h h' → (d : Int) < m → Q (.int d) h') : wC TT (n + 1) "_law_take" [.ref p, .int m] h Q R := by
  obtain ⟨a, b, hp, ha, hb, hb2⟩ := hp
  apply go__law_take
  unfold b__law_take
  simp only [wSs, wS, wT, wE, wEs, wTg, wTgs, wI, vCmp, i2_int, vBi, vDivmod, add_int, add_str, add_tup, sub_int, mul_int, fdiv_int, mod_int, pow_int, neg_int, vMax, vMin, vAbs, vLen, len_str', len_tup', part_non, part_int, Option.isSome_some, Option.some.injEq, exists_and_left, exists_eq_left', exists_eq_left, List.getElem?_cons_zero, List.getElem?_cons_succ, List.set_cons_zero, List.set_cons_succ, List.length_cons, List.length_nil, D.tup.injEq, D.int.injEq, D.str.injEq, D.bl.injEq, D.ref.injEq, List.cons.injEq, and_true, true_and, and_assoc, Tgs.len, atI0, atI1, atI2, ixN0, ixN1, decide_eq_true_eq, isi1, dwipe, Bool.not_eq_true', decide_eq_false_iff_not, tru_bl, tru_int, ty_str, eq_int, eq_non_int, in_str1, Bool.not_true, Bool.not_false, Bool.false_eq_true, reduceCtorEq, reduceIte, ix_lst_iff hp, set_lst_iff hp, ix_lst_iff (get_set hp)]
  have gr : ∀ a' b' : Int, 0 ≤ a' → 0 ≤ b' → b' < 4294967296 → Gr p h (h.set p (.lst [.int a', .int b'])) := fun a' b' h1 h2 h3 => ⟨fun i o ne e => get_set_ne e (Ne.symm ne), ⟨a', b', get_set hp, h1, h2, h3⟩⟩
  have nn : ∀ x : Int, 0 ≤ x → x < m → ∀ h', Gr p h h' → Q (.int x) h' := fun x h1 h2 h' g => by
    have := q x.toNat h' g (by omega)
    rw [Int.toNat_of_nonneg h1] at this
    exact this
  split
  · refine ⟨hm, by omega, nn _ (Int.emod_nonneg _ (by omega)) (Int.emod_lt_of_pos _ hm) _ (gr _ _ (Int.ediv_nonneg ha (by omega)) hb hb2)⟩
  · have r1 : 0 ≤ (b * 39373 + 9311) % 2147483629 := Int.emod_nonneg _ (by omega)
    have r2 : (b * 39373 + 9311) % 2147483629 < 2147483629 := Int.emod_lt_of_pos _ (by omega)
    refine ⟨.inr (by omega), by omega, .inl (by omega), by omega, ⟨by omega, by omega⟩, hm, ?_⟩
    exact nn _ (Int.emod_nonneg _ (by omega)) (Int.emod_lt_of_pos _ hm) _ (gr _ _ ha r1 (by omega))
theorem pot_ok {n : Nat} {k : Nat} {ns : List Int} {h : Hh} {Q : QD} {R : QX} (hs : h[0]? = some (.klst (ns.map D.int))) (hl : ns.length ≤ 63) (hk : k ≤ 100) (q : ∀ a b : Int, 0 ≤ a → 0 ≤ b → b < 4294967296 → Q (.ref h.length) (h ++ [.lst [.int a, .int b]])) : wC TT (n + 1) "_law_pot" [.ref 0, .int k] h Q R := by
  apply go__law_pot
  unfold b__law_pot
  simp only [wSs, wS, wT, wE, wEs, wTg, wTgs, wI, vCmp, i2_int, vBi, vDivmod, add_int, add_str, add_tup, sub_int, mul_int, fdiv_int, mod_int, pow_int, neg_int, vMax, vMin, vAbs, vLen, len_str', len_tup', part_non, part_int, Option.isSome_some, Option.some.injEq, exists_and_left, exists_eq_left', exists_eq_left, List.getElem?_cons_zero, List.getElem?_cons_succ, List.set_cons_zero, List.set_cons_succ, List.length_cons, List.length_nil, D.tup.injEq, D.int.injEq, D.str.injEq, D.bl.injEq, D.ref.injEq, List.cons.injEq, and_true, true_and, and_assoc, Tgs.len, atI0, atI1, atI2, ixN0, ixN1, decide_eq_true_eq, isi1, dwipe, Bool.not_eq_true', decide_eq_false_iff_not, tru_bl, tru_int, ty_str, eq_int, eq_non_int, in_str1, Bool.not_true, Bool.not_false, Bool.false_eq_true, reduceCtorEq, reduceIte, hs, ix_klst_iff hs, len_klst' hs]
  have hn : (ns.map D.int).length = ns.length := List.length_map ..
  have fin : ∀ i : Int, CPow 10 18 ∧ 0 < (2147483563 : Int) ∧ CMul 101 (k : Int) ∧ 0 + 1 + 1 ≤ sizeLine ∧ Q (.ref h.length) (h ++ [.lst [.int (if (if i < 0 then -i else i) - 10 ^ Int.toNat 18 > 0 then (if i < 0 then -i else i) - 10 ^ Int.toNat 18 else 0), .int ((if i < 0 then -i else i) % 2147483563 + 101 * (k : Int) + 7)]]) := fun i => by
    refine ⟨⟨by decide, by decide, by decide⟩, by decide, .inl ⟨by decide, by decide⟩, by decide, ?_⟩
    have r1 : 0 ≤ (if i < 0 then -i else i) % 2147483563 := Int.emod_nonneg _ (by omega)
    have r2 : (if i < 0 then -i else i) % 2147483563 < 2147483563 := Int.emod_lt_of_pos _ (by omega)
    refine q _ _ ?_ (by omega) (by omega)
    split
    · omega
    · omega
  refine ⟨by unfold sizeLine; omega, ?_⟩
  split
  · rename_i hlt
    have hlt : k < ns.length := by have := hlt; simp only [List.length_map] at this; omega
    refine ⟨.int ns[k], by rw [Bn.atI_nat (by omega)]; simp [hlt], ns[k], rfl, ?_⟩
    obtain ⟨f1, f2, f3, f4, f5⟩ := fin ns[k]
    exact ⟨f1, _, rfl, f2, f3, f4, f5⟩
  · exact fin 0
theorem ix_strN {s : List Nat} {d : Nat} {h : Hh} {Q : QD} (hd : d < s.length) (hl : s.length ≤ 1000) (q : ∀ c ∈ s, Q (.str [c]) h) : vIx (.str s) (.int d) h Q :=
  ⟨d, s[d], rfl, line_le hl, by rw [Bn.atI_nat (by omega)]; simp [hd], q _ (List.getElem_mem hd)⟩
theorem ix_lstN {p : Nat} {xs : List D} {d : Nat} {h : Hh} {Q : QD} (hp : h[p]? = some (.lst xs)) (hd : d < xs.length) (q : ∀ x ∈ xs, Q x h) : vIx (.ref p) (.int d) h Q :=
  ix_lst (ls_of hp) (d := xs[d]) (by rw [Bn.atI_nat (by omega)]; simp [hd]) (q _ (List.getElem_mem hd))
theorem strs_map : ∀ ys : List (List Nat), strsD (ys.map D.str) = some ys
  | [] => rfl
  | y :: ys => by show (strsD (ys.map D.str)).map (y :: ·) = _; rw [strs_map ys]; rfl
theorem join_nil : ∀ ys : List (List Nat), codes (Txt.join (S2 []) (ys.map S2)) = ys.flatten := by
  intro ys
  rw [TL.join_eq]
  show TL.tl (Str.join (S2 []) (ys.map S2)) = _
  induction ys with
  | nil => rfl
  | cons y ys ih =>
    cases ys with
    | nil => show (S2 y).cps.toList = _; simp [S2]
    | cons z zs =>
      show ((S2 y ++ S2 []) ++ Str.join (S2 []) ((z :: zs).map S2)).cps.toList = _
      have e : ∀ a b : Str, (a ++ b).cps.toList = a.cps.toList ++ b.cps.toList := fun a b => cd_app a b
      rw [e, e]
      have ih : (Str.join (S2 []) ((z :: zs).map S2)).cps.toList = (z :: zs).flatten := ih
      rw [ih]
      simp [S2]
theorem join_v {i : Nat} {ys : List (List Nat)} {h : Hh} {Q : QD} (hi : h[i]? = some (.lst (ys.map D.str))) (hs : (ys.map (·.length)).sum + ys.length * 0 ≤ 16777216) (q : Q (.str ys.flatten) h) : mJoin (.str []) [.ref i] h Q :=
  ⟨i, [], _, ys, rfl, rfl, ls_of hi, strs_map ys, hs, by rw [join_nil]; exact q⟩
theorem Pot.lt {p : Nat} {h : Hh} (a : Pot h p) : p < h.length := by
  obtain ⟨_, _, e, _⟩ := a
  exact (List.getElem?_eq_some_iff.mp e).1
/-- drawn letters -/
theorem drawn_ok {n p N : Nat} {h : Hh} {fin : Hh → Prop} (hp : Pot h p) (hN : N ≤ 1000) (hf : ∀ (ss : List Nat) h', Gr p h h' → ss.length = N → (∀ c ∈ ss, c ∈ letters) → h'[h.length]? = some (.lst ((ss.map fun c => [c]).map D.str)) → fin h') :
    ∃ m, lcLoop (Src.fix (rngD 0 N)) h.length (fun d h2 nx => wC TT (n + 1) "_law_take" [.ref p, .int 26] h2 (fun y h2 => vIx (.str [97, 98, 99, 100, 101, 102, 103, 104, 105, 106, 107, 108, 109, 110, 111, 112, 113, 114, 115, 116, 117, 118, 119, 120, 121, 122]) y h2 fun y h5 => nx (some y) h5) fun x x_1 => False) fin m 0 (h ++ [.lst []]) := by
  have hpl := hp.lt
  refine lc_rule (rngD 0 N) (fun k h' => ∃ ss : List Nat, ss.length = k ∧ (∀ c ∈ ss, c ∈ letters) ∧ Gr p h h' ∧ h'[h.length]? = some (.lst ((ss.map fun c => [c]).map D.str))) (fun _ _ _ => rfl) (fun k d h' nx ed i n1 n2 => ?_) (fun h' i => ?_) _ ⟨[], rfl, by simp, (Gr.refl hp).app, get_new⟩
  · obtain ⟨ss, e1, e2, g, e3⟩ := i
    have hk : k < N := by have := (List.getElem?_eq_some_iff.mp ed).1; simpa [rngD] using this
    refine take_ok g.pot (by omega) (by omega) fun d h2 g2 hd => ?_
    refine ix_strN (by simp; omega) (by simp) fun c hc => n1 _ _ ((ss.map fun c => [c]).map D.str) (g2.keep _ _ (by omega) e3) (by simp [e1]; unfold sizeLine; omega) ?_
    have e4 := g2.keep _ _ (by omega) e3
    refine ⟨ss ++ [c], by simp [e1], fun x hx => ?_, ⟨fun i o ne e => ?_, ?_⟩, ?_⟩
    · rcases List.mem_append.mp hx with hx | hx
      · exact e2 x hx
      · simp at hx; subst hx; exact hc
    · have := (List.getElem?_eq_some_iff.mp e).1
      exact get_set_ne (g2.keep i o ne (g.keep i o ne e)) (by omega)
    · obtain ⟨a, b, q1, q2⟩ := g2.pot
      exact ⟨a, b, get_set_ne q1 (by omega), q2⟩
    · rw [get_set e4]
      simp
  · obtain ⟨ss, e1, e2, g, e3⟩ := i
    exact hf ss h' g (by simpa [rngD] using e1) e2 e3
theorem word_ok {n p : Nat} {h : Hh} {Q : QD} {R : QX} (hp : Pot h p) (q : ∀ (s : List Nat) h', Gr p h h' → s.length ≤ 20 → okS s → Q (.str s) h') : wC TT (n + 2) "_law_word" [.ref p] h Q R := by
  apply go__law_word
  unfold b__law_word
  simp only [wSs, wS, wT, wE, wEs, wTg, wTgs, wI, vCmp, i2_int, vBi, vDivmod, add_int, add_str, add_tup, sub_int, mul_int, fdiv_int, mod_int, pow_int, neg_int, vMax, vMin, vAbs, vLen, len_str', len_tup', part_non, part_int, Option.isSome_some, Option.some.injEq, exists_and_left, exists_eq_left', exists_eq_left, List.getElem?_cons_zero, List.getElem?_cons_succ, List.set_cons_zero, List.set_cons_succ, List.length_cons, List.length_nil, D.tup.injEq, D.int.injEq, D.str.injEq, D.bl.injEq, D.ref.injEq, List.cons.injEq, and_true, true_and, and_assoc, Tgs.len, atI0, atI1, atI2, ixN0, ixN1, decide_eq_true_eq, isi1, dwipe, Bool.not_eq_true', decide_eq_false_iff_not, tru_bl, tru_int, ty_str, eq_int, eq_non_int, in_str1, Bool.not_true, Bool.not_false, Bool.false_eq_true, reduceCtorEq, reduceIte]
  refine take_ok hp (by decide) (by decide) fun d1 h1 g1 l1 => ⟨by decide, ?_⟩
  refine take_ok g1.pot.app (by decide) (by decide) fun d2 h2 g2 l2 => ?_
  have G2 := g1.app.trans g2
  have hpl := g1.pot.lt
  refine ix_lstN (g2.keep _ _ (by omega) get_new) (by simp; omega) fun x hx => ?_
  have hx : ∃ k : Nat, x = .int k ∧ 0 < k ∧ k ≤ 10 := by
    simp at hx
    rcases hx with rfl | rfl | rfl
    · exact ⟨1, rfl, by decide⟩
    · exact ⟨3, rfl, by decide⟩
    · exact ⟨10, rfl, by decide⟩
  obtain ⟨k, rfl, k1, k2⟩ := hx
  refine take_ok g2.pot (by omega) (by omega) fun d3 h3 g3 l3 => ?_
  simp only [wSs, wS, wT, wE, wEs, wTg, wTgs, wI, vCmp, i2_int, vBi, vDivmod, add_int, add_str, add_tup, sub_int, mul_int, fdiv_int, mod_int, pow_int, neg_int, vMax, vMin, vAbs, vLen, len_str', len_tup', part_non, part_int, Option.isSome_some, Option.some.injEq, exists_and_left, exists_eq_left', exists_eq_left, List.getElem?_cons_zero, List.getElem?_cons_succ, List.set_cons_zero, List.set_cons_succ, List.length_cons, List.length_nil, D.tup.injEq, D.int.injEq, D.str.injEq, D.bl.injEq, D.ref.injEq, List.cons.injEq, and_true, true_and, and_assoc, Tgs.len, atI0, atI1, atI2, ixN0, ixN1, decide_eq_true_eq, isi1, dwipe, Bool.not_eq_true', decide_eq_false_iff_not, tru_bl, tru_int, ty_str, eq_int, eq_non_int, in_str1, Bool.not_true, Bool.not_false, Bool.false_eq_true, reduceCtorEq, reduceIte]
  have e1 : (1 + (d3 : Int)).toNat = d3 + 1 := by omega
  rw [e1]
  refine ⟨rfl, by omega, by omega, drawn_ok (N := d3 + 1) g3.pot (by omega) fun ss h4 g4 n4 o4 t4 => ?_⟩
  have lensum : ∀ l : List Nat, ((l.map fun c => [c]).map (·.length)).sum = l.length := fun l => by
    induction l with
    | nil => rfl
    | cons a b ih => simp at ih ⊢; omega
  have flat : ∀ l : List Nat, (l.map fun c => [c]).flatten = l := fun l => by
    induction l with
    | nil => rfl
    | cons a b ih => simp at ih ⊢; exact ih
  have okl : ∀ l : List Nat, (∀ c ∈ l, c ∈ letters) → okS l := fun l hl c hc => by
    have : ∀ c ∈ letters, c < 1114112 := by decide
    exact this c (hl c hc)
  have vj : vBm .join = mJoin := rfl
  rw [vj]
  refine join_v t4 (by rw [lensum]; omega) ⟨by decide, ?_⟩
  rw [flat]
  refine take_ok g4.pot.app (by decide) (by decide) fun d5 h5 g5 l5 => ?_
  have p4 := g4.pot.lt
  refine ix_lstN (g5.keep _ _ (by omega) get_new) (by simp; omega) fun x hx => ?_
  obtain ⟨rs, rfl, rl, ro⟩ : ∃ rs : List Nat, x = .str rs ∧ rs.length ≤ 4 ∧ okS rs := by
    simp at hx
    rcases hx with rfl | rfl | rfl | rfl | rfl | rfl <;> exact ⟨_, rfl, by decide, by unfold okS; decide⟩
  refine ⟨rfl, take_ok g5.pot (by decide) (by decide) fun d6 h6 g6 l6 => ?_⟩
  simp only [wSs, wS, wT, wE, wEs, wTg, wTgs, wI, vCmp, i2_int, vBi, vDivmod, add_int, add_str, add_tup, sub_int, mul_int, fdiv_int, mod_int, pow_int, neg_int, vMax, vMin, vAbs, vLen, len_str', len_tup', part_non, part_int, Option.isSome_some, Option.some.injEq, exists_and_left, exists_eq_left', exists_eq_left, List.getElem?_cons_zero, List.getElem?_cons_succ, List.set_cons_zero, List.set_cons_succ, List.length_cons, List.length_nil, D.tup.injEq, D.int.injEq, D.str.injEq, D.bl.injEq, D.ref.injEq, List.cons.injEq, and_true, true_and, and_assoc, Tgs.len, atI0, atI1, atI2, ixN0, ixN1, decide_eq_true_eq, isi1, dwipe, Bool.not_eq_true', decide_eq_false_iff_not, tru_bl, tru_int, ty_str, eq_int, eq_non_int, in_str1, Bool.not_true, Bool.not_false, Bool.false_eq_true, reduceCtorEq, reduceIte]
  have e2 : (7 + (d6 : Int)).toNat = d6 + 7 := by omega
  rw [e2]
  refine ⟨by omega, by omega, drawn_ok (N := d6 + 7) g6.pot (by omega) fun s7 h7 g7 n7 o7 t7 => ?_⟩
  refine join_v t7 (by rw [lensum]; omega) ?_
  rw [flat]
  refine take_ok g7.pot (by decide) (by decide) fun d8 h8 g8 l8 => ?_
  refine ix_strN (by simp; omega) (by simp) fun c8 hc8 => ?_
  simp only [wSs, wS, wT, wE, wEs, wTg, wTgs, wI, vCmp, i2_int, vBi, vDivmod, add_int, add_str, add_tup, sub_int, mul_int, fdiv_int, mod_int, pow_int, neg_int, vMax, vMin, vAbs, vLen, len_str', len_tup', part_non, part_int, Option.isSome_some, Option.some.injEq, exists_and_left, exists_eq_left', exists_eq_left, List.getElem?_cons_zero, List.getElem?_cons_succ, List.set_cons_zero, List.set_cons_succ, List.length_cons, List.length_nil, D.tup.injEq, D.int.injEq, D.str.injEq, D.bl.injEq, D.ref.injEq, List.cons.injEq, and_true, true_and, and_assoc, Tgs.len, atI0, atI1, atI2, ixN0, ixN1, decide_eq_true_eq, isi1, dwipe, Bool.not_eq_true', decide_eq_false_iff_not, tru_bl, tru_int, ty_str, eq_int, eq_non_int, in_str1, Bool.not_true, Bool.not_false, Bool.false_eq_true, reduceCtorEq, reduceIte]
  refine ⟨by simp; unfold sizeLine; omega, ?_⟩
  refine ⟨_, _, rfl, rfl, line_le (by omega), ?_⟩
  refine ⟨by decide, ?_⟩
  refine take_ok g8.pot.app (by decide) (by decide) fun d9 h9 g9 l9 => ?_
  have p8 := g8.pot.lt
  refine ix_lstN (g9.keep _ _ (by omega) get_new) (by simp; omega) fun x hx => ⟨by decide, ?_⟩
  obtain ⟨ns, rfl, nl, no⟩ : ∃ rs : List Nat, x = .str rs ∧ rs.length ≤ 20 ∧ okS rs := by
    simp at hx
    rcases hx with rfl | rfl
    · exact ⟨_, rfl, by simp; omega, okS_app ro (okl [c8] fun c hc => by simp at hc; subst hc; exact hc8)⟩
    · refine ⟨_, rfl, ?_, ?_⟩
      · unfold cut; simp; omega
      · exact okS_sub ro ((List.take_sublist _ _).trans (List.drop_sublist _ _))
  have p9 := g9.pot.lt
  refine ix_lstN get_new (by simp; omega) fun x hx => ?_
  have G3 := G2.trans g3
  have G4 := G3.trans g4
  have GG := (((((G4.app (g := [_])).trans g5).trans g6).trans g7).trans g8).app.trans g9
  have fin : ∀ s : List Nat, x = .str s → s.length ≤ 20 → okS s → Q x (h9 ++ [Ob.lst [.str ss, .str ss, .str rs, .str ns, .str s7]]) := fun s e a b => by
    rw [e]
    exact q s _ GG.app a b
  simp at hx
  rcases hx with rfl | rfl | rfl | rfl
  · exact fin _ rfl (by omega) (okl _ o4)
  · exact fin _ rfl (by omega) ro
  · exact fin _ rfl nl no
  · exact fin _ rfl (by omega) (okl _ o7)
theorem num_text2 : ∀ i : Fin 1101, okS (codes (PySem.Str.ofString (toString ((i.val : Nat) : Int)))) ∧ (codes (PySem.Str.ofString (toString ((i.val : Nat) : Int)))).length ≤ 4 := by
  unfold okS
  decide +kernel
theorem str_small {d : Nat} {h : Hh} {Q : QD} (hd : d < 1101) (q : ∀ t, okS t → t.length ≤ 4 → Q (.str t) h) : vStr [.int d] h Q := by
  refine str_int.mpr ⟨?_, ?_⟩
  · by_cases h0 : (d : Int).natAbs = 0
    · rw [h0]; decide
    · rw [Nat.log2_lt h0]
      have : (d : Int).natAbs < 2 ^ 11 := by omega
      exact Nat.lt_of_lt_of_le this (Nat.pow_le_pow_right (by decide) (by decide))
  · have t : okS (codes (PySem.Str.ofString (toString ((d : Nat) : Int)))) ∧ (codes (PySem.Str.ofString (toString ((d : Nat) : Int)))).length ≤ 4 := num_text2 ⟨d, hd⟩
    exact q _ t.1 t.2
theorem add_lst {i j : Nat} {xs ys : List D} {h : Hh} {Q : QD} (hi : h[i]? = some (.lst xs)) (hj : h[j]? = some (.lst ys)) (hl : xs.length + ys.length ≤ sizeLine) (q : Q (.ref h.length) (h ++ [.lst (xs ++ ys)])) : vBin .add (.ref i) (.ref j) h Q := ⟨xs, ys, hi, hj, hl, q⟩
theorem marked_ok {n p : Nat} {s : List Nat} {h : Hh} {Q : QD} {R : QX} (hp : Pot h p) (hl : s.length ≤ 100) (ho : okS s) (q : ∀ (t : List Nat) h', Gr p h h' → t.length ≤ 150 → okS t → Q (.str t) h') : wC TT (n + 2) "_law_marked" [.ref p, .str s] h Q R := by
  apply go__law_marked
  unfold b__law_marked
  simp only [wSs, wS, wT, wE, wEs, wTg, wTgs, wI, vCmp, i2_int, vBi, vDivmod, add_int, add_str, add_tup, sub_int, mul_int, fdiv_int, mod_int, pow_int, neg_int, vMax, vMin, vAbs, vLen, len_str', len_tup', part_non, part_int, Option.isSome_some, Option.some.injEq, exists_and_left, exists_eq_left', exists_eq_left, List.getElem?_cons_zero, List.getElem?_cons_succ, List.set_cons_zero, List.set_cons_succ, List.length_cons, List.length_nil, D.tup.injEq, D.int.injEq, D.str.injEq, D.bl.injEq, D.ref.injEq, List.cons.injEq, and_true, true_and, and_assoc, Tgs.len, atI0, atI1, atI2, ixN0, ixN1, decide_eq_true_eq, isi1, dwipe, Bool.not_eq_true', decide_eq_false_iff_not, tru_bl, tru_int, ty_str, eq_int, eq_non_int, in_str1, Bool.not_true, Bool.not_false, Bool.false_eq_true, reduceCtorEq, reduceIte]
  refine take_ok hp (by decide) (by decide) fun d1 h1 g1 l1 => str_small (by omega) fun t1 o1 n1 => ?_
  refine take_ok g1.pot (by decide) (by decide) fun d2 h2 g2 l2 => ?_
  simp only [wSs, wS, wT, wE, wEs, wTg, wTgs, wI, vCmp, i2_int, vBi, vDivmod, add_int, add_str, add_tup, sub_int, mul_int, fdiv_int, mod_int, pow_int, neg_int, vMax, vMin, vAbs, vLen, len_str', len_tup', part_non, part_int, Option.isSome_some, Option.some.injEq, exists_and_left, exists_eq_left', exists_eq_left, List.getElem?_cons_zero, List.getElem?_cons_succ, List.set_cons_zero, List.set_cons_succ, List.length_cons, List.length_nil, D.tup.injEq, D.int.injEq, D.str.injEq, D.bl.injEq, D.ref.injEq, List.cons.injEq, and_true, true_and, and_assoc, Tgs.len, atI0, atI1, atI2, ixN0, ixN1, decide_eq_true_eq, isi1, dwipe, Bool.not_eq_true', decide_eq_false_iff_not, tru_bl, tru_int, ty_str, eq_int, eq_non_int, in_str1, Bool.not_true, Bool.not_false, Bool.false_eq_true, reduceCtorEq, reduceIte]
  have e : (2 + (d2 : Int)) = ((2 + d2 : Nat) : Int) := by omega
  rw [e]
  refine str_small (by omega) fun t2 o2 n2 => ?_
  simp only [wSs, wS, wT, wE, wEs, wTg, wTgs, wI, vCmp, i2_int, vBi, vDivmod, add_int, add_str, add_tup, sub_int, mul_int, fdiv_int, mod_int, pow_int, neg_int, vMax, vMin, vAbs, vLen, len_str', len_tup', part_non, part_int, Option.isSome_some, Option.some.injEq, exists_and_left, exists_eq_left', exists_eq_left, List.getElem?_cons_zero, List.getElem?_cons_succ, List.set_cons_zero, List.set_cons_succ, List.length_cons, List.length_nil, D.tup.injEq, D.int.injEq, D.str.injEq, D.bl.injEq, D.ref.injEq, List.cons.injEq, and_true, true_and, and_assoc, Tgs.len, atI0, atI1, atI2, ixN0, ixN1, decide_eq_true_eq, isi1, dwipe, Bool.not_eq_true', decide_eq_false_iff_not, tru_bl, tru_int, ty_str, eq_int, eq_non_int, in_str1, Bool.not_true, Bool.not_false, Bool.false_eq_true, reduceCtorEq, reduceIte]
  refine ⟨by unfold sizeLine; omega, by decide, by decide, add_lst (get_app get_new) get_new (by show 7 + 3 ≤ _; decide) ⟨by unfold sizeLine; omega, ?_⟩⟩
  have G := (g1.trans g2).app (g := [Ob.lst [.str [50], .str [57, 57, 57], .str [49], .str [49, 48, 48, 48], .str [48], .str t1, .str ([48] ++ t2)]])
  have G := (G.app (g := [Ob.lst [.str [], .str [49, 50, 39, 51], .str [45, 50]]])).app (g := [Ob.lst ([.str [50], .str [57, 57, 57], .str [49], .str [49, 48, 48, 48], .str [48], .str t1, .str ([48] ++ t2)] ++ [.str [], .str [49, 50, 39, 51], .str [45, 50]])])
  have pl := g2.pot.lt
  refine take_ok G.pot (by decide) (by decide) fun d3 h3 g3 l3 => ?_
  refine ix_lstN (g3.keep _ _ (by simp; omega) get_new) (by simp; omega) fun x hx => ?_
  obtain ⟨m, rfl, ml, mo⟩ : ∃ m : List Nat, x = .str m ∧ m.length ≤ 6 ∧ okS m := by
    simp at hx
    rcases hx with rfl | rfl | rfl | rfl | rfl | rfl | rfl | rfl | rfl | rfl
    all_goals first
      | exact ⟨_, rfl, by decide, by unfold okS; decide⟩
      | exact ⟨_, rfl, by omega, o1⟩
      | exact ⟨_, rfl, by simp; omega, okS_app (a := [48]) (by unfold okS; decide) o2⟩
  simp only [wSs, wS, wT, wE, wEs, wTg, wTgs, wI, vCmp, i2_int, vBi, vDivmod, add_int, add_str, add_tup, sub_int, mul_int, fdiv_int, mod_int, pow_int, neg_int, vMax, vMin, vAbs, vLen, len_str', len_tup', part_non, part_int, Option.isSome_some, Option.some.injEq, exists_and_left, exists_eq_left', exists_eq_left, List.getElem?_cons_zero, List.getElem?_cons_succ, List.set_cons_zero, List.set_cons_succ, List.length_cons, List.length_nil, D.tup.injEq, D.int.injEq, D.str.injEq, D.bl.injEq, D.ref.injEq, List.cons.injEq, and_true, true_and, and_assoc, Tgs.len, atI0, atI1, atI2, ixN0, ixN1, decide_eq_true_eq, isi1, dwipe, Bool.not_eq_true', decide_eq_false_iff_not, tru_bl, tru_int, ty_str, eq_int, eq_non_int, in_str1, Bool.not_true, Bool.not_false, Bool.false_eq_true, reduceCtorEq, reduceIte]
  refine ⟨by simp; unfold sizeLine; omega, ?_⟩
  exact q _ _ (G.trans g3) (by simp; omega) (okS_app (okS_app ho (by unfold okS; decide)) mo)
theorem slc_str {s : List Nat} {lo hi : D} {l u : Option Int} {h : Hh} {Q : QD} (e1 : partI lo = some l) (e2 : partI hi = some u) (hl : s.length ≤ 1000) (q : Q (.str (cut s l u)) h) : vSlc (.str s) lo hi h Q := ⟨l, u, e1, e2, line_le hl, q⟩
theorem cut_sub (s : List Nat) (l u : Option Int) : (cut s l u).Sublist s := (List.take_sublist _ _).trans (List.drop_sublist _ _)
theorem cut_lo {s : List Nat} {d : Nat} (hd : d ≤ s.length) : cut s none (some (d : Int)) = s.take d := by
  unfold cut
  rw [HT.sIx_none, HT.sIx_nat, List.drop_zero, Nat.min_eq_left hd, Nat.sub_zero]
theorem cut_hi {s : List Nat} {d : Nat} : cut s (some (d : Int)) none = s.drop d := by
  unfold cut
  rw [HT.sIx_none, HT.sIx_nat]
  by_cases hd : d ≤ s.length
  · rw [Nat.min_eq_left hd]
    have : (s.drop d).length = s.length - d := by simp
    rw [← this, List.take_length]
  · rw [Nat.min_eq_right (by omega), List.drop_eq_nil_of_le (Nat.le_refl _), List.drop_eq_nil_of_le (by omega)]
    simp
theorem bent_ok {n p : Nat} {s : List Nat} {h : Hh} {Q : QD} {R : QX} (hp : Pot h p) (hl : s.length ≤ 300) (ho : okS s) (q : ∀ (t : List Nat) h', Gr p h h' → t.length ≤ s.length + 1 → okS t → Q (.str t) h') : wC TT (n + 2) "_law_bent" [.ref p, .str s] h Q R := by
  apply go__law_bent
  unfold b__law_bent
  simp only [wSs, wS, wT, wE, wEs, wTg, wTgs, wI, vCmp, i2_int, vBi, vDivmod, add_int, add_str, add_tup, sub_int, mul_int, fdiv_int, mod_int, pow_int, neg_int, vMax, vMin, vAbs, vLen, len_str', len_tup', part_non, part_int, Option.isSome_some, Option.some.injEq, exists_and_left, exists_eq_left', exists_eq_left, List.getElem?_cons_zero, List.getElem?_cons_succ, List.set_cons_zero, List.set_cons_succ, List.length_cons, List.length_nil, D.tup.injEq, D.int.injEq, D.str.injEq, D.bl.injEq, D.ref.injEq, List.cons.injEq, and_true, true_and, and_assoc, Tgs.len, atI0, atI1, atI2, ixN0, ixN1, decide_eq_true_eq, isi1, dwipe, Bool.not_eq_true', decide_eq_false_iff_not, tru_bl, tru_int, ty_str, eq_int, eq_non_int, in_str1, Bool.not_true, Bool.not_false, Bool.false_eq_true, reduceCtorEq, reduceIte, setAll]
  refine ⟨line_le (by omega), take_ok hp (by omega) (by omega) fun d1 h1 g1 l1 => take_ok g1.pot (by decide) (by decide) fun d2 h2 g2 l2 => ?_⟩
  refine ix_strN (by simp; omega) (by simp) fun c hc => ?_
  have hd : d1 ≤ s.length := by omega
  have oc : okS [c] := fun x hx => by
    simp at hx
    subst hx
    have : ∀ c ∈ [97, 122, 65, 90, 48, 57, 39, 63, 32, 95, 45, 10, 46], c < 1114112 := by decide
    exact this _ hc
  refine slc_str rfl rfl (by omega) ?_
  rw [cut_lo hd]
  simp only [wSs, wS, wT, wE, wEs, wTg, wTgs, wI, vCmp, i2_int, vBi, vDivmod, add_int, add_str, add_tup, sub_int, mul_int, fdiv_int, mod_int, pow_int, neg_int, vMax, vMin, vAbs, vLen, len_str', len_tup', part_non, part_int, Option.isSome_some, Option.some.injEq, exists_and_left, exists_eq_left', exists_eq_left, List.getElem?_cons_zero, List.getElem?_cons_succ, List.set_cons_zero, List.set_cons_succ, List.length_cons, List.length_nil, D.tup.injEq, D.int.injEq, D.str.injEq, D.bl.injEq, D.ref.injEq, List.cons.injEq, and_true, true_and, and_assoc, Tgs.len, atI0, atI1, atI2, ixN0, ixN1, decide_eq_true_eq, isi1, dwipe, Bool.not_eq_true', decide_eq_false_iff_not, tru_bl, tru_int, ty_str, eq_int, eq_non_int, in_str1, Bool.not_true, Bool.not_false, Bool.false_eq_true, reduceCtorEq, reduceIte]
  have e : ((d1 : Int) + 1) = ((d1 + 1 : Nat) : Int) := by omega
  rw [e]
  refine slc_str rfl rfl (by omega) ?_
  rw [cut_hi]
  simp only [wSs, wS, wT, wE, wEs, wTg, wTgs, wI, vCmp, i2_int, vBi, vDivmod, add_int, add_str, add_tup, sub_int, mul_int, fdiv_int, mod_int, pow_int, neg_int, vMax, vMin, vAbs, vLen, len_str', len_tup', part_non, part_int, Option.isSome_some, Option.some.injEq, exists_and_left, exists_eq_left', exists_eq_left, List.getElem?_cons_zero, List.getElem?_cons_succ, List.set_cons_zero, List.set_cons_succ, List.length_cons, List.length_nil, D.tup.injEq, D.int.injEq, D.str.injEq, D.bl.injEq, D.ref.injEq, List.cons.injEq, and_true, true_and, and_assoc, Tgs.len, atI0, atI1, atI2, ixN0, ixN1, decide_eq_true_eq, isi1, dwipe, Bool.not_eq_true', decide_eq_false_iff_not, tru_bl, tru_int, ty_str, eq_int, eq_non_int, in_str1, Bool.not_true, Bool.not_false, Bool.false_eq_true, reduceCtorEq, reduceIte]
  refine ⟨by simp; unfold sizeLine; omega, slc_str rfl rfl (by omega) ?_⟩
  rw [cut_hi]
  simp only [wSs, wS, wT, wE, wEs, wTg, wTgs, wI, vCmp, i2_int, vBi, vDivmod, add_int, add_str, add_tup, sub_int, mul_int, fdiv_int, mod_int, pow_int, neg_int, vMax, vMin, vAbs, vLen, len_str', len_tup', part_non, part_int, Option.isSome_some, Option.some.injEq, exists_and_left, exists_eq_left', exists_eq_left, List.getElem?_cons_zero, List.getElem?_cons_succ, List.set_cons_zero, List.set_cons_succ, List.length_cons, List.length_nil, D.tup.injEq, D.int.injEq, D.str.injEq, D.bl.injEq, D.ref.injEq, List.cons.injEq, and_true, true_and, and_assoc, Tgs.len, atI0, atI1, atI2, ixN0, ixN1, decide_eq_true_eq, isi1, dwipe, Bool.not_eq_true', decide_eq_false_iff_not, tru_bl, tru_int, ty_str, eq_int, eq_non_int, in_str1, Bool.not_true, Bool.not_false, Bool.false_eq_true, reduceCtorEq, reduceIte]
  have o1 : okS (s.take d1) := okS_sub ho (List.take_sublist _ _)
  have o2 : okS (s.drop d1) := okS_sub ho (List.drop_sublist _ _)
  have o3 : okS (s.drop (d1 + 1)) := okS_sub ho (List.drop_sublist _ _)
  refine ⟨by simp; unfold sizeLine; omega, by simp; unfold sizeLine; omega, by simp; unfold sizeLine; omega, by simp; unfold sizeLine; omega, by decide, ?_⟩
  have G := g1.trans g2
  have pl := g2.pot.lt
  refine take_ok g2.pot.app (by decide) (by decide) fun d3 h3 g3 l3 => ?_
  refine ix_lstN (g3.keep _ _ (by omega) get_new) (by simp; omega) fun x hx => ?_
  have GG := G.app.trans g3
  simp at hx
  rcases hx with rfl | rfl | rfl
  · exact q _ _ GG (by simp; omega) (okS_app (a := List.take d1 s) o1 (okS_app (a := [c]) oc o2))
  · exact q _ _ GG (by simp; omega) (okS_app o1 o3)
  · exact q _ _ GG (by simp; omega) (okS_app (a := List.take d1 s) o1 (okS_app (a := [c]) oc o3))
end K11
end

section
namespace K11
open PySem PySem.Spec Bn L2
theorem bls_rep : ∀ k : Nat, blsD (List.replicate k (D.bl true)) = some (List.replicate k true)
  | 0 => rfl
  | k + 1 => by show (blsD (List.replicate k (D.bl true))).map (true :: ·) = _; rw [bls_rep k]; rfl
theorem all_loop {src : Src} {turn : D → Hh → (Option D → Hh → Prop) → Prop} {h : Hh} {Q : QD} (ds : List D) (items : ∀ h' k, Keep h h' → src.at_ h' k = some ds[k]?)
    (step : ∀ d ∈ ds, ∀ h' (nx : Option D → Hh → Prop), Keep h h' → (∀ h'', Keep h' h'' → nx (some (.bl true)) h'') → turn d h' nx) (hl : ds.length ≤ sizeLine) (q : ∀ h', Keep h h' → Q (.bl true) h') :
    ∃ m, lcLoop src h.length turn (fun h' => vAll [.ref h.length] h' Q) m 0 (h ++ [.lst []]) := by
  refine lc_rule ds (fun k h' => Keep h h' ∧ h'[h.length]? = some (.lst (List.replicate k (.bl true)))) (fun k h' i => items h' k i.1) (fun k d h' nx ed i n1 n2 => ?_) (fun h' i => ?_) _ ⟨.app, get_new⟩
  · obtain ⟨k1, k2⟩ := i
    have hk := (List.getElem?_eq_some_iff.mp ed).1
    refine step d (List.mem_of_getElem? ed) h' nx k1 fun h'' k3 => n1 _ _ _ (k3 _ _ k2) (by simp; omega) ⟨fun i o e => ?_, ?_⟩
    · have := (List.getElem?_eq_some_iff.mp e).1
      exact get_set_ne (k3 _ _ (k1 _ _ e)) (by omega)
    · rw [get_set (k3 _ _ k2), List.replicate_succ']
  · refine all_bls (bls_rep _) i.2 ?_
    have : (List.replicate ds.length true).all id = true := by simp
    rw [this]
    exact q _ i.1
/-- what may be judged -/
def El (h : Hh) (x : D) : Prop := (∃ s, x = .str s ∧ s.length ≤ 500 ∧ okS s) ∨ isTy h "str" x = some false
theorem El.keep {h h1 : Hh} {x : D} (k : Keep h h1) (e : El h x) : El h1 x := e.imp id fun z => isTy_keep k z
theorem right_el {n : Nat} {x : D} {h : Hh} {Q : QD} {R : QX} (e : El h x) (q : ∀ h', Keep h h' → Q (.bl true) h') : wC TT (n + 3) "_law_word_right" [x] h Q R := by
  rcases e with ⟨s, rfl, l, o⟩ | e
  · exact right_str l o q
  · exact right_no e q
theorem seq_at {h : Hh} {i : Nat} {xs : List D} (e : h[i]? = some (.lst xs)) (k : Nat) : Src.at_ (.seq i) h k = some xs[k]? := by
  show (lsD h i).map _ = _
  rw [ls_of e]; rfl
theorem ty_lst {h : Hh} {i : Nat} {xs : List D} (e : h[i]? = some (.lst xs)) : isTy h "str" (.ref i) = some false := by
  simp only [isTy, e]; rfl
theorem ty_dct {h : Hh} {i : Nat} {xs : List (D × D)} (e : h[i]? = some (.dct xs)) : isTy h "str" (.ref i) = some false := by
  simp only [isTy, e]; rfl
theorem app_v {i : Nat} {xs : List D} {x : D} {h : Hh} {Q : QD} (hi : h[i]? = some (.lst xs)) (hl : xs.length < sizeLine) (q : Q .non (h.set i (.lst (xs ++ [x])))) : mAppend (.ref i) [x] h Q := ⟨x, i, xs, rfl, rfl, hi, hl, q⟩
theorem new_dct {g : Hh} {o u : Ob} : Keep g ((g ++ [u]).set g.length o) ∧ ((g ++ [u]).set g.length o)[g.length]? = some o :=
  ⟨fun i o e => by have := (List.getElem?_eq_some_iff.mp e).1; exact get_set_ne (get_app e) (by omega), get_set get_new⟩
theorem Gr.keep' {p : Nat} {h h1 h2 : Hh} (a : Gr p h h1) (k : Keep h1 h2) : Gr p h h2 := ⟨fun i o ne e => k _ _ (a.keep i o ne e), by obtain ⟨x, y, e, z⟩ := a.pot; exact ⟨x, y, k _ _ e, z⟩⟩
theorem rt_ok {n p : Nat} {h : Hh} {Q : QD} {R : QX} (hp : Pot h p) (q : ∀ h', Gr p h h' → Q (.bl true) h') : wC TT (n + 4) "_law_right" [.ref p] h Q R := by
  apply go__law_right
  unfold b__law_right
  simp only [wSs, wS, wT, wE, wEs, wTg, wTgs, wI, vCmp, i2_int, vBi, vDivmod, add_int, add_str, add_tup, sub_int, mul_int, fdiv_int, mod_int, pow_int, neg_int, vMax, vMin, vAbs, vLen, len_str', len_tup', part_non, part_int, Option.isSome_some, Option.some.injEq, exists_and_left, exists_eq_left', exists_eq_left, List.getElem?_cons_zero, List.getElem?_cons_succ, List.set_cons_zero, List.set_cons_succ, List.length_cons, List.length_nil, D.tup.injEq, D.int.injEq, D.str.injEq, D.bl.injEq, D.ref.injEq, List.cons.injEq, and_true, true_and, and_assoc, Tgs.len, atI0, atI1, atI2, ixN0, ixN1, decide_eq_true_eq, isi1, dwipe, Bool.not_eq_true', decide_eq_false_iff_not, tru_bl, tru_int, ty_str, eq_int, eq_non_int, in_str1, Bool.not_true, Bool.not_false, Bool.false_eq_true, reduceCtorEq, reduceIte]
  refine word_ok hp fun s1 h1 g1 l1 o1 => marked_ok g1.pot (by omega) o1 fun s2 h2 g2 l2 o2 => bent_ok g2.pot (by omega) o1 fun s3 h3 g3 l3 o3 => bent_ok g3.pot (by omega) o2 fun s4 h4 g4 l4 o4 => ?_
  have G4 := ((g1.trans g2).trans g3).trans g4
  refine ⟨by decide, by decide, by simp; unfold sizeLine; omega, by decide, ?_⟩
  have e5 : (List.replicate (Int.toNat 2) s1).flatten = s1 ++ s1 := by simp [List.replicate]
  rw [e5]
  refine ⟨by simp [isTy, bmT], ?_⟩
  have p4 := g4.pot.lt
  refine bent_ok g4.pot.app (by omega) o2 fun s6 h6 g6 l6 o6 => bent_ok g6.pot (by omega) o6 fun s7 h7 g7 l7 o7 => ?_
  have G7 := (G4.app (g := [_])).trans (g6.trans g7)
  have t7 := g7.keep _ _ (by omega) (g6.keep _ _ (by omega) get_new)
  have va : vBm .append = mAppend := rfl
  rw [va]
  refine app_v t7 (by simp; decide) ⟨by decide, by decide, ?_⟩
  generalize hx7 : h7.set h4.length (Ob.lst ([D.str s1, D.str s2, D.str s3, D.str s4, D.str (s1 ++ s1)] ++ [D.str s7])) = x7
  have t8 : x7[h4.length]? = some (.lst ([D.str s1, D.str s2, D.str s3, D.str s4, D.str (s1 ++ s1)] ++ [D.str s7])) := by rw [← hx7]; exact get_set t7
  have G8 : Gr p h x7 := by
    rw [← hx7]
    obtain ⟨a, b, e, z⟩ := G7.pot
    have hl : ∀ i o, h[i]? = some o → i < h4.length := fun i o e => by
      by_cases hi : i = p
      · omega
      · exact (List.getElem?_eq_some_iff.mp (G4.keep i o hi e)).1
    exact ⟨fun i o ne e => get_set_ne (G7.keep i o ne e) (by have := hl i o e; omega), ⟨a, b, get_set_ne e (by omega), z⟩⟩
  refine ⟨[], rfl, rfl, by decide, get_new, by decide, by decide, [(.str s1, .int 1)], rfl, rfl, by show 1 ≤ 15; decide, get_new, ⟨by decide, by decide, by decide⟩, by decide, ?_⟩
  obtain ⟨ky, ty⟩ := new_dct (g := x7 ++ [Ob.lst []]) (o := Ob.dct []) (u := Ob.dct [])
  revert ky ty
  generalize (x7 ++ [Ob.lst []] ++ [Ob.dct []]).set (x7 ++ [Ob.lst []]).length (Ob.dct []) = y
  intro ky ty
  obtain ⟨kz, tz⟩ := new_dct (g := y ++ [Ob.lst [D.str s1]]) (o := Ob.dct [(D.str s1, D.int 1)]) (u := Ob.dct [])
  revert kz tz
  generalize (y ++ [Ob.lst [D.str s1]] ++ [Ob.dct []]).set (y ++ [Ob.lst [D.str s1]]).length (Ob.dct [(D.str s1, D.int 1)]) = z
  intro kz tz
  have a1 := (((ky _ _ (get_app t8))))
  have a2 : z[h4.length]? = _ := kz _ _ (get_app a1)
  refine add_lst (get_app a2) get_new (by show 6 + 12 ≤ _; decide) ⟨by rw [ls_of get_new]; rfl, ?_⟩
  have n1 : z[x7.length]? = some (.lst []) := kz _ _ (get_app (ky _ _ get_new))
  have n2 : z[(x7 ++ [Ob.lst []]).length]? = some (.dct []) := kz _ _ (get_app ty)
  have n3 : z[y.length]? = some (.lst [.str s1]) := kz _ _ get_new
  have GZ : Gr p h z := (((G8.app (g := [_])).keep' ky).app (g := [_])).keep' kz
  refine all_loop _ (fun h' k kk => seq_at (kk _ _ get_new) k) (fun d hd h' nx kk f => ?_) (by show 6 + 12 ≤ _; decide) fun h' kk => q h' (((GZ.app (g := [_])).app (g := [_])).keep' kk)
  refine right_el (El.keep kk ?_) f
  have str : ∀ t : List Nat, t.length ≤ 500 → okS t → ∀ g : Hh, El g (.str t) := fun t a b g => .inl ⟨t, rfl, a, b⟩
  simp at hd
  rcases hd with rfl | rfl | rfl | rfl | rfl | rfl | rfl | rfl | rfl | rfl | rfl | rfl | rfl | rfl | rfl | rfl | rfl | rfl
  · exact str _ (by omega) o1 _
  · exact str _ (by omega) o2 _
  · exact str _ (by omega) o3 _
  · exact str _ (by omega) o4 _
  · exact str _ (by simp; omega) (okS_app o1 o1) _
  · exact str _ (by omega) o7 _
  · exact .inr rfl
  · exact .inr rfl
  · exact .inr rfl
  · exact .inr rfl
  · exact .inr rfl
  · exact .inr (ty_lst (get_app (get_app n1)))
  · exact .inr rfl
  · exact .inr (ty_dct (get_app (get_app (by simpa using n2))))
  · exact .inr (ty_lst (get_app (get_app n3)))
  · exact .inr rfl
  · exact .inr (ty_dct (get_app (get_app (by simpa using tz))))
  · exact .inr rfl
theorem law_ok {n : Nat} {ns : List Int} (hl : ns.length ≤ 63) : wC TT (n + 5) "law" [.ref 0] (scr ns) (fun d _ => d = .bl true) fun _ _ => False := by
  apply go_law
  unfold b_law
  simp only [wSs, wS, wT, wE, wEs, wTg, wTgs, wI, vCmp, i2_int, vBi, vDivmod, add_int, add_str, add_tup, sub_int, mul_int, fdiv_int, mod_int, pow_int, neg_int, vMax, vMin, vAbs, vLen, len_str', len_tup', part_non, part_int, Option.isSome_some, Option.some.injEq, exists_and_left, exists_eq_left', exists_eq_left, List.getElem?_cons_zero, List.getElem?_cons_succ, List.set_cons_zero, List.set_cons_succ, List.length_cons, List.length_nil, D.tup.injEq, D.int.injEq, D.str.injEq, D.bl.injEq, D.ref.injEq, List.cons.injEq, and_true, true_and, and_assoc, Tgs.len, atI0, atI1, atI2, ixN0, ixN1, decide_eq_true_eq, isi1, dwipe, Bool.not_eq_true', decide_eq_false_iff_not, tru_bl, tru_int, ty_str, eq_int, eq_non_int, in_str1, Bool.not_true, Bool.not_false, Bool.false_eq_true, reduceCtorEq, reduceIte, con_MOST_MARK]
  have e9 : codes (PyData.int 999).shown = [57, 57, 57] := by decide +kernel
  refine ⟨_, .int 999, rfl, .int 999, by decide, by decide, by decide +kernel, ?_⟩
  rw [e9]
  refine (eq_str (by unfold okS; decide) (by unfold okS; decide)).mpr ?_
  rw [if_neg (by simp)]
  refine ⟨by decide, by rw [ls_of get_new]; rfl, ?_⟩
  refine all_loop _ (fun h' k kk => seq_at (kk _ _ get_new) k) (fun d hd h' nx kk f => right_el ?_ f) (by show 6 ≤ _; decide) fun h1 kk => ?_
  · simp at hd
    rcases hd with rfl | rfl | rfl | rfl | rfl | rfl <;> exact .inl ⟨_, rfl, by decide, by unfold okS; decide⟩
  refine ⟨true, rfl, ?_⟩
  rw [if_neg (by simp)]
  have s0 : h1[0]? = some (.klst (ns.map D.int)) := kk _ _ rfl
  have sl : (ns.map D.int).length ≤ 63 := by simpa using hl
  generalize hb : (if (if (((ns.map D.int).length : Nat) : Int) < 6 then (((ns.map D.int).length : Nat) : Int) else 6) > 1 then if (((ns.map D.int).length : Nat) : Int) < 6 then (((ns.map D.int).length : Nat) : Int) else 6 else 1) = b
  have b1 : 0 ≤ b ∧ b ≤ 6 := by
    rw [← hb]
    split
    · split <;> omega
    · omega
  refine ⟨_, len_klst' s0, by unfold sizeLine; omega, ?_⟩
  rw [hb]
  refine ⟨by omega, by omega, ?_⟩
  refine all_loop (rngD 0 b.toNat) (fun _ _ _ => rfl) (fun d hd h' nx k2 f => ?_) (by simp [rngD]; unfold sizeLine; omega) fun _ _ => rfl
  unfold rngD at hd
  obtain ⟨k, hk, rfl⟩ := List.mem_map.mp hd
  have hk : k < b.toNat := by simpa using hk
  have e : (0 + (k : Int)) = ((k : Nat) : Int) := by omega
  rw [e]
  refine pot_ok (k2 _ _ s0) hl (by omega) fun x y p1 p2 p3 => ?_
  refine rt_ok ⟨x, y, get_new, p1, p2, p3⟩ fun h2 g => f h2 fun i o e => ?_
  have := (List.getElem?_eq_some_iff.mp e).1
  exact g.keep i o (by omega) (get_app e)
end K11
end

section
namespace K11
open PySem PySem.Spec Bn PyProof.Rows
theorem math (ns : List Int) (hl : ns.length ≤ 63) : wC TT 12 "law" [.ref 0] (scr ns) (fun d _ => d = .bl true) fun _ _ => False := law_ok (n := 7) hl
end K11
open PySem PySem.W PySem.Calls PyProof.Rows
theorem PySem.Challenge.cw_boundnames_k11_wishes_and_names_holds : PySem.Challenge.rw_boundnames_k11_wishes_and_names.Holds := by
  w_on; o_law
  refine HandSHeadRun.head_any (r := K11.R) (q := view K11.R.prog [22]) (H := Bn.hookB 4 K11.tab K11.cons) (ob := K11.ob) (M := 4000) (loose := _) (d := HandSHeadRun.topDef K11.R.prog 22) (kwd := []) K11.ob_eq
    (by kernel_rfl) (fun s => by kernel_rfl) K11.run (by kernel_rfl) (by kernel_rfl) (by kernel_rfl) (by rfl) (by first | assumption | decide +kernel) (by decide +kernel) ⟨rfl, rfl, rfl, rfl, rfl, by decide +kernel⟩ ?hw ?hc
  case hw => w_witness2
  case hc =>
    refine Bn.walk_g (l := PySem.Challenge.rw_boundnames_k11_wishes_and_names) (n := 63) (k := 12) (x := "_law_script") (T := K11.TT) (f := "law") (fn := K11.e_law.fn) rfl (by decide) (by kernel_rfl) ⟨rfl, by decide, by decide⟩ rfl ?F (fun ns hl => K11.math ns hl)
    intro w mg fa h Y G hmg0
    obtain ⟨K, KX, c⟩ := Y
    have hmg : mg ("law" : PySem.Str) = some (.ref fa) := by
      have e : (HandSHeadRun.topDef K11.R.prog 22).name = ("law" : PySem.Str) := by kernel_rfl
      rw [← e]
      exact hmg0
    obtain ⟨fd, F⟩ := Bn.ent_of (f := "law") (e := K11.e_law) KX G c K11.tab_good K11.binds_all K11.kws_all rfl
    have e2 := F.mg.symm.trans hmg
    cases e2
    exact ⟨K, fd, fun _ => none, KX, Bn.mod_of KX G c, Bn.tab_of KX G c K11.tab_good K11.binds_all K11.kws_all, F⟩
end
