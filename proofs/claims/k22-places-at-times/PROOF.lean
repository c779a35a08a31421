import PyProof.Rows.All
import Wide.All
import OpenK.AllK
import Wide.FinOn
import HandS.ForMost
import HandS.WideBits
import HandS.Flow
import HandS.Style
import HandS.IsInst
import HandS.Zip
import KE.DataEq
import HandS.TupAny
import HandS.SortInts
import HandS.More
import HandS.NoneIn
import KE.GoesMore
import KE.GoesEnum
import HandS.RaiseMore
import PyProof.ReprRoads
import HandS.Ends
import HandS.EndBits
import HandS.SetFor
import HandS.Strs
import HandS.Text
import HandS.Replace
import KE.KDictPairs
import PyProof.Rows.RegStrFacts
import PySem.Challenge.RW_nearways_k22_places_at_times
set_option Elab.async false
set_option linter.all false
set_option maxRecDepth 100000
namespace SL
open PySem PySem.Spec PyProof.Rows L2

/-! ### plain data, a plain heap -/
inductive D where
  | non | bl (b : Bool) | int (i : Int) | str (s : Str) | ty (n : String) | tup (ds : List D) | ref (n : Nat)
  deriving Inhabited
inductive AO where
  | lst (ds : List D) | fz (ds : List D) | dct (kvs : List (Key × D))
  /-- an instance of a class of the text, by its name -/
  | ins (nm : Str) (fs : List (Str × D))
def AO.mu : AO → Bool
  | .fz _ => false
  | _ => true
abbrev Hs := List AO
abbrev Al := Nat → Addr
abbrev Rho := List (Option D)
def Mu (h : Hs) (n : Nat) : Prop := ∃ o, h[n]? = some o ∧ o.mu = true
theorem Mu.lt {h : Hs} {n : Nat} (m : Mu h n) : n < h.length := by
  obtain ⟨o, e, _⟩ := m
  exact (List.getElem?_eq_some_iff.mp e).1

section
variable (K : PySem.W.Frag) (α : Al) (L : Nat) (H : Hp)
def TpL (a : Addr) (xs : List V) : Prop := H a = some (.tup xs) ∨ ∀ H' : Hp, SqT K H' a xs
mutual
def Rep : D → V → Prop
  | .non, v => v = .non
  | .bl b, v => v = .bl b
  | .int i, v => v = .int i
  | .str s, v => v = .str s
  | .ty n, v => v = .ty n
  | .tup ds, v => ∃ a xs, v = .ref a ∧ TpL K H a xs ∧ Reps ds xs
  | .ref n, v => n < L ∧ v = .ref (α n)
def Reps : List D → List V → Prop
  | [], xs => xs = []
  | d :: ds, xs => ∃ x ys, xs = x :: ys ∧ Rep d x ∧ Reps ds ys
end
def FzL (a : Addr) (xs : List V) : Prop := (∃ o, H a = some (.frz o (.lst xs))) ∨ ∀ H' : Hp, SqL K H' a xs
def RepKV (kvs : List (Key × D)) (ys : List (Key × V)) : Prop := kvs.map (·.1) = ys.map (·.1) ∧ Reps K α L H (kvs.map (·.2)) (ys.map (·.2))
/-- a class by its name -/
def ClsN (K : PySem.W.Frag) (nm : Str) (C : Addr) : Prop := PySem.W.nsIn K mainGlobals nm = some (some (.ref C))
def RepF (fs : List (Str × D)) (ys : List (Str × V)) : Prop := fs.map (·.1) = ys.map (·.1) ∧ Reps K α L H (fs.map (·.2)) (ys.map (·.2))
def AtO (a : Addr) : AO → Prop
  | .lst ds => ∃ xs, H a = some (.lst xs) ∧ Reps K α L H ds xs
  | .fz ds => ∃ xs, FzL K H a xs ∧ Reps K α L H ds xs
  | .dct kvs => ∃ ys, H a = some (.dK ys) ∧ RepKV K α L H kvs ys
  | .ins nm fs => ∃ C dx ys, ClsN K nm C ∧ H a = some (.ins C dx ys) ∧ H dx = some (.own a) ∧ RepF K α L H fs ys
end
structure Mt (K : PySem.W.Frag) (α : Al) (H : Hp) (h : Hs) : Prop where
  at_ : ∀ n o, h[n]? = some o → AtO K α h.length H (α n) o
  inj : ∀ n m, Mu h n → Mu h m → α n = α m → n = m
structure Ex (α : Al) (H : Hp) (h : Hs) (α' : Al) (H' : Hp) (h' : Hs) : Prop where
  le : h.length ≤ h'.length
  al : ∀ n, n < h.length → α' n = α n
  kd : ∀ n, n < h.length → Mu h' n → Mu h n
  tups : ∀ b xs, H b = some (.tup xs) → H' b = some (.tup xs)
  frzs : ∀ b o u, H b = some (.frz o u) → H' b = some (.frz o u)
  dom : ∀ b, H' b = none → H b = none
  new : ∀ n, h.length ≤ n → n < h'.length → H (α' n) = none
  fr : ∀ b o, H b = some o → (∀ n, Mu h n → α n ≠ b) → H' b = some o
section
variable {K : PySem.W.Frag} {α α' α1 α2 : Al} {H H' H1 H2 : Hp} {h h' h1 h2 : Hs} {L L' : Nat}
theorem Ex.refl : Ex α H h α H h := ⟨Nat.le_refl _, fun _ _ => rfl, fun _ _ m => m, fun _ _ e => e, fun _ _ _ e => e, fun _ e => e, fun n a b => absurd (Nat.lt_of_lt_of_le b a) (Nat.lt_irrefl _), fun _ _ e _ => e⟩
theorem Ex.trans (x : Ex α H h α1 H1 h1) (y : Ex α1 H1 h1 α2 H2 h2) : Ex α H h α2 H2 h2 where
  le := Nat.le_trans x.le y.le
  al := fun n l => (y.al n (Nat.lt_of_lt_of_le l x.le)).trans (x.al n l)
  kd := fun n l m => x.kd n l (y.kd n (Nat.lt_of_lt_of_le l x.le) m)
  tups := fun b xs e => y.tups b xs (x.tups b xs e)
  frzs := fun b o u e => y.frzs b o u (x.frzs b o u e)
  dom := fun b e => x.dom b (y.dom b e)
  new := fun n l l' => by
    by_cases q : n < h1.length
    · rw [y.al n q]; exact x.new n l q
    · exact x.dom _ (y.new n (Nat.le_of_not_lt q) l')
  fr := fun b o e u => y.fr b o (x.fr b o e u) fun n m => by
    by_cases q : n < h.length
    · rw [x.al n q]; exact u n (x.kd n q m)
    · intro z
      have e2 := x.new n (Nat.le_of_not_lt q) m.lt
      rw [z, e] at e2
      cases e2
theorem Ex.seqT {a : Addr} {xs : List V} (x : Ex α H h α' H' h') (s : TpL K H a xs) : TpL K H' a xs := by
  rcases s with s | s
  · exact .inl (x.tups _ _ s)
  · exact .inr s
theorem TpL.seq {a : Addr} {xs : List V} (s : TpL K H a xs) : SqT K H a xs := by
  rcases s with s | s
  · exact SqT.of s
  · exact s H
theorem Ex.fzL {a : Addr} {xs : List V} (x : Ex α H h α' H' h') (s : FzL K H a xs) : FzL K H' a xs := by
  rcases s with ⟨o, s⟩ | s
  · exact .inl ⟨o, x.frzs _ _ _ s⟩
  · exact .inr s
theorem FzL.seq {a : Addr} {xs : List V} (s : FzL K H a xs) : SqL K H a xs := by
  rcases s with ⟨o, s⟩ | s
  · exact .inl (.inr ⟨o, s⟩)
  · exact s H
mutual
theorem rep_mono (hL : L ≤ L') (ha : ∀ n, n < L → α' n = α n) (ht : ∀ a xs, TpL K H a xs → TpL K H' a xs) : ∀ (d : D) (v : V), Rep K α L H d v → Rep K α' L' H' d v
  | .non, _, e => e
  | .bl _, _, e => e
  | .int _, _, e => e
  | .str _, _, e => e
  | .ty _, _, e => e
  | .tup ds, _, ⟨a, xs, e, s, r⟩ => ⟨a, xs, e, ht a xs s, reps_mono hL ha ht ds xs r⟩
  | .ref n, _, ⟨l, e⟩ => ⟨Nat.lt_of_lt_of_le l hL, by rw [e, ha n l]⟩
theorem reps_mono (hL : L ≤ L') (ha : ∀ n, n < L → α' n = α n) (ht : ∀ a xs, TpL K H a xs → TpL K H' a xs) : ∀ (ds : List D) (vs : List V), Reps K α L H ds vs → Reps K α' L' H' ds vs
  | [], _, e => e
  | d :: ds, _, ⟨x, ys, e, r, t⟩ => ⟨x, ys, e, rep_mono hL ha ht d x r, reps_mono hL ha ht ds ys t⟩
end
theorem Ex.rep {d : D} {v : V} (x : Ex α H h α' H' h') (r : Rep K α h.length H d v) : Rep K α' h'.length H' d v := rep_mono x.le x.al (fun _ _ s => x.seqT s) d v r
theorem Ex.reps {d : List D} {v : List V} (x : Ex α H h α' H' h') (r : Reps K α h.length H d v) : Reps K α' h'.length H' d v := reps_mono x.le x.al (fun _ _ s => x.seqT s) d v r
theorem Ex.repKV {d : List (Key × D)} {v : List (Key × V)} (x : Ex α H h α' H' h') (r : RepKV K α h.length H d v) : RepKV K α' h'.length H' d v := ⟨r.1, x.reps r.2⟩
theorem Ex.repF {d : List (Str × D)} {v : List (Str × V)} (x : Ex α H h α' H' h') (r : RepF K α h.length H d v) : RepF K α' h'.length H' d v := ⟨r.1, x.reps r.2⟩
theorem Reps.length : ∀ {ds : List D} {vs : List V}, Reps K α L H ds vs → vs.length = ds.length
  | [], _, e => by rw [show _ = [] from e]; rfl
  | d :: ds, _, ⟨x, ys, e, _, t⟩ => by rw [e, List.length_cons, List.length_cons, Reps.length t]
theorem Reps.nil : Reps K α L H [] [] := rfl
theorem Reps.cons {d : D} {ds : List D} {x : V} {xs : List V} (a : Rep K α L H d x) (b : Reps K α L H ds xs) : Reps K α L H (d :: ds) (x :: xs) := ⟨x, xs, rfl, a, b⟩
theorem Reps.get : ∀ {ds : List D} {vs : List V} {i : Nat} {d : D}, Reps K α L H ds vs → ds[i]? = some d → ∃ v, vs[i]? = some v ∧ Rep K α L H d v
  | [], _, _, _, _, e => by simp at e
  | d :: ds, _, 0, d', ⟨x, ys, e, r, _⟩, e2 => by
    have : d = d' := by simpa using e2
    subst this; subst e; exact ⟨x, rfl, r⟩
  | d :: ds, _, i + 1, d', ⟨x, ys, e, _, t⟩, e2 => by
    subst e
    obtain ⟨v, a, b⟩ := Reps.get (i := i) t (by simpa using e2)
    exact ⟨v, by simpa using a, b⟩
theorem Reps.get' {ds : List D} {vs : List V} {i : Nat} {v : V} (r : Reps K α L H ds vs) (e : vs[i]? = some v) : ∃ d, ds[i]? = some d ∧ Rep K α L H d v := by
  have hl : i < ds.length := by rw [← r.length]; exact (List.getElem?_eq_some_iff.mp e).1
  obtain ⟨w, a, b⟩ := r.get (List.getElem?_eq_getElem hl)
  rw [e] at a; cases a
  exact ⟨_, List.getElem?_eq_getElem hl, b⟩
theorem Reps.append : ∀ {ds es : List D} {vs ws : List V}, Reps K α L H ds vs → Reps K α L H es ws → Reps K α L H (ds ++ es) (vs ++ ws)
  | [], _, _, _, e, t => by rw [e]; exact t
  | d :: ds, _, _, _, ⟨x, ys, e, r, t⟩, u => by subst e; exact ⟨x, _, rfl, r, Reps.append t u⟩
theorem Reps.take : ∀ {ds : List D} {vs : List V} (n : Nat), Reps K α L H ds vs → Reps K α L H (ds.take n) (vs.take n)
  | _, _, 0, _ => rfl
  | [], _, n + 1, e => by rw [e]; rfl
  | d :: ds, _, n + 1, ⟨x, ys, e, r, t⟩ => by subst e; exact ⟨x, _, rfl, r, Reps.take n t⟩
theorem Reps.drop : ∀ {ds : List D} {vs : List V} (n : Nat), Reps K α L H ds vs → Reps K α L H (ds.drop n) (vs.drop n)
  | _, _, 0, r => r
  | [], _, n + 1, e => by rw [e]; rfl
  | d :: ds, _, n + 1, ⟨x, ys, e, r, t⟩ => by subst e; exact Reps.drop n t
theorem Reps.set {d : D} {x : V} (r : Rep K α L H d x) : ∀ {ds : List D} {vs : List V} (i : Nat), Reps K α L H ds vs → Reps K α L H (ds.set i d) (vs.set i x)
  | [], _, _, e => by rw [e]; rfl
  | _ :: ds, _, 0, ⟨y, ys, e, _, t⟩ => by subst e; exact ⟨x, ys, rfl, r, t⟩
  | d' :: ds, _, i + 1, ⟨y, ys, e, q, t⟩ => by subst e; exact ⟨y, _, rfl, q, Reps.set r i t⟩
theorem Reps.ints : ∀ {ns : List Int} {vs : List V}, Reps K α L H (ns.map D.int) vs → vs = ns.map V.int
  | [], _, e => e
  | n :: ns, _, ⟨x, ys, e, r, t⟩ => by rw [e, show x = .int n from r, Reps.ints t]; rfl
theorem Reps.bls : ∀ {ns : List Bool} {vs : List V}, Reps K α L H (ns.map D.bl) vs → vs = ns.map V.bl
  | [], _, e => e
  | n :: ns, _, ⟨x, ys, e, r, t⟩ => by rw [e, show x = .bl n from r, Reps.bls t]; rfl
theorem Reps.strs : ∀ {ns : List Str} {vs : List V}, Reps K α L H (ns.map D.str) vs → vs = ns.map V.str
  | [], _, e => e
  | n :: ns, _, ⟨x, ys, e, r, t⟩ => by rw [e, show x = .str n from r, Reps.strs t]; rfl
theorem Reps.of_ints : ∀ (ns : List Int), Reps K α L H (ns.map D.int) (ns.map V.int)
  | [] => rfl
  | n :: ns => ⟨_, _, rfl, rfl, Reps.of_ints ns⟩
theorem Reps.of_strs : ∀ (ns : List Str), Reps K α L H (ns.map D.str) (ns.map V.str)
  | [] => rfl
  | n :: ns => ⟨_, _, rfl, rfl, Reps.of_strs ns⟩

/-! ### the moves -/
theorem Mt.some_of (m : Mt K α H h) {n : Nat} (u : Mu h n) : ∃ o, H (α n) = some o ∧ Mut (some o) := by
  obtain ⟨o, e, q⟩ := u
  have a := m.at_ n o e
  cases o with
  | lst ds => obtain ⟨xs, e1, _⟩ := a; exact ⟨_, e1, trivial⟩
  | fz ds => cases q
  | dct kvs => obtain ⟨xs, e1, _⟩ := a; exact ⟨_, e1, trivial⟩
  | ins nm fs => obtain ⟨C, dx, ys, _, e1, _⟩ := a; exact ⟨_, e1, trivial⟩
theorem Mt.own (m : Mt K α H h) {dx a : Addr} (e : H dx = some (.own a)) : ∀ n, Mu h n → α n ≠ dx := fun n u z => by
  obtain ⟨o, e1, q⟩ := m.some_of u
  rw [z, e] at e1; cases e1; exact q
theorem Mt.stay (m : Mt K α H h) (x : Ex α H h α H' h) (k : ∀ n, Mu h n → H' (α n) = H (α n)) : Mt K α H' h where
  inj := m.inj
  at_ := fun n o e => by
    have a := m.at_ n o e
    cases o with
    | lst ds =>
      obtain ⟨xs, e1, r⟩ := a
      exact ⟨xs, (k n ⟨_, e, rfl⟩).trans e1, x.reps r⟩
    | fz ds =>
      obtain ⟨xs, f, r⟩ := a
      exact ⟨xs, x.fzL f, x.reps r⟩
    | dct kvs =>
      obtain ⟨ys, e1, r⟩ := a
      exact ⟨ys, (k n ⟨_, e, rfl⟩).trans e1, x.repKV r⟩
    | ins nm fs =>
      obtain ⟨C, dx, ys, c, e1, e2, r⟩ := a
      exact ⟨C, dx, ys, c, (k n ⟨_, e, rfl⟩).trans e1, x.fr _ _ e2 (m.own e2), x.repF r⟩
theorem Ex.grow {p : Addr} {o : HO} (hp : H p = none) : Ex α H h α (upd H p o) h where
  le := Nat.le_refl _
  al := fun _ _ => rfl
  kd := fun _ _ m => m
  tups := fun b xs e => by rw [upd_ne (ne_of_none e hp)]; exact e
  frzs := fun b o u e => by rw [upd_ne (ne_of_none e hp)]; exact e
  dom := fun b e => by
    by_cases q : b = p
    · rw [q]; exact hp
    · rw [upd_ne q] at e; exact e
  new := fun n a b => absurd (Nat.lt_of_lt_of_le b a) (Nat.lt_irrefl _)
  fr := fun b o e _ => by rw [upd_ne (ne_of_none e hp)]; exact e
theorem Mt.grow {p : Addr} {o : HO} (m : Mt K α H h) (hp : H p = none) : Mt K α (upd H p o) h := m.stay (Ex.grow hp) fun n u => by
  obtain ⟨o, e, _⟩ := m.some_of u
  rw [upd_ne (ne_of_none e hp)]
/-- a new object, tracked -/
def al1 (α : Al) (n : Nat) (p : Addr) : Al := fun m => if m = n then p else α m
theorem al1_same {n : Nat} {p : Addr} : al1 α n p n = p := by unfold al1; rw [if_pos rfl]
theorem al1_ne {n m : Nat} {p : Addr} (e : m ≠ n) : al1 α n p m = α m := by unfold al1; rw [if_neg e]
theorem get_snoc {h : Hs} {o u : AO} {n : Nat} (e : (h ++ [o])[n]? = some u) : (n < h.length ∧ h[n]? = some u) ∨ (n = h.length ∧ u = o) := by
  by_cases q : n < h.length
  · rw [List.getElem?_append_left q] at e; exact .inl ⟨q, e⟩
  · rw [List.getElem?_append_right (Nat.le_of_not_lt q)] at e
    have : n - h.length = 0 := by
      by_cases z : n - h.length = 0
      · exact z
      · rw [List.getElem?_eq_none (by simp; omega)] at e; cases e
    rw [this] at e
    exact .inr ⟨by omega, by simpa using e.symm⟩
theorem Ex.alloc {p : Addr} {o : HO} {ao : AO} (hp : H p = none) : Ex α H h (al1 α h.length p) (upd H p o) (h ++ [ao]) where
  le := by simp
  al := fun n l => al1_ne (Nat.ne_of_lt l)
  kd := fun n l ⟨u, e, q⟩ => by
    rw [List.getElem?_append_left l] at e; exact ⟨u, e, q⟩
  tups := fun b xs e => by rw [upd_ne (ne_of_none e hp)]; exact e
  frzs := fun b o u e => by rw [upd_ne (ne_of_none e hp)]; exact e
  dom := fun b e => by
    by_cases q : b = p
    · rw [q]; exact hp
    · rw [upd_ne q] at e; exact e
  new := fun n a b => by
    have : n = h.length := by simp at b; omega
    rw [this, al1_same]; exact hp
  fr := fun b o e _ => by rw [upd_ne (ne_of_none e hp)]; exact e
theorem Mt.alloc {p : Addr} {o : HO} {ao : AO} (m : Mt K α H h) (hp : H p = none) (hn : AtO K (al1 α h.length p) (h ++ [ao]).length (upd H p o) p ao) : Mt K (al1 α h.length p) (upd H p o) (h ++ [ao]) where
  at_ := fun n u e => by
    have x : Ex α H h (al1 α h.length p) (upd H p o) (h ++ [ao]) := Ex.alloc hp
    rcases get_snoc e with ⟨l, e⟩ | ⟨l, rfl⟩
    · rw [x.al n l]
      have a := m.at_ n u e
      cases u with
      | lst ds =>
        obtain ⟨xs, e1, r⟩ := a
        exact ⟨xs, by rw [upd_ne (ne_of_none e1 hp)]; exact e1, x.reps r⟩
      | fz ds =>
        obtain ⟨xs, f, r⟩ := a
        exact ⟨xs, x.fzL f, x.reps r⟩
      | dct kvs =>
        obtain ⟨ys, e1, r⟩ := a
        exact ⟨ys, by rw [upd_ne (ne_of_none e1 hp)]; exact e1, x.repKV r⟩
      | ins nm fs =>
        obtain ⟨C, dx, ys, c, e1, e2, r⟩ := a
        exact ⟨C, dx, ys, c, by rw [upd_ne (ne_of_none e1 hp)]; exact e1, by rw [upd_ne (ne_of_none e2 hp)]; exact e2, x.repF r⟩
    · rw [l, al1_same]; exact hn
  inj := fun n k a b e => by
    have x : Ex α H h (al1 α h.length p) (upd H p o) (h ++ [ao]) := Ex.alloc hp
    have key : ∀ i, Mu (h ++ [ao]) i → i ≠ h.length → Mu h i ∧ al1 α h.length p i = α i := fun i u q => by
      have l : i < h.length := by have := u.lt; simp at this; omega
      exact ⟨x.kd i l u, al1_ne q⟩
    by_cases hn : n = h.length
    · by_cases hk : k = h.length
      · rw [hn, hk]
      · obtain ⟨u, q⟩ := key k b hk
        rw [hn, al1_same, q] at e
        obtain ⟨o', e', _⟩ := m.some_of u
        rw [← e, hp] at e'; cases e'
    · obtain ⟨u, q⟩ := key n a hn
      by_cases hk : k = h.length
      · rw [hk, al1_same, q] at e
        obtain ⟨o', e', _⟩ := m.some_of u
        rw [e, hp] at e'; cases e'
      · obtain ⟨u2, q2⟩ := key k b hk
        rw [q, q2] at e
        exact m.inj n k u u2 e
/-- a tracked object is written -/
theorem Mu.set {n k : Nat} {ao : AO} (u : Mu h n) (hk : ao.mu = true) : Mu (h.set n ao) k ↔ Mu h k := by
  by_cases e : k = n
  · subst e
    constructor
    · intro _; exact u
    · intro _; exact ⟨ao, by rw [List.getElem?_set_self u.lt], hk⟩
  · constructor
    · rintro ⟨o, a, b⟩; rw [List.getElem?_set_ne (Ne.symm e)] at a; exact ⟨o, a, b⟩
    · rintro ⟨o, a, b⟩; exact ⟨o, by rw [List.getElem?_set_ne (Ne.symm e)]; exact a, b⟩
theorem Ex.write {n : Nat} {o : HO} {ao : AO} (m : Mt K α H h) (u : Mu h n) (hk : ao.mu = true) : Ex α H h α (upd H (α n) o) (h.set n ao) where
  le := by simp
  al := fun _ _ => rfl
  kd := fun k _ q => (Mu.set u hk).mp q
  tups := fun b xs e => by
    obtain ⟨o', e', mm⟩ := m.some_of u
    have : b ≠ α n := fun z => by rw [z, e'] at e; cases e; exact mm
    rw [upd_ne this]; exact e
  frzs := fun b o u' e => by
    obtain ⟨o', e', mm⟩ := m.some_of u
    have : b ≠ α n := fun z => by rw [z, e'] at e; cases e; exact mm
    rw [upd_ne this]; exact e
  dom := fun b e => by
    by_cases q : b = α n
    · rw [q, upd_same] at e; cases e
    · rw [upd_ne q] at e; exact e
  new := fun k a b => by simp at b; omega
  fr := fun b o e q => by rw [upd_ne (fun z => q n u z.symm)]; exact e
theorem Mt.write {n : Nat} {o : HO} {ao : AO} (m : Mt K α H h) (u : Mu h n) (hk : ao.mu = true) (hn : AtO K α (h.set n ao).length (upd H (α n) o) (α n) ao) : Mt K α (upd H (α n) o) (h.set n ao) where
  at_ := fun k v e => by
    have x : Ex α H h α (upd H (α n) o) (h.set n ao) := Ex.write m u hk
    by_cases q : k = n
    · subst q
      rw [List.getElem?_set_self u.lt] at e
      cases e; exact hn
    · rw [List.getElem?_set_ne (Ne.symm q)] at e
      have a := m.at_ k v e
      cases v with
      | lst ds =>
        obtain ⟨xs, e1, r⟩ := a
        exact ⟨xs, by rw [upd_ne (fun z => q (m.inj k n ⟨_, e, rfl⟩ u z))]; exact e1, x.reps r⟩
      | fz ds =>
        obtain ⟨xs, f, r⟩ := a
        exact ⟨xs, x.fzL f, x.reps r⟩
      | dct kvs =>
        obtain ⟨ys, e1, r⟩ := a
        exact ⟨ys, by rw [upd_ne (fun z => q (m.inj k n ⟨_, e, rfl⟩ u z))]; exact e1, x.repKV r⟩
      | ins nm fs =>
        obtain ⟨C, dx, ys, c, e1, e2, r⟩ := a
        exact ⟨C, dx, ys, c, by rw [upd_ne (fun z => q (m.inj k n ⟨_, e, rfl⟩ u z))]; exact e1, by rw [upd_ne (fun z => m.own e2 n u z.symm)]; exact e2, x.repF r⟩
  inj := fun k l a b e => m.inj k l ((Mu.set u hk).mp a) ((Mu.set u hk).mp b) e
end

/-! ### the slots -/
def RepS (K : PySem.W.Frag) (α : Al) (L : Nat) (H : Hp) : Rho → L2.St → Prop
  | [], σ => σ = []
  | o :: ρ, σ => ∃ x τ, σ = x :: τ ∧ (∀ d, o = some d → ∃ v, x = some v ∧ Rep K α L H d v) ∧ RepS K α L H ρ τ
section
variable {K : PySem.W.Frag} {α α' : Al} {H H' : Hp} {h h' : Hs} {L : Nat}
theorem RepS.mono (x : Ex α H h α' H' h') : ∀ {ρ : Rho} {σ : L2.St}, RepS K α h.length H ρ σ → RepS K α' h'.length H' ρ σ
  | [], _, e => e
  | o :: ρ, _, ⟨a, τ, e, r, t⟩ => ⟨a, τ, e, fun d q => let ⟨v, e1, r1⟩ := r d q; ⟨v, e1, x.rep r1⟩, RepS.mono x t⟩
theorem RepS.get : ∀ {ρ : Rho} {σ : L2.St} {i : Nat} {d : D}, RepS K α L H ρ σ → ρ[i]? = some (some d) → ∃ v, σ[i]? = some (some v) ∧ Rep K α L H d v
  | [], _, _, _, _, e => by simp at e
  | o :: ρ, _, 0, d, ⟨a, τ, e, r, t⟩, q => by
    have : o = some d := by simpa using q
    obtain ⟨v, e1, r1⟩ := r d this
    subst e; subst e1; exact ⟨v, rfl, r1⟩
  | o :: ρ, _, i + 1, d, ⟨a, τ, e, r, t⟩, q => by
    subst e
    obtain ⟨v, e1, r1⟩ := RepS.get (i := i) t (by simpa using q)
    exact ⟨v, by simpa using e1, r1⟩
theorem RepS.set {d : D} {v : V} (q : Rep K α L H d v) : ∀ {ρ : Rho} {σ : L2.St} (i : Nat), RepS K α L H ρ σ → RepS K α L H (ρ.set i (some d)) (σ.set i (some v))
  | [], _, _, e => by rw [e]; rfl
  | o :: ρ, _, 0, ⟨a, τ, e, r, t⟩ => by subst e; exact ⟨some v, τ, rfl, fun d' z => by cases z; exact ⟨v, rfl, q⟩, t⟩
  | o :: ρ, _, i + 1, ⟨a, τ, e, r, t⟩ => by subst e; exact ⟨a, _, rfl, r, RepS.set q i t⟩
theorem RepS.clear {x : Option V} : ∀ {ρ : Rho} {σ : L2.St} (i : Nat), RepS K α L H ρ σ → RepS K α L H (ρ.set i none) (σ.set i x)
  | [], _, _, e => by rw [e]; rfl
  | o :: ρ, _, 0, ⟨a, τ, e, r, t⟩ => by subst e; exact ⟨x, τ, rfl, (fun d' z => nomatch z), t⟩
  | o :: ρ, _, i + 1, ⟨a, τ, e, r, t⟩ => by subst e; exact ⟨a, _, rfl, r, RepS.clear i t⟩
def wipeR (ρ : Rho) : List Nat → Rho
  | [] => ρ
  | v :: vs => (wipeR ρ vs).set v none
theorem RepS.wipe {ρ : Rho} {σ : L2.St} (r : RepS K α L H ρ σ) : ∀ vs : List Nat, RepS K α L H (wipeR ρ vs) (L2.wipe σ vs)
  | [] => r
  | v :: vs => RepS.clear v (RepS.wipe r vs)
theorem RepS.start {n : Nat} : ∀ {ds : List D} {vs : List V}, Reps K α L H ds vs → RepS K α L H (ds.map some ++ List.replicate n none) (vs.map some ++ List.replicate n Option.none)
  | [], _, e => by
    rw [e]
    show RepS K α L H (List.replicate n Option.none) (List.replicate n Option.none)
    induction n with
    | zero => rfl
    | succ n ih => exact ⟨Option.none, _, rfl, (fun _ z => nomatch z), ih⟩
  | d :: ds, _, ⟨x, ys, e, r, t⟩ => by subst e; exact ⟨some x, _, rfl, fun d' z => by cases z; exact ⟨x, rfl, r⟩, RepS.start t⟩
end
end SL
namespace SL
open PySem PySem.Spec PyProof.Rows L2

/-! ### what a piece of text means on plain data -/
def bd {α β : Type} (x : Option (α × Hs)) (f : α → Hs → Option (β × Hs)) : Option (β × Hs) :=
  match x with
  | none => none
  | some (a, h) => f a h
theorem bd_some {α β : Type} {x : Option (α × Hs)} {f : α → Hs → Option (β × Hs)} {r : β × Hs} (e : bd x f = some r) : ∃ a h, x = some (a, h) ∧ f a h = some r := by
  cases x with
  | none => cases e
  | some p => exact ⟨p.1, p.2, rfl, e⟩
@[simp] theorem bd_ok {α β : Type} {a : α} {h : Hs} {f : α → Hs → Option (β × Hs)} : bd (some (a, h)) f = f a h := rfl
@[simp] theorem bd_none {α β : Type} {f : α → Hs → Option (β × Hs)} : bd (none : Option (α × Hs)) f = none := rfl
abbrev MR (R : Type) := Rho → Hs → Option (R × Hs)
abbrev ME := MR D
abbrev MT := MR Bool
abbrev MA := MR (List D)
inductive Out | nx | rt (d : D) | bk | ct
abbrev MS := MR (Out × Rho)

section
variable {R T : Type}
abbrev Rl (R T : Type) := Al → Nat → Hp → R → T → Prop
def lift (rel : Rl R T) (K : PySem.W.Frag) (m : MR R) : L2.St → Hp → (T → Hp → Prop) → Prop := fun σ H Q =>
  ∃ ρ h α d h', RepS K α h.length H ρ σ ∧ Mt K α H h ∧ m ρ h = some (d, h') ∧ ∀ α' H' v, Ex α H h α' H' h' → Mt K α' H' h' → rel α' h'.length H' d v → Q v H'
def lE (K : PySem.W.Frag) (m : ME) : TE := lift (Rep K) K m
def lT (K : PySem.W.Frag) (m : MT) : TT := lift (fun _ _ _ d v => v = d) K m
def lA (K : PySem.W.Frag) (m : MA) : TA := lift (Reps K) K m
end
def CE (X : Cx) (e : Expr) (m : ME) : Prop := PE X e (lE X.K m)
def CT (X : Cx) (e : Expr) (m : MT) : Prop := PT X e (lT X.K m)
def CW (X : Cx) (e : Expr) (m : MT) : Prop := PW X e (lT X.K m)
def CA (X : Cx) (es : List Expr) (m : MA) : Prop := PA X es (lA X.K m)
/-- a statement's end -/
def lS (K : PySem.W.Frag) (m : MS) : TS := fun E σ H =>
  ∃ ρ h α o ρ' h', RepS K α h.length H ρ σ ∧ Mt K α H h ∧ m ρ h = some ((o, ρ'), h') ∧ ∀ α' H' σ', Ex α H h α' H' h' → Mt K α' H' h' → RepS K α' h'.length H' ρ' σ' →
    match o with
    | .nx => E.nx σ' H'
    | .rt d => ∀ v, Rep K α' h'.length H' d v → E.rt v H'
    | .bk => E.bk σ' H'
    | .ct => E.ct σ' H'
def CS (X : Cx) (st : Stmt) (m : MS) : Prop := PS X st (lS X.K m)
def CSs (X : Cx) (st : List Stmt) (m : MS) : Prop := PSs X st (lS X.K m)

section
variable {X : Cx} {e a b c : Expr}
theorem PE.imp {t t' : TE} (h : PE X e t) (i : ∀ σ H Q, t' σ H Q → t σ H Q) : PE X e t' := ⟨fun pins s σ H Q I q => h.run pins s σ H Q I (i _ _ _ q)⟩
theorem PT.imp {t t' : TT} (h : PT X e t) (i : ∀ σ H Q, t' σ H Q → t σ H Q) : PT X e t' := ⟨fun pins s σ H Q I q => h.run pins s σ H Q I (i _ _ _ q)⟩
theorem PW.imp {t t' : TT} (h : PW X e t) (i : ∀ σ H Q, t' σ H Q → t σ H Q) : PW X e t' := ⟨fun w pins s σ H Q I q => h.run w pins s σ H Q I (i _ _ _ q)⟩
theorem PA.imp {es : List Expr} {t t' : TA} (h : PA X es t) (i : ∀ σ H Q, t' σ H Q → t σ H Q) : PA X es t' := ⟨fun p pins s σ H Q I q => h.run p pins s σ H Q I (i _ _ _ q)⟩
theorem PS.imp {st : Stmt} {t t' : TS} (h : PS X st t) (i : ∀ E σ H, t' E σ H → t E σ H) : PS X st t' := ⟨fun pins s σ H E I q => h.run pins s σ H E I (i _ _ _ q)⟩
theorem PSs.imp {st : List Stmt} {t t' : TS} (h : PSs X st t) (i : ∀ E σ H, t' E σ H → t E σ H) : PSs X st t' := ⟨fun pins s σ H E I q => h.run pins s σ H E I (i _ _ _ q)⟩

/-! ### names, constants -/
def eVar (i : Nat) : ME := fun ρ h => match ρ[i]? with
  | some (some d) => some (d, h)
  | _ => none
def eC (d : D) : ME := fun _ h => some (d, h)
theorem c_var (i : Nat) {x : Str} {pos : Pos} (hN : X.N[i]? = some x := by rfl) (hv : Vis X.env.scope x := by first | exact Or.inl rfl | exact Or.inr (Or.inl rfl) | exact Or.inr (Or.inr rfl)) (hd : (x == ("__debug__" : Str)) = false := by decide)
    (hcd : (x == ("__classdict__" : Str)) = false := by decide) : CE X (.Name x pos) (eVar i) :=
  PE.imp (pe_var (i := i) hN hv hd hcd) fun σ H Q ⟨ρ, h, α, d, h', rs, mt, e, q⟩ => by
    unfold eVar at e
    split at e
    · next d' e' =>
      cases e
      obtain ⟨v, e1, r⟩ := rs.get e'
      exact ⟨v, e1, q α H v Ex.refl mt r⟩
    · cases e
theorem c_const {d : D} {v : V} (hp : PE X e (tC v)) (r : ∀ α L H, Rep X.K α L H d v) : CE X e (eC d) :=
  PE.imp hp fun σ H Q ⟨ρ, h, α, d', h', rs, mt, e, q⟩ => by
    cases e
    exact q α H v Ex.refl mt (r _ _ _)
theorem c_int {i : Int} {j pos} : CE X (.Constant (.int i) j pos) (eC (.int i)) := c_const pe_int fun _ _ _ => rfl
theorem c_bl {b j pos} : CE X (.Constant (.bool b) j pos) (eC (.bl b)) := c_const pe_bl fun _ _ _ => rfl
theorem c_non {j pos} : CE X (.Constant .none j pos) (eC .non) := c_const pe_non fun _ _ _ => rfl
theorem c_str {x j pos} : CE X (.Constant (.str x) j pos) (eC (.str x)) := c_const pe_str fun _ _ _ => rfl
/-- a module's constant -/
structure Kon (K : PySem.W.Frag) (mg : Str → Option Value) (x : Str) (d : D) : Prop where
  ex : ∃ u v, mg x = some u ∧ RelV v u ∧ ∀ α L H, Rep K α L H d v
theorem c_glob {x : Str} {d : D} {pos : Pos} (k : Kon X.K X.mg x d) (hg : Gl X x := by rfl) (hd : (x == ("__debug__" : Str)) = false := by decide) : CE X (.Name x pos) (eC d) := by
  obtain ⟨u, v, h1, h2, h3⟩ := k.ex
  exact c_const (pe_glob hg h1 h2 hd) h3
theorem c_bty {x : Str} {T : String} {pos : Pos} (hm : X.mg x = none) (hv : bootBuiltins x = some (.type T)) (hg : Gl X x := by rfl) (hn : x ≠ "__name__" := by decide) (hd : (x == ("__debug__" : Str)) = false := by decide) : CE X (.Name x pos) (eC (.ty T)) :=
  c_const (pe_bltn hg hm hv (v := .ty T) rfl hn hd) fun _ _ _ => rfl

/-! ### operators by values -/
abbrev GO := D → D → Hs → Option (D × Hs)
def lO (K : PySem.W.Frag) (g : GO) : R2 := fun x y H Q =>
  ∃ h α dx dy d h', Mt K α H h ∧ Rep K α h.length H dx x ∧ Rep K α h.length H dy y ∧ g dx dy h = some (d, h') ∧ ∀ α' H' v, Ex α H h α' H' h' → Mt K α' H' h' → Rep K α' h'.length H' d v → Q v H'
def CO (X : Cx) (f : Value → Value → Sem Value) (g : GO) : Prop := OpR X f (lO X.K g)
theorem OpR.imp {f : Value → Value → Sem Value} {r r' : R2} (h : OpR X f r) (i : ∀ x y H Q, r' x y H Q → r x y H Q) : OpR X f r' := fun pins s σ H x y v u Q I rx ry q => h pins s σ H x y v u Q I rx ry (i _ _ _ _ q)
def eOp (g : GO) (ma mb : ME) : ME := fun ρ h => bd (ma ρ h) fun x h1 => bd (mb ρ h1) fun y h2 => g x y h2
theorem op_seq {g : GO} {ma mb : ME} {K : PySem.W.Frag} {σ : L2.St} {H : Hp} {Q : VK} (t : lE K (eOp g ma mb) σ H Q) : tOp (lO K g) (lE K ma) (lE K mb) σ H Q := by
  obtain ⟨ρ, h, α, d, h', rs, mt, e, q⟩ := t
  obtain ⟨d1, h1, e1, e⟩ := bd_some e
  obtain ⟨d2, h2, e2, e3⟩ := bd_some e
  exact ⟨ρ, h, α, d1, h1, rs, mt, e1, fun α1 H1 v1 x1 m1 r1 => ⟨ρ, h1, α1, d2, h2, rs.mono x1, m1, e2, fun α2 H2 v2 x2 m2 r2 =>
    ⟨h2, α2, d1, d2, d, h', m2, x2.rep r1, r2, e3, fun α3 H3 v3 x3 m3 r3 => q α3 H3 v3 (x1.trans (x2.trans x3)) m3 r3⟩⟩⟩
variable {ma mb mc : ME} {pos : Pos}
theorem c_op {op : Operator} {g : GO} (ho : CO X (binaryOp op) g) (ha : CE X a ma) (hb : CE X b mb) : CE X (.BinOp a op b pos) (eOp g ma mb) :=
  PE.imp (pe_op ho ha hb) fun _ _ _ t => op_seq t
/-- one place -/
abbrev GU := D → Hs → Option (D × Hs)
def lU (K : PySem.W.Frag) (g : GU) : V → Hp → VK → Prop := fun x H Q =>
  ∃ h α dx d h', Mt K α H h ∧ Rep K α h.length H dx x ∧ g dx h = some (d, h') ∧ ∀ α' H' v, Ex α H h α' H' h' → Mt K α' H' h' → Rep K α' h'.length H' d v → Q v H'
def eUn (g : GU) (ma : ME) : ME := fun ρ h => bd (ma ρ h) fun x h1 => g x h1
theorem un_seq {g : GU} {K : PySem.W.Frag} {σ : L2.St} {H : Hp} {Q : VK} (t : lE K (eUn g ma) σ H Q) : lE K ma σ H fun x H1 => lU K g x H1 Q := by
  obtain ⟨ρ, h, α, d, h', rs, mt, e, q⟩ := t
  obtain ⟨d1, h1, e1, e2⟩ := bd_some e
  exact ⟨ρ, h, α, d1, h1, rs, mt, e1, fun α1 H1 v1 x1 m1 r1 => ⟨h1, α1, d1, d, h', m1, r1, e2, fun α3 H3 v3 x3 m3 r3 => q α3 H3 v3 (x1.trans x3) m3 r3⟩⟩

/-! ### ints -/
def addG : GO
  | .int i, .int j, h => some (.int (i + j), h)
  | .int i, .bl k, h => some (.int (i + b2i k), h)
  | .str x, .str y, h => if x.length + y.length ≤ sizeLine then some (.str (x ++ y), h) else none
  | .tup xs, .tup ys, h => if xs.length + ys.length ≤ sizeLine then some (.tup (xs ++ ys), h) else none
  | .ref n, .ref m, h => match h[n]?, h[m]? with
    | some (.lst xs), some (.lst ys) => if xs.length + ys.length ≤ sizeLine then some (.ref h.length, h ++ [.lst (xs ++ ys)]) else none
    | _, _ => none
  | _, _, _ => none
def subG : GO
  | .int i, .int j, h => some (.int (i - j), h)
  | _, _, _ => none
def mulG : GO
  | .int i, .int j, h => if Builtin.Int.intBits i + Builtin.Int.intBits j ≤ 134217728 then some (.int (i * j), h) else none
  | .ref n, .int k, h => match h[n]? with
    | some (.lst xs) => if xs.length * k.toNat ≤ sizeLine ∧ -(2 ^ 63) ≤ k ∧ k < 2 ^ 63 then some (.ref h.length, h ++ [.lst (List.replicate k.toNat xs).flatten]) else none
    | _ => none
  | _, _, _ => none
def fdivG : GO
  | .int i, .int j, h => if j ≠ 0 ∧ j.natAbs.log2 < 9000 then some (.int (i.fdiv j), h) else none
  | _, _, _ => none
def modG : GO
  | .int i, .int j, h => if j ≠ 0 then some (.int (i.fmod j), h) else none
  | _, _, _ => none
def powG : GO
  | .int i, .int j, h => if 0 ≤ j ∧ (Builtin.Int.intBits i : Int) * j ≤ 2 ^ 27 then some (.int (i ^ j.toNat), h) else none
  | _, _, _ => none
def shlG : GO
  | .int i, .int j, h => if 0 ≤ j ∧ (Builtin.Int.intBits i : Int) + j ≤ 2 ^ 27 then some (.int (i * 2 ^ j.toNat), h) else none
  | _, _, _ => none
theorem op_fdivX : OpR X (binaryOp .FloorDiv) (rI (fun _ j => j ≠ 0 ∧ j.natAbs.log2 < 9000) fun i j => .int (i.fdiv j)) := opI fun i j _ _ _ _ _ hc q =>
  floordiv_int hc.1 q (.inl (PyProof.noPylong_of_log2 hc.2))
theorem op_powX : OpR X (binaryOp .Pow) (rI (fun i j => 0 ≤ j ∧ (Builtin.Int.intBits i : Int) * j ≤ 2 ^ 27) fun i j => .int (i ^ j.toNat)) := opI fun i j _ _ _ _ _ hc q => pow_int hc.1 hc.2 q
theorem op_shlX : OpR X (binaryOp .LShift) (rI (fun i j => 0 ≤ j ∧ (Builtin.Int.intBits i : Int) + j ≤ 2 ^ 27) fun i j => .int (i * 2 ^ j.toNat)) := opI fun i j _ _ _ _ _ hc q => lshift_int hc.1 hc.2 q
theorem co_ints {f : Value → Value → Sem Value} {C : Int → Int → Prop} {g : Int → Int → Int} {G : GO} (ho : OpR X f (rI C fun i j => .int (g i j)))
    (hG : ∀ x y h r, G x y h = some r → ∃ i j, x = .int i ∧ y = .int j ∧ C i j ∧ r = (.int (g i j), h)) : CO X f G := OpR.imp ho fun x y H Q ⟨h, α, dx, dy, d, h', mt, rx, ry, e, q⟩ => by
  obtain ⟨i, j, rfl, rfl, c, er⟩ := hG _ _ _ _ e
  cases er
  exact ⟨i, j, rx, ry, c, q α H _ Ex.refl mt rfl⟩
theorem co_sub : CO X (binaryOp .Sub) subG := OpR.imp op_sub fun x y H Q ⟨h, α, dx, dy, d, h', mt, rx, ry, e, q⟩ => by
  unfold subG at e
  split at e
  · cases e
    exact ⟨_, _, rx, ry, q α H _ Ex.refl mt rfl⟩
  · cases e
theorem co_fdiv : CO X (binaryOp .FloorDiv) fdivG := co_ints op_fdivX fun x y h r e => by
  unfold fdivG at e
  split at e
  · split at e
    · next c => cases e; exact ⟨_, _, rfl, rfl, c, rfl⟩
    · cases e
  · cases e
theorem co_mod : CO X (binaryOp .Mod) modG := co_ints op_modN fun x y h r e => by
  unfold modG at e
  split at e
  · split at e
    · next c => cases e; exact ⟨_, _, rfl, rfl, c, rfl⟩
    · cases e
  · cases e
theorem co_pow : CO X (binaryOp .Pow) powG := co_ints op_powX fun x y h r e => by
  unfold powG at e
  split at e
  · split at e
    · next c => cases e; exact ⟨_, _, rfl, rfl, c, rfl⟩
    · cases e
  · cases e
theorem co_shl : CO X (binaryOp .LShift) shlG := co_ints op_shlX fun x y h r e => by
  unfold shlG at e
  split at e
  · split at e
    · next c => cases e; exact ⟨_, _, rfl, rfl, c, rfl⟩
    · cases e
  · cases e
theorem Mt.lst {K : PySem.W.Frag} {α : Al} {H : Hp} {h : Hs} {n : Nat} {ds : List D} (m : Mt K α H h) (e : h[n]? = some (.lst ds)) : ∃ xs, H (α n) = some (.lst xs) ∧ Reps K α h.length H ds xs := m.at_ n _ e
theorem seqT_same {K : PySem.W.Frag} {H : Hp} {p : Addr} {xs : List V} : TpL K (upd H p (.tup xs)) p xs := .inl upd_same
theorem len_snoc {h : Hs} {o : AO} : (h ++ [o]).length = h.length + 1 := by simp
/-- a new list is laid -/
theorem new_lst {K : PySem.W.Frag} {α : Al} {H : Hp} {h : Hs} {ds : List D} {xs : List V} {p : Addr} (mt : Mt K α H h) (hp : H p = none) (r : Reps K α h.length H ds xs) :
    ∃ α', Ex α H h α' (upd H p (.lst xs)) (h ++ [.lst ds]) ∧ Mt K α' (upd H p (.lst xs)) (h ++ [.lst ds]) ∧ Rep K α' (h ++ [AO.lst ds]).length (upd H p (.lst xs)) (.ref h.length) (.ref p) := by
  have x : Ex α H h (al1 α h.length p) (upd H p (.lst xs)) (h ++ [.lst ds]) := Ex.alloc hp
  exact ⟨_, x, mt.alloc hp ⟨xs, upd_same, x.reps r⟩, by rw [len_snoc]; exact Nat.lt_succ_self _, by rw [al1_same]⟩
theorem new_tup {K : PySem.W.Frag} {α : Al} {H : Hp} {h : Hs} {ds : List D} {xs : List V} {p : Addr} (hp : H p = none) (r : Reps K α h.length H ds xs) : Rep K α h.length (upd H p (.tup xs)) (.tup ds) (.ref p) :=
  ⟨p, xs, rfl, seqT_same, (Ex.grow (h := h) hp).reps r⟩
theorem co_add : CO X (binaryOp .Add) addG := by
  have hr := OpR.or (X := X) op_add (OpR.or op_add_ib (OpR.or op_add_str (OpR.or op_catA op_cat)))
  refine OpR.imp hr fun x y H Q ⟨h, α, dx, dy, d, h', mt, rx, ry, e, q⟩ => ?_
  unfold addG at e
  split at e
  · cases e
    exact .inl ⟨_, _, rx, ry, q α H _ Ex.refl mt rfl⟩
  · cases e
    exact .inr (.inl ⟨_, _, rx, ry, q α H _ Ex.refl mt rfl⟩)
  · split at e
    · next c =>
      cases e
      exact .inr (.inr (.inl ⟨_, _, rx, ry, c, q α H _ Ex.refl mt rfl⟩))
    · cases e
  · next xs ys =>
    split at e
    · next c =>
      cases e
      obtain ⟨a, vs, ea, sa, ra⟩ := rx
      obtain ⟨b, ws, eb, sb, rb⟩ := ry
      refine .inr (.inr (.inr (.inl ⟨a, b, vs, ws, ea, eb, sa.seq, sb.seq, ?_, ?_, ?_, ?_⟩)))
      · rw [ra.length, rb.length]; exact c
      · intro z
        subst z
        have : xs = [] := by
          have := ra.length
          cases xs with
          | nil => rfl
          | cons _ _ => simp at this
        subst this
        exact q α H _ Ex.refl mt ⟨b, ws, rfl, sb, rb⟩
      · intro _ z
        subst z
        have : ys = [] := by
          have := rb.length
          cases ys with
          | nil => rfl
          | cons _ _ => simp at this
        subst this
        refine q α H _ Ex.refl mt ⟨a, vs, rfl, sa, ?_⟩
        rw [List.append_nil]; exact ra
      · intro _ _ p hp
        exact q α _ _ (Ex.grow hp) (mt.grow hp) (new_tup hp (ra.append rb))
    · cases e
  · split at e
    · next e1 e2 =>
      split at e
      · next c =>
        cases e
        obtain ⟨_, rx⟩ := rx
        obtain ⟨_, ry⟩ := ry
        obtain ⟨vs, s1, r1⟩ := mt.lst e1
        obtain ⟨ws, s2, r2⟩ := mt.lst e2
        refine .inr (.inr (.inr (.inr ⟨_, _, vs, ws, rx, ry, s1, s2, by rw [r1.length, r2.length]; exact c, fun p hp => ?_⟩)))
        obtain ⟨α', x1, m1, r3⟩ := new_lst mt hp (r1.append r2)
        exact q α' _ _ x1 m1 r3
      · cases e
    · cases e
  · cases e
theorem co_mul : CO X (binaryOp .Mult) mulG := by
  have hr := OpR.or (X := X) op_mulX op_rep
  refine OpR.imp hr fun x y H Q ⟨h, α, dx, dy, d, h', mt, rx, ry, e, q⟩ => ?_
  unfold mulG at e
  split at e
  · split at e
    · next c =>
      cases e
      exact .inl ⟨_, _, rx, ry, by unfold CMulX; omega, q α H _ Ex.refl mt rfl⟩
    · cases e
  · split at e
    · next e1 =>
      split at e
      · next c =>
        cases e
        obtain ⟨_, rx⟩ := rx
        obtain ⟨vs, s1, r1⟩ := mt.lst e1
        refine .inr ⟨_, _, vs, rx, ry, s1, c.2.1, c.2.2, by rw [r1.length]; exact c.1, fun p hp => ?_⟩
        have r2 : ∀ n, Reps X.K α h.length H (List.replicate n _).flatten (List.replicate n vs).flatten := fun n => by
          induction n with
          | zero => exact Reps.nil
          | succ n ih => rw [List.replicate_succ, List.replicate_succ, List.flatten_cons, List.flatten_cons]; exact r1.append ih
        obtain ⟨α', x1, m1, r3⟩ := new_lst mt hp (r2 _)
        exact q α' _ _ x1 m1 r3
      · cases e
    · cases e
  · cases e
end
end SL
namespace SL
open PySem PySem.Spec PyProof.Rows L2

/-! ### data as a whole, for == and in -/
def mapO {α β : Type} (f : α → Option β) : List α → Option (List β)
  | [] => some []
  | a :: as => match f a, mapO f as with
    | some b, some bs => some (b :: bs)
    | _, _ => none
def getL (h : Hs) (n : Nat) : Option (List D) := match h[n]? with
  | some (.lst ds) => some ds
  | some (.fz ds) => some ds
  | _ => none
def toP : Nat → Hs → D → Option PyData
  | _, _, .non => some .none
  | _, _, .bl b => some (.bool b)
  | _, _, .int i => some (.int i)
  | _, _, .str s => some (.str s)
  | _, _, .ty _ => none
  | 0, _, .tup _ => none
  | 0, _, .ref _ => none
  | n + 1, h, .tup ds => match mapO (toP n h) ds with
    | some ps => some (.tuple ps)
    | none => none
  | n + 1, h, .ref k => match getL h k with
    | some ds => match mapO (toP n h) ds with
      | some ps => some (.list ps)
      | none => none
    | none => none
section
variable {K : PySem.W.Frag} {α : Al} {H : Hp} {h : Hs} {L : Nat}
theorem Mt.getL {n : Nat} {ds : List D} (m : Mt K α H h) (e : getL h n = some ds) : ∃ xs, SqL K H (α n) xs ∧ Reps K α h.length H ds xs := by
  unfold SL.getL at e
  split at e
  · next e1 => cases e; obtain ⟨xs, a, b⟩ := m.at_ n _ e1; exact ⟨xs, SqL.of a, b⟩
  · next e1 => cases e; obtain ⟨xs, a, b⟩ := m.at_ n _ e1; exact ⟨xs, a.seq, b⟩
  · cases e
theorem mapO_dp {f : D → Option PyData} (hf : ∀ d p v, f d = some p → Rep K α L H d v → Dp K H v p) : ∀ {ds : List D} {ps : List PyData} {vs : List V}, mapO f ds = some ps → Reps K α L H ds vs → DpAll K H vs ps
  | [], ps, vs, e, r => by cases e; rw [show vs = [] from r]; exact .nil
  | d :: ds, ps, vs, e, ⟨x, ys, ev, r, t⟩ => by
    unfold mapO at e
    split at e
    · next e1 e2 => cases e; subst ev; exact .cons (hf _ _ _ e1 r) (mapO_dp hf e2 t)
    · cases e
theorem toP_dp (m : Mt K α H h) : ∀ (n : Nat) (d : D) (p : PyData) (v : V), toP n h d = some p → Rep K α h.length H d v → Dp K H v p := by
  intro n
  induction n with
  | zero =>
    intro d p v e r
    cases d <;> unfold toP at e <;> cases e <;> cases r
    · exact .non
    · exact .bl _
    · exact .int _
    · exact .str _
  | succ n ih =>
    intro d p v e r
    cases d with
    | non => cases e; cases r; exact .non
    | bl b => cases e; cases r; exact .bl _
    | int i => cases e; cases r; exact .int _
    | str s => cases e; cases r; exact .str _
    | ty t => cases e
    | tup ds =>
      unfold toP at e
      split at e
      · next e1 => cases e; obtain ⟨a, xs, rfl, s, q⟩ := r; exact .tup s.seq (mapO_dp ih e1 q)
      · cases e
    | ref k =>
      unfold toP at e
      split at e
      · next e0 =>
        split at e
        · next e1 => cases e; obtain ⟨_, rfl⟩ := r; obtain ⟨xs, s, q⟩ := m.getL e0; exact .lst s (mapO_dp ih e1 q)
        · cases e
      · cases e
theorem mapO_depth {f : D → Option PyData} {n : Nat} (hf : ∀ d p, f d = some p → p.depth ≤ n ∧ p.plain = true) : ∀ {ds : List D} {ps : List PyData}, mapO f ds = some ps → PyData.depthAll ps ≤ n ∧ PyData.plainAll ps = true
  | [], ps, e => by cases e; exact ⟨Nat.zero_le _, rfl⟩
  | d :: ds, ps, e => by
    unfold mapO at e
    split at e
    · next e1 e2 =>
      cases e
      have a := hf _ _ e1
      have b := mapO_depth hf e2
      refine ⟨Nat.max_le.mpr ⟨a.1, b.1⟩, ?_⟩
      simp only [PyData.plainAll, a.2, b.2, Bool.and_self]
    · cases e
theorem toP_depth : ∀ (n : Nat) (h : Hs) (d : D) (p : PyData), toP n h d = some p → p.depth ≤ n ∧ p.plain = true := by
  intro n
  induction n with
  | zero =>
    intro h d p e
    cases d <;> unfold toP at e <;> cases e <;> exact ⟨Nat.zero_le _, rfl⟩
  | succ n ih =>
    intro h d p e
    cases d with
    | non => cases e; exact ⟨Nat.zero_le _, rfl⟩
    | bl b => cases e; exact ⟨Nat.zero_le _, rfl⟩
    | int i => cases e; exact ⟨Nat.zero_le _, rfl⟩
    | str s => cases e; exact ⟨Nat.zero_le _, rfl⟩
    | ty t => cases e
    | tup ds =>
      unfold toP at e
      split at e
      · next e1 => cases e; have a := mapO_depth (fun d p => ih h d p) e1; exact ⟨Nat.succ_le_succ a.1, a.2⟩
      · cases e
    | ref k =>
      unfold toP at e
      split at e
      · split at e
        · next e1 => cases e; have a := mapO_depth (fun d p => ih h d p) e1; exact ⟨Nat.succ_le_succ a.1, a.2⟩
        · cases e
      · cases e
end
/-- the answer of a comparison -/
def eqB (h : Hs) (x y : D) : Option Bool := match toP 32 h x, toP 32 h y with
  | some a, some b => some (PyData.eqv a b)
  | _, _ => none
def eqG : GO := fun x y h => match eqB h x y with
  | some k => some (.bl k, h)
  | none => none
def neG : GO := fun x y h => match eqB h x y with
  | some k => some (.bl (!k), h)
  | none => none
def ltG : GO
  | .int i, .int j, h => some (.bl (decide (i < j)), h)
  | .str i, .str j, h => some (.bl (decide (i.cps.toList < j.cps.toList)), h)
  | _, _, _ => none
def leG : GO
  | .int i, .int j, h => some (.bl (decide (i ≤ j)), h)
  | .str i, .str j, h => some (.bl (!decide (j.cps.toList < i.cps.toList)), h)
  | _, _, _ => none
def gtG : GO
  | .int i, .int j, h => some (.bl (decide (j < i)), h)
  | _, _, _ => none
def geG : GO
  | .int i, .int j, h => some (.bl (decide (j ≤ i)), h)
  | _, _, _ => none
def isNonD : D → Bool
  | .non => true
  | _ => false
def isG : GO
  | x, .non, h => some (.bl (isNonD x), h)
  | .bl a, .bl b, h => some (.bl (decide (a = b)), h)
  | _, _, _ => none
def isNotG : GO
  | x, .non, h => some (.bl (!isNonD x), h)
  | .bl a, .bl b, h => some (.bl (!decide (a = b)), h)
  | _, _, _ => none
/-! ### dicts -/
def keyOf : D → Option Key
  | .int i => some (.inl i)
  | .str s => some (.inr s)
  | _ => none
def valD (kvs : List (Key × D)) (k : Key) : Option D := (kvs.find? fun kv => decide (kv.1 = k)).map (·.2)
def putD (kvs : List (Key × D)) (k : Key) (v : D) : List (Key × D) :=
  if (kvs.any fun kv => decide (kv.1 = k)) = true then kvs.map (fun kv => if kv.1 = k then (kv.1, v) else kv) else kvs ++ [(k, v)]
def memB (h : Hs) (x : D) (ds : List D) : Option Bool := match toP 32 h x, mapO (toP 32 h) ds with
  | some a, some bs => some (bs.any fun y => PyData.eqv y a)
  | _, _ => none
def inB : D → D → Hs → Option Bool
  | .str x, .str z, h => match x.cps.toList with
    | [c] => some (decide (c ∈ z.cps.toList))
    | _ => some (!(Builtin.Str.occurrences z x 0 z.length 1).isEmpty)
  | x, .tup ds, h => memB h x ds
  | x, .ref n, h => match h[n]? with
    | some (.dct kvs) => match keyOf x with
      | some k => some (valD kvs k).isSome
      | none => none
    | some (.lst ds) => memB h x ds
    | some (.fz ds) => memB h x ds
    | _ => none
  | _, _, _ => none
def inG : GO := fun x y h => match inB x y h with
  | some k => some (.bl k, h)
  | none => none
def notInG : GO := fun x y h => match inB x y h with
  | some k => some (.bl (!k), h)
  | none => none
section
variable {K : PySem.W.Frag} {α : Al} {H : Hp} {h : Hs} {L : Nat}
theorem repKV_val : ∀ {kvs : List (Key × D)} {ys : List (Key × V)} {k : Key}, RepKV K α L H kvs ys → (match valD kvs k with | some d => ∃ v, valV ys k = some v ∧ Rep K α L H d v | none => valV ys k = none)
  | [], ys, k, ⟨a, b⟩ => by
    have : ys = [] := by
      cases ys with
      | nil => rfl
      | cons _ _ => cases a
    rw [this]; rfl
  | (k1, d) :: r, [], k, ⟨a, b⟩ => nomatch a
  | (k1, d) :: r, (k2, v) :: t, k, ⟨a, b⟩ => by
    simp only [List.map_cons, List.cons.injEq] at a
    obtain ⟨x, ys, e, r1, r2⟩ := b
    simp only [List.map_cons, List.cons.injEq] at e
    obtain ⟨e1, e2⟩ := e
    have ih := repKV_val (k := k) (kvs := r) (ys := t) ⟨a.2, by rw [e2]; exact r2⟩
    by_cases c : k1 = k
    · have c2 : k2 = k := by rw [← a.1]; exact c
      have z1 : valD ((k1, d) :: r) k = some d := by unfold valD; rw [List.find?_cons]; simp [c]
      rw [z1, valV_pos (p := (k2, v)) c2]
      exact ⟨v, rfl, by show Rep K α L H d v; rw [show v = x from e1]; exact r1⟩
    · have c2 : ¬ k2 = k := by rw [← a.1]; exact c
      have z1 : valD ((k1, d) :: r) k = valD r k := by unfold valD; rw [List.find?_cons]; simp [c]
      rw [z1, valV_neg (p := (k2, v)) c2]
      exact ih
theorem repKV_len {kvs : List (Key × D)} {ys : List (Key × V)} (r : RepKV K α L H kvs ys) : ys.length = kvs.length := by
  have := congrArg List.length r.1
  simpa using this.symm
theorem repKV_any {kvs : List (Key × D)} {ys : List (Key × V)} {k : Key} (r : RepKV K α L H kvs ys) : (kvs.any fun kv => decide (kv.1 = k)) = (ys.any fun kv => decide (kv.1 = k)) := by
  have e : ∀ {T : Type} (l : List (Key × T)), (l.any fun kv => decide (kv.1 = k)) = (l.map (·.1)).any fun q => decide (q = k) := fun l => by rw [List.any_map]; rfl
  rw [e, e, r.1]
theorem repKV_map {k : Key} {d : D} {v : V} (q : Rep K α L H d v) : ∀ {kvs : List (Key × D)} {ys : List (Key × V)}, RepKV K α L H kvs ys →
    RepKV K α L H (kvs.map fun kv => if kv.1 = k then (kv.1, d) else kv) (ys.map fun kv => if kv.1 = k then (kv.1, v) else kv)
  | [], ys, ⟨a, b⟩ => by
    have : ys = [] := by
      cases ys with
      | nil => rfl
      | cons _ _ => cases a
    rw [this]; exact ⟨rfl, rfl⟩
  | (k1, d1) :: r, [], ⟨a, b⟩ => nomatch a
  | (k1, d1) :: r, (k2, v1) :: t, ⟨a, b⟩ => by
    simp only [List.map_cons, List.cons.injEq] at a
    obtain ⟨x, ys, e, r1, r2⟩ := b
    simp only [List.map_cons, List.cons.injEq] at e
    have ih := repKV_map (k := k) q (kvs := r) (ys := t) ⟨a.2, by rw [e.2]; exact r2⟩
    have a1 : k1 = k2 := a.1
    subst a1
    by_cases c : k1 = k
    · refine ⟨?_, ?_⟩
      · simp only [List.map_cons, c, if_true]; rw [ih.1]
      · simp only [List.map_cons, c, if_true]; exact ⟨_, _, rfl, q, ih.2⟩
    · refine ⟨?_, ?_⟩
      · simp only [List.map_cons, c, if_false]; rw [ih.1]
      · simp only [List.map_cons, c, if_false]; exact ⟨_, _, rfl, by rw [show v1 = x from e.1]; exact r1, ih.2⟩
theorem repKV_put {kvs : List (Key × D)} {ys : List (Key × V)} {k : Key} {d : D} {v : V} (r : RepKV K α L H kvs ys) (q : Rep K α L H d v) : RepKV K α L H (putD kvs k d) (putK ys k v) := by
  unfold putD putK
  rw [repKV_any r]
  split
  · exact repKV_map q r
  · refine ⟨by rw [List.map_append, List.map_append, r.1]; rfl, ?_⟩
    rw [List.map_append, List.map_append]
    exact r.2.append (Reps.cons q Reps.nil)
end
section
variable {X : Cx} {e a b c : Expr} {ma mb mc : ME} {pos : Pos}
theorem op_eqP (hu : X.A.units + 64 < cLine) : OpR X (compareOp .Eq) (fun x y H Q => ∃ d e, Dp X.K H x d ∧ Dp X.K H y e ∧ (d.depth ≤ 32 ∧ d.plain = true) ∧ (e.depth ≤ 32 ∧ e.plain = true) ∧ Q (.bl (PyData.eqv d e)) H) := by
  intro pins s σ H x y v u Q I rx ry h
  obtain ⟨d, e, hd, he, ⟨sd, pd⟩, ⟨se, pe⟩, q⟩ := h
  obtain ⟨as, r1⟩ := Dp.reads I d x v hd rx
  obtain ⟨bs, r2⟩ := Dp.reads I e y u he ry
  exact SeqAt.eq_plain r1 r2 pd pe (by omega) ⟨.bl _, H, I, rfl, q⟩
theorem op_neP (hu : X.A.units + 64 < cLine) : OpR X (compareOp .NotEq) (fun x y H Q => ∃ d e, Dp X.K H x d ∧ Dp X.K H y e ∧ (d.depth ≤ 32 ∧ d.plain = true) ∧ (e.depth ≤ 32 ∧ e.plain = true) ∧ Q (.bl (!PyData.eqv d e)) H) := by
  intro pins s σ H x y v u Q I rx ry h
  obtain ⟨d, e, hd, he, ⟨sd, pd⟩, ⟨se, pe⟩, q⟩ := h
  obtain ⟨as, r1⟩ := Dp.reads I d x v hd rx
  obtain ⟨bs, r2⟩ := Dp.reads I e y u he ry
  exact SeqAt.ne_plain r1 r2 pd pe (by omega) ⟨.bl _, H, I, rfl, q⟩
theorem eqB_some {h : Hs} {x y : D} {k : Bool} (e : eqB h x y = some k) : ∃ a b, toP 32 h x = some a ∧ toP 32 h y = some b ∧ k = PyData.eqv a b := by
  unfold eqB at e
  split at e
  · next e1 e2 => cases e; exact ⟨_, _, e1, e2, rfl⟩
  · cases e
theorem co_eq (hu : X.A.units + 64 < cLine) : CO X (compareOp .Eq) eqG := OpR.imp (op_eqP hu) fun x y H Q ⟨h, α, dx, dy, d, h', mt, rx, ry, e, q⟩ => by
  unfold eqG at e
  split at e
  · next e0 =>
    cases e
    obtain ⟨a, b, e1, e2, rfl⟩ := eqB_some e0
    exact ⟨a, b, toP_dp mt _ _ _ _ e1 rx, toP_dp mt _ _ _ _ e2 ry, toP_depth _ _ _ _ e1, toP_depth _ _ _ _ e2, q α H _ Ex.refl mt rfl⟩
  · cases e
theorem co_ne (hu : X.A.units + 64 < cLine) : CO X (compareOp .NotEq) neG := OpR.imp (op_neP hu) fun x y H Q ⟨h, α, dx, dy, d, h', mt, rx, ry, e, q⟩ => by
  unfold neG at e
  split at e
  · next e0 =>
    cases e
    obtain ⟨a, b, e1, e2, rfl⟩ := eqB_some e0
    exact ⟨a, b, toP_dp mt _ _ _ _ e1 rx, toP_dp mt _ _ _ _ e2 ry, toP_depth _ _ _ _ e1, toP_depth _ _ _ _ e2, q α H _ Ex.refl mt rfl⟩
  · cases e
theorem co_lt : CO X (compareOp .Lt) ltG := OpR.imp (OpR.or op_lt op_lt_str) fun x y H Q ⟨h, α, dx, dy, d, h', mt, rx, ry, e, q⟩ => by
  unfold ltG at e
  split at e
  · cases e; exact .inl ⟨_, _, rx, ry, q α H _ Ex.refl mt rfl⟩
  · cases e; exact .inr ⟨_, _, rx, ry, q α H _ Ex.refl mt rfl⟩
  · cases e
theorem co_le : CO X (compareOp .LtE) leG := OpR.imp (OpR.or op_le op_le_str) fun x y H Q ⟨h, α, dx, dy, d, h', mt, rx, ry, e, q⟩ => by
  unfold leG at e
  split at e
  · cases e; exact .inl ⟨_, _, rx, ry, q α H _ Ex.refl mt rfl⟩
  · cases e; exact .inr ⟨_, _, rx, ry, q α H _ Ex.refl mt rfl⟩
  · cases e
theorem co_gt : CO X (compareOp .Gt) gtG := OpR.imp op_gt fun x y H Q ⟨h, α, dx, dy, d, h', mt, rx, ry, e, q⟩ => by
  unfold gtG at e
  split at e
  · cases e; exact ⟨_, _, rx, ry, q α H _ Ex.refl mt rfl⟩
  · cases e
theorem co_ge : CO X (compareOp .GtE) geG := OpR.imp op_ge fun x y H Q ⟨h, α, dx, dy, d, h', mt, rx, ry, e, q⟩ => by
  unfold geG at e
  split at e
  · cases e; exact ⟨_, _, rx, ry, q α H _ Ex.refl mt rfl⟩
  · cases e
theorem rep_non {K : PySem.W.Frag} {α : Al} {L : Nat} {H : Hp} {d : D} {v : V} (r : Rep K α L H d v) : decide (v = .non) = isNonD d := by
  cases d with
  | non => rw [show v = .non from r]; rfl
  | bl _ => rw [show v = _ from r]; rfl
  | int _ => rw [show v = _ from r]; rfl
  | str _ => rw [show v = _ from r]; rfl
  | ty _ => rw [show v = _ from r]; rfl
  | tup _ => obtain ⟨a, xs, rfl, _⟩ := r; rfl
  | ref _ => obtain ⟨_, rfl⟩ := r; rfl
theorem co_is : CO X (compareOp .Is) isG := OpR.imp (OpR.or op_isN op_isBl) fun x y H Q ⟨h, α, dx, dy, d, h', mt, rx, ry, e, q⟩ => by
  unfold isG at e
  split at e
  · cases e; exact .inl ⟨ry, by rw [rep_non rx]; exact q α H _ Ex.refl mt rfl⟩
  · cases e; exact .inr ⟨_, _, rx, ry, q α H _ Ex.refl mt rfl⟩
  · cases e
theorem co_isNot : CO X (compareOp .IsNot) isNotG := OpR.imp (OpR.or op_notN op_notBl) fun x y H Q ⟨h, α, dx, dy, d, h', mt, rx, ry, e, q⟩ => by
  unfold isNotG at e
  split at e
  · cases e; exact .inl ⟨ry, by rw [rep_non rx]; exact q α H _ Ex.refl mt rfl⟩
  · cases e; exact .inr ⟨_, _, rx, ry, q α H _ Ex.refl mt rfl⟩
  · cases e
/-! in -/
theorem op_inSeq (hu : X.A.units + 64 < cLine) : OpR X (compareOp .In) (fun x y H Q => ∃ a xs ps d, y = .ref a ∧ (SqL X.K H a xs ∨ SqT X.K H a xs) ∧ DpAll X.K H xs ps ∧ Dp X.K H x d ∧ (PyData.depthAll ps ≤ 32 ∧ PyData.plainAll ps = true) ∧ (d.depth ≤ 32 ∧ d.plain = true) ∧
    Q (.bl (ps.any fun z => PyData.eqv z d)) H) := by
  intro pins s σ H x y v u Q I rx ry h
  obtain ⟨a, xs, ps, d, rfl, hs, hp, hd, ⟨s1, p1⟩, ⟨s2, p2⟩, q⟩ := h
  obtain ⟨bs, r2⟩ := Dp.reads I d x v hd rx
  rcases hs with hs | hs
  · obtain ⟨as, r1⟩ := Dp.reads I (.list ps) _ u (.lst hs hp) ry
    exact SeqAt.in_list_data r1 r2 p1 p2 (by omega) ⟨.bl _, H, I, rfl, q⟩
  · obtain ⟨as, r1⟩ := Dp.reads I (.tuple ps) _ u (.tup hs hp) ry
    exact SeqAt.in_tuple_data r1 r2 p1 p2 (by omega) ⟨.bl _, H, I, rfl, q⟩
theorem op_notInSeq (hu : X.A.units + 64 < cLine) : OpR X (compareOp .NotIn) (fun x y H Q => ∃ a xs ps d, y = .ref a ∧ (SqL X.K H a xs ∨ SqT X.K H a xs) ∧ DpAll X.K H xs ps ∧ Dp X.K H x d ∧ (PyData.depthAll ps ≤ 32 ∧ PyData.plainAll ps = true) ∧ (d.depth ≤ 32 ∧ d.plain = true) ∧
    Q (.bl (!ps.any fun z => PyData.eqv z d)) H) := by
  intro pins s σ H x y v u Q I rx ry h
  obtain ⟨a, xs, ps, d, rfl, hs, hp, hd, ⟨s1, p1⟩, ⟨s2, p2⟩, q⟩ := h
  obtain ⟨bs, r2⟩ := Dp.reads I d x v hd rx
  rcases hs with hs | hs
  · obtain ⟨as, r1⟩ := Dp.reads I (.list ps) _ u (.lst hs hp) ry
    exact SeqAt.notIn_list_data r1 r2 p1 p2 (by omega) ⟨.bl _, H, I, rfl, q⟩
  · obtain ⟨as, r1⟩ := Dp.reads I (.tuple ps) _ u (.tup hs hp) ry
    exact SeqAt.notIn_tuple_data r1 r2 p1 p2 (by omega) ⟨.bl _, H, I, rfl, q⟩
theorem op_inDct (hu : X.A.units + 64 < cLine) : OpR X (compareOp .In) (fun x y H Q => ∃ a o, y = .ref a ∧ DGet H a x o ∧ Q (.bl o.isSome) H) := by
  intro pins s σ H x y v u Q I rx ry h
  obtain ⟨a, o, rfl, g, q⟩ := h
  cases ry
  exact d_in (by omega) I g rx fun s' I' => ⟨.bl _, H, I', rfl, q⟩
theorem op_notInDct (hu : X.A.units + 64 < cLine) : OpR X (compareOp .NotIn) (fun x y H Q => ∃ a o, y = .ref a ∧ DGet H a x o ∧ Q (.bl (!o.isSome)) H) := by
  intro pins s σ H x y v u Q I rx ry h
  obtain ⟨a, o, rfl, g, q⟩ := h
  cases ry
  exact d_notIn (by omega) I g rx fun s' I' => ⟨.bl _, H, I', rfl, q⟩
theorem memB_some {h : Hs} {x : D} {ds : List D} {k : Bool} (e : memB h x ds = some k) : ∃ a bs, toP 32 h x = some a ∧ mapO (toP 32 h) ds = some bs ∧ k = (bs.any fun y => PyData.eqv y a) := by
  unfold memB at e
  split at e
  · next e1 e2 => cases e; exact ⟨_, _, e1, e2, rfl⟩
  · cases e
theorem key_rep {K : PySem.W.Frag} {α : Al} {L : Nat} {H : Hp} {d : D} {k : Key} {v : V} (e : keyOf d = some k) (r : Rep K α L H d v) : v = kV k := by
  unfold keyOf at e
  split at e
  · cases e; exact r
  · cases e; exact r
  · cases e
theorem val_some {K : PySem.W.Frag} {α : Al} {L : Nat} {H : Hp} {kvs : List (Key × D)} {ys : List (Key × V)} {k : Key} (r : RepKV K α L H kvs ys) : (valV ys k).isSome = (valD kvs k).isSome := by
  have := repKV_val (k := k) r
  split at this
  · next e => obtain ⟨v, a, _⟩ := this; rw [a, e]; rfl
  · next e => rw [this, e]; rfl
theorem in_cases {x y : D} {h : Hs} {k : Bool} (e : inB x y h = some k) : (∃ s z, x = .str s ∧ y = .str z ∧ ((∃ c, s = ⟨#[c]⟩ ∧ k = decide (c ∈ z.cps.toList)) ∨ k = !(Builtin.Str.occurrences z s 0 z.length 1).isEmpty)) ∨
    (∃ ds, y = .tup ds ∧ memB h x ds = some k) ∨ (∃ n ds, y = .ref n ∧ getL h n = some ds ∧ memB h x ds = some k) ∨ (∃ n kvs q, y = .ref n ∧ h[n]? = some (.dct kvs) ∧ keyOf x = some q ∧ k = (valD kvs q).isSome) := by
  unfold inB at e
  split at e
  · split at e
    · next s z _ _ e1 =>
      cases e
      refine .inl ⟨_, _, rfl, rfl, .inl ⟨_, ?_, rfl⟩⟩
      have h1 : s = ⟨s.cps.toList.toArray⟩ := by cases s; simp
      rw [h1, e1]
    · cases e; exact .inl ⟨_, _, rfl, rfl, .inr rfl⟩
  · exact .inr (.inl ⟨_, rfl, e⟩)
  · split at e
    · next e1 =>
      split at e
      · next e2 => cases e; exact .inr (.inr (.inr ⟨_, _, _, rfl, e1, e2, rfl⟩))
      · cases e
    · next e1 => exact .inr (.inr (.inl ⟨_, _, rfl, by unfold getL; rw [e1], e⟩))
    · next e1 => exact .inr (.inr (.inl ⟨_, _, rfl, by unfold getL; rw [e1], e⟩))
    · cases e
  · cases e
theorem co_in (hu : X.A.units + 64 < cLine) : CO X (compareOp .In) inG := OpR.imp (OpR.or op_in_sign (OpR.or op_in_str (OpR.or (op_inSeq hu) (op_inDct hu)))) fun x y H Q ⟨h, α, dx, dy, d, h', mt, rx, ry, e, q⟩ => by
  unfold inG at e
  split at e
  · next e0 =>
    cases e
    rcases in_cases e0 with ⟨s, z, rfl, rfl, ⟨c, rfl, rfl⟩ | rfl⟩ | ⟨ds, rfl, e1⟩ | ⟨n, ds, rfl, e1, e2⟩ | ⟨n, kvs, q', rfl, e1, e2, rfl⟩
    · exact .inl ⟨_, _, rx, ry, q α H _ Ex.refl mt rfl⟩
    · exact .inr (.inl ⟨_, _, rx, ry, q α H _ Ex.refl mt rfl⟩)
    · obtain ⟨a, bs, e2, e3, rfl⟩ := memB_some e1
      obtain ⟨p, xs, rfl, sq, rr⟩ := ry
      exact .inr (.inr (.inl ⟨p, xs, bs, a, rfl, .inr sq.seq, mapO_dp (toP_dp mt 32) e3 rr, toP_dp mt _ _ _ _ e2 rx, mapO_depth (fun d p => toP_depth 32 h d p) e3, toP_depth _ _ _ _ e2, q α H _ Ex.refl mt rfl⟩))
    · obtain ⟨a, bs, e3, e4, rfl⟩ := memB_some e2
      obtain ⟨_, rfl⟩ := ry
      obtain ⟨xs, sq, rr⟩ := mt.getL e1
      exact .inr (.inr (.inl ⟨_, xs, bs, a, rfl, .inl sq, mapO_dp (toP_dp mt 32) e4 rr, toP_dp mt _ _ _ _ e3 rx, mapO_depth (fun d p => toP_depth 32 h d p) e4, toP_depth _ _ _ _ e3, q α H _ Ex.refl mt rfl⟩))
    · obtain ⟨_, rfl⟩ := ry
      obtain ⟨ys, a1, rr⟩ := mt.at_ n _ e1
      refine .inr (.inr (.inr ⟨_, valV ys q', rfl, by rw [key_rep e2 rx]; exact DGet.k a1, ?_⟩))
      rw [val_some rr]
      exact q α H _ Ex.refl mt rfl
  · cases e
theorem co_notIn (hu : X.A.units + 64 < cLine) : CO X (compareOp .NotIn) notInG := OpR.imp (OpR.or op_notIn_sign (OpR.or op_notIn_str (OpR.or (op_notInSeq hu) (op_notInDct hu)))) fun x y H Q ⟨h, α, dx, dy, d, h', mt, rx, ry, e, q⟩ => by
  unfold notInG at e
  split at e
  · next e0 =>
    cases e
    rcases in_cases e0 with ⟨s, z, rfl, rfl, ⟨c, rfl, rfl⟩ | rfl⟩ | ⟨ds, rfl, e1⟩ | ⟨n, ds, rfl, e1, e2⟩ | ⟨n, kvs, q', rfl, e1, e2, rfl⟩
    · exact .inl ⟨_, _, rx, ry, q α H _ Ex.refl mt rfl⟩
    · exact .inr (.inl ⟨_, _, rx, ry, q α H _ Ex.refl mt rfl⟩)
    · obtain ⟨a, bs, e2, e3, rfl⟩ := memB_some e1
      obtain ⟨p, xs, rfl, sq, rr⟩ := ry
      exact .inr (.inr (.inl ⟨p, xs, bs, a, rfl, .inr sq.seq, mapO_dp (toP_dp mt 32) e3 rr, toP_dp mt _ _ _ _ e2 rx, mapO_depth (fun d p => toP_depth 32 h d p) e3, toP_depth _ _ _ _ e2, q α H _ Ex.refl mt rfl⟩))
    · obtain ⟨a, bs, e3, e4, rfl⟩ := memB_some e2
      obtain ⟨_, rfl⟩ := ry
      obtain ⟨xs, sq, rr⟩ := mt.getL e1
      exact .inr (.inr (.inl ⟨_, xs, bs, a, rfl, .inl sq, mapO_dp (toP_dp mt 32) e4 rr, toP_dp mt _ _ _ _ e3 rx, mapO_depth (fun d p => toP_depth 32 h d p) e4, toP_depth _ _ _ _ e3, q α H _ Ex.refl mt rfl⟩))
    · obtain ⟨_, rfl⟩ := ry
      obtain ⟨ys, a1, rr⟩ := mt.at_ n _ e1
      refine .inr (.inr (.inr ⟨_, valV ys q', rfl, by rw [key_rep e2 rx]; exact DGet.k a1, ?_⟩))
      rw [val_some rr]
      exact q α H _ Ex.refl mt rfl
  · cases e

theorem c_cmp {op : CmpOp} {g : GO} (ho : CO X (compareOp op) g) (ha : CE X a ma) (hb : CE X b mb) (hm : behindInMarks op b = false := by first | exact nomark _ | rfl) : CE X (.Compare a [op] [b] pos) (eOp g ma mb) :=
  PE.imp (pe_cmpR ho ha hb hm) fun _ _ _ t => op_seq t
/-! ### tests -/
def tV (m : ME) : MT := fun ρ h => match m ρ h with
  | some (.bl b, h1) => some (b, h1)
  | _ => none
theorem tV_some {m : ME} {ρ : Rho} {h h' : Hs} {b : Bool} (e : tV m ρ h = some (b, h')) : m ρ h = some (.bl b, h') := by
  unfold tV at e
  split at e
  · next e1 => cases e; exact e1
  · cases e
theorem tV_lift {K : PySem.W.Frag} {m : ME} {σ : L2.St} {H : Hp} {Q : Bool → Hp → Prop} (t : lT K (tV m) σ H Q) : lE K m σ H fun x H' => ∃ k, x = .bl k ∧ Q k H' := by
  obtain ⟨ρ, h, α, d, h', rs, mt, e, q⟩ := t
  exact ⟨ρ, h, α, _, h', rs, mt, tV_some e, fun α1 H1 v1 x1 m1 r1 => ⟨d, r1, q α1 H1 d x1 m1 rfl⟩⟩
theorem t_cmp {op : CmpOp} {g : GO} (ho : CO X (compareOp op) g) (ha : CE X a ma) (hb : CE X b mb) (hm : behindInMarks op b = false := by first | exact nomark _ | rfl) : CT X (.Compare a [op] [b] pos) (tV (eOp g ma mb)) :=
  PT.imp (pt_cmpR ho ha hb hm) fun σ H Q t => by
    obtain ⟨ρ, h, α, d, h', rs, mt, e, q⟩ := t
    exact op_seq ⟨ρ, h, α, _, h', rs, mt, tV_some e, fun α1 H1 v1 x1 m1 r1 => ⟨d, r1, q α1 H1 d x1 m1 rfl⟩⟩
def eChain (g g' : GO) (ma mb mc : ME) : ME := fun ρ h => bd (ma ρ h) fun x h1 => bd (mb ρ h1) fun y h2 => bd (g x y h2) fun z h3 => match z with
  | .bl true => bd (mc ρ h3) fun w h4 => g' y w h4
  | .bl false => some (.bl false, h3)
  | _ => none
theorem chain_seq {g g' : GO} {K : PySem.W.Frag} {σ : L2.St} {H : Hp} {Q : VK} (t : lE K (eChain g g' ma mb mc) σ H Q) : tChain (lO K g) (lO K g') (lE K ma) (lE K mb) (lE K mc) σ H Q := by
  obtain ⟨ρ, h, α, d, h', rs, mt, e, q⟩ := t
  obtain ⟨d1, h1, e1, e⟩ := bd_some e
  obtain ⟨d2, h2, e2, e⟩ := bd_some e
  obtain ⟨d3, h3, e3, e⟩ := bd_some e
  refine ⟨ρ, h, α, d1, h1, rs, mt, e1, fun α1 H1 v1 x1 m1 r1 => ⟨ρ, h1, α1, d2, h2, rs.mono x1, m1, e2, fun α2 H2 v2 x2 m2 r2 =>
    ⟨h2, α2, d1, d2, d3, h3, m2, x2.rep r1, r2, e3, fun α3 H3 v3 x3 m3 r3 => ?_⟩⟩⟩
  split at e
  · obtain ⟨d4, h4, e4, e⟩ := bd_some e
    refine ⟨true, r3, ?_⟩
    rw [if_pos rfl]
    exact ⟨ρ, h3, α3, d4, h4, ((rs.mono x1).mono x2).mono x3, m3, e4, fun α4 H4 v4 x4 m4 r4 => ⟨h4, α4, d2, d4, d, h', m4, (x3.trans x4).rep r2, r4, e, fun α5 H5 v5 x5 m5 r5 => q α5 H5 v5 (x1.trans (x2.trans (x3.trans (x4.trans x5)))) m5 r5⟩⟩
  · cases e
    refine ⟨false, r3, ?_⟩
    rw [if_neg (by decide)]
    exact q α3 H3 _ (x1.trans (x2.trans x3)) m3 rfl
  · cases e
theorem c_chain {op op' : CmpOp} {g g' : GO} (ho : CO X (compareOp op) g) (ho' : CO X (compareOp op') g') (ha : CE X a ma) (hb : CE X b mb) (hc : CE X c mc)
    (hm : lastMarks [op, op'] [b, c] = false := by with_unfolding_all rfl) : CE X (.Compare a [op, op'] [b, c] pos) (eChain g g' ma mb mc) :=
  PE.imp (pe_chain ho ho' ha hb hc hm) fun _ _ _ t => chain_seq t
theorem t_chain {op op' : CmpOp} {g g' : GO} (ho : CO X (compareOp op) g) (ho' : CO X (compareOp op') g') (ha : CE X a ma) (hb : CE X b mb) (hc : CE X c mc)
    (hm : lastMarks [op, op'] [b, c] = false := by with_unfolding_all rfl) : CT X (.Compare a [op, op'] [b, c] pos) (tV (eChain g g' ma mb mc)) :=
  PT.imp (pt_chain ho ho' ha hb hc hm) fun σ H Q t => by
    obtain ⟨ρ, h, α, d, h', rs, mt, e, q⟩ := t
    exact chain_seq ⟨ρ, h, α, _, h', rs, mt, tV_some e, fun α1 H1 v1 x1 m1 r1 => ⟨d, r1, q α1 H1 d x1 m1 rfl⟩⟩
/-- truth -/
def truD (h : Hs) : D → Option Bool
  | .non => some false
  | .bl b => some b
  | .int i => some (i != 0)
  | .str s => if s.length ≤ sizeLine then some ((s.length : Int) != 0) else none
  | .ty _ => none
  | .tup ds => some (!ds.isEmpty)
  | .ref n => match h[n]? with
    | some (.lst ds) => some (!ds.isEmpty)
    | some (.fz ds) => some (!ds.isEmpty)
    | some (.dct kvs) => some (!kvs.isEmpty)
    | _ => none
theorem empty_len {A B : Type} {xs : List A} {ys : List B} (e : ys.length = xs.length) : xs.isEmpty = ys.isEmpty := by
  cases xs <;> cases ys <;> first | rfl | (simp at e)
theorem truD_ok {K : PySem.W.Frag} {α : Al} {H : Hp} {h : Hs} {d : D} {v : V} {k : Bool} (mt : Mt K α H h) (r : Rep K α h.length H d v) (e : truD h d = some k) : TruV K v H k := by
  cases d with
  | non => cases e; cases r; rfl
  | bl b => cases e; cases r; rfl
  | int i => cases e; cases r; rfl
  | str s =>
    cases r
    simp only [truD] at e
    split at e
    · next c => cases e; exact ⟨c, rfl⟩
    · cases e
  | ty _ => cases e
  | tup ds => cases e; obtain ⟨a, xs, rfl, s, q⟩ := r; exact .inr (.inl ⟨xs, s.seq, by rw [empty_len q.length]⟩)
  | ref n =>
    obtain ⟨_, rfl⟩ := r
    simp only [truD] at e
    split at e
    · next e1 => cases e; obtain ⟨xs, s, q⟩ := mt.at_ n _ e1; exact .inl ⟨xs, SqL.of s, by rw [empty_len q.length]⟩
    · next e1 => cases e; obtain ⟨xs, s, q⟩ := mt.at_ n _ e1; exact .inl ⟨xs, s.seq, by rw [empty_len q.length]⟩
    · next e1 => cases e; obtain ⟨xs, s, q⟩ := mt.at_ n _ e1; exact .inr (.inr ⟨xs, s, by rw [empty_len (repKV_len q)]⟩)
    · cases e
def tTru (m : ME) : MT := fun ρ h => bd (m ρ h) fun d h1 => match truD h1 d with
  | some k => some (k, h1)
  | none => none
theorem tTru_lift {K : PySem.W.Frag} {m : ME} {σ : L2.St} {H : Hp} {Q : Bool → Hp → Prop} (t : lT K (tTru m) σ H Q) : lE K m σ H fun x H' => ∃ k, TruV K x H' k ∧ Q k H' := by
  obtain ⟨ρ, h, α, d, h', rs, mt, e, q⟩ := t
  obtain ⟨d1, h1, e1, e⟩ := bd_some e
  split at e
  · next e2 => cases e; exact ⟨ρ, h, α, d1, _, rs, mt, e1, fun α1 H1 v1 x1 m1 r1 => ⟨_, truD_ok m1 r1 e2, q α1 H1 _ x1 m1 rfl⟩⟩
  · cases e
theorem t_tru (ha : CE X a ma) (he : ∀ whole, isTrue a X.env whole = (do let v ← whole; standAt a.pos; holding [v] (truthy v)) := by intro _; rfl) : CT X a (tTru ma) :=
  PT.imp (pt_truth ha he) fun _ _ _ t => tTru_lift t
def tAnd2 (t u : MT) : MT := fun ρ h => bd (t ρ h) fun k h1 => if k = true then u ρ h1 else some (false, h1)
def tOr2 (t u : MT) : MT := fun ρ h => bd (t ρ h) fun k h1 => if k = true then some (true, h1) else u ρ h1
def tNot1 (t : MT) : MT := fun ρ h => bd (t ρ h) fun k h1 => some (!k, h1)
variable {ta tb : MT} {rest : List Expr}
theorem t_and1 (ha : CT X a ta) : CW X (.BoolOp .And [a] pos) ta := pw_and1 ha
theorem t_or1 (ha : CT X a ta) : CW X (.BoolOp .Or [a] pos) ta := pw_or1 ha
theorem t_and (ha : CT X a ta) (hb : CW X (.BoolOp .And (b :: rest) pos) tb) : CW X (.BoolOp .And (a :: b :: rest) pos) (tAnd2 ta tb) :=
  PW.imp (pw_and ha hb) fun σ H Q ⟨ρ, h, α, d, h', rs, mt, e, q⟩ => by
    obtain ⟨d1, h1, e1, e⟩ := bd_some e
    refine ⟨ρ, h, α, d1, h1, rs, mt, e1, fun α1 H1 v1 x1 m1 r1 => ?_⟩
    subst r1
    split at e
    · next c => subst c; exact ⟨ρ, h1, α1, d, h', rs.mono x1, m1, e, fun α2 H2 v2 x2 m2 r2 => q α2 H2 v2 (x1.trans x2) m2 r2⟩
    · next c => cases e; rw [if_neg c]; exact q α1 H1 _ x1 m1 rfl
theorem t_or (ha : CT X a ta) (hb : CW X (.BoolOp .Or (b :: rest) pos) tb) : CW X (.BoolOp .Or (a :: b :: rest) pos) (tOr2 ta tb) :=
  PW.imp (pw_or ha hb) fun σ H Q ⟨ρ, h, α, d, h', rs, mt, e, q⟩ => by
    obtain ⟨d1, h1, e1, e⟩ := bd_some e
    refine ⟨ρ, h, α, d1, h1, rs, mt, e1, fun α1 H1 v1 x1 m1 r1 => ?_⟩
    subst r1
    split at e
    · next c => cases e; subst c; exact q α1 H1 _ x1 m1 rfl
    · next c => rw [if_neg c]; exact ⟨ρ, h1, α1, d, h', rs.mono x1, m1, e, fun α2 H2 v2 x2 m2 r2 => q α2 H2 v2 (x1.trans x2) m2 r2⟩
theorem CW.pt {t : MT} (h : CW X e t) : CT X e t := PW.pt h
theorem t_not (ha : CT X a ta) : CT X (.UnaryOp .Not a pos) (tNot1 ta) :=
  PT.imp (pt_not ha) fun σ H Q ⟨ρ, h, α, d, h', rs, mt, e, q⟩ => by
    obtain ⟨d1, h1, e1, e⟩ := bd_some e
    cases e
    exact ⟨ρ, h, α, d1, _, rs, mt, e1, fun α1 H1 v1 x1 m1 r1 => by subst r1; exact q α1 H1 _ x1 m1 rfl⟩
def eAnd2 (ma mb : ME) : ME := fun ρ h => bd (ma ρ h) fun d h1 => match truD h1 d with
  | some true => mb ρ h1
  | some false => some (d, h1)
  | none => none
def eOr2 (ma mb : ME) : ME := fun ρ h => bd (ma ρ h) fun d h1 => match truD h1 d with
  | some true => some (d, h1)
  | some false => mb ρ h1
  | none => none
def eNot1 (ma : ME) : ME := fun ρ h => bd (ma ρ h) fun d h1 => match truD h1 d with
  | some k => some (.bl (!k), h1)
  | none => none
theorem c_one {op} (ha : CE X a ma) : CE X (.BoolOp op [a] pos) ma := pe_one ha
theorem c_and (ha : CE X a ma) (hb : CE X (.BoolOp .And (b :: rest) pos) mb) : CE X (.BoolOp .And (a :: b :: rest) pos) (eAnd2 ma mb) :=
  PE.imp (pe_andT ha hb) fun σ H Q ⟨ρ, h, α, d, h', rs, mt, e, q⟩ => by
    obtain ⟨d1, h1, e1, e⟩ := bd_some e
    refine ⟨ρ, h, α, d1, h1, rs, mt, e1, fun α1 H1 v1 x1 m1 r1 => ?_⟩
    split at e
    · next c => exact ⟨true, truD_ok m1 r1 c, by rw [if_pos rfl]; exact ⟨ρ, h1, α1, d, h', rs.mono x1, m1, e, fun α2 H2 v2 x2 m2 r2 => q α2 H2 v2 (x1.trans x2) m2 r2⟩⟩
    · next c => cases e; exact ⟨false, truD_ok m1 r1 c, by rw [if_neg (by decide)]; exact q α1 H1 _ x1 m1 r1⟩
    · cases e
theorem c_or (ha : CE X a ma) (hb : CE X (.BoolOp .Or (b :: rest) pos) mb) : CE X (.BoolOp .Or (a :: b :: rest) pos) (eOr2 ma mb) :=
  PE.imp (pe_orT ha hb) fun σ H Q ⟨ρ, h, α, d, h', rs, mt, e, q⟩ => by
    obtain ⟨d1, h1, e1, e⟩ := bd_some e
    refine ⟨ρ, h, α, d1, h1, rs, mt, e1, fun α1 H1 v1 x1 m1 r1 => ?_⟩
    split at e
    · next c => cases e; exact ⟨true, truD_ok m1 r1 c, by rw [if_pos rfl]; exact q α1 H1 _ x1 m1 r1⟩
    · next c => exact ⟨false, truD_ok m1 r1 c, by rw [if_neg (by decide)]; exact ⟨ρ, h1, α1, d, h', rs.mono x1, m1, e, fun α2 H2 v2 x2 m2 r2 => q α2 H2 v2 (x1.trans x2) m2 r2⟩⟩
    · cases e
theorem c_not (ha : CE X a ma) : CE X (.UnaryOp .Not a pos) (eNot1 ma) :=
  PE.imp (pe_notT ha) fun σ H Q ⟨ρ, h, α, d, h', rs, mt, e, q⟩ => by
    obtain ⟨d1, h1, e1, e⟩ := bd_some e
    refine ⟨ρ, h, α, d1, h1, rs, mt, e1, fun α1 H1 v1 x1 m1 r1 => ?_⟩
    split at e
    · next c => cases e; exact ⟨_, truD_ok m1 r1 c, q α1 H1 _ x1 m1 rfl⟩
    · cases e
def eIf (t : MT) (ma mb : ME) : ME := fun ρ h => bd (t ρ h) fun k h1 => if k = true then ma ρ h1 else mb ρ h1
theorem c_if {t : MT} (hc : CT X c t) (ha : CE X a ma) (hb : CE X b mb) : CE X (.IfExp c a b pos) (eIf t ma mb) :=
  PE.imp (pe_ifExp hc ha hb) fun σ H Q ⟨ρ, h, α, d, h', rs, mt, e, q⟩ => by
    obtain ⟨d1, h1, e1, e⟩ := bd_some e
    refine ⟨ρ, h, α, d1, h1, rs, mt, e1, fun α1 H1 v1 x1 m1 r1 => ?_⟩
    subst r1
    split at e
    · next c => rw [if_pos c]; exact ⟨ρ, h1, α1, d, h', rs.mono x1, m1, e, fun α2 H2 v2 x2 m2 r2 => q α2 H2 v2 (x1.trans x2) m2 r2⟩
    · next c => rw [if_neg c]; exact ⟨ρ, h1, α1, d, h', rs.mono x1, m1, e, fun α2 H2 v2 x2 m2 r2 => q α2 H2 v2 (x1.trans x2) m2 r2⟩
def negG : GU
  | .int i, h => some (.int (-i), h)
  | _, _ => none
theorem c_neg (ha : CE X a ma) : CE X (.UnaryOp .USub a pos) (eUn negG ma) :=
  PE.imp (pe_un un_neg ha) fun σ H Q t => by
    obtain ⟨ρ, h, α, d, h', rs, mt, e, q⟩ := un_seq t
    refine ⟨ρ, h, α, d, h', rs, mt, e, fun α1 H1 v1 x1 m1 r1 => ?_⟩
    obtain ⟨h2, α2, dx, d2, h3, m2, r2, e2, q2⟩ := q α1 H1 v1 x1 m1 r1
    unfold negG at e2
    split at e2
    · cases e2; exact ⟨_, r2, q2 α2 H1 _ Ex.refl m2 rfl⟩
    · cases e2
end
end SL
namespace SL
open PySem PySem.Spec PyProof.Rows L2

section
variable {K : PySem.W.Frag} {α α1 α2 : Al} {H H1 H2 : Hp} {h h1 h2 : Hs}
/-! ### a thing laid early, tracked late -/
def Aside (α : Al) (H : Hp) (h : Hs) (p : Addr) : Prop := (∀ n, Mu h n → α n ≠ p) ∧ (∀ xs, H p ≠ some (.tup xs)) ∧ (∀ o u, H p ≠ some (.frz o u)) ∧ ∀ a, H p ≠ some (.own a)
theorem Aside.new {p : Addr} {o : HO} (mt : Mt K α H h) (hp : H p = none) (ho : ∀ xs, o ≠ .tup xs) (hf : ∀ b u, o ≠ .frz b u) (hw : ∀ a, o ≠ .own a) : Aside α (upd H p o) h p :=
  ⟨(fun n m e => by
    obtain ⟨u, e1, _⟩ := mt.some_of m
    rw [e, hp] at e1
    cases e1), (fun xs e => by
    rw [upd_same] at e
    exact ho xs (Option.some.inj e)), (fun b u e => by
    rw [upd_same] at e
    exact hf b u (Option.some.inj e)), fun b e => by
    rw [upd_same] at e
    exact hw b (Option.some.inj e)⟩
theorem Aside.later {p : Addr} {o : HO} (a : Aside α H h p) (hp : H p = some o) (x : Ex α H h α1 H1 h1) : H1 p = some o ∧ Aside α1 H1 h1 p := by
  have e := x.fr p o hp a.1
  refine ⟨e, fun n m z => ?_, fun xs z => ?_, fun b u z => ?_, fun b z => ?_⟩
  · by_cases q : n < h.length
    · rw [x.al n q] at z; exact a.1 n (x.kd n q m) z
    · have := x.new n (Nat.le_of_not_lt q) m.lt
      rw [z, hp] at this; cases this
  · rw [e] at z; exact a.2.1 xs (hp.trans z)
  · rw [e] at z; exact a.2.2.1 b u (hp.trans z)
  · rw [e] at z; exact a.2.2.2 b (hp.trans z)
theorem Aside.ex {p : Addr} {o : HO} (a : Aside α H h p) (hp : ∃ u, H p = some u) : (∀ b xs, H b = some (.tup xs) → upd H p o b = some (.tup xs)) ∧ (∀ b ob u, H b = some (.frz ob u) → upd H p o b = some (.frz ob u)) ∧ (∀ b, upd H p o b = none → H b = none) := by
  refine ⟨fun b xs e => ?_, fun b ob u e => ?_, fun b e => ?_⟩
  · have : b ≠ p := fun z => by subst z; exact a.2.1 xs e
    rw [upd_ne this]; exact e
  · have : b ≠ p := fun z => by subst z; exact a.2.2.1 ob u e
    rw [upd_ne this]; exact e
  · by_cases z : b = p
    · rw [z, upd_same] at e; cases e
    · rw [upd_ne z] at e; exact e
theorem Aside.put {p : Addr} {o : HO} (a : Aside α H h p) (mt : Mt K α H h) (hp : ∃ u, H p = some u) : Mt K α (upd H p o) h ∧ ∀ L d v, Rep K α L H d v → Rep K α L (upd H p o) d v := by
  obtain ⟨t1, t2, _⟩ := a.ex (o := o) hp
  have ts : ∀ b xs, TpL K H b xs → TpL K (upd H p o) b xs := fun b xs s => by
    rcases s with s | s
    · exact .inl (t1 b xs s)
    · exact .inr s
  have rr : ∀ L d v, Rep K α L H d v → Rep K α L (upd H p o) d v := fun L d v r => rep_mono (Nat.le_refl _) (fun _ _ => rfl) ts d v r
  have rs : ∀ L d v, Reps K α L H d v → Reps K α L (upd H p o) d v := fun L d v r => reps_mono (Nat.le_refl _) (fun _ _ => rfl) ts d v r
  refine ⟨⟨fun n u e => ?_, mt.inj⟩, rr⟩
  have b := mt.at_ n u e
  cases u with
  | lst ds => obtain ⟨xs, e1, r⟩ := b; exact ⟨xs, by rw [upd_ne (a.1 n ⟨_, e, rfl⟩)]; exact e1, rs _ _ _ r⟩
  | fz ds =>
    obtain ⟨xs, f, r⟩ := b
    refine ⟨xs, ?_, rs _ _ _ r⟩
    rcases f with ⟨ob, f⟩ | f
    · exact .inl ⟨ob, t2 _ _ _ f⟩
    · exact .inr f
  | dct kvs => obtain ⟨xs, e1, r1, r2⟩ := b; exact ⟨xs, by rw [upd_ne (a.1 n ⟨_, e, rfl⟩)]; exact e1, r1, rs _ _ _ r2⟩
  | ins nm fs =>
    obtain ⟨C, dx, xs, c, e1, e2, r1, r2⟩ := b
    exact ⟨C, dx, xs, c, by rw [upd_ne (a.1 n ⟨_, e, rfl⟩)]; exact e1, by rw [upd_ne (fun z => a.2.2.2 (α n) (by rw [← z]; exact e2))]; exact e2, r1, rs _ _ _ r2⟩
/-- from the state ahead of the laying to the end -/
theorem Ex.late {p : Addr} {o : HO} {ao : AO} (hp : H p = none) (x : Ex α H h α2 H2 h2) (a : Aside α2 H2 h2 p) (hp2 : ∃ u, H2 p = some u) : Ex α H h (al1 α2 h2.length p) (upd H2 p o) (h2 ++ [ao]) where
  le := by have := x.le; simp; omega
  al := fun n l => by rw [al1_ne (Nat.ne_of_lt (Nat.lt_of_lt_of_le l x.le))]; exact x.al n l
  kd := fun n l ⟨u, e, q⟩ => by
    rw [List.getElem?_append_left (Nat.lt_of_lt_of_le l x.le)] at e; exact x.kd n l ⟨u, e, q⟩
  tups := fun b xs e => (a.ex hp2).1 b xs (x.tups b xs e)
  frzs := fun b ob u e => (a.ex hp2).2.1 b ob u (x.frzs b ob u e)
  dom := fun b e => x.dom b ((a.ex hp2).2.2 b e)
  new := fun n l l' => by
    by_cases q : n = h2.length
    · rw [q, al1_same]; exact hp
    · rw [al1_ne q]; exact x.new n l (by simp at l'; omega)
  fr := fun b o e q => by
    have : b ≠ p := fun z => by rw [z, hp] at e; cases e
    rw [upd_ne this]; exact x.fr b o e q
theorem Mt.late {p : Addr} {o : HO} {ao : AO} (mt : Mt K α H h) (a : Aside α H h p) (hp : ∃ u, H p = some u) (hn : AtO K α h.length (upd H p o) p ao) : Mt K (al1 α h.length p) (upd H p o) (h ++ [ao]) := by
  obtain ⟨m2, _⟩ := a.put (o := o) mt hp
  have mono : ∀ d v, Reps K α h.length (upd H p o) d v → Reps K (al1 α h.length p) (h ++ [ao]).length (upd H p o) d v := fun d v r => reps_mono (by simp) (fun n l => al1_ne (Nat.ne_of_lt l)) (fun _ _ s => s) d v r
  have tr : ∀ b u, AtO K α h.length (upd H p o) b u → AtO K (al1 α h.length p) (h ++ [ao]).length (upd H p o) b u := fun b u q => by
    cases u with
    | lst ds => obtain ⟨xs, e1, r⟩ := q; exact ⟨xs, e1, mono _ _ r⟩
    | fz ds => obtain ⟨xs, e1, r⟩ := q; exact ⟨xs, e1, mono _ _ r⟩
    | dct kvs => obtain ⟨xs, e1, r1, r2⟩ := q; exact ⟨xs, e1, r1, mono _ _ r2⟩
    | ins nm fs => obtain ⟨C, dx, xs, c, e1, e2, r1, r2⟩ := q; exact ⟨C, dx, xs, c, e1, e2, r1, mono _ _ r2⟩
  refine ⟨fun n u e => ?_, fun n k q1 q2 e => ?_⟩
  · rcases get_snoc e with ⟨l, e⟩ | ⟨l, rfl⟩
    · rw [al1_ne (Nat.ne_of_lt l)]; exact tr _ _ (m2.at_ n u e)
    · rw [l, al1_same]; exact tr _ _ hn
  · have key : ∀ i, Mu (h ++ [ao]) i → i ≠ h.length → Mu h i ∧ al1 α h.length p i = α i := fun i u q => by
      have l : i < h.length := by have := u.lt; simp at this; omega
      obtain ⟨w, e, z⟩ := u
      rw [List.getElem?_append_left l] at e
      exact ⟨⟨w, e, z⟩, al1_ne q⟩
    by_cases hn : n = h.length
    · by_cases hk : k = h.length
      · rw [hn, hk]
      · obtain ⟨u, q⟩ := key k q2 hk
        rw [hn, al1_same, q] at e
        exact absurd e.symm (a.1 k u)
    · obtain ⟨u, q⟩ := key n q1 hn
      by_cases hk : k = h.length
      · rw [hk, al1_same, q] at e
        exact absurd e (a.1 n u)
      · obtain ⟨u2, q2'⟩ := key k q2 hk
        rw [q, q2'] at e
        exact mt.inj n k u u2 e
end

section
variable {X : Cx} {e a b c : Expr} {ma mb mc : ME} {pos : Pos} {es : List Expr}
/-! ### argument lists, displays -/
def CL (X : Cx) (es : List Expr) (m : MA) : Prop := PA X es (lA X.K m) ∧ ∀ ρ h ds h', m ρ h = some (ds, h') → ds.length = es.length
def aNil : MA := fun _ h => some ([], h)
def aCons (ma : ME) (mr : MA) : MA := fun ρ h => bd (ma ρ h) fun d h1 => bd (mr ρ h1) fun ds h2 => some (d :: ds, h2)
theorem a_nil : CL X [] aNil := ⟨PA.imp pa_nil fun σ H Q ⟨ρ, h, α, d, h', rs, mt, e, q⟩ => by cases e; exact q α H [] Ex.refl mt rfl, fun ρ h ds h' e => by cases e; rfl⟩
theorem a_cons {mr : MA} (ha : CE X e ma) (hr : CL X es mr) (hs : starEach (e :: es) X.env = (false, eval e X.env) :: starEach es X.env := by rfl) : CL X (e :: es) (aCons ma mr) :=
  ⟨PA.imp (pa_cons ha hr.1 hs) fun σ H Q ⟨ρ, h, α, d, h', rs, mt, e, q⟩ => by
    obtain ⟨d1, h1, e1, e⟩ := bd_some e
    obtain ⟨d2, h2, e2, e⟩ := bd_some e
    cases e
    exact ⟨ρ, h, α, d1, h1, rs, mt, e1, fun α1 H1 v1 x1 m1 r1 => ⟨ρ, h1, α1, d2, _, rs.mono x1, m1, e2, fun α2 H2 v2 x2 m2 r2 => q α2 H2 _ (x1.trans x2) m2 ⟨_, _, rfl, x2.rep r1, r2⟩⟩⟩,
   fun ρ h ds h' e => by
    obtain ⟨d1, h1, e1, e⟩ := bd_some e
    obtain ⟨d2, h2, e2, e⟩ := bd_some e
    cases e
    rw [List.length_cons, List.length_cons, hr.2 _ _ _ _ e2]⟩
def eTup (m : MA) : ME := fun ρ h => bd (m ρ h) fun ds h1 => some (.tup ds, h1)
def eLst (m : MA) : ME := fun ρ h => bd (m ρ h) fun ds h1 => some (.ref h1.length, h1 ++ [.lst ds])
theorem c_tup {m : MA} {x1} (h : CL X es m) (hl : es.length ≤ sizeLine := by decide) : CE X (.Tuple es x1 pos) (eTup m) :=
  PE.imp (pe_tup h.1) fun σ H Q ⟨ρ, h0, α, d, h', rs, mt, e, q⟩ => by
    obtain ⟨d1, h1, e1, e⟩ := bd_some e
    cases e
    refine ⟨ρ, h0, α, d1, _, rs, mt, e1, fun α1 H1 v1 x1 m1 r1 => ⟨by rw [r1.length, h.2 _ _ _ _ e1]; exact hl, fun p hp => ?_⟩⟩
    exact q α1 _ _ (x1.trans (Ex.grow hp)) (m1.grow hp) (new_tup hp r1)
theorem c_lst {m : MA} (h : CL X es m) (hl : es.length ≤ sizeLine := by decide) : CE X (.List es pos) (eLst m) :=
  PE.imp (pe_lst h.1) fun σ H Q ⟨ρ, h0, α, d, h', rs, mt, e, q⟩ => by
    obtain ⟨d1, h1, e1, e⟩ := bd_some e
    cases e
    refine ⟨ρ, h0, α, d1, _, rs, mt, e1, fun α1 H1 v1 x1 m1 r1 => ⟨by rw [r1.length, h.2 _ _ _ _ e1]; exact hl, fun p hp => ?_⟩⟩
    obtain ⟨α', x2, m2, r2⟩ := new_lst m1 hp r1
    exact q α' _ _ (x1.trans x2) m2 r2
/-! dicts -/
abbrev MP := MR (List (Key × D))
def relP (K : PySem.W.Frag) : Rl (List (Key × D)) (List (V × V)) := fun α L H kvs ps => ∃ ys : List (Key × V), ps = ys.map (fun kv => (kV kv.1, kv.2)) ∧ RepKV K α L H kvs ys
structure CP (X : Cx) (pos : Pos) (keys : List (Option Expr)) (values : List Expr) (m : MP) : Prop where
  ex : ∃ trs, PPs X pos keys values trs ∧ ∀ σ H Q, lift (relP X.K) X.K m σ H Q → tPairs trs σ H Q
  len : ∀ ρ h ds h', m ρ h = some (ds, h') → ds.length = keys.length
def pNil : MP := fun _ h => some ([], h)
def pCons (mk mv : ME) (mr : MP) : MP := fun ρ h => bd (mk ρ h) fun k h1 => bd (mv ρ h1) fun v h2 => bd (mr ρ h2) fun r h3 => match keyOf k with
  | some q => some ((q, v) :: r, h3)
  | none => none
theorem p_nil : CP X pos [] [] pNil := ⟨⟨[], pps_nil, fun σ H Q ⟨ρ, h, α, d, h', rs, mt, e, q⟩ => by cases e; exact q α H [] Ex.refl mt ⟨[], rfl, rfl, rfl⟩⟩, fun ρ h ds h' e => by cases e; rfl⟩
theorem p_cons {k v : Expr} {ks : List (Option Expr)} {vs : List Expr} {mk mv : ME} {mr : MP} (hk : CE X k mk) (hv : CE X v mv) (hr : CP X pos ks vs mr) : CP X pos (some k :: ks) (v :: vs) (pCons mk mv mr) := by
  obtain ⟨trs, ht, hi⟩ := hr.ex
  refine ⟨⟨_, pps_cons hk hv ht, fun σ H Q ⟨ρ, h, α, d, h', rs, mt, e, q⟩ => ?_⟩, fun ρ h ds h' e => ?_⟩
  · obtain ⟨d1, h1, e1, e⟩ := bd_some e
    obtain ⟨d2, h2, e2, e⟩ := bd_some e
    obtain ⟨d3, h3, e3, e⟩ := bd_some e
    split at e
    · next kq eq =>
      cases e
      refine ⟨ρ, h, α, d1, h1, rs, mt, e1, fun α1 H1 v1 x1 m1 r1 => ⟨ρ, h1, α1, d2, h2, rs.mono x1, m1, e2, fun α2 H2 v2 x2 m2 r2 => hi _ _ _ ⟨ρ, h2, α2, d3, _, (rs.mono x1).mono x2, m2, e3, fun α3 H3 v3 x3 m3 r3 => ?_⟩⟩⟩
      obtain ⟨ys, ey, rk⟩ := r3
      refine q α3 H3 _ (x1.trans (x2.trans x3)) m3 ⟨(kq, v2) :: ys, ?_, ?_, ?_⟩
      · rw [List.map_cons, ← ey, key_rep eq r1]
      · rw [List.map_cons, List.map_cons, rk.1]
      · rw [List.map_cons, List.map_cons]; exact ⟨_, _, rfl, x3.rep r2, rk.2⟩
    · cases e
  · obtain ⟨d1, h1, e1, e⟩ := bd_some e
    obtain ⟨d2, h2, e2, e⟩ := bd_some e
    obtain ⟨d3, h3, e3, e⟩ := bd_some e
    split at e
    · cases e; rw [List.length_cons, List.length_cons, hr.len _ _ _ _ e3]
    · cases e
def mergeD (kvs more : List (Key × D)) : List (Key × D) := more.foldl (fun acc kv => putD acc kv.1 kv.2) kvs
theorem repKV_nil_of {K : PySem.W.Frag} {α : Al} {L : Nat} {H : Hp} {ys : List (Key × V)} (r : RepKV K α L H [] ys) : ys = [] := by
  cases ys with
  | nil => rfl
  | cons _ _ => cases r.1
theorem repKV_merge {K : PySem.W.Frag} {α : Al} {L : Nat} {H : Hp} : ∀ {more : List (Key × D)} {my : List (Key × V)} {kvs : List (Key × D)} {ys : List (Key × V)}, RepKV K α L H more my → RepKV K α L H kvs ys → RepKV K α L H (mergeD kvs more) (mergeK ys my)
  | [], my, kvs, ys, r, q => by rw [repKV_nil_of r]; exact q
  | (k, d) :: more, [], kvs, ys, ⟨r, _⟩, q => nomatch r
  | (k, d) :: more, (k2, v) :: my, kvs, ys, ⟨r1, r2⟩, q => by
    simp only [List.map_cons, List.cons.injEq] at r1
    obtain ⟨x, zs, e, r3, r4⟩ := r2
    simp only [List.map_cons, List.cons.injEq] at e
    have k1 : k = k2 := r1.1
    subst k1
    exact repKV_merge (more := more) (my := my) ⟨r1.2, by rw [e.2]; exact r4⟩ (repKV_put q (by rw [show v = x from e.1]; exact r3))
def eDict (m : MP) : ME := fun ρ h => bd (m ρ h) fun kvs h1 => some (.ref h1.length, h1 ++ [.dct (mergeD [] kvs)])
theorem c_dict {keys : List (Option Expr)} {values : List Expr} {m : MP} (hp : CP X pos keys values m) (hall : keys.all (·.isSome) = true := by rfl) (hl : keys.length = values.length := by rfl) (h0 : keys ≠ [] := by exact fun z => nomatch z) (h15 : keys.length ≤ 15 := by decide) : CE X (.Dict keys values pos) (eDict m) := by
  obtain ⟨trs, ht, hi⟩ := hp.ex
  refine PE.imp (pe_disp ht hall hl h0 h15) fun σ H Q ⟨ρ, h, α, d, h', rs, mt, e, q⟩ => ?_
  obtain ⟨kvs, h1, e1, e⟩ := bd_some e
  cases e
  intro p np
  refine hi _ _ _ ⟨ρ, h, α, kvs, _, rs.mono (Ex.grow np), mt.grow np, e1, fun α2 H2 v2 x2 m2 r2 => ?_⟩
  obtain ⟨ys, ey, rk⟩ := r2
  have a0 : Aside α (upd H p (.dK [])) h p := Aside.new mt np (fun _ z => nomatch z) (fun _ _ z => nomatch z) (fun _ z => nomatch z)
  obtain ⟨e2, a2⟩ := a0.later upd_same x2
  refine ⟨e2, ys, ey, by rw [repKV_len rk, hp.len _ _ _ _ e1]; exact h15, ?_⟩
  have hx := Ex.late (o := .dK (mergeK [] ys)) (ao := .dct (mergeD [] kvs)) np ((Ex.grow np).trans x2) a2 ⟨_, e2⟩
  obtain ⟨_, pr⟩ := a2.put (o := .dK (mergeK [] ys)) m2 ⟨_, e2⟩
  have hm := m2.late (o := .dK (mergeK [] ys)) (ao := .dct (mergeD [] kvs)) a2 ⟨_, e2⟩ ⟨_, upd_same, by
    have rk2 : RepKV X.K α2 h1.length (upd H2 p (.dK (mergeK [] ys))) kvs ys := ⟨rk.1, reps_mono (Nat.le_refl _) (fun _ _ => rfl) (fun b xs s => by
      rcases s with s | s
      · exact .inl ((a2.ex ⟨_, e2⟩).1 b xs s)
      · exact .inr s) _ _ rk.2⟩
    exact repKV_merge rk2 ⟨rfl, rfl⟩⟩
  exact q _ _ _ hx hm ⟨by rw [len_snoc]; exact Nat.lt_succ_self _, by rw [al1_same]⟩
theorem c_dict0 : CE X (.Dict [] [] pos) (fun _ h => some (.ref h.length, h ++ [.dct []])) :=
  PE.imp pe_dnewK fun σ H Q ⟨ρ, h, α, d, h', rs, mt, e, q⟩ => by
    cases e
    intro p np
    exact q _ _ _ (Ex.alloc np) (mt.alloc np ⟨[], upd_same, rfl, rfl⟩) ⟨by rw [len_snoc]; exact Nat.lt_succ_self _, by rw [al1_same]⟩

theorem repKV_get {K : PySem.W.Frag} {α : Al} {L : Nat} {H : Hp} {kvs : List (Key × D)} {ys : List (Key × V)} {k : Key} {d : D} (r : RepKV K α L H kvs ys) (e : valD kvs k = some d) : ∃ v, valV ys k = some v ∧ Rep K α L H d v := by
  have := repKV_val (k := k) r
  rw [e] at this
  exact this
/-! ### subscripts, slices -/
def subG' : GO
  | .tup ds, .int i, h => match atI ds i with
    | some d => some (d, h)
    | none => none
  | .str z, .int i, h => if z.length ≤ sizeLine then match atI z.cps.toList i with
    | some c => some (.str ⟨#[c]⟩, h)
    | none => none
    else none
  | .ref n, y, h => match h[n]? with
    | some (.dct kvs) => match keyOf y with
      | some k => match valD kvs k with
        | some d => some (d, h)
        | none => none
      | none => none
    | some (.lst ds) => match y with
      | .int i => match atI ds i with
        | some d => some (d, h)
        | none => none
      | _ => none
    | some (.fz ds) => match y with
      | .int i => match atI ds i with
        | some d => some (d, h)
        | none => none
      | _ => none
    | _ => none
  | _, _, _ => none
theorem atI_rep {K : PySem.W.Frag} {α : Al} {L : Nat} {H : Hp} {ds : List D} {vs : List V} {i : Int} {d : D} (r : Reps K α L H ds vs) (e : atI ds i = some d) : ∃ v, atI vs i = some v ∧ Rep K α L H d v := by
  unfold atI at e ⊢
  rw [r.length]
  cases q : ixN ds.length i with
  | none => rw [q] at e; cases e
  | some j => rw [q] at e; exact r.get e
theorem PE.or {t t' : TE} (h : PE X e t) (h' : PE X e t') : PE X e (fun σ H Q => t σ H Q ∨ t' σ H Q) := ⟨fun pins s σ H Q I q => by
  rcases q with q | q
  · exact h.run pins s σ H Q I q
  · exact h'.run pins s σ H Q I q⟩
theorem c_sub (hu : X.A.units + 64 < cLine) (ha : CE X a ma) (hb : CE X b mb) (hs : PlainIx b := by exact fun _ _ => rfl) (hs2 : NoSl b := by exact fun _ _ => rfl) : CE X (.Subscript a b pos) (eOp subG' ma mb) := by
  refine PE.imp (PE.or (pe_ix ix_seq ha hb hs) (pe_dget (by omega) ha hb hs2)) fun σ H Q t => ?_
  have t2 := t
  obtain ⟨ρ, h, α, d, h', rs, mt, e, q⟩ := t
  obtain ⟨d1, h1, e1, e⟩ := bd_some e
  obtain ⟨d2, h2, e2, e⟩ := bd_some e
  unfold subG' at e
  split at e
  · split at e
    · next e3 =>
      cases e
      refine .inl ⟨ρ, h, α, _, h1, rs, mt, e1, fun α1 H1 v1 x1 m1 r1 => ⟨ρ, h1, α1, _, _, rs.mono x1, m1, e2, fun α2 H2 v2 x2 m2 r2 => ?_⟩⟩
      obtain ⟨p, xs, rfl, sq, rr⟩ := x2.rep r1
      obtain ⟨v, e4, r4⟩ := atI_rep rr e3
      exact .inr (.inl ⟨p, xs, _, v, rfl, r2, sq.seq, e4, q α2 H2 v (x1.trans x2) m2 r4⟩)
    · cases e
  · split at e
    · next c =>
      split at e
      · next e3 =>
        cases e
        refine .inl ⟨ρ, h, α, _, h1, rs, mt, e1, fun α1 H1 v1 x1 m1 r1 => ⟨ρ, h1, α1, _, _, rs.mono x1, m1, e2, fun α2 H2 v2 x2 m2 r2 => ?_⟩⟩
        exact .inr (.inr ⟨_, _, _, r1, r2, c, e3, q α2 H2 _ (x1.trans x2) m2 rfl⟩)
      · cases e
    · cases e
  · split at e
    · next e0 =>
      split at e
      · next e3 =>
        split at e
        · next e4 =>
          cases e
          refine .inr ⟨ρ, h, α, _, h1, rs, mt, e1, fun α1 H1 v1 x1 m1 r1 => ⟨ρ, h1, α1, _, _, rs.mono x1, m1, e2, fun α2 H2 v2 x2 m2 r2 => ?_⟩⟩
          obtain ⟨_, rfl⟩ := x2.rep r1
          obtain ⟨ys, a1, rk⟩ := m2.at_ _ _ e0
          obtain ⟨v, e5, r5⟩ := repKV_get rk e4
          exact ⟨_, v, rfl, by rw [key_rep e3 r2, ← e5]; exact DGet.k a1, q α2 H2 v (x1.trans x2) m2 r5⟩
        · cases e
      · cases e
    · next e0 =>
      split at e
      · split at e
        · next e3 =>
          cases e
          refine .inl ⟨ρ, h, α, _, h1, rs, mt, e1, fun α1 H1 v1 x1 m1 r1 => ⟨ρ, h1, α1, _, _, rs.mono x1, m1, e2, fun α2 H2 v2 x2 m2 r2 => ?_⟩⟩
          obtain ⟨_, rfl⟩ := x2.rep r1
          obtain ⟨xs, a1, rk⟩ := m2.at_ _ _ e0
          obtain ⟨v, e4, r4⟩ := atI_rep rk e3
          exact .inl ⟨_, xs, _, v, rfl, r2, SqL.of a1, e4, q α2 H2 v (x1.trans x2) m2 r4⟩
        · cases e
      · cases e
    · next e0 =>
      split at e
      · split at e
        · next e3 =>
          cases e
          refine .inl ⟨ρ, h, α, _, h1, rs, mt, e1, fun α1 H1 v1 x1 m1 r1 => ⟨ρ, h1, α1, _, _, rs.mono x1, m1, e2, fun α2 H2 v2 x2 m2 r2 => ?_⟩⟩
          obtain ⟨_, rfl⟩ := x2.rep r1
          obtain ⟨xs, a1, rk⟩ := m2.at_ _ _ e0
          obtain ⟨v, e4, r4⟩ := atI_rep rk e3
          exact .inl ⟨_, xs, _, v, rfl, r2, a1.seq, e4, q α2 H2 v (x1.trans x2) m2 r4⟩
        · cases e
      · cases e
    · cases e
  · cases e
abbrev MO := MR (Option Int)
def CPo (X : Cx) (e : Option Expr) (m : MO) : Prop := PO X e (lift (fun _ _ _ d v => v = d) X.K m)
def oNone : MO := fun _ h => some (none, h)
def oSome (m : ME) : MO := fun ρ h => match m ρ h with
  | some (.int i, h1) => some (some i, h1)
  | _ => none
theorem PO.imp {o : Option Expr} {t t' : TO} (h : PO X o t) (i : ∀ σ H Q, t' σ H Q → t σ H Q) : PO X o t' := ⟨fun pins s σ H Q I q => h.run pins s σ H Q I (i _ _ _ q)⟩
theorem o_none : CPo X none oNone := PO.imp po_none fun σ H Q ⟨ρ, h, α, d, h', rs, mt, e, q⟩ => by cases e; exact q α H none Ex.refl mt rfl
theorem o_some (ha : CE X a ma) : CPo X (some a) (oSome ma) := PO.imp (po_some ha) fun σ H Q ⟨ρ, h, α, d, h', rs, mt, e, q⟩ => by
  unfold oSome at e
  split at e
  · next e1 => cases e; exact ⟨ρ, h, α, _, _, rs, mt, e1, fun α1 H1 v1 x1 m1 r1 => ⟨_, r1, q α1 H1 _ x1 m1 rfl⟩⟩
  · cases e
def cutD (xs : List D) (lo hi : Option Int) : List D := (xs.drop (HT.sIx xs.length 0 lo)).take (HT.sIx xs.length xs.length hi - HT.sIx xs.length 0 lo)
theorem reps_cut {K : PySem.W.Frag} {α : Al} {L : Nat} {H : Hp} {ds : List D} {vs : List V} (r : Reps K α L H ds vs) (lo hi : Option Int) : Reps K α L H (cutD ds lo hi) (cutV vs lo hi) := by
  unfold cutD cutV
  rw [r.length]
  exact (r.drop _).take _
def slG : D → Option Int → Option Int → Hs → Option (D × Hs)
  | .ref n, lo, hi, h => match getL h n with
    | some ds => some (.ref h.length, h ++ [.lst (cutD ds lo hi)])
    | none => none
  | .str z, lo, hi, h => if z.length ≤ sizeLine then some (.str (cutS z lo hi), h) else none
  | .tup ds, lo, hi, h => some (.tup (cutD ds lo hi), h)
  | _, _, _, _ => none
def eSl (m : ME) (l u : MO) : ME := fun ρ h => bd (m ρ h) fun d h1 => bd (l ρ h1) fun lo h2 => bd (u ρ h2) fun hi h3 => slG d lo hi h3
theorem c_slice {lo hi : Option Expr} {l u : MO} {p2 : Pos} (ha : CE X a ma) (hl : CPo X lo l) (hh : CPo X hi u) : CE X (.Subscript a (.Slice lo hi none p2) pos) (eSl ma l u) :=
  PE.imp (pe_slice (SlR.or sl_list (SlR.or sl_str sl_tupA)) ha hl hh) fun σ H Q ⟨ρ, h, α, d, h', rs, mt, e, q⟩ => by
    obtain ⟨d1, h1, e1, e⟩ := bd_some e
    obtain ⟨d2, h2, e2, e⟩ := bd_some e
    obtain ⟨d3, h3, e3, e⟩ := bd_some e
    refine ⟨ρ, h, α, d1, h1, rs, mt, e1, fun α1 H1 v1 x1 m1 r1 => ⟨ρ, h1, α1, d2, h2, rs.mono x1, m1, e2, fun α2 H2 v2 x2 m2 r2 => ⟨ρ, h2, α2, d3, h3, (rs.mono x1).mono x2, m2, e3, fun α3 H3 v3 x3 m3 r3 => ?_⟩⟩⟩
    subst r2
    subst r3
    have r4 := (x2.trans x3).rep r1
    unfold slG at e
    split at e
    · split at e
      · next e4 =>
        cases e
        obtain ⟨_, rfl⟩ := r4
        obtain ⟨xs, sq, rr⟩ := m3.getL e4
        refine .inl ⟨_, xs, rfl, sq, fun p hp => ?_⟩
        obtain ⟨α', x4, m4, r5⟩ := new_lst m3 hp (reps_cut rr _ _)
        exact q α' _ _ (x1.trans (x2.trans (x3.trans x4))) m4 r5
      · cases e
    · split at e
      · next c => cases e; exact .inr (.inl ⟨_, r4, c, q α3 H3 _ (x1.trans (x2.trans x3)) m3 rfl⟩)
      · cases e
    · cases e
      obtain ⟨p, xs, rfl, sq, rr⟩ := r4
      refine .inr (.inr ⟨p, xs, rfl, sq.seq, ?_, ?_⟩)
      · intro ⟨c1, c2⟩
        rw [rr.length] at c1 c2
        refine q α3 _ _ (x1.trans (x2.trans x3)) m3 ⟨p, xs, rfl, sq, ?_⟩
        unfold cutD
        rw [c1, c2, List.drop_zero, Nat.sub_zero, List.take_length]
        exact rr
      · intro _ p2 hp
        exact q α3 _ _ (x1.trans (x2.trans (x3.trans (Ex.grow hp)))) (m3.grow hp) (new_tup hp (reps_cut rr _ _))
    · cases e
end
end SL
namespace SL
open PySem PySem.Spec PyProof.Rows L2

/-! ### calls by values -/
abbrev GC := List D → Hs → Option (D × Hs)
abbrev GM := D → List D → Hs → Option (D × Hs)
def lC (K : PySem.W.Frag) (g : GC) : List V → Hp → VK → Prop := fun vs H Q =>
  ∃ h α ds d h', Mt K α H h ∧ Reps K α h.length H ds vs ∧ g ds h = some (d, h') ∧ ∀ α' H' v, Ex α H h α' H' h' → Mt K α' H' h' → Rep K α' h'.length H' d v → Q v H'
def lM (K : PySem.W.Frag) (g : GM) : V → List V → Hp → VK → Prop := fun x vs H Q =>
  ∃ h α dx ds d h', Mt K α H h ∧ Rep K α h.length H dx x ∧ Reps K α h.length H ds vs ∧ g dx ds h = some (d, h') ∧ ∀ α' H' v, Ex α H h α' H' h' → Mt K α' H' h' → Rep K α' h'.length H' d v → Q v H'
def lF (K : PySem.W.Frag) (g : GC) : Sp := fun vs H Q _ => lC K g vs H Q
def CB (X : Cx) (f : Value) (g : GC) : Prop := CallR X f (lC X.K g)
def CM (X : Cx) (id : String) (g : GM) : Prop := MtR X id (lM X.K g)
def eCall (g : GC) (m : MA) : ME := fun ρ h => bd (m ρ h) fun ds h1 => g ds h1
theorem call_seq {K : PySem.W.Frag} {g : GC} {m : MA} {σ : L2.St} {H : Hp} {Q : VK} (t : lE K (eCall g m) σ H Q) : lA K m σ H fun vs H1 => lC K g vs H1 Q := by
  obtain ⟨ρ, h, α, d, h', rs, mt, e, q⟩ := t
  obtain ⟨d1, h1, e1, e2⟩ := bd_some e
  exact ⟨ρ, h, α, d1, h1, rs, mt, e1, fun α1 H1 v1 x1 m1 r1 => ⟨h1, α1, d1, d, h', m1, r1, e2, fun α2 H2 v2 x2 m2 r2 => q α2 H2 v2 (x1.trans x2) m2 r2⟩⟩
/-- a def that may be called -/
structure Cal (P : Program) (w : World) (K : PySem.W.Frag) (mg : Str → Option Value) (base : Heap) (k : Nat) (x : Str) (g : GC) : Prop where
  ex : ∃ (a : Addr) (fd : FuncData) (ps : List Str), FnOk P w K mg base CX0 k a fd ps (lF K g) ∧ mg x = some (.ref a) ∧ PySem.W.keepIn K (.ref a) = true ∧ Binds K fd ps []
theorem Cal.mono {P : Program} {w : World} {K : PySem.W.Frag} {mg : Str → Option Value} {base : Heap} {j k : Nat} {x : Str} {g : GC} (c : Cal P w K mg base j x g) (h : j ≤ k) : Cal P w K mg base k x g := by
  obtain ⟨a, fd, ps, F, e1, e2, e3⟩ := c.ex
  exact ⟨a, fd, ps, F.mono h, e1, e2, e3⟩
section
variable {X : Cx} {e a b c : Expr} {ma mb mc : ME} {pos p : Pos} {es : List Expr} {x : Str} {m : MA} {g : GC} {k : Nat}
theorem c_call (c : Cal X.prog X.w X.K X.mg X.base k x g) (hr : Room k X.A) (ha : CL X (e :: es) m) (hg : Gl X x := by rfl) (hdb : (x == ("__debug__" : Str)) = false := by decide) (he : starEach (e :: es) X.env = (false, eval e X.env) :: starEach es X.env := by rfl)
    (hpl : (backTo pos (starEach es X.env)).any (·.1) = false := by rfl) : CE X (.Call (.Name x p) (e :: es) [] pos) (eCall g m) := by
  obtain ⟨f, fd, ps, F, e1, e2, e3⟩ := c.ex
  refine PE.imp (pe_call F hr hg e1 e2 e3 .nil pass0 ha.1 hdb he hpl) fun σ H Q t => ?_
  have t2 := call_seq t
  show lA X.K m σ H fun vs H1 => lC X.K g (vs ++ []) H1 Q
  obtain ⟨ρ, h, α, d, h', rs, mt, e, q⟩ := t2
  exact ⟨ρ, h, α, d, h', rs, mt, e, fun α1 H1 v1 x1 m1 r1 => by
    show lC X.K g (v1 ++ []) H1 Q
    rw [List.append_nil]; exact q α1 H1 v1 x1 m1 r1⟩
theorem c_call0 (c : Cal X.prog X.w X.K X.mg X.base k x g) (hr : Room k X.A) (hg : Gl X x := by rfl) (hdb : (x == ("__debug__" : Str)) = false := by decide) : CE X (.Call (.Name x p) [] [] pos) (eCall g aNil) := by
  obtain ⟨f, fd, ps, F, e1, e2, e3⟩ := c.ex
  refine PE.imp (pe_call0 F hr hg e1 e2 e3 .nil pass0 hdb) fun σ H Q t => ?_
  obtain ⟨ρ, h, α, d, h', rs, mt, e, q⟩ := t
  exact ⟨h, α, [], d, h', mt, rfl, e, q⟩
theorem c_callB {id : String} (hc : CB X (.builtin id) g) (hm : X.mg x = none) (hv : bootBuiltins x = some (.builtin id)) (ha : CL X (e :: es) m) (hg : Gl X x := by rfl) (hn : x ≠ "__name__" := by decide) (hdb : (x == ("__debug__" : Str)) = false := by decide)
    (he : starEach (e :: es) X.env = (false, eval e X.env) :: starEach es X.env := by rfl) (hpl : (backTo pos (starEach es X.env)).any (·.1) = false := by rfl) : CE X (.Call (.Name x p) (e :: es) [] pos) (eCall g m) :=
  PE.imp (pe_callB hc hg hm hv ha.1 hn hdb he hpl) fun σ H Q t => call_seq t
theorem c_callTy {T : String} (hc : CB X (.type T) g) (hm : X.mg x = none) (hv : bootBuiltins x = some (.type T)) (ha : CL X (e :: es) m) (hg : Gl X x := by rfl) (hn : x ≠ "__name__" := by decide) (hdb : (x == ("__debug__" : Str)) = false := by decide)
    (he : starEach (e :: es) X.env = (false, eval e X.env) :: starEach es X.env := by rfl) (hpl : (backTo pos (starEach es X.env)).any (·.1) = false := by rfl) : CE X (.Call (.Name x p) (e :: es) [] pos) (eCall g m) :=
  PE.imp (pe_callTy hc hg hm hv ha.1 hn hdb he hpl) fun σ H Q t => call_seq t
theorem CallR.imp {f : Value} {r r' : List V → Hp → VK → Prop} (h : CallR X f r) (i : ∀ xs H Q, r' xs H Q → r xs H Q) : CallR X f r' := fun pins s σ H xs us Q I r q => h pins s σ H xs us Q I r (i _ _ _ q)
theorem MtR.imp {id : String} {r r' : V → List V → Hp → VK → Prop} (h : MtR X id r) (i : ∀ x xs H Q, r' x xs H Q → r x xs H Q) : MtR X id r' := fun pins s σ H x xs v us Q I r rs q => h pins s σ H x xs v us Q I r rs (i _ _ _ _ q)

/-! ### builtins -/
theorem reps1 {K : PySem.W.Frag} {α : Al} {L : Nat} {H : Hp} {d : D} {vs : List V} (r : Reps K α L H [d] vs) : ∃ v, vs = [v] ∧ Rep K α L H d v := by
  obtain ⟨x, ys, rfl, r1, rfl⟩ := r
  exact ⟨x, rfl, r1⟩
theorem reps2 {K : PySem.W.Frag} {α : Al} {L : Nat} {H : Hp} {d d2 : D} {vs : List V} (r : Reps K α L H [d, d2] vs) : ∃ v w, vs = [v, w] ∧ Rep K α L H d v ∧ Rep K α L H d2 w := by
  obtain ⟨x, ys, rfl, r1, y, zs, rfl, r2, rfl⟩ := r
  exact ⟨x, y, rfl, r1, r2⟩
def intsD : List D → Option (List Int)
  | [] => some []
  | .int i :: r => match intsD r with
    | some ns => some (i :: ns)
    | none => none
  | _ :: _ => none
theorem intsD_eq : ∀ {ds : List D} {ns : List Int}, intsD ds = some ns → ds = ns.map D.int
  | [], ns, e => by cases e; rfl
  | d :: ds, ns, e => by
    unfold intsD at e
    split at e
    · next h => cases h
    · next h =>
      cases h
      split at e
      · next e2 => cases e; rw [intsD_eq e2]; rfl
      · cases e
    · cases e
@[simp] theorem intsD_map (ns : List Int) : intsD (ns.map D.int) = some ns := by
  induction ns with
  | nil => rfl
  | cons n ns ih => simp only [List.map_cons, intsD, ih]
def blsD : List D → Option (List Bool)
  | [] => some []
  | .bl i :: r => match blsD r with
    | some ns => some (i :: ns)
    | none => none
  | _ :: _ => none
theorem blsD_eq : ∀ {ds : List D} {ns : List Bool}, blsD ds = some ns → ds = ns.map D.bl
  | [], ns, e => by cases e; rfl
  | d :: ds, ns, e => by
    unfold blsD at e
    split at e
    · next h => cases h
    · next h =>
      cases h
      split at e
      · next e2 => cases e; rw [blsD_eq e2]; rfl
      · cases e
    · cases e
@[simp] theorem blsD_map (ns : List Bool) : blsD (ns.map D.bl) = some ns := by
  induction ns with
  | nil => rfl
  | cons n ns ih => simp only [List.map_cons, blsD, ih]
def strsD : List D → Option (List Str)
  | [] => some []
  | .str i :: r => match strsD r with
    | some ns => some (i :: ns)
    | none => none
  | _ :: _ => none
theorem strsD_eq : ∀ {ds : List D} {ns : List Str}, strsD ds = some ns → ds = ns.map D.str
  | [], ns, e => by cases e; rfl
  | d :: ds, ns, e => by
    unfold strsD at e
    split at e
    · next h => cases h
    · next h =>
      cases h
      split at e
      · next e2 => cases e; rw [strsD_eq e2]; rfl
      · cases e
    · cases e
@[simp] theorem strsD_map (ns : List Str) : strsD (ns.map D.str) = some ns := by
  induction ns with
  | nil => rfl
  | cons n ns ih => simp only [List.map_cons, strsD, ih]
def absG : GC
  | [.int i], h => some (.int (if i < 0 then -i else i), h)
  | _, _ => none
theorem cb_abs : CB X (.builtin "abs") absG := CallR.imp call_abs fun xs H Q ⟨h, α, ds, d, h', mt, r, e, q⟩ => by
  unfold absG at e
  split at e
  · cases e; obtain ⟨v, rfl, r1⟩ := reps1 r; cases r1; exact ⟨_, rfl, q α H _ Ex.refl mt rfl⟩
  · cases e
def lenG : GC
  | [.str s], h => if s.length ≤ sizeLine then some (.int s.length, h) else none
  | [.tup ds], h => some (.int ds.length, h)
  | [.ref n], h => match getL h n with
    | some ds => some (.int ds.length, h)
    | none => match h[n]? with
      | some (.dct kvs) => some (.int kvs.length, h)
      | _ => none
  | _, _ => none
theorem call_lenDct : CallR X (.builtin "len") (fun xs H Q => ∃ a kvs, xs = [.ref a] ∧ H a = some (.dK kvs) ∧ Q (.int kvs.length) H) := by
  intro pins s σ H xs us Q I r h
  obtain ⟨a, kvs, rfl, e, q⟩ := h
  obtain ⟨u, rfl, r1⟩ := vals1 r
  cases r1
  exact d_len I (.inl e) fun t s' I' => ⟨.int kvs.length, H, I', ⟨t, rfl⟩, q⟩
theorem cb_len : CB X (.builtin "len") lenG := CallR.imp (CallR.or call_len call_lenDct) fun xs H Q ⟨h, α, ds, d, h', mt, r, e, q⟩ => by
  unfold lenG at e
  split at e
  · split at e
    · next c => cases e; obtain ⟨v, rfl, r1⟩ := reps1 r; cases r1; exact .inl ⟨_, _, rfl, ⟨c, rfl⟩, q α H _ Ex.refl mt rfl⟩
    · cases e
  · cases e; obtain ⟨v, rfl, a, xs, rfl, sq, rr⟩ := reps1 r; exact .inl ⟨_, _, rfl, .inr ⟨xs, sq.seq, rr.length.symm⟩, q α H _ Ex.refl mt rfl⟩
  · split at e
    · next e1 => cases e; obtain ⟨v, rfl, _, rfl⟩ := reps1 r; obtain ⟨xs, sq, rr⟩ := mt.getL e1; exact .inl ⟨_, _, rfl, .inl ⟨xs, sq, rr.length.symm⟩, q α H _ Ex.refl mt rfl⟩
    · split at e
      · next e1 =>
        cases e; obtain ⟨v, rfl, _, rfl⟩ := reps1 r; obtain ⟨ys, sq, rr⟩ := mt.at_ _ _ e1
        exact .inr ⟨_, ys, rfl, sq, by rw [repKV_len rr]; exact q α H _ Ex.refl mt rfl⟩
      · cases e
  · cases e
def minL : List Int → Int
  | [] => 0
  | x :: xs => xs.foldl (fun a b => if b < a then b else a) x
def maxL : List Int → Int
  | [] => 0
  | x :: xs => xs.foldl (fun a b => if b > a then b else a) x
theorem foldmin : ∀ (xs : List Int) (x : Int), (xs.foldl (fun a b => if b < a then b else a) x = x ∨ xs.foldl (fun a b => if b < a then b else a) x ∈ xs) ∧ xs.foldl (fun a b => if b < a then b else a) x ≤ x ∧ ∀ y ∈ xs, xs.foldl (fun a b => if b < a then b else a) x ≤ y
  | [], x => ⟨.inl rfl, Int.le_refl _, fun y hy => by cases hy⟩
  | z :: xs, x => by
    obtain ⟨h1, h2, h3⟩ := foldmin xs (if z < x then z else x)
    simp only [List.foldl_cons]
    refine ⟨?_, ?_, fun y hy => ?_⟩
    · rcases h1 with h1 | h1
      · rw [h1]; split
        · exact .inr List.mem_cons_self
        · exact .inl rfl
      · exact .inr (List.mem_cons_of_mem _ h1)
    · refine Int.le_trans h2 ?_; split <;> omega
    · rcases List.mem_cons.mp hy with rfl | hy
      · refine Int.le_trans h2 ?_; split <;> omega
      · exact h3 y hy
theorem foldmax : ∀ (xs : List Int) (x : Int), (xs.foldl (fun a b => if b > a then b else a) x = x ∨ xs.foldl (fun a b => if b > a then b else a) x ∈ xs) ∧ x ≤ xs.foldl (fun a b => if b > a then b else a) x ∧ ∀ y ∈ xs, y ≤ xs.foldl (fun a b => if b > a then b else a) x
  | [], x => ⟨.inl rfl, Int.le_refl _, fun y hy => by cases hy⟩
  | z :: xs, x => by
    obtain ⟨h1, h2, h3⟩ := foldmax xs (if z > x then z else x)
    simp only [List.foldl_cons]
    refine ⟨?_, ?_, fun y hy => ?_⟩
    · rcases h1 with h1 | h1
      · rw [h1]; split
        · exact .inr List.mem_cons_self
        · exact .inl rfl
      · exact .inr (List.mem_cons_of_mem _ h1)
    · refine Int.le_trans ?_ h2; split <;> omega
    · rcases List.mem_cons.mp hy with rfl | hy
      · refine Int.le_trans ?_ h2; split <;> omega
      · exact h3 y hy
theorem minL_spec {ns : List Int} (h : ns ≠ []) : minL ns ∈ ns ∧ ∀ y ∈ ns, minL ns ≤ y := by
  cases ns with
  | nil => exact absurd rfl h
  | cons x xs =>
    obtain ⟨h1, h2, h3⟩ := foldmin xs x
    refine ⟨?_, fun y hy => ?_⟩
    · rcases h1 with h1 | h1
      · show xs.foldl _ x ∈ _; rw [h1]; exact List.mem_cons_self
      · exact List.mem_cons_of_mem _ h1
    · rcases List.mem_cons.mp hy with rfl | hy
      · exact h2
      · exact h3 y hy
theorem maxL_spec {ns : List Int} (h : ns ≠ []) : maxL ns ∈ ns ∧ ∀ y ∈ ns, y ≤ maxL ns := by
  cases ns with
  | nil => exact absurd rfl h
  | cons x xs =>
    obtain ⟨h1, h2, h3⟩ := foldmax xs x
    refine ⟨?_, fun y hy => ?_⟩
    · rcases h1 with h1 | h1
      · show xs.foldl _ x ∈ _; rw [h1]; exact List.mem_cons_self
      · exact List.mem_cons_of_mem _ h1
    · rcases List.mem_cons.mp hy with rfl | hy
      · exact h2
      · exact h3 y hy
def minG : GC
  | [.int i, .int j], h => some (.int (if j < i then j else i), h)
  | [.ref n], h => match getL h n with
    | some ds => match intsD ds with
      | some ns => if ns = [] then none else some (.int (minL ns), h)
      | none => none
    | none => none
  | _, _ => none
def maxG : GC
  | [.int i, .int j], h => some (.int (if j > i then j else i), h)
  | [.ref n], h => match getL h n with
    | some ds => match intsD ds with
      | some ns => if ns = [] then none else some (.int (maxL ns), h)
      | none => none
    | none => none
  | _, _ => none
theorem seq_ints {K : PySem.W.Frag} {α : Al} {H : Hp} {h : Hs} {n : Nat} {ds : List D} {ns : List Int} (mt : Mt K α H h) (e : getL h n = some ds) (e2 : intsD ds = some ns) : SqL K H (α n) (ns.map V.int) := by
  obtain ⟨xs, sq, rr⟩ := mt.getL e
  rw [intsD_eq e2] at rr
  rw [rr.ints] at sq
  exact sq
theorem seq_bls {K : PySem.W.Frag} {α : Al} {H : Hp} {h : Hs} {n : Nat} {ds : List D} {ns : List Bool} (mt : Mt K α H h) (e : getL h n = some ds) (e2 : blsD ds = some ns) : SqL K H (α n) (ns.map V.bl) := by
  obtain ⟨xs, sq, rr⟩ := mt.getL e
  rw [blsD_eq e2] at rr
  rw [rr.bls] at sq
  exact sq
theorem len_pos {ns : List Int} (h : ¬ ns = []) : 0 < ns.length := by
  cases ns with
  | nil => exact absurd rfl h
  | cons _ _ => exact Nat.succ_pos _
theorem cb_min (hc : X.calm = true) : CB X (.builtin "min") minG := CallR.imp (CallR.or (call_min2 hc) (cr_min hc)) fun xs H Q ⟨h, α, ds, d, h', mt, r, e, q⟩ => by
  unfold minG at e
  split at e
  · cases e; obtain ⟨v, w, rfl, r1, r2⟩ := reps2 r; cases r1; cases r2; exact .inl ⟨_, _, rfl, q α H _ Ex.refl mt rfl⟩
  · split at e
    · next e1 =>
      split at e
      · next e2 =>
        split at e
        · cases e
        · next c =>
          cases e; obtain ⟨v, rfl, _, rfl⟩ := reps1 r
          refine .inr ⟨_, _, rfl, seq_ints mt e1 e2, len_pos c, fun m hm hle => ?_⟩
          have s := minL_spec c
          rw [show m = minL _ from Int.le_antisymm (hle _ s.1) (s.2 _ hm)]
          exact q α H _ Ex.refl mt rfl
      · cases e
    · cases e
  · cases e
theorem cb_max (hc : X.calm = true) : CB X (.builtin "max") maxG := CallR.imp (CallR.or (call_max2 hc) (cr_max hc)) fun xs H Q ⟨h, α, ds, d, h', mt, r, e, q⟩ => by
  unfold maxG at e
  split at e
  · cases e; obtain ⟨v, w, rfl, r1, r2⟩ := reps2 r; cases r1; cases r2; exact .inl ⟨_, _, rfl, q α H _ Ex.refl mt rfl⟩
  · split at e
    · next e1 =>
      split at e
      · next e2 =>
        split at e
        · cases e
        · next c =>
          cases e; obtain ⟨v, rfl, _, rfl⟩ := reps1 r
          refine .inr ⟨_, _, rfl, seq_ints mt e1 e2, len_pos c, fun m hm hle => ?_⟩
          have s := maxL_spec c
          rw [show m = maxL _ from Int.le_antisymm (s.2 _ hm) (hle _ s.1)]
          exact q α H _ Ex.refl mt rfl
      · cases e
    · cases e
  · cases e
def intG : GC
  | [.int i], h => some (.int i, h)
  | [.bl k], h => some (.int (if k then 1 else 0), h)
  | [.str s], h => if s.length ≤ 640 then match PySem.intText? s with
    | some n => some (.int n, h)
    | none => none
    else none
  | _, _ => none
theorem cb_int : CB X (.type "int") intG := CallR.imp (CallR.or call_int1 call_int_str) fun xs H Q ⟨h, α, ds, d, h', mt, r, e, q⟩ => by
  unfold intG at e
  split at e
  · cases e; obtain ⟨v, rfl, r1⟩ := reps1 r; cases r1; exact .inl (.inl ⟨_, rfl, q α H _ Ex.refl mt rfl⟩)
  · cases e; obtain ⟨v, rfl, r1⟩ := reps1 r; cases r1; exact .inl (.inr ⟨_, rfl, q α H _ Ex.refl mt rfl⟩)
  · split at e
    · next c =>
      split at e
      · next e1 => cases e; obtain ⟨v, rfl, r1⟩ := reps1 r; cases r1; exact .inr ⟨_, _, rfl, e1, c, q α H _ Ex.refl mt rfl⟩
      · cases e
    · cases e
  · cases e
def boolG : GC
  | [.int i], h => some (.bl (i != 0), h)
  | [.bl k], h => some (.bl k, h)
  | _, _ => none
theorem cb_bool : CB X (.type "bool") boolG := CallR.imp call_bool1 fun xs H Q ⟨h, α, ds, d, h', mt, r, e, q⟩ => by
  unfold boolG at e
  split at e
  · cases e; obtain ⟨v, rfl, r1⟩ := reps1 r; cases r1; exact .inl ⟨_, rfl, q α H _ Ex.refl mt rfl⟩
  · cases e; obtain ⟨v, rfl, r1⟩ := reps1 r; cases r1; exact .inr ⟨_, rfl, q α H _ Ex.refl mt rfl⟩
  · cases e
def strG : GC
  | [.int i], h => if i.natAbs.log2 < 1920 then some (.str (toString i), h) else none
  | _, _ => none
theorem cb_str : CB X (.type "str") strG := CallR.imp call_str_int fun xs H Q ⟨h, α, ds, d, h', mt, r, e, q⟩ => by
  unfold strG at e
  split at e
  · split at e
    · next c => cases e; obtain ⟨v, rfl, r1⟩ := reps1 r; cases r1; exact ⟨_, rfl, c, q α H _ Ex.refl mt rfl⟩
    · cases e
  · cases e
def sumG : GC
  | [.ref n], h => match getL h n with
    | some ds => match intsD ds with
      | some ns => some (.int ns.sum, h)
      | none => none
    | none => none
  | _, _ => none
theorem cb_sum (hc : X.calm = true) : CB X (.builtin "sum") sumG := CallR.imp (cr_sum hc) fun xs H Q ⟨h, α, ds, d, h', mt, r, e, q⟩ => by
  unfold sumG at e
  split at e
  · split at e
    · next e1 =>
      split at e
      · next e2 => cases e; obtain ⟨v, rfl, _, rfl⟩ := reps1 r; exact ⟨_, _, rfl, seq_ints mt e1 e2, q α H _ Ex.refl mt rfl⟩
      · cases e
    · cases e
  · cases e
def allG : GC
  | [.ref n], h => match getL h n with
    | some ds => match blsD ds with
      | some ns => some (.bl (ns.all id), h)
      | none => none
    | none => none
  | _, _ => none
def anyG : GC
  | [.ref n], h => match getL h n with
    | some ds => match blsD ds with
      | some ns => some (.bl (ns.any id), h)
      | none => none
    | none => none
  | _, _ => none
theorem cb_all (hc : X.calm = true) : CB X (.builtin "all") allG := CallR.imp (cr_all hc) fun xs H Q ⟨h, α, ds, d, h', mt, r, e, q⟩ => by
  unfold allG at e
  split at e
  · split at e
    · next e1 =>
      split at e
      · next e2 => cases e; obtain ⟨v, rfl, _, rfl⟩ := reps1 r; exact ⟨_, _, rfl, seq_bls mt e1 e2, q α H _ Ex.refl mt rfl⟩
      · cases e
    · cases e
  · cases e
theorem cb_any (hc : X.calm = true) : CB X (.builtin "any") anyG := CallR.imp (cr_any hc) fun xs H Q ⟨h, α, ds, d, h', mt, r, e, q⟩ => by
  unfold anyG at e
  split at e
  · split at e
    · next e1 =>
      split at e
      · next e2 => cases e; obtain ⟨v, rfl, _, rfl⟩ := reps1 r; exact ⟨_, _, rfl, seq_bls mt e1 e2, q α H _ Ex.refl mt rfl⟩
      · cases e
    · cases e
  · cases e
def listG : GC
  | [.ref n], h => match getL h n with
    | some ds => some (.ref h.length, h ++ [.lst ds])
    | none => none
  | [.tup ds], h => some (.ref h.length, h ++ [.lst ds])
  | _, _ => none
theorem cb_list : CB X (.type "list") listG := CallR.imp call_list_of fun xs H Q ⟨h, α, ds, d, h', mt, r, e, q⟩ => by
  unfold listG at e
  split at e
  · split at e
    · next e1 =>
      cases e; obtain ⟨v, rfl, _, rfl⟩ := reps1 r; obtain ⟨ys, sq, rr⟩ := mt.getL e1
      refine ⟨_, ys, rfl, .inl sq, fun p hp => ?_⟩
      obtain ⟨α', x2, m2, r2⟩ := new_lst mt hp rr
      exact q α' _ _ x2 m2 r2
    · cases e
  · cases e; obtain ⟨v, rfl, a, ys, rfl, sq, rr⟩ := reps1 r
    refine ⟨_, ys, rfl, .inr sq.seq, fun p hp => ?_⟩
    obtain ⟨α', x2, m2, r2⟩ := new_lst mt hp rr
    exact q α' _ _ x2 m2 r2
  · cases e
def tupleG : GC
  | [.ref n], h => match getL h n with
    | some ds => some (.tup ds, h)
    | none => none
  | [.tup ds], h => some (.tup ds, h)
  | _, _ => none
theorem cb_tuple : CB X (.type "tuple") tupleG := CallR.imp call_tuple_of fun xs H Q ⟨h, α, ds, d, h', mt, r, e, q⟩ => by
  unfold tupleG at e
  split at e
  · split at e
    · next e1 =>
      cases e; obtain ⟨v, rfl, _, rfl⟩ := reps1 r; obtain ⟨ys, sq, rr⟩ := mt.getL e1
      refine ⟨_, ys, rfl, .inl ⟨sq, fun p hp => ?_⟩⟩
      exact q α _ _ (Ex.grow hp) (mt.grow hp) (new_tup hp rr)
    · cases e
  · cases e; obtain ⟨v, rfl, a, ys, rfl, sq, rr⟩ := reps1 r
    exact ⟨_, ys, rfl, .inr ⟨sq.seq, q α H _ Ex.refl mt ⟨a, ys, rfl, sq, rr⟩⟩⟩
  · cases e
/-! isinstance -/
def tyN (h : Hs) : D → Option String
  | .non => some "NoneType"
  | .bl _ => some "bool"
  | .int _ => some "int"
  | .str _ => some "str"
  | .tup _ => some "tuple"
  | .ty _ => none
  | .ref n => match h[n]? with
    | some (.lst _) => some "list"
    | some (.fz _) => some "list"
    | some (.dct _) => some "dict"
    | _ => none
def isT (a T : String) : Bool := a == T || (a == "bool" && T == "int")
def okT (T : String) : Bool := ["int", "bool", "str", "tuple", "list", "dict"].contains T
theorem isT_kit : ∀ a ∈ ["NoneType", "bool", "int", "str", "tuple", "list", "dict"], ∀ T ∈ ["int", "bool", "str", "tuple", "list", "dict"], kitB a T = some (isT a T) := by decide +kernel
theorem tyN_mem {h : Hs} {d : D} {a : String} (e : tyN h d = some a) : a ∈ ["NoneType", "bool", "int", "str", "tuple", "list", "dict"] := by
  cases d <;> simp only [tyN] at e
  · cases e; decide
  · cases e; decide
  · cases e; decide
  · cases e; decide
  · cases e
  · cases e; decide
  · split at e <;> first | (cases e; done) | (cases e; decide)
theorem kit_of' {K : PySem.W.Frag} {h : Hs} {d : D} {a T : String} (e : tyN h d = some a) (hT : okT T = true) : PySem.W.kitOne K (.type a) (.type T) = some (isT a T) :=
  kit_ty (isT_kit a (tyN_mem e) T (by unfold okT at hT; simpa using hT))
theorem tyN_ty {K : PySem.W.Frag} {α : Al} {H : Hp} {h : Hs} {d : D} {v : V} {a : String} (mt : Mt K α H h) (r : Rep K α h.length H d v) (e : tyN h d = some a) : TyX K H v (.type a) := by
  cases d with
  | non => cases e; cases r; exact .base .non
  | bl b => cases e; cases r; exact .base (.bl b)
  | int i => cases e; cases r; exact .base (.int i)
  | str s => cases e; cases r; exact .base (.str s)
  | ty t => cases e
  | tup ds =>
    cases e
    obtain ⟨p, xs, rfl, sq | sq, rr⟩ := r
    · exact .base (.tup sq)
    · rcases sq (fun _ => none) with (z | ⟨o, z⟩) | ⟨o, its, n, e1, e2, _⟩
      · cases z
      · cases z
      · exact .kTuple e1 e2
  | ref n =>
    obtain ⟨_, rfl⟩ := r
    simp only [tyN] at e
    split at e
    · next e1 => cases e; obtain ⟨xs, s, q⟩ := mt.at_ n _ e1; exact .base (.lst s)
    · next e1 =>
      cases e; obtain ⟨xs, s, q⟩ := mt.at_ n _ e1
      rcases s with ⟨o, s⟩ | s
      · exact .base (.frz s)
      · rcases s (fun _ => none) with (z | ⟨o, z⟩) | ⟨o, its, n, e1, e2, _⟩
        · cases z
        · cases z
        · exact .kList e1 e2
    · next e1 => cases e; obtain ⟨xs, s, q⟩ := mt.at_ n _ e1; exact .base (.dK s)
    · cases e
def isTs (a : String) : List D → Option Bool
  | [] => some false
  | .ty T :: r => if okT T then match isTs a r with
    | some k => some (isT a T || k)
    | none => none
    else none
  | _ :: _ => none
def isiG : GC
  | [x, .ty T], h => match tyN h x with
    | some a => if okT T then some (.bl (isT a T), h) else none
    | none => none
  | [x, .tup ts], h => match tyN h x with
    | some a => match isTs a ts with
      | some k => some (.bl k, h)
      | none => none
    | none => none
  | _, _ => none
theorem isTs_any {K : PySem.W.Frag} {α : Al} {L : Nat} {H : Hp} {h : Hs} {d : D} {a : String} (e0 : tyN h d = some a) : ∀ {ts : List D} {k : Bool} {vs : List V}, isTs a ts = some k → Reps K α L H ts vs →
    ∃ us, Paired ClsV vs us ∧ PySem.W.kitAny K (.type a) us = some k
  | [], k, vs, e, r => by cases e; rw [show vs = [] from r]; exact ⟨[], .nil, kitAny_nil⟩
  | t :: ts, k, vs, e, ⟨x, ys, ev, r, q⟩ => by
    unfold isTs at e
    split at e
    · next z => cases z
    · next z =>
      cases z
      split at e
      · next c =>
        split at e
        · next k' e1 =>
          cases e
          obtain ⟨us, p, z⟩ := isTs_any e0 e1 q
          subst ev
          rw [show x = .ty _ from r]
          refine ⟨_, .cons (.ty _) p, kitAny_cons (kit_of' e0 c) (fun w => ?_) (fun w => ?_)⟩
          · rw [w, Bool.false_or]; exact z
          · rw [w, Bool.true_or]
        · cases e
      · cases e
    · cases e
theorem kAny_K {K : PySem.W.Frag} : True := trivial
theorem cb_isi : CB X (.builtin "isinstance") isiG := CallR.imp (CallR.or call_isi (CallR.or call_isiT call_isiK)) fun xs H Q ⟨h, α, ds, d, h', mt, r, e, q⟩ => by
  unfold isiG at e
  split at e
  · split at e
    · next e1 =>
      split at e
      · next c => cases e; obtain ⟨v, w, rfl, r1, r2⟩ := reps2 r; cases r2; exact .inl ⟨v, _, _, _, _, rfl, .ty _, tyN_ty mt r1 e1, kit_of' e1 c, q α H _ Ex.refl mt rfl⟩
      · cases e
    · cases e
  · split at e
    · next e1 =>
      split at e
      · next e2 =>
        cases e; obtain ⟨v, w, rfl, r1, a, cs, rfl, sq, rr⟩ := reps2 r
        obtain ⟨us, p, z⟩ := isTs_any e1 e2 rr
        rcases sq with sq | sq
        · exact .inr (.inl ⟨v, a, cs, _, us, _, rfl, sq, p, tyN_ty mt r1 e1, z, q α H _ Ex.refl mt rfl⟩)
        · rcases sq (fun _ => none) with (y | ⟨o, y⟩) | ⟨o, its, n, e3, e4, e5, e6, e7⟩
          · cases y
          · cases y
          · have : its.toList = us := ClsV.all p e7
            obtain ⟨oc, od, odat, osl⟩ := o
            cases e4
            cases e5
            exact .inr (.inr ⟨v, a, od, us, n, osl, _, _, rfl, by rw [e3, ← this, Array.toArray_toList], tyN_ty mt r1 e1, z, q α H _ Ex.refl mt rfl⟩)
      · cases e
    · cases e
  · cases e

/-! ### methods of builtins -/
def tyD (T : String) (h : Hs) : D → Bool
  | .str _ => T == "str"
  | .int _ => T == "int"
  | .ref n => match h[n]? with
    | some (.lst _) => T == "list"
    | some (.fz _) => T == "list"
    | some (.dct _) => T == "dict"
    | _ => false
  | _ => false
theorem tyD_ok {K : PySem.W.Frag} {α : Al} {H : Hp} {h : Hs} {d : D} {v : V} {T : String} (mt : Mt K α H h) (r : Rep K α h.length H d v) (e : tyD T h d = true) : tyV K T v H := by
  cases d with
  | non => cases e
  | bl b => cases e
  | int i => cases r; exact beq_iff_eq.mp e
  | str s => cases r; exact beq_iff_eq.mp e
  | ty t => cases e
  | tup ds => cases e
  | ref n =>
    obtain ⟨_, rfl⟩ := r
    simp only [tyD] at e
    split at e
    · next e1 => obtain ⟨xs, s, q⟩ := mt.at_ n _ e1; exact .inl ⟨beq_iff_eq.mp e, xs, SqL.of s⟩
    · next e1 => obtain ⟨xs, s, q⟩ := mt.at_ n _ e1; exact .inl ⟨beq_iff_eq.mp e, xs, s.seq⟩
    · next e1 => obtain ⟨xs, s, q⟩ := mt.at_ n _ e1; exact .inr (.inr (.inl ⟨beq_iff_eq.mp e, .inl ⟨xs, s⟩⟩))
    · cases e
def eMt (T : String) (g : GM) (mo : ME) (m : MA) : ME := fun ρ h => bd (mo ρ h) fun x h1 => if tyD T h1 x = true then bd (m ρ h1) fun xs h2 => g x xs h2 else none
theorem meth_seq {K : PySem.W.Frag} {T : String} {g : GM} {mo : ME} {m : MA} {σ : L2.St} {H : Hp} {Q : VK} (t : lE K (eMt T g mo m) σ H Q) : lE K mo σ H fun x H1 => tyV K T x H1 ∧ lA K m σ H1 fun xs H2 => lM K g x xs H2 Q := by
  obtain ⟨ρ, h, α, d, h', rs, mt, e, q⟩ := t
  obtain ⟨d1, h1, e1, e⟩ := bd_some e
  split at e
  · next c =>
    obtain ⟨d2, h2, e2, e3⟩ := bd_some e
    exact ⟨ρ, h, α, d1, h1, rs, mt, e1, fun α1 H1 v1 x1 m1 r1 => ⟨tyD_ok m1 r1 c, ρ, h1, α1, d2, h2, rs.mono x1, m1, e2, fun α2 H2 v2 x2 m2 r2 =>
      ⟨h2, α2, d1, d2, d, h', m2, x2.rep r1, r2, e3, fun α3 H3 v3 x3 m3 r3 => q α3 H3 v3 (x1.trans (x2.trans x3)) m3 r3⟩⟩⟩
  · cases e
variable {o : Expr} {mo : ME} {name : Str} {apos cpos : Pos} {T id : String} {gm : GM}
theorem c_meth (pa : PlainAttrs T) (slot : Slot T name id) (hty : typeOf (.builtin id) = pure (.type "method_descriptor")) (hm : CM X id gm) (ho : CE X o mo) (ha : CL X (e :: es) m)
    (hbase : attributeBase o name X.env (eval o X.env) = eval o X.env := by rfl)
    (hfew : ((backTo cpos (starEach (e :: es) X.env)).all (fun x => !x.1) && (backToKw cpos (keywordEach [] X.env)).all (fun x => x.1.isSome)
      && decide ((e :: es).length + ([] : List Keyword).length + (if ([] : List Keyword).isEmpty then 0 else 1) < 30)) = true := by rfl)
    (hline : (apos.endLine == cpos.line) = true := by rfl) (hs : starEach (e :: es) X.env = (false, eval e X.env) :: starEach es X.env := by rfl) (hplain : (backTo cpos (starEach es X.env)).any (·.1) = false := by rfl) :
    CE X (.Call (.Attribute o name apos) (e :: es) [] cpos) (eMt T gm mo m) :=
  PE.imp (pe_bm pa slot hty hm ho ha.1 hbase hfew hline hs hplain) fun σ H Q t => meth_seq t
theorem c_meth0 (pa : PlainAttrs T) (slot : Slot T name id) (hty : typeOf (.builtin id) = pure (.type "method_descriptor")) (hm : CM X id gm) (ho : CE X o mo)
    (hbase : attributeBase o name X.env (eval o X.env) = eval o X.env := by rfl) (hline : (apos.endLine == cpos.line) = true := by rfl) : CE X (.Call (.Attribute o name apos) [] [] cpos) (eMt T gm mo aNil) :=
  PE.imp (pe_bm0 pa slot hty hm ho hbase hline) fun σ H Q t => by
    obtain ⟨ρ, h, α, d, h', rs, mt, e, q⟩ := meth_seq t
    refine ⟨ρ, h, α, d, h', rs, mt, e, fun α1 H1 v1 x1 m1 r1 => ?_⟩
    obtain ⟨z1, ρ2, h2, α2, d2, h3, rs2, mt2, e2, q2⟩ := q α1 H1 v1 x1 m1 r1
    cases e2
    exact ⟨z1, q2 α2 H1 [] Ex.refl mt2 rfl⟩
def appendG : GM
  | .ref n, [y], h => match h[n]? with
    | some (.lst ds) => if ds.length < sizeLine then some (.non, h.set n (.lst (ds ++ [y]))) else none
    | _ => none
  | _, _, _ => none
theorem set_lst {K : PySem.W.Frag} {α : Al} {H : Hp} {h : Hs} {n : Nat} {o : AO} {ds : List D} {xs : List V} (mt : Mt K α H h) (e : h[n]? = some o) (ho : o.mu = true) (r : Reps K α h.length H ds xs) :
    Ex α H h α (upd H (α n) (.lst xs)) (h.set n (.lst ds)) ∧ Mt K α (upd H (α n) (.lst xs)) (h.set n (.lst ds)) := by
  have u : Mu h n := ⟨o, e, ho⟩
  have x : Ex α H h α (upd H (α n) (.lst xs)) (h.set n (.lst ds)) := Ex.write mt u rfl
  exact ⟨x, mt.write u rfl ⟨xs, upd_same, x.reps r⟩⟩
theorem cm_append : CM X "list.append" appendG := MtR.imp mt_append fun x xs H Q ⟨h, α, dx, ds, d, h', mt, rx, r, e, q⟩ => by
  unfold appendG at e
  split at e
  · split at e
    · next e1 =>
      split at e
      · next c =>
        cases e; obtain ⟨_, rfl⟩ := rx; obtain ⟨v, rfl, r1⟩ := reps1 r; obtain ⟨ys, s, rr⟩ := mt.lst e1
        obtain ⟨x2, m2⟩ := set_lst mt e1 rfl (rr.append (Reps.cons r1 Reps.nil))
        exact ⟨_, ys, v, rfl, rfl, s, by rw [rr.length]; exact c, q α _ _ x2 m2 rfl⟩
      · cases e
    · cases e
  · cases e
def extendG : GM
  | .ref n, [.ref m], h => match h[n]?, h[m]? with
    | some (.lst ds), some (.lst es) => if ds.length + es.length ≤ sizeLine then some (.non, h.set n (.lst (ds ++ es))) else none
    | _, _ => none
  | _, _, _ => none
theorem cm_extend : CM X "list.extend" extendG := MtR.imp mt_extend fun x xs H Q ⟨h, α, dx, ds, d, h', mt, rx, r, e, q⟩ => by
  unfold extendG at e
  split at e
  · split at e
    · next e1 e2 =>
      split at e
      · next c =>
        cases e; obtain ⟨_, rfl⟩ := rx; obtain ⟨v, rfl, _, rfl⟩ := reps1 r; obtain ⟨ys, s, rr⟩ := mt.lst e1; obtain ⟨zs, s2, rr2⟩ := mt.lst e2
        obtain ⟨x2, m2⟩ := set_lst mt e1 rfl (rr.append rr2)
        exact ⟨_, _, ys, zs, rfl, rfl, s, s2, by rw [rr.length, rr2.length]; exact c, q α _ _ x2 m2 rfl⟩
      · cases e
    · cases e
  · cases e
def popG : GM
  | .ref n, [], h => match h[n]? with
    | some (.lst ds) => match ds[ds.length - 1]? with
      | some y => some (y, h.set n (.lst ds.dropLast))
      | none => none
    | _ => none
  | .ref n, [.int i], h => match h[n]? with
    | some (.lst ds) => if -(2 ^ 63) ≤ i ∧ i < 2 ^ 63 then match seqIndex? i ds.length with
      | some k => match ds[k]? with
        | some y => some (y, h.set n (.lst (ds.eraseIdx k)))
        | none => none
      | none => none
      else none
    | _ => none
  | _, _, _ => none
theorem Reps.dropLast {K : PySem.W.Frag} {α : Al} {L : Nat} {H : Hp} {ds : List D} {vs : List V} (r : Reps K α L H ds vs) : Reps K α L H ds.dropLast vs.dropLast := by
  rw [List.dropLast_eq_take, List.dropLast_eq_take, r.length]
  exact r.take _
theorem Reps.erase {K : PySem.W.Frag} {α : Al} {L : Nat} {H : Hp} : ∀ {ds : List D} {vs : List V} (k : Nat), Reps K α L H ds vs → Reps K α L H (ds.eraseIdx k) (vs.eraseIdx k)
  | [], _, _, e => by rw [show _ = [] from e]; rfl
  | d :: ds, _, 0, ⟨x, ys, e, r, t⟩ => by subst e; exact t
  | d :: ds, _, k + 1, ⟨x, ys, e, r, t⟩ => by subst e; exact ⟨x, _, rfl, r, Reps.erase k t⟩
theorem cm_pop : CM X "list.pop" popG := MtR.imp (MtR.or mt_pop mt_popAt) fun x xs H Q ⟨h, α, dx, ds, d, h', mt, rx, r, e, q⟩ => by
  unfold popG at e
  split at e
  · split at e
    · next e1 =>
      split at e
      · next e2 =>
        cases e; obtain ⟨_, rfl⟩ := rx; cases r; obtain ⟨ys, s, rr⟩ := mt.lst e1
        obtain ⟨x2, m2⟩ := set_lst mt e1 rfl rr.dropLast
        obtain ⟨v, e3, r3⟩ := rr.get e2
        exact .inl ⟨_, ys, v, rfl, rfl, s, by rw [rr.length]; exact e3, q α _ _ x2 m2 (x2.rep r3)⟩
      · cases e
    · cases e
  · split at e
    · next e1 =>
      split at e
      · next c =>
        split at e
        · next e2 =>
          split at e
          · next e3 =>
            cases e; obtain ⟨_, rfl⟩ := rx; obtain ⟨v, rfl, r1⟩ := reps1 r; cases r1; obtain ⟨ys, s, rr⟩ := mt.lst e1
            obtain ⟨x2, m2⟩ := set_lst mt e1 rfl (rr.erase _)
            obtain ⟨v, e4, r4⟩ := rr.get e3
            exact .inr ⟨_, ys, _, _, v, rfl, rfl, s, c.1, c.2, by rw [rr.length]; exact e2, e4, q α _ _ x2 m2 (x2.rep r4)⟩
          · cases e
        · cases e
      · cases e
    · cases e
  · cases e
def insertG : GM
  | .ref n, [.int i, y], h => match h[n]? with
    | some (.lst ds) => if ds.length < sizeLine ∧ 0 ≤ i ∧ i < 2 ^ 63 then some (.non, h.set n (.lst (ds.take i.toNat ++ [y] ++ ds.drop i.toNat))) else none
    | _ => none
  | _, _, _ => none
theorem cm_insert : CM X "list.insert" insertG := MtR.imp mt_insert fun x xs H Q ⟨h, α, dx, ds, d, h', mt, rx, r, e, q⟩ => by
  unfold insertG at e
  split at e
  · split at e
    · next e1 =>
      split at e
      · next c =>
        cases e; obtain ⟨_, rfl⟩ := rx; obtain ⟨v, w, rfl, r1, r2⟩ := reps2 r; cases r1; obtain ⟨ys, s, rr⟩ := mt.lst e1
        obtain ⟨x2, m2⟩ := set_lst mt e1 rfl (((rr.take _).append (Reps.cons r2 Reps.nil)).append (rr.drop _))
        exact ⟨_, ys, _, w, rfl, rfl, s, by rw [rr.length]; exact c.1, c.2.1, c.2.2, q α _ _ x2 m2 rfl⟩
      · cases e
    · cases e
  · cases e
def clearG : GM
  | .ref n, [], h => match h[n]? with
    | some (.lst ds) => some (.non, h.set n (.lst []))
    | _ => none
  | _, _, _ => none
theorem cm_clear : CM X "list.clear" clearG := MtR.imp mt_clear fun x xs H Q ⟨h, α, dx, ds, d, h', mt, rx, r, e, q⟩ => by
  unfold clearG at e
  split at e
  · split at e
    · next e1 =>
      cases e; obtain ⟨_, rfl⟩ := rx; cases r; obtain ⟨ys, s, rr⟩ := mt.lst e1
      obtain ⟨x2, m2⟩ := set_lst mt e1 rfl (ds := []) (xs := []) rfl
      exact ⟨_, ys, rfl, rfl, s, q α _ _ x2 m2 rfl⟩
    · cases e
  · cases e
def bitsG : GU
  | .int i, h => some (.int (Builtin.Int.intBits i : Nat), h)
  | _, _ => none
theorem c_bits (ho : CE X o mo) (hbase : attributeBase o "bit_length" X.env (eval o X.env) = eval o X.env := by rfl) (hline : (apos.endLine == pos.line) = true := by rfl) : CE X (.Call (.Attribute o "bit_length" apos) [] [] pos) (eUn bitsG mo) :=
  PE.imp (pe_bits ho hbase hline) fun σ H Q t => by
    obtain ⟨ρ, h, α, d, h', rs, mt, e, q⟩ := un_seq t
    refine ⟨ρ, h, α, d, h', rs, mt, e, fun α1 H1 v1 x1 m1 r1 => ?_⟩
    obtain ⟨h2, α2, dx, d2, h3, m2, r2, e2, q2⟩ := q α1 H1 v1 x1 m1 r1
    unfold bitsG at e2
    split at e2
    · cases e2; exact ⟨_, r2, q2 α2 H1 _ Ex.refl m2 rfl⟩
    · cases e2
end
end SL
namespace SL
open PySem PySem.Spec PyProof.Rows L2

/-! ### loops as functions -/
def itN {S R : Type} (step : S → Option (S ⊕ R)) : Nat → S → Option R
  | 0, _ => none
  | n + 1, s => match step s with
    | none => none
    | some (.inl s') => itN step n s'
    | some (.inr r) => some r
theorem itN_succ {S R : Type} {step : S → Option (S ⊕ R)} : ∀ {n : Nat} {s : S} {r : R}, itN step n s = some r → itN step (n + 1) s = some r
  | 0, s, r, e => by cases e
  | n + 1, s, r, e => by
    unfold itN at e ⊢
    cases q : step s with
    | none => rw [q] at e; cases e
    | some x =>
      rw [q] at e
      cases x with
      | inl s' => exact itN_succ (n := n) e
      | inr r' => exact e
theorem itN_le {S R : Type} {step : S → Option (S ⊕ R)} {n m : Nat} {s : S} {r : R} (h : n ≤ m) (e : itN step n s = some r) : itN step m s = some r := by
  induction h with
  | refl => exact e
  | step _ ih => exact itN_succ ih
noncomputable def itW {S R : Type} (step : S → Option (S ⊕ R)) (s : S) : Option R := by
  classical
  exact if h : ∃ n r, itN step n s = some r then itN step h.choose s else none
theorem itW_some {S R : Type} {step : S → Option (S ⊕ R)} {s : S} {r : R} : itW step s = some r ↔ ∃ n, itN step n s = some r := by
  unfold itW
  constructor
  · intro e
    split at e
    · next h => exact ⟨_, e⟩
    · cases e
  · rintro ⟨n, e⟩
    have h : ∃ n r, itN step n s = some r := ⟨n, r, e⟩
    rw [dif_pos h]
    obtain ⟨r', e'⟩ := h.choose_spec
    rcases Nat.le_total n h.choose with q | q
    · exact itN_le q e
    · have := itN_le q e'
      rw [e] at this
      rw [e', this]
theorem itW_none {S R : Type} {step : S → Option (S ⊕ R)} {s : S} (h : ∀ n, itN step n s = none) : itW step s = none := by
  cases q : itW step s with
  | none => rfl
  | some r => obtain ⟨n, e⟩ := itW_some.mp q; rw [h n] at e; cases e
theorem itW_eq {S R : Type} (step : S → Option (S ⊕ R)) (s : S) : itW step s = match step s with
    | none => none
    | some (.inl s') => itW step s'
    | some (.inr r) => some r := by
  cases q : step s with
  | none =>
    refine itW_none fun n => ?_
    cases n with
    | zero => rfl
    | succ n => unfold itN; rw [q]
  | some x =>
    cases x with
    | inr r => exact itW_some.mpr ⟨1, by unfold itN; rw [q]⟩
    | inl s' =>
      show itW step s = itW step s'
      cases z : itW step s' with
      | some r =>
        obtain ⟨n, e⟩ := itW_some.mp z
        exact itW_some.mpr ⟨n + 1, by unfold itN; rw [q]; exact e⟩
      | none =>
        refine itW_none fun n => ?_
        cases n with
        | zero => rfl
        | succ n =>
          unfold itN
          rw [q]
          cases y : itN step n s' with
          | none => exact y
          | some r => rw [itW_some.mpr ⟨n, y⟩] at z; cases z

/-! ### what is walked -/
abbrev Src := Nat → Hs → Option (Option D)
def ItOk (K : PySem.W.Frag) (α : Al) (H : Hp) (h : Hs) (J : It) (src : Src) : Prop :=
  ∀ α2 H2 h2, Ex α H h α2 H2 h2 → Mt K α2 H2 h2 → ∀ i, (src i h2 = some none → J.stop i H2) ∧ ∀ d, src i h2 = some (some d) → J.go i H2 ∧ ∀ x H3, J.yld i H2 x H3 → Ex α2 H2 h2 α2 H3 h2 ∧ Mt K α2 H3 h2 ∧ Rep K α2 h2.length H3 d x
abbrev MI := MR Src
def lI (K : PySem.W.Frag) (mi : MI) : TI := fun σ H R =>
  ∃ ρ h α src h', RepS K α h.length H ρ σ ∧ Mt K α H h ∧ mi ρ h = some (src, h') ∧ ∀ α' H' J, Ex α H h α' H' h' → Mt K α' H' h' → ItOk K α' H' h' J src → R J H'
def CI (X : Cx) (tg it : Expr) (mi : MI) : Prop := PI X tg it (lI X.K mi)
def srcL (n : Nat) : Src := fun i h => match getL h n with
  | some ds => some ds[i]?
  | none => none
def srcT (ds : List D) : Src := fun i _ => some ds[i]?
def srcS (z : Str) : Src := fun i _ => some (z.cps[i]?.map fun c => .str ⟨#[c]⟩)
def srcR (lo : Int) (n : Nat) : Src := fun i _ => some (if i < n then some (.int (lo + (i : Nat))) else none)
def srcC (lo c : Int) (n : Nat) : Src := fun i _ => some (if i < n then some (.int (lo + (i : Nat) * c)) else none)
def srcE (n : Nat) : Src := fun i h => match getL h n with
  | some ds => some (ds[i]?.map fun d => .tup [.int (i : Nat), d])
  | none => none
def srcZ (n m : Nat) : Src := fun i h => match getL h n, getL h m with
  | some ds, some es => some (match ds[i]?, es[i]? with
    | some d, some e => some (.tup [d, e])
    | _, _ => none)
  | _, _ => none
def srcZT (ds es : List D) : Src := fun i h => some (match ds[i]?, es[i]? with
    | some d, some e => some (.tup [d, e])
    | _, _ => none)
section
variable {K : PySem.W.Frag} {α : Al} {H : Hp} {h : Hs}
theorem itok_L {n : Nat} (l : n < h.length) : ItOk K α H h (Itl K (α n)) (srcL n) := fun α2 H2 h2 x m i => by
  unfold srcL
  cases q : getL h2 n with
  | none => exact ⟨(fun e => nomatch e), (fun d e => nomatch e)⟩
  | some ds =>
    obtain ⟨xs, sq, rr⟩ := m.getL q
    rw [x.al n l] at sq
    refine ⟨fun e => ⟨xs, sq, ?_⟩, fun d e => ?_⟩
    · have : ds[i]? = none := Option.some.inj e
      rw [rr.length]; exact List.getElem?_eq_none_iff.mp this
    · obtain ⟨v, e1, r1⟩ := rr.get (Option.some.inj e)
      refine ⟨⟨xs, v, sq, e1⟩, fun y H3 ⟨e2, e3⟩ => ?_⟩
      subst e2
      have := e3 xs sq
      rw [e1] at this; cases this
      exact ⟨Ex.refl, m, r1⟩
theorem itok_T {a : Addr} {ds : List D} {xs : List V} (s : TpL K H a xs) (r : Reps K α h.length H ds xs) : ItOk K α H h (Itt K a) (srcT ds) := fun α2 H2 h2 x m i => by
  have sq := (x.seqT s).seq
  have rr := x.reps r
  refine ⟨fun e => ⟨xs, sq, ?_⟩, fun d e => ?_⟩
  · have : ds[i]? = none := Option.some.inj e
    rw [rr.length]; exact List.getElem?_eq_none_iff.mp this
  · obtain ⟨v, e1, r1⟩ := rr.get (Option.some.inj e)
    refine ⟨⟨xs, v, sq, e1⟩, fun y H3 ⟨e2, e3⟩ => ?_⟩
    subst e2
    have := e3 xs sq
    rw [e1] at this; cases this
    exact ⟨Ex.refl, m, r1⟩
theorem itok_S {z : Str} : ItOk K α H h (Its z) (srcS z) := fun α2 H2 h2 x m i => by
  unfold srcS
  cases q : z.cps[i]? with
  | none => exact ⟨fun _ => Array.getElem?_eq_none_iff.mp q, (fun d e => nomatch e)⟩
  | some c =>
    refine ⟨(fun e => nomatch e), fun d e => ⟨?_, fun y H3 ⟨e2, c', e3, e4⟩ => ?_⟩⟩
    · have := Array.getElem?_eq_some_iff.mp q
      exact this.1
    · subst e2; subst e4
      rw [q] at e3; cases e3; cases e
      exact ⟨Ex.refl, m, rfl⟩
theorem itok_R {lo : Int} {n : Nat} : ItOk K α H h (Itr lo n) (srcR lo n) := fun α2 H2 h2 x m i => by
  unfold srcR
  by_cases q : i < n
  · rw [if_pos q]
    refine ⟨(fun e => nomatch e), fun d e => ⟨q, fun y H3 ⟨e2, e3⟩ => ?_⟩⟩
    subst e2; subst e3; cases e
    exact ⟨Ex.refl, m, rfl⟩
  · rw [if_neg q]
    exact ⟨fun _ => Nat.le_of_not_lt q, (fun d e => nomatch e)⟩
theorem itok_C {lo c : Int} {n : Nat} : ItOk K α H h (Itc lo c n) (srcC lo c n) := fun α2 H2 h2 x m i => by
  unfold srcC
  by_cases q : i < n
  · rw [if_pos q]
    refine ⟨(fun e => nomatch e), fun d e => ⟨q, fun y H3 ⟨e2, e3⟩ => ?_⟩⟩
    subst e2; subst e3; cases e
    exact ⟨Ex.refl, m, rfl⟩
  · rw [if_neg q]
    exact ⟨fun _ => Nat.le_of_not_lt q, (fun d e => nomatch e)⟩
theorem itok_E {n : Nat} (l : n < h.length) : ItOk K α H h (Ite K (α n)) (srcE n) := fun α2 H2 h2 x m i => by
  unfold srcE
  cases q : getL h2 n with
  | none => exact ⟨(fun e => nomatch e), (fun d e => nomatch e)⟩
  | some ds =>
    obtain ⟨xs, sq, rr⟩ := m.getL q
    rw [x.al n l] at sq
    cases q2 : ds[i]? with
    | none => exact ⟨fun e => ⟨xs, sq, by rw [rr.length]; exact List.getElem?_eq_none_iff.mp q2⟩, fun d e => by simp [q2] at e⟩
    | some d0 =>
      obtain ⟨v, e1, r1⟩ := rr.get q2
      refine ⟨fun e => by simp [q2] at e, fun d e => ⟨⟨xs, v, sq, e1⟩, fun y H3 ⟨T, x', e2, e3, e4, e5⟩ => ?_⟩⟩
      subst e2; subst e4
      have := e5 xs sq
      rw [e1] at this; cases this
      simp [q2] at e
      subst e
      exact ⟨Ex.grow e3, m.grow e3, new_tup e3 ⟨_, _, rfl, rfl, _, _, rfl, r1, rfl⟩⟩
theorem itok_Z {n k : Nat} (l : n < h.length) (l2 : k < h.length) : ItOk K α H h (Itz K (α n) (α k)) (srcZ n k) := fun α2 H2 h2 x m i => by
  unfold srcZ
  cases q : getL h2 n with
  | none => exact ⟨(fun e => nomatch e), (fun d e => nomatch e)⟩
  | some ds =>
    cases q' : getL h2 k with
    | none => exact ⟨(fun e => nomatch e), (fun d e => nomatch e)⟩
    | some es =>
      obtain ⟨xs, sq, rr⟩ := m.getL q
      obtain ⟨ys, sq', rr'⟩ := m.getL q'
      rw [x.al n l] at sq
      rw [x.al k l2] at sq'
      cases q2 : ds[i]? with
      | none => exact ⟨fun e => ⟨xs, ys, sq, sq', .inl (by rw [rr.length]; exact List.getElem?_eq_none_iff.mp q2)⟩, fun d e => by simp [q2] at e⟩
      | some d0 =>
        cases q3 : es[i]? with
        | none => exact ⟨fun e => ⟨xs, ys, sq, sq', .inr (by rw [rr'.length]; exact List.getElem?_eq_none_iff.mp q3)⟩, fun d e => by simp [q2, q3] at e⟩
        | some e0 =>
          obtain ⟨v, e1, r1⟩ := rr.get q2
          obtain ⟨w, e1', r1'⟩ := rr'.get q3
          refine ⟨fun e => by simp [q2, q3] at e, fun d e => ⟨⟨xs, ys, v, w, sq, sq', e1, e1'⟩, fun y H3 ⟨T, x', y', e2, e3, e4, e5, e6⟩ => ?_⟩⟩
          subst e2; subst e4
          have := e5 xs sq
          rw [e1] at this; cases this
          have := e6 ys sq'
          rw [e1'] at this; cases this
          simp [q2, q3] at e
          subst e
          exact ⟨Ex.grow e3, m.grow e3, new_tup e3 ⟨_, _, rfl, r1, _, _, rfl, r1', rfl⟩⟩
theorem itok_ZT {a b : Addr} {ds es : List D} {xs ys : List V} (s : TpL K H a xs) (r : Reps K α h.length H ds xs) (s' : TpL K H b ys) (r' : Reps K α h.length H es ys) : ItOk K α H h (RZ.ItzT K a b) (srcZT ds es) := fun α2 H2 h2 x m i => by
  have sq := (x.seqT s).seq
  have rr := x.reps r
  have sq' := (x.seqT s').seq
  have rr' := x.reps r'
  unfold srcZT
  cases q2 : ds[i]? with
  | none => exact ⟨fun e => ⟨xs, ys, sq, sq', .inl (by rw [rr.length]; exact List.getElem?_eq_none_iff.mp q2)⟩, fun d e => by simp [q2] at e⟩
  | some d0 =>
    cases q3 : es[i]? with
    | none => exact ⟨fun e => ⟨xs, ys, sq, sq', .inr (by rw [rr'.length]; exact List.getElem?_eq_none_iff.mp q3)⟩, fun d e => by simp [q2, q3] at e⟩
    | some e0 =>
      obtain ⟨v, e1, r1⟩ := rr.get q2
      obtain ⟨w, e1', r1'⟩ := rr'.get q3
      refine ⟨fun e => by simp [q2, q3] at e, fun d e => ⟨⟨xs, ys, v, w, sq, sq', e1, e1'⟩, fun y H3 ⟨T, x', y', e2, e3, e4, e5, e6⟩ => ?_⟩⟩
      subst e2; subst e4
      have := e5 xs sq
      rw [e1] at this; cases this
      have := e6 ys sq'
      rw [e1'] at this; cases this
      simp [q2, q3] at e
      subst e
      exact ⟨Ex.grow e3, m.grow e3, new_tup e3 ⟨_, _, rfl, r1, _, _, rfl, r1', rfl⟩⟩
end
section
variable {X : Cx} {tg e e2 e3 a b c : Expr} {ma mb : ME} {m : MA} {pos p : Pos}
theorem PI.imp {t t' : TI} (h : PI X tg e t) (i : ∀ σ H Q, t' σ H Q → t σ H Q) : PI X tg e t' := ⟨fun pins s σ H Q I q => h.run pins s σ H Q I (i _ _ _ q)⟩
theorem PI.or {t t' : TI} (h : PI X tg e t) (h' : PI X tg e t') : PI X tg e (fun σ H Q => t σ H Q ∨ t' σ H Q) := ⟨fun pins s σ H Q I q => by
  rcases q with q | q
  · exact h.run pins s σ H Q I q
  · exact h'.run pins s σ H Q I q⟩
def iSeq (ma : ME) : MI := fun ρ h => bd (ma ρ h) fun d h1 => match d with
  | .ref n => match getL h1 n with
    | some _ => some (srcL n, h1)
    | none => none
  | .tup ds => some (srcT ds, h1)
  | .str z => some (srcS z, h1)
  | _ => none
theorem i_seq (ha : CE X e ma) : CI X tg e (iSeq ma) :=
  PI.imp (PI.or (pi_list ha) (PI.or (pi_tup ha) (pi_str ha))) fun σ H R ⟨ρ, h, α, src, h', rs, mt, e, q⟩ => by
    obtain ⟨d1, h1, e1, e⟩ := bd_some e
    split at e
    · split at e
      · next e2 =>
        cases e
        refine .inl ⟨ρ, h, α, _, _, rs, mt, e1, fun α1 H1 v1 x1 m1 r1 => ?_⟩
        obtain ⟨l, rfl⟩ := r1
        obtain ⟨xs, sq, rr⟩ := m1.getL e2
        exact ⟨_, rfl, ⟨xs, sq⟩, q α1 H1 _ x1 m1 (itok_L l)⟩
      · cases e
    · cases e
      refine .inr (.inl ⟨ρ, h, α, _, _, rs, mt, e1, fun α1 H1 v1 x1 m1 r1 => ?_⟩)
      obtain ⟨p, xs, rfl, sq, rr⟩ := r1
      exact ⟨_, rfl, ⟨xs, sq.seq⟩, q α1 H1 _ x1 m1 (itok_T sq rr)⟩
    · cases e
      refine .inr (.inr ⟨ρ, h, α, _, _, rs, mt, e1, fun α1 H1 v1 x1 m1 r1 => ?_⟩)
      exact ⟨_, r1, q α1 H1 _ x1 m1 itok_S⟩
    · cases e
def inRg (i : Int) : Bool := decide (-(2 ^ 62) ≤ i) && decide (i < 2 ^ 62)
theorem inRg_ok {i : Int} (h : inRg i = true) : -(2 ^ 62) ≤ i ∧ i < 2 ^ 62 := by
  unfold inRg at h
  rw [Bool.and_eq_true] at h
  exact ⟨of_decide_eq_true h.1, of_decide_eq_true h.2⟩
def iRange (m : MA) : MI := fun ρ h => bd (m ρ h) fun ds h1 => match ds with
  | [.int j] => if inRg j = true then some (srcR 0 j.toNat, h1) else none
  | [.int i, .int j] => if inRg i = true ∧ inRg j = true then some (srcR i (j - i).toNat, h1) else none
  | [.int i, .int j, .int c] => if c ≠ 0 ∧ c.natAbs < 1073741824 ∧ Builtin.Range.small i j c = true ∧ 0 ≤ Builtin.Range.rangeSize i j c then some (srcC i c (Builtin.Range.rangeSize i j c).toNat, h1) else none
  | _ => none
theorem i_range1 (hm : X.mg "range" = none) (ha : CL X [a] m) (hg : Gl X "range" := by rfl) (hs : starEach [a] X.env = [(false, eval a X.env)] := by rfl) : CI X tg (.Call (.Name "range" p) [a] [] pos) (iRange m) :=
  PI.imp (pi_range1 hg hm ha.1 hs) fun σ H R ⟨ρ, h, α, src, h', rs, mt, e, q⟩ => by
    obtain ⟨ds, h1, e1, e⟩ := bd_some e
    have hl := ha.2 _ _ _ _ e1
    refine ⟨ρ, h, α, ds, h1, rs, mt, e1, fun α1 H1 v1 x1 m1 r1 => ?_⟩
    split at e
    · split at e
      · next c =>
        cases e
        obtain ⟨v, rfl, r2⟩ := reps1 r1
        cases r2
        exact ⟨_, rfl, (inRg_ok c).1, (inRg_ok c).2, q α1 H1 _ x1 m1 itok_R⟩
      · cases e
    · cases hl
    · cases hl
    · cases e
theorem i_range2 (hm : X.mg "range" = none) (ha : CL X [a, b] m) (hg : Gl X "range" := by rfl) (hs : starEach [a, b] X.env = [(false, eval a X.env), (false, eval b X.env)] := by rfl) (hs2 : starEach [b] X.env = [(false, eval b X.env)] := by rfl) : CI X tg (.Call (.Name "range" p) [a, b] [] pos) (iRange m) :=
  PI.imp (pi_range2 hg hm ha.1 hs hs2) fun σ H R ⟨ρ, h, α, src, h', rs, mt, e, q⟩ => by
    obtain ⟨ds, h1, e1, e⟩ := bd_some e
    have hl := ha.2 _ _ _ _ e1
    refine ⟨ρ, h, α, ds, h1, rs, mt, e1, fun α1 H1 v1 x1 m1 r1 => ?_⟩
    split at e
    · cases hl
    · split at e
      · next c =>
        cases e
        obtain ⟨v, w, rfl, r2, r3⟩ := reps2 r1
        cases r2; cases r3
        exact ⟨_, _, rfl, ⟨(inRg_ok c.1).1, (inRg_ok c.1).2, (inRg_ok c.2).1, (inRg_ok c.2).2⟩, q α1 H1 _ x1 m1 itok_R⟩
      · cases e
    · cases hl
    · cases e
theorem i_range3 (hm : X.mg "range" = none) (ha : CL X [a, b, c] m) (hg : Gl X "range" := by rfl) (hs : starEach [a, b, c] X.env = (false, eval a X.env) :: starEach [b, c] X.env := by rfl) (hpl : (backTo pos (starEach [b, c] X.env)).any (·.1) = false := by rfl) :
    CI X tg (.Call (.Name "range" p) [a, b, c] [] pos) (iRange m) :=
  PI.imp (pi_range3 hg hm ha.1 hs hpl) fun σ H R ⟨ρ, h, α, src, h', rs, mt, e, q⟩ => by
    obtain ⟨ds, h1, e1, e⟩ := bd_some e
    have hl := ha.2 _ _ _ _ e1
    refine ⟨ρ, h, α, ds, h1, rs, mt, e1, fun α1 H1 v1 x1 m1 r1 => ?_⟩
    split at e
    · cases hl
    · cases hl
    · split at e
      · next c =>
        cases e
        obtain ⟨v, ws, rfl, r2, r3⟩ := r1
        obtain ⟨w, z, rfl, r4, r5⟩ := reps2 r3
        cases r2; cases r4; cases r5
        exact ⟨_, _, _, _, rfl, ⟨c.1, c.2.1, c.2.2.1, (Int.toNat_of_nonneg c.2.2.2).symm⟩, q α1 H1 _ x1 m1 itok_C⟩
      · cases e
    · cases e
def iEnumD (m : MA) : MI := fun ρ h => bd (m ρ h) fun ds h1 => match ds with
  | [.ref n] => match getL h1 n with
    | some _ => some (srcE n, h1)
    | none => none
  | _ => none
variable {elts : List Expr} {kk : Nat} {tpos : Pos}
theorem i_enum (hm : X.mg "enumerate" = none) (ha : CL X [a] m) (hg : Gl X "enumerate" := by rfl) (hs : starEach [a] X.env = [(false, eval a X.env)] := by rfl) : CI X (.Tuple elts kk tpos) (.Call (.Name "enumerate" p) [a] [] pos) (iEnumD m) :=
  PI.imp (pi_enum hg hm ha.1 hs) fun σ H R ⟨ρ, h, α, src, h', rs, mt, e, q⟩ => by
    obtain ⟨ds, h1, e1, e⟩ := bd_some e
    refine ⟨ρ, h, α, ds, h1, rs, mt, e1, fun α1 H1 v1 x1 m1 r1 => ?_⟩
    split at e
    · split at e
      · next e2 =>
        cases e
        obtain ⟨v, rfl, l, rfl⟩ := reps1 r1
        obtain ⟨xs, sq, rr⟩ := m1.getL e2
        exact ⟨_, xs, rfl, sq, q α1 H1 _ x1 m1 (itok_E l)⟩
      · cases e
    · cases e
def iZipD (m : MA) : MI := fun ρ h => bd (m ρ h) fun ds h1 => match ds with
  | [.ref n, .ref k] => match getL h1 n, getL h1 k with
    | some _, some _ => some (srcZ n k, h1)
    | _, _ => none
  | [.tup ds, .tup es] => some (srcZT ds es, h1)
  | _ => none
theorem i_zip (hm : X.mg "zip" = none) (ha : CL X [a, b] m) (hg : Gl X "zip" := by rfl) (hs : starEach [a, b] X.env = (false, eval a X.env) :: starEach [b] X.env := by rfl) (hpl : (backTo pos (starEach [b] X.env)).any (·.1) = false := by rfl) :
    CI X (.Tuple elts kk tpos) (.Call (.Name "zip" p) [a, b] [] pos) (iZipD m) :=
  PI.imp (RZ.pi_zipA hg hm ha.1 hs hpl) fun σ H R ⟨ρ, h, α, src, h', rs, mt, e, q⟩ => by
    obtain ⟨ds, h1, e1, e⟩ := bd_some e
    refine ⟨ρ, h, α, ds, h1, rs, mt, e1, fun α1 H1 v1 x1 m1 r1 => ?_⟩
    split at e
    · split at e
      · next e2 e3 =>
        cases e
        obtain ⟨v, w, rfl, ⟨l, rfl⟩, l2, rfl⟩ := reps2 r1
        obtain ⟨xs, sq, rr⟩ := m1.getL e2
        obtain ⟨ys, sq', rr'⟩ := m1.getL e3
        exact ⟨_, _, xs, ys, rfl, .inl ⟨sq, sq', q α1 H1 _ x1 m1 (itok_Z l l2)⟩⟩
      · cases e
    · cases e
      obtain ⟨v, w, rfl, ⟨p1, xs, rfl, sq, rr⟩, p2, ys, rfl, sq', rr'⟩ := reps2 r1
      exact ⟨_, _, xs, ys, rfl, .inr ⟨sq.seq, sq'.seq, q α1 H1 _ x1 m1 (itok_ZT sq rr sq' rr')⟩⟩
    · cases e

/-! ### targets -/
abbrev GG := D → Rho → Hs → Option (Rho × Hs)
def Off (S : List Nat) (σ σ' : L2.St) : Prop := σ'.length = σ.length ∧ ∀ i, i ∉ S → σ'[i]? = σ[i]?
theorem Off.refl {S : List Nat} {σ : L2.St} : Off S σ σ := ⟨rfl, fun _ _ => rfl⟩
theorem Off.trans {S : List Nat} {σ σ1 σ2 : L2.St} (a : Off S σ σ1) (b : Off S σ1 σ2) : Off S σ σ2 := ⟨b.1.trans a.1, fun i h => (b.2 i h).trans (a.2 i h)⟩
theorem Off.mono {S T : List Nat} {σ σ' : L2.St} (a : Off S σ σ') (h : ∀ i ∈ S, i ∈ T) : Off T σ σ' := ⟨a.1, fun i q => a.2 i fun z => q (h i z)⟩
def lG (K : PySem.W.Frag) (S : List Nat) (g : GG) : TG := fun v σ H Q =>
  ∃ ρ h α d ρ' h', RepS K α h.length H ρ σ ∧ Mt K α H h ∧ Rep K α h.length H d v ∧ g d ρ h = some (ρ', h') ∧ ∀ α' H' σ', Ex α H h α' H' h' → Mt K α' H' h' → RepS K α' h'.length H' ρ' σ' → Off S σ σ' → Q σ' H'
abbrev GGs := List D → Rho → Hs → Option (Rho × Hs)
def lGs (K : PySem.W.Frag) (S : List Nat) (g : GGs) : TGs := fun vs σ H Q =>
  ∃ ρ h α ds ρ' h', RepS K α h.length H ρ σ ∧ Mt K α H h ∧ Reps K α h.length H ds vs ∧ g ds ρ h = some (ρ', h') ∧ ∀ α' H' σ', Ex α H h α' H' h' → Mt K α' H' h' → RepS K α' h'.length H' ρ' σ' → Off S σ σ' → Q σ' H'
def CG (X : Cx) (tg : Expr) (S : List Nat) (g : GG) : Prop := PG X tg (lG X.K S g)
def CGs (X : Cx) (tg : List Expr) (S : List Nat) (g : GGs) : Prop := PGs X tg (lGs X.K S g)
theorem PG.imp {t t' : TG} (h : PG X tg t) (i : ∀ v σ H Q, t' v σ H Q → t v σ H Q) : PG X tg t' := ⟨fun pins s σ H v u Q I r q => h.run pins s σ H v u Q I r (i _ _ _ _ q)⟩
theorem PGs.imp {ts : List Expr} {t t' : TGs} (h : PGs X ts t) (i : ∀ v σ H Q, t' v σ H Q → t v σ H Q) : PGs X ts t' := ⟨fun pins s σ H v u Q I r q => h.run pins s σ H v u Q I r (i _ _ _ _ q)⟩
def gNm (i : Nat) : GG := fun d ρ h => some (ρ.set i (some d), h)
def gsNil : GGs := fun ds ρ h => match ds with
  | [] => some (ρ, h)
  | _ => none
def gsCons (g : GG) (gs : GGs) : GGs := fun ds ρ h => match ds with
  | d :: r => match g d ρ h with
    | some (ρ1, h1) => gs r ρ1 h1
    | none => none
  | _ => none
def gTp (g : GGs) : GG := fun d ρ h => match d with
  | .tup ds => g ds ρ h
  | .ref n => match getL h n with
    | some ds => g ds ρ h
    | none => none
  | _ => none
theorem pg_or {X : Cx} {e : Expr} {t t' : TG} (h : PG X e t) (h' : PG X e t') : PG X e (fun v σ H Q => t v σ H Q ∨ t' v σ H Q) :=
  ⟨fun pins s σ H v u Q I r q => q.elim (h.run pins s σ H v u Q I r) (h'.run pins s σ H v u Q I r)⟩
theorem off_set {i : Nat} {S : List Nat} {σ : L2.St} {v : Option V} (h : i ∈ S) : Off S σ (σ.set i v) := ⟨by simp, fun j q => by
  rw [List.getElem?_set_ne]
  rintro rfl
  exact q h⟩
theorem g_name (i : Nat) {x : Str} (hN : X.N.Nodup) (hi : X.N[i]? = some x := by rfl) (hx : Loc X.env.scope x := by first | exact .inl rfl | exact .inr rfl) (hf : X.fn x = true ∨ X.env.scope.names.lookup x = some .local := by first | exact .inl rfl | exact .inr rfl) : CG X (.Name x pos) [i] (gNm i) :=
  PG.imp (pg_name hN hi hx hf) fun v σ H Q ⟨ρ, h, α, d, ρ', h', rs, mt, r, e, q⟩ => by
    cases e
    exact q α H _ Ex.refl mt (rs.set r i) (off_set (by simp))
theorem gs_nil : CGs X [] [] gsNil := PGs.imp pgs_nil fun vs σ H Q ⟨ρ, h, α, ds, ρ', h', rs, mt, r, e, q⟩ => by
  unfold gsNil at e
  split at e
  · cases e; exact ⟨r, q α H _ Ex.refl mt rs Off.refl⟩
  · cases e
theorem gs_cons {t : Expr} {ts : List Expr} {S T : List Nat} {g : GG} {gs : GGs} (h1 : CG X t S g) (h2 : CGs X ts T gs) (hs : (assignEach (t :: ts) X.env).map (·.2) = assign t X.env :: (assignEach ts X.env).map (·.2) := by rfl) : CGs X (t :: ts) (S ++ T) (gsCons g gs) :=
  PGs.imp (pgs_cons h1 h2 hs) fun vs σ H Q ⟨ρ, h, α, ds, ρ', h', rs, mt, r, e, q⟩ => by
    unfold gsCons at e
    split at e
    · split at e
      · next e1 =>
        obtain ⟨x, ys, rfl, r1, r2⟩ := r
        exact ⟨x, ys, rfl, ρ, h, α, _, _, _, rs, mt, r1, e1, fun α1 H1 σ1 x1 m1 rs1 o1 => ⟨_, _, α1, _, ρ', h', rs1, m1, x1.reps r2, e, fun α2 H2 σ2 x2 m2 rs2 o2 =>
          q α2 H2 σ2 (x1.trans x2) m2 rs2 ((o1.mono fun i z => List.mem_append_left _ z).trans (o2.mono fun i z => List.mem_append_right _ z))⟩⟩
      · cases e
    · cases e
theorem g_tup {ts : List Expr} {k : Nat} {S : List Nat} {gs : GGs} (hc : X.calm = true) (h : CGs X ts S gs) (hl : ∀ ds ρ h r, gs ds ρ h = some r → ds.length = (assignEach ts X.env).length) (hst : (assignEach ts X.env).findIdx? (·.1) = none := by rfl) : CG X (.Tuple ts k pos) S (gTp gs) :=
  PG.imp (pg_or (pg_tup hc h rfl hst) (pg_unl hc h rfl hst)) fun v σ H Q ⟨ρ, h, α, d, ρ', h', rs, mt, r, e, q⟩ => by
    unfold gTp at e
    split at e
    · obtain ⟨a, xs, rfl, sq, rr⟩ := r
      exact .inl ⟨a, xs, rfl, sq.seq, by rw [rr.length]; exact hl _ _ _ _ e, ρ, h, α, _, ρ', h', rs, mt, rr, e, q⟩
    · split at e
      · next e1 =>
        obtain ⟨_, rfl⟩ := r
        obtain ⟨xs, sq, rr⟩ := mt.getL e1
        exact .inr ⟨_, xs, rfl, sq, by rw [rr.length]; exact hl _ _ _ _ e, ρ, h, α, _, ρ', h', rs, mt, rr, e, q⟩
      · cases e
    · cases e
theorem gsl_nil : ∀ ds ρ h r, gsNil ds ρ h = some r → ds.length = 0 := fun ds ρ h r e => by
  unfold gsNil at e
  split at e
  · rfl
  · cases e
theorem gsl_cons {g : GG} {gs : GGs} {n : Nat} (hl : ∀ ds ρ h r, gs ds ρ h = some r → ds.length = n) : ∀ ds ρ h r, gsCons g gs ds ρ h = some r → ds.length = n + 1 := fun ds ρ h r e => by
  unfold gsCons at e
  split at e
  · split at e
    · rw [List.length_cons, hl _ _ _ _ e]
    · cases e
  · cases e
theorem set_dct {K : PySem.W.Frag} {α : Al} {H : Hp} {h : Hs} {n : Nat} {o : AO} {ds : List (Key × D)} {xs : List (Key × V)} (mt : Mt K α H h) (e : h[n]? = some o) (ho : o.mu = true) (r : RepKV K α h.length H ds xs) :
    Ex α H h α (upd H (α n) (.dK xs)) (h.set n (.dct ds)) ∧ Mt K α (upd H (α n) (.dK xs)) (h.set n (.dct ds)) := by
  have u : Mu h n := ⟨o, e, ho⟩
  have x : Ex α H h α (upd H (α n) (.dK xs)) (h.set n (.dct ds)) := Ex.write mt u rfl
  exact ⟨x, mt.write u rfl ⟨xs, upd_same, x.repKV r⟩⟩
/-! o[i] = v -/
def setG (o i v : D) (h : Hs) : Option Hs := match o with
  | .ref n => match h[n]? with
    | some (.lst ds) => match i with
      | .int k => match ixN ds.length k with
        | some j => some (h.set n (.lst (ds.set j v)))
        | none => none
      | _ => none
    | some (.dct kvs) => match keyOf i with
      | some k => if kvs.length < sizeLine then some (h.set n (.dct (putD kvs k v))) else none
      | none => none
    | _ => none
  | _ => none
def gSb (mo mi : ME) : GG := fun v ρ h => bd (mo ρ h) fun o h1 => bd (mi ρ h1) fun i h2 => match setG o i v h2 with
  | some h3 => some (ρ, h3)
  | none => none
theorem set_dctR (hu : X.A.units + 64 < cLine) : PSet X (fun o i v H Q => ∃ a H', o = .ref a ∧ DPut H a i v H' ∧ Q H') := fun pins s σ H o i v ov iv u Q I ro ri rv ⟨a, H', e, g, q⟩ => by
  subst e
  cases ro
  exact d_setItem (by omega) I g ri rv fun s' I' => ⟨H', I', q⟩
theorem PSet.or {t t' : TSet} (h : PSet X t) (h' : PSet X t') : PSet X (fun o i v H Q => t o i v H Q ∨ t' o i v H Q) := fun pins s σ H o i v ov iv u Q I ro ri rv q => by
  rcases q with q | q
  · exact h pins s σ H o i v ov iv u Q I ro ri rv q
  · exact h' pins s σ H o i v ov iv u Q I ro ri rv q
theorem g_sub {o i : Expr} {mo mi : ME} (hu : X.A.units + 64 < cLine) (ho : CE X o mo) (hi : CE X i mi)
    (ha : ∀ v, assign (.Subscript o i pos) X.env v = (do
      let ov ← holding [v] (eval o X.env)
      let iv ← holding [v, ov] (eval i X.env)
      standAt pos
      holding [v, ov, iv] (setItem ov iv v)
      release [v, ov, iv] []) := by intro _; rfl) : CG X (.Subscript o i pos) [] (gSb mo mi) :=
  PG.imp (pg_sub ho hi (PSet.or set_list (set_dctR hu)) ha) fun v σ H Q ⟨ρ, h, α, d, ρ', h', rs, mt, r, e, q⟩ => by
    obtain ⟨d1, h1, e1, e⟩ := bd_some e
    obtain ⟨d2, h2, e2, e⟩ := bd_some e
    refine ⟨ρ, h, α, d1, h1, rs, mt, e1, fun α1 H1 v1 x1 m1 r1 => ⟨ρ, h1, α1, d2, h2, rs.mono x1, m1, e2, fun α2 H2 v2 x2 m2 r2 => ?_⟩⟩
    have x12 := x1.trans x2
    have r0 := x12.rep r
    have r1' := x2.rep r1
    split at e
    · next e3 =>
      cases e
      unfold setG at e3
      split at e3
      · obtain ⟨_, rfl⟩ := r1'
        split at e3
        · next e4 =>
          split at e3
          · split at e3
            · next e5 =>
              cases e3
              obtain ⟨ys, s, rr⟩ := m2.lst e4
              obtain ⟨x3, m3⟩ := set_lst m2 e4 rfl (rr.set r0 _)
              exact .inl ⟨_, ys, _, _, rfl, r2, s, by rw [rr.length]; exact e5, q α2 _ σ (x12.trans x3) m3 ((rs.mono x12).mono x3) Off.refl⟩
            · cases e3
          · cases e3
        · next e4 =>
          split at e3
          · next e5 =>
            split at e3
            · next c =>
              cases e3
              obtain ⟨ys, s, rr⟩ := m2.at_ _ _ e4
              obtain ⟨x3, m3⟩ := set_dct m2 e4 rfl (repKV_put rr r0)
              exact .inr ⟨_, _, rfl, by rw [key_rep e5 r2]; exact DPut.k s (by rw [repKV_len rr]; exact c), q α2 _ σ (x12.trans x3) m3 ((rs.mono x12).mono x3) Off.refl⟩
            · cases e3
          · cases e3
        · cases e3
      · cases e3
    · cases e
end
end SL
namespace SL
open PySem PySem.Spec PyProof.Rows L2

section
variable {X : Cx} {tg e a b c o i : Expr} {ma mb : ME} {pos p : Pos} {st : Stmt} {rest body orelse : List Stmt} {m1 m2 : MS} {t : MT}
/-! ### statements -/
def sNext : MS := fun ρ h => some ((.nx, ρ), h)
def sSeq (m1 m2 : MS) : MS := fun ρ h => match m1 ρ h with
  | some ((.nx, ρ1), h1) => m2 ρ1 h1
  | r => r
theorem s_nil : CSs X [] sNext := PSs.imp pss_nil fun E σ H ⟨ρ, h, α, o, ρ', h', rs, mt, e, q⟩ => by cases e; exact q α H σ Ex.refl mt rs
theorem s_cons (h1 : CS X st m1) (h2 : CSs X rest m2) : CSs X (st :: rest) (sSeq m1 m2) :=
  PSs.imp (pss_cons h1 h2) fun E σ H ⟨ρ, h, α, o, ρ', h', rs, mt, e, q⟩ => by
    unfold sSeq at e
    cases z : m1 ρ h with
    | none => rw [z] at e; cases e
    | some r =>
      obtain ⟨⟨o1, ρ1⟩, h1'⟩ := r
      rw [z] at e
      refine ⟨ρ, h, α, o1, ρ1, h1', rs, mt, z, fun α1 H1 σ1 x1 mt1 rs1 => ?_⟩
      cases o1 with
      | nx => exact ⟨ρ1, h1', α1, o, ρ', h', rs1, mt1, e, fun α2 H2 σ2 x2 mt2 rs2 => q α2 H2 σ2 (x1.trans x2) mt2 rs2⟩
      | rt d => cases e; exact q α1 H1 σ1 x1 mt1 rs1
      | bk => cases e; exact q α1 H1 σ1 x1 mt1 rs1
      | ct => cases e; exact q α1 H1 σ1 x1 mt1 rs1
theorem s_one (h1 : CS X st m1) : CSs X [st] m1 := pss_one h1
theorem s_pass : CS X (.Pass pos) sNext := PS.imp ps_pass fun E σ H ⟨ρ, h, α, o, ρ', h', rs, mt, e, q⟩ => by cases e; exact q α H σ Ex.refl mt rs
def sBreak : MS := fun ρ h => some ((.bk, ρ), h)
def sCont : MS := fun ρ h => some ((.ct, ρ), h)
theorem s_break : CS X (.Break pos) sBreak := PS.imp ps_break fun E σ H ⟨ρ, h, α, o, ρ', h', rs, mt, e, q⟩ => by cases e; exact q α H σ Ex.refl mt rs
theorem s_cont : CS X (.Continue pos) sCont := PS.imp ps_continue fun E σ H ⟨ρ, h, α, o, ρ', h', rs, mt, e, q⟩ => by cases e; exact q α H σ Ex.refl mt rs
def sStuck : MS := fun _ _ => none
theorem s_stuck : CS X st sStuck := PS.imp ps_never fun E σ H ⟨ρ, h, α, o, ρ', h', rs, mt, e, q⟩ => nomatch e
def sExpr (m : ME) : MS := fun ρ h => match m ρ h with
  | some (_, h1) => some ((.nx, ρ), h1)
  | none => none
theorem s_expr (ha : CE X e ma) (hs : swapsWith e none pos.line X.env = pure false := by rfl) : CS X (.Expr e pos) (sExpr ma) :=
  PS.imp (ps_expr ha hs) fun E σ H ⟨ρ, h, α, o, ρ', h', rs, mt, e, q⟩ => by
    unfold sExpr at e
    split at e
    · next e1 => cases e; exact ⟨ρ, h, α, _, _, rs, mt, e1, fun α1 H1 v1 x1 m1 r1 => q α1 H1 σ x1 m1 (rs.mono x1)⟩
    · cases e
def sRet (m : ME) : MS := fun ρ h => match m ρ h with
  | some (d, h1) => some ((.rt d, ρ), h1)
  | none => none
theorem s_ret (ha : CE X e ma) : CS X (.Return (some e) pos) (sRet ma) :=
  PS.imp (ps_ret ha) fun E σ H ⟨ρ, h, α, o, ρ', h', rs, mt, e, q⟩ => by
    unfold sRet at e
    split at e
    · next e1 => cases e; exact ⟨ρ, h, α, _, _, rs, mt, e1, fun α1 H1 v1 x1 m1 r1 => q α1 H1 σ x1 m1 (rs.mono x1) v1 r1⟩
    · cases e
def sRetN : MS := fun ρ h => some ((.rt .non, ρ), h)
theorem s_retN : CS X (.Return none pos) sRetN := PS.imp ps_retN fun E σ H ⟨ρ, h, α, o, ρ', h', rs, mt, e, q⟩ => by cases e; exact q α H σ Ex.refl mt rs .non rfl
def sIf (t : MT) (m1 m2 : MS) : MS := fun ρ h => match t ρ h with
  | some (k, h1) => if k = true then m1 ρ h1 else m2 ρ h1
  | none => none
theorem s_if (hc : CT X c t) (ha : CSs X body m1) (hb : CSs X orelse m2) : CS X (.If c body orelse pos) (sIf t m1 m2) :=
  PS.imp (ps_if hc ha hb) fun E σ H ⟨ρ, h, α, o, ρ', h', rs, mt, e, q⟩ => by
    unfold sIf at e
    split at e
    · next e1 =>
      refine ⟨ρ, h, α, _, _, rs, mt, e1, fun α1 H1 v1 x1 mt1 r1 => ?_⟩
      subst r1
      split at e
      · next k => rw [if_pos k]; exact ⟨ρ, _, α1, o, ρ', h', rs.mono x1, mt1, e, fun α2 H2 σ2 x2 mt2 rs2 => q α2 H2 σ2 (x1.trans x2) mt2 rs2⟩
      · next k => rw [if_neg k]; exact ⟨ρ, _, α1, o, ρ', h', rs.mono x1, mt1, e, fun α2 H2 σ2 x2 mt2 rs2 => q α2 H2 σ2 (x1.trans x2) mt2 rs2⟩
    · cases e
/-- target = value -/
def sAsg (m : ME) (g : GG) : MS := fun ρ h => match m ρ h with
  | some (d, h1) => match g d ρ h1 with
    | some (ρ1, h2) => some ((.nx, ρ1), h2)
    | none => none
  | none => none
theorem asg_seq {K : PySem.W.Frag} {m : ME} {g : GG} {S : List Nat} {E : Ends} {σ : L2.St} {H : Hp} (t : lS K (sAsg m g) E σ H) : tAsg (lE K m) (lG K S g) E σ H := by
  obtain ⟨ρ, h, α, o, ρ', h', rs, mt, e, q⟩ := t
  unfold sAsg at e
  split at e
  · next e1 =>
    split at e
    · next e2 =>
      cases e
      exact ⟨ρ, h, α, _, _, rs, mt, e1, fun α1 H1 v1 x1 m1 r1 => ⟨ρ, _, α1, _, _, _, rs.mono x1, m1, r1, e2, fun α2 H2 σ2 x2 m2 rs2 _ => q α2 H2 σ2 (x1.trans x2) m2 rs2⟩⟩
    · cases e
  · cases e
theorem s_asg {S : List Nat} {g : GG} (ha : CE X e ma) (hg : CG X tg S g) (hs : swapsWithSole [tg] e pos.line X.env = pure false := by rfl) (hw : swappedStores [tg] e X.env = pure none := by rfl)
    (h1 : (assignEach [tg] X.env).map (·.2) = [assign tg X.env] := by rfl) : CS X (.Assign [tg] e pos) (sAsg ma g) :=
  PS.imp (ps_asg ha hg hs hw h1) fun E σ H t => asg_seq t
theorem s_set (i : Nat) {x : Str} {pos' : Pos} (hN : X.N.Nodup) (ha : CE X e ma) (hi : X.N[i]? = some x := by rfl) (hx : Loc X.env.scope x := by first | exact .inl rfl | exact .inr rfl) (hs : swapsWith e (some (.Name x pos')) pos.line X.env = pure false := by rfl)
    (hf : X.fn x = true ∨ X.env.scope.names.lookup x = some .local := by first | exact .inl rfl | exact .inr rfl) : CS X (.Assign [.Name x pos'] e pos) (sAsg ma (gNm i)) :=
  PS.imp (ps_set hN hi hx ha hs hf) fun E σ H ⟨ρ, h, α, o, ρ', h', rs, mt, e, q⟩ => by
    unfold sAsg at e
    split at e
    · next e1 => cases e; exact ⟨ρ, h, α, _, _, rs, mt, e1, fun α1 H1 v1 x1 m1 r1 => q α1 H1 _ x1 m1 ((rs.mono x1).set r1 i)⟩
    · cases e
/-- a, b = x, y; a, b, c = x, y, z -/
def sPar (is : List Nat) (m : MA) : MS := fun ρ h => match m ρ h with
  | some (ds, h1) => if ds.length = is.length then some ((.nx, (is.zip ds).foldl (fun r p => r.set p.1 (some p.2)) ρ), h1) else none
  | none => none
theorem s_par (i j : Nat) {x y : Str} {a b : Expr} {m : MA} {px py pt : Pos} {kt k2 pt2} (hc : X.calm = true) (hN : X.N.Nodup) (ha : CL X [a, b] m) (hi : X.N[i]? = some x := by rfl) (hj : X.N[j]? = some y := by rfl) (hij : i ≠ j := by decide)
    (hx : X.env.scope.names.lookup x = some .local := by rfl) (hy : X.env.scope.names.lookup y = some .local := by rfl)
    (hw : swappedStores [.Tuple [.Name x px, .Name y py] kt pt] (.Tuple [a, b] k2 pt2) X.env = pure (some [x, y]) := by rfl)
    (hs : swapsWithSole [.Tuple [.Name x px, .Name y py] kt pt] (.Tuple [a, b] k2 pt2) pos.line X.env = pure false := by rfl) :
    CS X (.Assign [.Tuple [.Name x px, .Name y py] kt pt] (.Tuple [a, b] k2 pt2) pos) (sPar [i, j] m) :=
  PS.imp (ps_par hc hN hi hj hij hx hy ha.1 hw hs) fun E σ H ⟨ρ, h, α, o, ρ', h', rs, mt, e, q⟩ => by
    unfold sPar at e
    split at e
    · next ds h1 e1 =>
      split at e
      · cases e
        refine ⟨ρ, h, α, _, _, rs, mt, e1, fun α1 H1 v1 x1 m1 r1 => ?_⟩
        have hl := ha.2 _ _ _ _ e1
        match ds, hl with
        | [d1, d2], _ =>
          obtain ⟨v, w, rfl, r2, r3⟩ := reps2 r1
          exact ⟨v, w, rfl, q α1 H1 _ x1 m1 (((rs.mono x1).set r2 i).set r3 j)⟩
      · cases e
    · cases e
theorem s_par3 (i j l : Nat) {x y z : Str} {a b c : Expr} {m : MA} {px py pz pt pos : Pos} {kt k2 pt2} (hc : X.calm = true) (hN : X.N.Nodup) (ha : CL X [a, b, c] m) (hi : X.N[i]? = some x := by rfl) (hj : X.N[j]? = some y := by rfl) (hl : X.N[l]? = some z := by rfl) (hij : i ≠ j := by decide) (hil : i ≠ l := by decide) (hjl : j ≠ l := by decide)
    (hx : X.env.scope.names.lookup x = some .local := by rfl) (hy : X.env.scope.names.lookup y = some .local := by rfl) (hz : X.env.scope.names.lookup z = some .local := by rfl)
    (hw : swappedStores [.Tuple [.Name x px, .Name y py, .Name z pz] kt pt] (.Tuple [a, b, c] k2 pt2) X.env = pure (some [x, y, z]) := by rfl)
    (hs : swapsWithSole [.Tuple [.Name x px, .Name y py, .Name z pz] kt pt] (.Tuple [a, b, c] k2 pt2) pos.line X.env = pure false := by rfl) :
    CS X (.Assign [.Tuple [.Name x px, .Name y py, .Name z pz] kt pt] (.Tuple [a, b, c] k2 pt2) pos) (sPar [i, j, l] m) :=
  PS.imp (ps_par3 hc hN hi hj hl hij hil hjl hx hy hz ha.1 hw hs) fun E σ H ⟨ρ, h, α, o, ρ', h', rs, mt, e, q⟩ => by
    unfold sPar at e
    split at e
    · next ds h1 e1 =>
      split at e
      · cases e
        refine ⟨ρ, h, α, _, _, rs, mt, e1, fun α1 H1 v1 x1 m1 r1 => ?_⟩
        have hl := ha.2 _ _ _ _ e1
        match ds, hl with
        | [d1, d2, d3], _ =>
          obtain ⟨v, ws, rfl, r2, r3⟩ := r1
          obtain ⟨w, u, rfl, r4, r5⟩ := reps2 r3
          exact ⟨v, w, u, rfl, q α1 H1 _ x1 m1 ((((rs.mono x1).set r2 i).set r4 j).set r5 l)⟩
      · cases e
    · cases e
/-- name op= e -/
theorem ip_of {op : Operator} {r : R2} (ho : OpR X (inplaceOp op) r) : PIp X op r := fun pins s σ H x y v u Q I rx ry q => ho pins s σ H x y v u Q I rx ry q
def iaddG : GO
  | .int i, .int j, h => some (.int (i + j), h)
  | .str x, .str y, h => if x.length + y.length ≤ sizeLine then some (.str (x ++ y), h) else none
  | .ref n, .ref m, h => match h[n]?, h[m]? with
    | some (.lst xs), some (.lst ys) => if xs.length + ys.length ≤ sizeLine then some (.ref n, h.set n (.lst (xs ++ ys))) else none
    | _, _ => none
  | _, _, _ => none
theorem ci_add : OpR X (inplaceOp .Add) (lO X.K iaddG) := OpR.imp (OpR.or iop_add (OpR.or iop_add_str iop_ext)) fun x y H Q ⟨h, α, dx, dy, d, h', mt, rx, ry, e, q⟩ => by
  unfold iaddG at e
  split at e
  · cases e; exact .inl ⟨_, _, rx, ry, q α H _ Ex.refl mt rfl⟩
  · split at e
    · next c => cases e; exact .inr (.inl ⟨_, _, rx, ry, c, q α H _ Ex.refl mt rfl⟩)
    · cases e
  · split at e
    · next e1 e2 =>
      split at e
      · next c =>
        cases e
        obtain ⟨l, rx⟩ := rx
        obtain ⟨_, ry⟩ := ry
        obtain ⟨vs, s1, r1⟩ := mt.lst e1
        obtain ⟨ws, s2, r2⟩ := mt.lst e2
        obtain ⟨x2, m2⟩ := set_lst mt e1 rfl (r1.append r2)
        exact .inr (.inr ⟨_, _, vs, ws, rx, ry, s1, s2, by rw [r1.length, r2.length]; exact c, q α _ _ x2 m2 ⟨by simpa using l, rfl⟩⟩)
      · cases e
    · cases e
  · cases e
theorem ci_sub : OpR X (inplaceOp .Sub) (lO X.K subG) := OpR.imp iop_sub fun x y H Q ⟨h, α, dx, dy, d, h', mt, rx, ry, e, q⟩ => by
  unfold subG at e
  split at e
  · cases e; exact ⟨_, _, rx, ry, q α H _ Ex.refl mt rfl⟩
  · cases e
def sAug (i : Nat) (g : GO) (m : ME) : MS := fun ρ h => match ρ[i]? with
  | some (some x) => match m ρ h with
    | some (y, h1) => match g x y h1 with
      | some (z, h2) => some ((.nx, ρ.set i (some z)), h2)
      | none => none
    | none => none
  | _ => none
theorem s_aug (i : Nat) {x : Str} {op : Operator} {g : GO} {pos' : Pos} (hN : X.N.Nodup) (ho : OpR X (inplaceOp op) (lO X.K g)) (ha : CE X e ma) (hi : X.N[i]? = some x := by rfl) (hx : Loc X.env.scope x := by first | exact .inl rfl | exact .inr rfl)
    (hf : X.fn x = true ∨ X.env.scope.names.lookup x = some .local := by first | exact .inl rfl | exact .inr rfl) : CS X (.AugAssign (.Name x pos') op e pos) (sAug i g ma) :=
  PS.imp (ps_aug hN hi hx ha (ip_of ho) hf) fun E σ H ⟨ρ, h, α, o, ρ', h', rs, mt, e, q⟩ => by
    unfold sAug at e
    split at e
    · next e0 =>
      split at e
      · next e1 =>
        split at e
        · next e2 =>
          cases e
          obtain ⟨v, ev, rv⟩ := rs.get e0
          exact ⟨v, ev, ρ, h, α, _, _, rs, mt, e1, fun α1 H1 v1 x1 m1 r1 => ⟨_, α1, _, _, _, _, m1, x1.rep rv, r1, e2, fun α2 H2 v2 x2 m2 r2 => q α2 H2 _ (x1.trans x2) m2 ((rs.mono (x1.trans x2)).set r2 i)⟩⟩
        · cases e
      · cases e
    · cases e

/-! ### while -/
def whStep (t : MT) (m : MS) : Rho × Hs → Option ((Rho × Hs) ⊕ ((Out × Rho) × Hs)) := fun s => match t s.1 s.2 with
  | none => none
  | some (false, h1) => some (.inr ((.nx, s.1), h1))
  | some (true, h1) => match m s.1 h1 with
    | none => none
    | some ((.nx, ρ2), h2) => some (.inl (ρ2, h2))
    | some ((.ct, ρ2), h2) => some (.inl (ρ2, h2))
    | some ((.bk, ρ2), h2) => some (.inr ((.nx, ρ2), h2))
    | some ((.rt d, ρ2), h2) => some (.inr ((.rt d, ρ2), h2))
noncomputable def sWh (t : MT) (m : MS) : MS := fun ρ h => itW (whStep t m) (ρ, h)
/-- what is wanted at the end -/
def FinS (K : PySem.W.Frag) (E : Ends) (α : Al) (H : Hp) (h : Hs) (o : Out) (ρ' : Rho) (h' : Hs) : Prop :=
  ∀ α' H' σ', Ex α H h α' H' h' → Mt K α' H' h' → RepS K α' h'.length H' ρ' σ' → match o with
    | .nx => E.nx σ' H'
    | .rt d => ∀ v, Rep K α' h'.length H' d v → E.rt v H'
    | .bk => E.bk σ' H'
    | .ct => E.ct σ' H'
theorem FinS.from {K : PySem.W.Frag} {E : Ends} {α α1 : Al} {H H1 : Hp} {h h1 : Hs} {o : Out} {ρ' : Rho} {h' : Hs} (f : FinS K E α H h o ρ' h') (x : Ex α H h α1 H1 h1) : FinS K E α1 H1 h1 o ρ' h' := fun α' H' σ' x' m r => f α' H' σ' (x.trans x') m r
theorem s_while (hp : PassesOwn (model X.prog X.w) X.A X.env X.xe) (hc : CT X c t) (hb : CSs X body m1) : CS X (.While c body [] pos) (sWh t m1) :=
  PS.imp (ps_while hp hc hb) fun E σ H ⟨ρ, h, α, o, ρ', h', rs, mt, e, q⟩ => by
    obtain ⟨n, e⟩ := itW_some.mp e
    refine ⟨fun n σ H => ∃ ρ h α o ρ' h', RepS X.K α h.length H ρ σ ∧ Mt X.K α H h ∧ itN (whStep t m1) n (ρ, h) = some ((o, ρ'), h') ∧ FinS X.K E α H h o ρ' h', ⟨n, ρ, h, α, o, ρ', h', rs, mt, e, q⟩, fun n σ H ⟨ρ, h, α, o, ρ', h', rs, mt, e, q⟩ => ?_⟩
    cases n with
    | zero => cases e
    | succ n =>
      unfold itN at e
      unfold whStep at e
      simp only at e
      cases z : t ρ h with
      | none => rw [z] at e; cases e
      | some r =>
        obtain ⟨k, h1⟩ := r
        rw [z] at e
        refine ⟨ρ, h, α, k, h1, rs, mt, z, fun α1 H1 k1 x1 mt1 r1 => ?_⟩
        subst r1
        cases k1 with
        | false =>
          rw [if_neg (by decide)]
          cases e
          exact q α1 H1 σ x1 mt1 (rs.mono x1)
        | true =>
          rw [if_pos rfl]
          simp only at e
          cases z2 : m1 ρ h1 with
          | none => rw [z2] at e; cases e
          | some r =>
            obtain ⟨⟨o2, ρ2⟩, h2⟩ := r
            rw [z2] at e
            refine ⟨fun σ' H' => ∃ ρ h α o ρ' h', RepS X.K α h.length H' ρ σ' ∧ Mt X.K α H' h ∧ itN (whStep t m1) n (ρ, h) = some ((o, ρ'), h') ∧ FinS X.K E α H' h o ρ' h', fun σ' H' w => ⟨n, Nat.lt_succ_self _, w⟩, ρ, h1, α1, o2, ρ2, h2, rs.mono x1, mt1, z2, fun α2 H2 σ2 x2 mt2 rs2 => ?_⟩
            cases o2 with
            | nx => exact ⟨ρ2, h2, α2, o, ρ', h', rs2, mt2, e, FinS.from q (x1.trans x2)⟩
            | ct => exact ⟨ρ2, h2, α2, o, ρ', h', rs2, mt2, e, FinS.from q (x1.trans x2)⟩
            | bk => cases e; exact q α2 H2 σ2 (x1.trans x2) mt2 rs2
            | rt d => cases e; exact q α2 H2 σ2 (x1.trans x2) mt2 rs2

/-! ### for -/
def frStep (src : Src) (g : GG) (m : MS) : Nat × Rho × Hs → Option ((Nat × Rho × Hs) ⊕ ((Out × Rho) × Hs)) := fun s => match src s.1 s.2.2 with
  | none => none
  | some none => some (.inr ((.nx, s.2.1), s.2.2))
  | some (some d) => match g d s.2.1 s.2.2 with
    | none => none
    | some (ρ1, h1) => match m ρ1 h1 with
      | none => none
      | some ((.nx, ρ2), h2) => some (.inl (s.1 + 1, ρ2, h2))
      | some ((.ct, ρ2), h2) => some (.inl (s.1 + 1, ρ2, h2))
      | some ((.bk, ρ2), h2) => some (.inr ((.nx, ρ2), h2))
      | some ((.rt d, ρ2), h2) => some (.inr ((.rt d, ρ2), h2))
noncomputable def sFor (mi : MI) (g : GG) (m : MS) : MS := fun ρ h => match mi ρ h with
  | none => none
  | some (src, h1) => itW (frStep src g m) (0, ρ, h1)
theorem s_for {it : Expr} {mi : MI} {S : List Nat} {g : GG} (hp : PassesOwn (model X.prog X.w) X.A X.env X.xe) (hc : X.calm = true) (hi : CI X tg it mi) (hg : CG X tg S g) (hb : CSs X body m1)
    (hs : ∀ x, foldedSetIterable it X.env x = pure x := by intro _; rfl) : CS X (.For tg it body [] pos) (sFor mi g m1) :=
  PS.imp (ps_for hp hc hi hg hb hs) fun E σ H ⟨ρ, h, α, o, ρ', h', rs, mt, e, q⟩ => by
    unfold sFor at e
    cases z0 : mi ρ h with
    | none => rw [z0] at e; cases e
    | some r =>
      obtain ⟨src, h0⟩ := r
      rw [z0] at e
      obtain ⟨n, e⟩ := itW_some.mp e
      refine ⟨ρ, h, α, src, h0, rs, mt, z0, fun α0 H0 J x0 mt0 ok => ?_⟩
      refine ⟨fun i n σ H => ∃ ρ h α o ρ' h', RepS X.K α h.length H ρ σ ∧ Mt X.K α H h ∧ Ex α0 H0 h0 α H h ∧ itN (frStep src g m1) n (i, ρ, h) = some ((o, ρ'), h') ∧ FinS X.K E α H h o ρ' h',
        ⟨n, ρ, h0, α0, o, ρ', h', rs.mono x0, mt0, Ex.refl, e, FinS.from q x0⟩, fun i n σ H ⟨ρ, h, α, o, ρ', h', rs, mt, xx, e, q⟩ => ?_⟩
      cases n with
      | zero => cases e
      | succ n =>
        unfold itN at e
        unfold frStep at e
        simp only at e
        have okk := ok α H h xx mt i
        cases z : src i h with
        | none => rw [z] at e; cases e
        | some r =>
          rw [z] at e
          cases r with
          | none =>
            cases e
            exact .inl ⟨okk.1 z, q α H σ Ex.refl mt rs⟩
          | some d =>
            simp only at e
            obtain ⟨hgo, hy⟩ := okk.2 d z
            refine .inr ⟨hgo, fun σ' H' => ∃ ρ h α o ρ' h', RepS X.K α h.length H' ρ σ' ∧ Mt X.K α H' h ∧ Ex α0 H0 h0 α H' h ∧ itN (frStep src g m1) n (i + 1, ρ, h) = some ((o, ρ'), h') ∧ FinS X.K E α H' h o ρ' h', fun σ' H' w => ⟨n, Nat.lt_succ_self _, w⟩, fun y H3 yy => ?_⟩
            obtain ⟨x3, mt3, r3⟩ := hy y H3 yy
            cases z1 : g d ρ h with
            | none => rw [z1] at e; cases e
            | some r =>
              obtain ⟨ρ1, h1⟩ := r
              rw [z1] at e
              refine ⟨ρ, h, α, d, ρ1, h1, rs.mono x3, mt3, r3, z1, fun α1 H1 σ1 x1 mt1 rs1 _ => ?_⟩
              simp only at e
              cases z2 : m1 ρ1 h1 with
              | none => rw [z2] at e; cases e
              | some r =>
                obtain ⟨⟨o2, ρ2⟩, h2⟩ := r
                rw [z2] at e
                refine ⟨ρ1, h1, α1, o2, ρ2, h2, rs1, mt1, z2, fun α2 H2 σ2 x2 mt2 rs2 => ?_⟩
                have xa := x3.trans (x1.trans x2)
                cases o2 with
                | nx => exact ⟨ρ2, h2, α2, o, ρ', h', rs2, mt2, xx.trans xa, e, FinS.from q xa⟩
                | ct => exact ⟨ρ2, h2, α2, o, ρ', h', rs2, mt2, xx.trans xa, e, FinS.from q xa⟩
                | bk => cases e; exact q α2 H2 σ2 xa mt2 rs2
                | rt d => cases e; exact q α2 H2 σ2 xa mt2 rs2

/-! ### comprehensions -/
def lcStep (src : Src) (g : GG) (tt : MT) (te : ME) (ρ : Rho) : Nat × List D × Hs → Option ((Nat × List D × Hs) ⊕ (List D × Hs)) := fun s => match src s.1 s.2.2 with
  | none => none
  | some none => some (.inr (s.2.1, s.2.2))
  | some (some d) => match g d ρ s.2.2 with
    | none => none
    | some (ρ1, h1) => match tt ρ1 h1 with
      | none => none
      | some (false, h2) => some (.inl (s.1 + 1, s.2.1, h2))
      | some (true, h2) => match te ρ1 h2 with
        | none => none
        | some (y, h3) => if s.2.1.length < sizeLine then some (.inl (s.1 + 1, s.2.1 ++ [y], h3)) else none
noncomputable def eLc (mi : MI) (g : GG) (tt : MT) (te : ME) (vs : List Nat) : ME := fun ρ h => match mi ρ h with
  | none => none
  | some (src, h1) => match itW (lcStep src g tt te (wipeR ρ vs)) (0, [], h1) with
    | none => none
    | some (acc, h2) => some (.ref h2.length, h2 ++ [.lst acc])
def tYes1 : MT := fun _ h => some (true, h)
theorem wipe_at {σ : L2.St} : ∀ {vs : List Nat} {i : Nat}, (wipe σ vs)[i]? = if i ∈ vs then σ[i]?.map (fun _ => Option.none) else σ[i]?
  | [], i => by simp [wipe]
  | v :: vs, i => by
    unfold wipe
    by_cases c : i = v
    · subst c
      rw [if_pos List.mem_cons_self]
      by_cases l : i < σ.length
      · rw [List.getElem?_set_self (by rw [wipe_length]; exact l), List.getElem?_eq_getElem l]; rfl
      · rw [List.getElem?_eq_none (by simp [wipe_length]; omega), List.getElem?_eq_none (by omega)]; rfl
    · rw [List.getElem?_set_ne (Ne.symm c), wipe_at]
      by_cases q : i ∈ vs
      · rw [if_pos q, if_pos (List.mem_cons_of_mem _ q)]
      · rw [if_neg q, if_neg (fun z => (List.mem_cons.mp z).elim c q)]
theorem wipe_off {S vs : List Nat} {σ σ2 : L2.St} (o : Off S (wipe σ vs) σ2) (h : ∀ i ∈ S, i ∈ vs) : wipe σ2 vs = wipe σ vs := by
  have hl : σ2.length = σ.length := by rw [o.1, wipe_length]
  apply List.ext_getElem?
  intro i
  rw [wipe_at, wipe_at]
  by_cases q : i ∈ vs
  · rw [if_pos q, if_pos q]
    by_cases l : i < σ.length
    · rw [List.getElem?_eq_getElem l, List.getElem?_eq_getElem (by omega)]; rfl
    · rw [List.getElem?_eq_none (by omega), List.getElem?_eq_none (by omega)]
  · rw [if_neg q, if_neg q, o.2 i (fun z => q (h i z)), wipe_at, if_neg q]
theorem Aside.ex1 {α α2 : Al} {H H2 : Hp} {h h2 : Hs} {p : Addr} {u : HO} (hp : H p = none) (x : Ex α H h α2 H2 h2) (a : Aside α2 H2 h2 p) (hp2 : ∃ u, H2 p = some u) : Ex α H h α2 (upd H2 p u) h2 where
  le := x.le
  al := x.al
  kd := x.kd
  tups := fun b xs e => (a.ex hp2).1 b xs (x.tups b xs e)
  frzs := fun b ob u e => (a.ex hp2).2.1 b ob u (x.frzs b ob u e)
  dom := fun b e => x.dom b ((a.ex hp2).2.2 b e)
  new := x.new
  fr := fun b o e q => by
    have : b ≠ p := fun z => by rw [z, hp] at e; cases e
    rw [upd_ne this]; exact x.fr b o e q
theorem upd_id {H : Hp} {p : Addr} {o : HO} (e : H p = some o) : upd H p o = H := by
  funext b; unfold upd; split
  · next q => rw [q, e]
  · rfl
theorem lc_lift {K : PySem.W.Frag} {mi : MI} {S : List Nat} {g : GG} {tt : MT} {te : ME} {vs : List Nat} {σ : L2.St} {H : Hp} {Q : VK} (hv : ∀ i ∈ S, i ∈ vs) (t : lE K (eLc mi g tt te vs) σ H Q) : tLc (lI K mi) (lG K S g) (lT K tt) (lE K te) vs σ H Q := by
  obtain ⟨ρ, h, α, d, h', rs, mt, e, q⟩ := t
  unfold eLc at e
  cases z0 : mi ρ h with
  | none => rw [z0] at e; cases e
  | some r =>
    obtain ⟨src, h0⟩ := r
    rw [z0] at e
    simp only at e
    cases z1 : itW (lcStep src g tt te (wipeR ρ vs)) (0, [], h0) with
    | none => rw [z1] at e; cases e
    | some r =>
      obtain ⟨accF, hF⟩ := r
      rw [z1] at e
      cases e
      obtain ⟨n, e⟩ := itW_some.mp z1
      refine ⟨ρ, h, α, src, h0, rs, mt, z0, fun α0 H0 J x0 mt0 ok => ?_⟩
      intro D np
      have a0 : Aside α0 (upd H0 D (.lst [])) h0 D := Aside.new mt0 np (fun _ z => nomatch z) (fun _ _ z => nomatch z) (fun _ z => nomatch z)
      refine ⟨fun i n H => ∃ acc h α ws, Mt K α H h ∧ Ex α0 H0 h0 α H h ∧ Aside α H h D ∧ H D = some (.lst ws) ∧ Reps K α h.length H acc ws ∧ itN (lcStep src g tt te (wipeR ρ vs)) n (i, acc, h) = some (accF, hF),
        ⟨n, [], h0, α0, [], mt0.grow np, Ex.grow np, a0, upd_same, rfl, e⟩, fun i n H ⟨acc, h, α, ws, mt, xx, as, eD, rr, e⟩ => ?_⟩
      cases n with
      | zero => cases e
      | succ n =>
        unfold itN at e
        unfold lcStep at e
        simp only at e
        have okk := ok α H h xx mt i
        cases z : src i h with
        | none => rw [z] at e; cases e
        | some r =>
          rw [z] at e
          cases r with
          | none =>
            cases e
            refine .inl ⟨okk.1 z, ?_⟩
            have hx := Ex.late (o := .lst ws) (ao := .lst accF) np xx as ⟨_, eD⟩
            have hm := mt.late (o := .lst ws) (ao := .lst accF) as ⟨_, eD⟩ ⟨ws, upd_same, by rw [upd_id eD]; exact rr⟩
            rw [upd_id eD] at hx hm
            exact q _ _ _ (x0.trans hx) hm ⟨by rw [len_snoc]; exact Nat.lt_succ_self _, by rw [al1_same]⟩
          | some d =>
            simp only at e
            obtain ⟨hgo, hy⟩ := okk.2 d z
            refine .inr ⟨hgo, fun H' => ∃ acc h α ws, Mt K α H' h ∧ Ex α0 H0 h0 α H' h ∧ Aside α H' h D ∧ H' D = some (.lst ws) ∧ Reps K α h.length H' acc ws ∧ itN (lcStep src g tt te (wipeR ρ vs)) n (i + 1, acc, h) = some (accF, hF), fun H' w => ⟨n, Nat.lt_succ_self _, w⟩, fun y H3 yy => ?_⟩
            obtain ⟨x3, mt3, r3⟩ := hy y H3 yy
            have rs0 : RepS K α h.length H3 (wipeR ρ vs) (wipe σ vs) := ((rs.mono (x0.trans xx)).mono x3).wipe vs
            cases z1 : g d (wipeR ρ vs) h with
            | none => rw [z1] at e; cases e
            | some r =>
              obtain ⟨ρ1, h1⟩ := r
              rw [z1] at e
              refine ⟨wipeR ρ vs, h, α, d, ρ1, h1, rs0, mt3, r3, z1, fun α1 H1 σ1 x1 mt1 rs1 of1 => ⟨wipe_off of1 hv, ?_⟩⟩
              simp only at e
              cases z2 : tt ρ1 h1 with
              | none => rw [z2] at e; cases e
              | some r =>
                obtain ⟨k, h2⟩ := r
                rw [z2] at e
                refine ⟨ρ1, h1, α1, k, h2, rs1, mt1, z2, fun α2 H2 k2 x2 mt2 rk => ?_⟩
                subst rk
                have xa := x3.trans (x1.trans x2)
                obtain ⟨eD2, as2⟩ := as.later eD xa
                cases k2 with
                | false =>
                  rw [if_neg (by decide)]
                  exact ⟨acc, h2, α2, ws, mt2, xx.trans xa, as2, eD2, xa.reps rr, e⟩
                | true =>
                  rw [if_pos rfl]
                  simp only at e
                  cases z3 : te ρ1 h2 with
                  | none => rw [z3] at e; cases e
                  | some r =>
                    obtain ⟨y2, h3⟩ := r
                    rw [z3] at e
                    simp only at e
                    refine ⟨ρ1, h2, α2, y2, h3, rs1.mono x2, mt2, z3, fun α3 H3' v3 x4 mt4 r4 => ?_⟩
                    obtain ⟨eD3, as3⟩ := as2.later eD2 x4
                    by_cases c : acc.length < sizeLine
                    · rw [if_pos c] at e
                      have rr3 := (xa.trans x4).reps rr
                      refine ⟨ws, eD3, by rw [rr.length]; exact c, acc ++ [y2], h3, α3, ws ++ [v3], ?_, ?_, ?_, upd_same, ?_, e⟩
                      · exact (as3.put mt4 ⟨_, eD3⟩).1
                      · exact Aside.ex1 np (xx.trans (xa.trans x4)) as3 ⟨_, eD3⟩
                      · exact ⟨as3.1, (fun xs z => by rw [upd_same] at z; cases z), (fun b u z => by rw [upd_same] at z; cases z), (fun b z => by rw [upd_same] at z; cases z)⟩
                      · have ap := rr3.append (Reps.cons r4 Reps.nil)
                        refine reps_mono (Nat.le_refl _) (fun _ _ => rfl) (fun b xs s => ?_) _ _ ap
                        rcases s with s | s
                        · exact .inl ((as3.ex ⟨_, eD3⟩).1 b xs s)
                        · exact .inr s
                    · rw [if_neg c] at e
                      cases e
variable {elt : Expr} {ifs : List Expr} {scope : Scope} {own : List (Str × Nat)} {mi : MI} {S : List Nat} {g : GG} {tt : MT} {te : ME}
def CTs (X : Cx) (ifs : List Expr) (t : MT) : Prop := PTs X ifs (lT X.K t)
theorem PTs.imp {t t' : TT} (h : PTs X ifs t) (i : ∀ σ H Q, t' σ H Q → t σ H Q) : PTs X ifs t' := ⟨fun pins s σ H Q I q => h.run pins s σ H Q I (i _ _ _ q)⟩
theorem ts_nil : CTs X [] tYes1 := PTs.imp pts_nil fun σ H Q ⟨ρ, h, α, d, h', rs, mt, e, q⟩ => by cases e; exact q α H true Ex.refl mt rfl
theorem ts_one {t : MT} (h : CT X c t) : CTs X [c] t := pts_one h
theorem c_lc {it : Expr} (hc : X.calm = true) (hN : X.N.Nodup) (hi : CI X tg it mi) (ok : BlkOk X.N X.env.scope scope own) (hv : ∀ i ∈ S, i ∈ own.map (·.2))
    (hg : ∀ (s : Shared) (H : Hp) (C : Addr) (cl : List (Str × Addr)) (fp : List Addr), CG (X.blk s H scope (compEnvC scope cl C X.env) fp) tg S g) (ht : ∀ (s : Shared) (H : Hp) (C : Addr) (cl : List (Str × Addr)) (fp : List Addr), CTs (X.blk s H scope (compEnvC scope cl C X.env) fp) ifs tt)
    (he : ∀ (s : Shared) (H : Hp) (C : Addr) (cl : List (Str × Addr)) (fp : List Addr), CE (X.blk s H scope (compEnvC scope cl C X.env) fp) elt te) (hs : ∀ x, foldedSetIterable it X.env x = pure x := by intro _; rfl) :
    CE X (.ListComp elt [⟨tg, it, ifs, 0⟩] scope pos) (eLc mi g tt te (own.map (·.2))) :=
  PE.imp (pe_lc (g := lG X.K S g) (tt := lT X.K tt) (te := lE X.K te) hc hN hi ok hg ht he hs) fun σ H Q t => lc_lift hv t
theorem s_setLc (i : Nat) {y : Str} {py spos : Pos} {it : Expr} (hc : X.calm = true) (hN : X.N.Nodup) (hi : CI X tg it mi) (ok : BlkOk X.N X.env.scope scope own) (hv : ∀ i ∈ S, i ∈ own.map (·.2))
    (hg : ∀ (s : Shared) (H : Hp) (C : Addr) (cl : List (Str × Addr)) (fp : List Addr), CG (X.blk s H scope (compEnvC scope cl C X.env) fp) tg S g) (ht : ∀ (s : Shared) (H : Hp) (C : Addr) (cl : List (Str × Addr)) (fp : List Addr), CTs (X.blk s H scope (compEnvC scope cl C X.env) fp) ifs tt)
    (he : ∀ (s : Shared) (H : Hp) (C : Addr) (cl : List (Str × Addr)) (fp : List Addr), CE (X.blk s H scope (compEnvC scope cl C X.env) fp) elt te)
    (hsw : swapsWith (.ListComp elt [⟨tg, it, ifs, 0⟩] scope pos) (some (.Name y py)) spos.line X.env = pure true) (hy : X.N[i]? = some y := by rfl) (hyl : X.env.scope.names.lookup y = some .local := by rfl) (hs : ∀ x, foldedSetIterable it X.env x = pure x := by intro _; rfl) :
    CS X (.Assign [.Name y py] (.ListComp elt [⟨tg, it, ifs, 0⟩] scope pos) spos) (sAsg (eLc mi g tt te (own.map (·.2))) (gNm i)) :=
  PS.imp (ps_setLc (g := lG X.K S g) (tt := lT X.K tt) (te := lE X.K te) hc hN hy hyl hsw hi ok hg ht he hs) fun E σ H ⟨ρ, h, α, o, ρ', h', rs, mt, e, q⟩ => by
    unfold sAsg at e
    split at e
    · next e1 =>
      cases e
      exact lc_lift hv ⟨ρ, h, α, _, _, rs, mt, e1, fun α1 H1 v1 x1 m1 r1 => q α1 H1 _ x1 m1 ((rs.mono x1).set r1 i)⟩
    · cases e
end

/-! ### a def -/
def outB : Option ((Out × Rho) × Hs) → Option (D × Hs)
  | some ((.nx, _), h1) => some (.non, h1)
  | some ((.rt d, _), h1) => some (d, h1)
  | _ => none
def runB (m : MS) (n N : Nat) : GC := fun ds h => if ds.length = n then outB (m (ds.map some ++ List.replicate (N - n) none) h) else none
section
variable {P : Program} {w : World} {K : PySem.W.Frag} {mg : Str → Option Value} {base : Heap}
theorem ok_def {x qual : Str} {st : Stmt} {f : Addr} {fd : FuncData} {N ps : List Str} {k : Nat} {m : MS} (F : Fun K x qual st f fd) (S : FnScope N ps (defScope st))
    (hbody : ∀ (cdv : Value) (A : Around) (outer : List Env) (s : Shared) (H : Hp) (E : XK), Room k (A.deeper (envOfC qual (defScope st) s.heap.objs.size f cdv)) →
      CSs (cxOf CX0 P w K mg base N qual (defScope st) f cdv A outer s H E).nox (defBody st) m) : FnOk P w K mg base CX0 (k + 1) f fd ps (lF K (runB m ps.length N.length)) := by
  refine F.ok S (fun vs H Q E h => ?_) (fun cdv A outer s H vs Q E hr h => ⟨_, hbody cdv A outer s H E hr, ?_⟩)
  · obtain ⟨h0, α, ds, d, h', mt, r, e, q⟩ := h
    unfold runB at e
    split at e
    · next c => rw [r.length]; exact c
    · cases e
  · obtain ⟨h0, α, ds, d, h', mt, r, e, q⟩ := h
    unfold runB at e
    split at e
    · next c =>
      cases z : m (ds.map some ++ List.replicate (N.length - ps.length) none) h0 with
      | none => rw [z] at e; cases e
      | some p =>
        obtain ⟨⟨o, ρ'⟩, h1⟩ := p
        rw [z] at e
        refine ⟨_, h0, α, o, ρ', h1, ?_, mt, z, fun α1 H1 σ1 x1 m1 rs1 => ?_⟩
        · unfold L2.start
          rw [r.length, c]
          exact RepS.start r
        · cases o with
          | nx => cases e; exact q α1 H1 .non x1 m1 rfl
          | rt d => cases e; exact fun v rv => q α1 H1 v x1 m1 rv
          | bk => cases e
          | ct => cases e
    · cases e
theorem cal_of {x : Str} {f : Addr} {fd : FuncData} {ps : List Str} {k : Nat} {g : GC} (F : FnOk P w K mg base CX0 k f fd ps (lF K g)) (hm : mg x = some (.ref f)) (hk : PySem.W.keepIn K (.ref f) = true) (hb : Binds K fd ps []) : Cal P w K mg base k x g := ⟨f, fd, ps, F, hm, hk, hb⟩
/-- a def by a plainer function: it gives the same, and what it leaves is more -/
theorem Cal.by {k : Nat} {x : Str} {g g' : GC} (c : Cal P w K mg base k x g) (h : ∀ vs H Q, lC K g' vs H Q → lC K g vs H Q) : Cal P w K mg base k x g' := by
  obtain ⟨a, fd, ps, F, e1, e2, e3⟩ := c.ex
  exact ⟨a, fd, ps, F.imp fun vs H Q E q => h vs H Q q, e1, e2, e3⟩
end
end SL
namespace SL
open PySem PySem.Spec PyProof.Rows L2
/-! ### the law's call -/
theorem enter_of {K : PySem.W.Frag} {H : Hp} {a : Addr} {ns : List Int} {f : GC} {h' : Hs} {E : XK} (ho : Only H) (hS : SqL K H a (ns.map V.int)) (e : f [.ref 0] [.fz (ns.map D.int)] = some (.bl true, h')) :
    lF K f [.ref a] H (fun v _ => v = .bl true) E := by
  have fz : FzL K H a (ns.map V.int) := by
    rcases hS with (z | ⟨o, z⟩) | ⟨o, its, n, e1, e2, e3, e4, e5, e6⟩
    · rcases ho a with q | ⟨o, xs, q⟩
      · rw [q] at z; cases z
      · rw [q] at z; cases z
    · exact .inl ⟨o, z⟩
    · exact .inr fun H' => .inr ⟨o, its, n, e1, e2, e3, e4, e5, e6⟩
  refine ⟨[.fz (ns.map D.int)], fun _ => a, [.ref 0], .bl true, h', ⟨fun n o q => ?_, fun n m u _ _ => ?_⟩, ⟨_, _, rfl, ⟨Nat.zero_lt_one, rfl⟩, rfl⟩, e, fun α' H' v x m r => r⟩
  · match n, q with
    | 0, q =>
      cases q
      exact ⟨_, fz, Reps.of_ints ns⟩
    | n + 1, q => cases q
  · obtain ⟨o, q, z⟩ := u
    match n, q with
    | 0, q => cases q; cases z
    | n + 1, q => cases q
theorem kon_tup {K : PySem.W.Frag} {mg : Str → Option Value} {x : Str} {d : D} {ds : List D} {p : Addr} {o : Obj} {its : Array Value} {n : Nat} {xs : List V} (hd : d = .tup ds) (hm : mg x = some (.ref p)) (hk : K.lookup p = some o) (ht : o.cls = .type "tuple") (hda : o.data = .seq its n)
    (hs : its.size ≤ sizeLine) (hv : Vals xs its.toList) (hr : ∀ α L H, Reps K α L H ds xs) : Kon K mg x d := by
  subst hd
  exact ⟨.ref p, .ref p, hm, rfl, fun α L H => ⟨p, xs, rfl, .inr fun H' => .inr ⟨o, its, n, hk, ht, hda, hs, hv⟩, hr α L H⟩⟩
end SL
namespace SL
open PySem PySem.Spec PyProof.Rows L2
/-! ### constants of the top -/
mutual
/-- the frozen value of a datum -/
inductive KD (K : PySem.W.Frag) : D → Value → Prop
  | non : KD K .non .none
  | bl {b : Bool} : KD K (.bl b) (.bool b)
  | int {i : Int} {t : Tok} : KD K (.int i) (.int i t)
  | str {s : Str} {t : Tok} : KD K (.str s) (.str s t)
  | tup {ds : List D} {p : Addr} {o : Obj} {its : Array Value} {n : Nat} (hk : K.lookup p = some o) (ht : o.cls = .type "tuple") (hd : o.data = .seq its n) (hs : its.size ≤ sizeLine) (h : KDs K ds its.toList) : KD K (.tup ds) (.ref p)
inductive KDs (K : PySem.W.Frag) : List D → List Value → Prop
  | nil : KDs K [] []
  | cons {d : D} {v : Value} {ds : List D} {vs : List Value} (h : KD K d v) (t : KDs K ds vs) : KDs K (d :: ds) (v :: vs)
end
mutual
theorem KD.rep {K : PySem.W.Frag} : ∀ {d : D} {u : Value}, KD K d u → ∃ v, RelV v u ∧ ∀ α L H, Rep K α L H d v
  | _, _, .non => ⟨.non, rfl, fun _ _ _ => rfl⟩
  | _, _, .bl => ⟨.bl _, rfl, fun _ _ _ => rfl⟩
  | _, _, .int => ⟨.int _, ⟨_, rfl⟩, fun _ _ _ => rfl⟩
  | _, _, .str => ⟨.str _, ⟨_, rfl⟩, fun _ _ _ => rfl⟩
  | _, _, .tup (p := p) (o := o) (its := its) (n := n) hk ht hd hs h => by
    obtain ⟨xs, hv, hr⟩ := KDs.rep h
    exact ⟨.ref p, rfl, fun α L H => ⟨p, xs, rfl, .inr fun H' => .inr ⟨o, its, n, hk, ht, hd, hs, hv⟩, hr α L H⟩⟩
theorem KDs.rep {K : PySem.W.Frag} : ∀ {ds : List D} {us : List Value}, KDs K ds us → ∃ xs, Vals xs us ∧ ∀ α L H, Reps K α L H ds xs
  | _, _, .nil => ⟨[], .nil, fun _ _ _ => rfl⟩
  | _, _, .cons h t => by
    obtain ⟨v, r, e⟩ := KD.rep h
    obtain ⟨xs, rs, es⟩ := KDs.rep t
    exact ⟨v :: xs, .cons r rs, fun α L H => ⟨v, xs, rfl, e α L H, es α L H⟩⟩
end
theorem kon_kd {K : PySem.W.Frag} {mg : Str → Option Value} {x : Str} {d : D} {u : Value} (hm : mg x = some u) (k : KD K d u) : Kon K mg x d := by
  obtain ⟨v, r, e⟩ := k.rep
  exact ⟨u, v, hm, r, e⟩
end SL
namespace SL
open PySem PySem.Spec PyProof.Rows L2
section
variable {X : Cx} {tg : Expr} {pos : Pos}
variable {elt : Expr} {ifs : List Expr} {scope : Scope} {own : List (Str × Nat)} {mi : MI} {S vs : List Nat} {g : GG} {tt : MT} {te : ME}
theorem c_lcv {it : Expr} (hc : X.calm = true) (hN : X.N.Nodup) (hi : CI X tg it mi) (ok : BlkOk X.N X.env.scope scope own) (hv : ∀ i ∈ S, i ∈ vs)
    (hg : ∀ (s : Shared) (H : Hp) (C : Addr) (cl : List (Str × Addr)) (fp : List Addr), CG (X.blk s H scope (compEnvC scope cl C X.env) fp) tg S g) (ht : ∀ (s : Shared) (H : Hp) (C : Addr) (cl : List (Str × Addr)) (fp : List Addr), CTs (X.blk s H scope (compEnvC scope cl C X.env) fp) ifs tt)
    (he : ∀ (s : Shared) (H : Hp) (C : Addr) (cl : List (Str × Addr)) (fp : List Addr), CE (X.blk s H scope (compEnvC scope cl C X.env) fp) elt te) (ho : own.map (·.2) = vs := by rfl) (hs : ∀ x, foldedSetIterable it X.env x = pure x := by intro _; rfl) :
    CE X (.ListComp elt [⟨tg, it, ifs, 0⟩] scope pos) (eLc mi g tt te vs) := by
  subst ho
  exact c_lc hc hN hi ok hv hg ht he hs
theorem s_setLcv (i : Nat) {y : Str} {py spos : Pos} {it : Expr} (hc : X.calm = true) (hN : X.N.Nodup) (hi : CI X tg it mi) (ok : BlkOk X.N X.env.scope scope own) (hv : ∀ i ∈ S, i ∈ vs)
    (hg : ∀ (s : Shared) (H : Hp) (C : Addr) (cl : List (Str × Addr)) (fp : List Addr), CG (X.blk s H scope (compEnvC scope cl C X.env) fp) tg S g) (ht : ∀ (s : Shared) (H : Hp) (C : Addr) (cl : List (Str × Addr)) (fp : List Addr), CTs (X.blk s H scope (compEnvC scope cl C X.env) fp) ifs tt)
    (he : ∀ (s : Shared) (H : Hp) (C : Addr) (cl : List (Str × Addr)) (fp : List Addr), CE (X.blk s H scope (compEnvC scope cl C X.env) fp) elt te)
    (hsw : swapsWith (.ListComp elt [⟨tg, it, ifs, 0⟩] scope pos) (some (.Name y py)) spos.line X.env = pure true) (ho : own.map (·.2) = vs := by rfl) (hy : X.N[i]? = some y := by rfl) (hyl : X.env.scope.names.lookup y = some .local := by rfl) (hs : ∀ x, foldedSetIterable it X.env x = pure x := by intro _; rfl) :
    CS X (.Assign [.Name y py] (.ListComp elt [⟨tg, it, ifs, 0⟩] scope pos) spos) (sAsg (eLc mi g tt te vs) (gNm i)) := by
  subst ho
  exact s_setLc i hc hN hi ok hv hg ht he hsw hy hyl hs
end
end SL
namespace SL
open PySem PySem.Spec PyProof.Rows L2
/-! ### a tuple told with its places -/
abbrev tIt (p : Addr) : Obj := { cls := .type "tuple_iterator", data := .fields #[.ref p, .int 0 0] }
abbrev eOb (c : Addr) : Obj := { cls := .type "enumerate", data := .fields #[.none, .bool false, .ref c, rawInt 0, .none, .none] }
open Sem (wp) in
set_option maxHeartbeats 1000000 in
theorem enumT_meets (p : Addr) (xs : Array Value) :
    Meets (Builtin.«enumerate.__new__» ⟨[.type "enumerate", .ref p], []⟩) (fun _ R z => z.heap.IsTuple p xs ∧ R (.ok (.ret (.ref (z.heap.push (tIt p)).objs.size))) { z with heap := (z.heap.push (tIt p)).push (eOb z.heap.objs.size) }) :=
  .of_wp fun prog w A R z k => by
    obtain ⟨h0, gn, dr, tk, osx⟩ := z
    obtain ⟨ht, k⟩ := k
    have sb := sub_enumerate
    have st : ∀ {B : Around} {E : Value → Shared → Prop} {Q : Value → Shared → Prop}, Q (.ref h0.objs.size) ⟨h0.push (tIt p), gn, dr, tk, osx⟩ → wpAny (model prog w) B (pyIter (.ref p)) Q E ⟨h0, gn, dr, tk, osx⟩ :=
      fun q => (begins_tuple p xs).iter prog w _ _ ⟨h0, gn, dr, tk, osx⟩ _ ht q
    wp_walk using st
    refine wpAny_stack_any fun _ => wpAny_pure ?_
    split
    · rename_i cc _ _ _ _ _
      cases (cc == Value.type "enumerate") <;> (wp_walk using st; exact ⟨_, rfl, k⟩)
    · wp_walk using st
      exact ⟨_, rfl, k⟩
section
variable {prog : Program} {w : World} {A : Around} {E : Value → Shared → Prop} {s : Shared}
theorem call_enumT {p : Addr} {xs : Array Value} {Q : Value → Shared → Prop} (ht : s.heap.IsTuple p xs)
    (k : ∀ h1, IsEnum h1 (s.heap.objs.size + 1) s.heap.objs.size 0 .none → h1.IsTupleIter s.heap.objs.size p 0 → h1.objs.size = s.heap.objs.size + 2 →
      (∀ c o, s.heap.get? c = some o → h1.get? c = some o) → Q (.ref (s.heap.objs.size + 1)) { s with heap := h1 }) :
    wpAny (model prog w) A (call (.type "enumerate") [.ref p]) Q E s := by
  refine callType_new F.called_enumerate (by decide) (F.typeCall_enumerate_1 _) (F.newCall_enumerate_1 _) (fun ob => F.args_object_init_2 ob _) F.entry_enumerate_new (enumT_meets p xs) ⟨ht, ?_⟩
  have z1 : (s.heap.push (tIt p)).objs.size = s.heap.objs.size + 1 := Heap.size_push ..
  rw [z1]
  have e1 : IsEnum ((s.heap.push (tIt p)).push (eOb s.heap.objs.size)) (s.heap.objs.size + 1) s.heap.objs.size 0 .none := by
    have := Heap.get?_push_size (s.heap.push (tIt p)) (o := eOb s.heap.objs.size) rfl
    rw [z1] at this
    exact this
  exact ⟨⟨_, e1, rfl⟩, k _ e1 ⟨_, Heap.get?_push_of_some _ (Heap.get?_push_size _ rfl), rfl, rfl⟩ (by rw [Heap.size_push, z1]) fun c o q => Heap.get?_push_of_some _ (Heap.get?_push_of_some _ q)⟩
end
def IteT (K : PySem.W.Frag) (a : Addr) : It where
  go i H := ∃ (xs : List V) (x : V), SqT K H a xs ∧ xs[i]? = some x
  yld i H v H' := ∃ T x, v = .ref T ∧ H T = none ∧ H' = upd H T (.tup [.int (i : Nat), x]) ∧ ∀ xs, SqT K H a xs → xs[i]? = some x
  stop i H := ∃ xs : List V, SqT K H a xs ∧ xs.length ≤ i
theorem drawn_out {prog : Program} {w : World} {A : Around} (hh : A.handled = none) (c p : Addr) (i : Nat) (xs : Array Value) (hx : xs[i]? = none) :
    Draws prog w A c [c, p] i (fun _ _ => False) (fun j h => j = i ∧ h.IsTupleIter c p j ∧ h.IsTuple p xs) :=
  ⟨fun _ _ st => let ⟨_, ⟨o, q, _⟩, _⟩ := st; ⟨o, q⟩, fun _ _ _ st k => ⟨st.1, st.2.1.at fun o q => k c (by simp) o q, st.2.2.at fun o q => k p (by simp) o q⟩,
    fun j _ _ _ l st _ => absurd st.1 (Nat.ne_of_lt l), fun _ _ _ st k => wpAny_nextOf_tuple_end hh st.2.1 st.2.2 hx k⟩
theorem turn_enumT {P : Program} {w : World} {K : PySem.W.Frag} {elts : List Expr} {kk : Nat} {tp : Pos} (a e c : Addr) (hac : a ≠ c) (hea : e ≠ a) :
    Turn P w K (.Tuple elts kk tp) (IteT K a) [e, c] e (fun i h => (∃ old, IsEnum h e c ((i : Nat) : Int) old) ∧ h.IsTupleIter c a i ∧ e ≠ c) := by
  have two : ∀ {b : Addr}, b ∈ [e, c] → b = e ∨ b = c := fun hb => by simpa using hb
  refine ⟨by simp, fun i h st b hb => ?_, fun i h h' st k => ?_, ?_, ?_, fun A i s Q E st q => ?_⟩
  · obtain ⟨⟨old, he⟩, ⟨o, ho, hc, hd⟩, _⟩ := st
    rcases two hb with rfl | rfl
    · exact ⟨_, he, fun v q => nomatch q⟩
    · exact ⟨o, ho, fun v q => by rw [hd] at q; cases q⟩
  · obtain ⟨⟨old, he⟩, hi, hne⟩ := st
    exact ⟨⟨old, k e (by simp) _ he⟩, hi.at fun o q => k c (by simp) o q, hne⟩
  · intro X hP hw hK hc i pins s σ H E I hf st hg
    subst hP hw hK
    obtain ⟨⟨old, he⟩, hit, hne⟩ := st
    obtain ⟨xs, x, hq, hx⟩ := hg
    obtain ⟨its, rv, p, _⟩ := I.tuple hq
    obtain ⟨u, hu, ru⟩ := rv.get hx
    have lx := rv.length
    have li : i < its.toArray.size := by
      have := (List.getElem?_eq_some_iff.mp hu).1
      simpa using this
    have le : e < s.heap.objs.size := Heap.lt_size he
    have lc : c < s.heap.objs.size := by obtain ⟨_, q, _⟩ := hit; exact Heap.lt_size q
    have pt : s.heap.IsTuple a its.toArray := p
    refine wpAny_pyNext_enum_itemD (Draws.tuple (A := X.A.in1) (I.ok.hd hc) c a hac its.toArray) he ⟨hit, pt⟩ li hne (by simp [hne, hea]) fun y h1 tk py ho ⟨hit1, _⟩ hT sz hk => ?_
    have hy : y = u := by
      have h2 : its.toArray[i]? = some u := by simpa using hu
      rw [h2] at py
      exact (Option.some.inj py).symm
    subst hy
    refine ⟨_, rfl, wpAny_letOwnedTupleGo_enum (s := { s with heap := h1, toks := tk + 1 }) ho fun h2 he2 sb => ?_⟩
    have hT2 : h2.get? s.heap.objs.size = some { cls := .type "tuple", data := .seq #[.int i tk, y] } := (sb.2 _ (Nat.ne_of_gt le)).trans hT
    have new : ObjOk X.prog X.w (upd H s.heap.objs.size (.tup [.int (i : Nat), x])) h2 s.heap.objs.size (.tup [.int (i : Nat), x]) :=
      ⟨by show 2 ≤ sizeLine; decide, [.int i tk, y], .cons ⟨_, rfl⟩ (.cons ru .nil), ⟨_, hT2, rfl, _, rfl⟩⟩
    have I1 : Inv X pins σ (upd H s.heap.objs.size (.tup [.int (i : Nat), x])) { s with heap := h2, toks := tk + 1 } :=
      I.turnedNew (ch := [e, c]) (fun b ob hb q => (sb.2 b (fun z => hb (by simp [z]))).trans (hk b ob (fun z => hb (by simp [z])) (fun z => hb (by simp [z])) q)) hf (Nat.le_refl _) new
    refine ⟨.ref s.heap.objs.size, _, I1, rfl, ⟨_, x, rfl, I.hok.fresh (Nat.le_refl _), rfl, fun ys hy => by rw [I.tuple_inj hy hq]; exact hx⟩, ⟨⟨y, ?_⟩, hit1.at fun o q => (sb.2 c (Ne.symm hne)).trans q, hne⟩, fun b hb => ?_⟩
    · rw [show ((i + 1 : Nat) : Int) = (i : Int) + 1 by omega]
      exact he2
    · have lb : b < s.heap.objs.size := by
        rcases two hb with rfl | rfl
        · exact le
        · exact lc
      rw [upd_ne (Nat.ne_of_lt lb)]
      exact (hf b hb).1
  · intro X hP hw hK hc i pins s σ H E I hf st hg
    subst hP hw hK
    obtain ⟨⟨old, he⟩, hit, hne⟩ := st
    obtain ⟨xs, hq, hx⟩ := hg
    obtain ⟨its, rv, p, _⟩ := I.tuple hq
    obtain ⟨f0, f1, f2, f3, f4, f5⟩ := hf c (by simp)
    have lx := rv.length
    have pt : s.heap.IsTuple a its.toArray := p
    exact wpAny_pyNext_enum_endD (drawn_out (A := X.A.in1) (I.ok.hd hc) c a i its.toArray (by simp; omega)) he ⟨rfl, hit, pt⟩ fun h1 eb => ⟨rfl, I.turned (t' := s.toks) (fun b o hb q => eb b o hb q) f0 f1 f3 f4 f5⟩
  · obtain ⟨⟨_, he⟩, _⟩ := st
    exact wpAny_pyIter_enum he q
def iEnumX (K : PySem.W.Frag) (ta : TA) : TI := fun σ H R => ta σ H fun vs H1 => ∃ a xs, vs = [.ref a] ∧ ((SqL K H1 a xs ∧ R (Ite K a) H1) ∨ (SqT K H1 a xs ∧ R (IteT K a) H1))
theorem pi_enumX {X : Cx} {e : Expr} {ta : TA} {p pos tp : Pos} {elts : List Expr} {kk : Nat} (hg : Gl X "enumerate") (hm : X.mg "enumerate" = none) (ha : PA X [e] ta) (hs : starEach [e] X.env = [(false, eval e X.env)]) :
    PI X (.Tuple elts kk tp) (.Call (.Name "enumerate" p) [e] [] pos) (iEnumX X.K ta) := by
  refine ⟨fun pins s σ H R I k => Call_ (ld_blt I hg hm boot_enumerate (PyProof.Rows.callWith_type1 (thn (ha.run pos pins s σ H _ I k) fun us s1 ⟨vs, H1, I1, r1, q1⟩ => ?_) hs rfl))⟩
  obtain ⟨a, xs, ex, q⟩ := q1
  subst ex
  obtain _ | ⟨r, rr⟩ := r1
  cases rr
  cases r
  have fresh : ∀ b, b ∈ [s1.heap.objs.size + 1, s1.heap.objs.size] → FpOk X pins H1 b := fun b hb => by
    have lb : s1.heap.objs.size ≤ b := by
      have : b = s1.heap.objs.size + 1 ∨ b = s1.heap.objs.size := by simpa using hb
      omega
    exact I1.fpOk lb (I1.hok.fresh lb)
  rcases q with ⟨hq, q⟩ | ⟨hq, q⟩
  · obtain ⟨its, rv, pl, _⟩ := I1.list hq
    exact call_enumerate_list pl.isList fun h1 he hit sz hk => wpAny_pyIter_enum he
      ⟨s1.heap.objs.size + 1, [s1.heap.objs.size + 1, s1.heap.objs.size], _, _, H1, rfl, I1.kept (t' := s1.toks) hk, turn_enum a (s1.heap.objs.size + 1) s1.heap.objs.size, ⟨⟨.none, he⟩, hit, Nat.succ_ne_self _⟩, fresh, q⟩
  · obtain ⟨its, rv, pl, _⟩ := I1.tuple hq
    have pt : s1.heap.IsTuple a its.toArray := pl
    have la : a < s1.heap.objs.size := by obtain ⟨_, z, _⟩ := id pt; exact Heap.lt_size z
    exact call_enumT pt fun h1 he hit sz hk => wpAny_pyIter_enum he
      ⟨s1.heap.objs.size + 1, [s1.heap.objs.size + 1, s1.heap.objs.size], _, _, H1, rfl, I1.kept (t' := s1.toks) hk, turn_enumT a (s1.heap.objs.size + 1) s1.heap.objs.size (Nat.ne_of_lt la) (Nat.ne_of_gt (Nat.lt_succ_of_lt la)), ⟨⟨.none, he⟩, hit, Nat.succ_ne_self _⟩, fresh, q⟩
def srcET (ds : List D) : Src := fun i _ => some (ds[i]?.map fun d => .tup [.int (i : Nat), d])
theorem itok_ET {K : PySem.W.Frag} {α : Al} {H : Hp} {h : Hs} {a : Addr} {ds : List D} {xs : List V} (s : TpL K H a xs) (r : Reps K α h.length H ds xs) : ItOk K α H h (IteT K a) (srcET ds) := fun α2 H2 h2 x m i => by
  have sq := (x.seqT s).seq
  have rr := x.reps r
  unfold srcET
  cases q2 : ds[i]? with
  | none => exact ⟨fun _ => ⟨xs, sq, by rw [rr.length]; exact List.getElem?_eq_none_iff.mp q2⟩, fun d e => by simp [q2] at e⟩
  | some d0 =>
    obtain ⟨v, e1, r1⟩ := rr.get q2
    refine ⟨fun e => by simp [q2] at e, fun d e => ⟨⟨xs, v, sq, e1⟩, fun y H3 ⟨T, z, k2, k3, k4, k5⟩ => ?_⟩⟩
    subst k2 k4
    have k6 := k5 xs sq
    rw [e1] at k6
    cases k6
    simp [q2] at e
    subst e
    exact ⟨Ex.grow k3, m.grow k3, new_tup k3 ⟨_, _, rfl, rfl, _, _, rfl, r1, rfl⟩⟩
def enumV (ds : List D) (h1 : Hs) : Option (Src × Hs) := match ds with
  | [.ref n] => match getL h1 n with
    | some _ => some (srcE n, h1)
    | none => none
  | [.tup es] => some (srcET es, h1)
  | _ => none
def iEnumV (m : MA) : MI := fun ρ h => bd (m ρ h) enumV
theorem i_enumV {X : Cx} {a : Expr} {m : MA} {p pos tp : Pos} {elts : List Expr} {kk : Nat} (hm : X.mg "enumerate" = none) (ha : CL X [a] m) (hg : Gl X "enumerate" := by rfl) (hs : starEach [a] X.env = [(false, eval a X.env)] := by rfl) : CI X (.Tuple elts kk tp) (.Call (.Name "enumerate" p) [a] [] pos) (iEnumV m) :=
  PI.imp (pi_enumX hg hm ha.1 hs) fun σ H R ⟨ρ, h, α, src, h', rs, mt, e, q⟩ => by
    obtain ⟨ds, h1, e1, e⟩ := bd_some e
    refine ⟨ρ, h, α, ds, h1, rs, mt, e1, fun α1 H1 v1 x1 m1 r1 => ?_⟩
    unfold enumV at e
    split at e
    · split at e
      · next e2 =>
        cases e
        obtain ⟨v, rfl, l, rfl⟩ := reps1 r1
        obtain ⟨xs, sq, rr⟩ := m1.getL e2
        exact ⟨_, xs, rfl, .inl ⟨sq, q α1 H1 _ x1 m1 (itok_E l)⟩⟩
      · cases e
    · cases e
      obtain ⟨v, rfl, b, xs, rfl, sq, rr⟩ := reps1 r1
      exact ⟨_, xs, rfl, .inr ⟨sq.seq, q α1 H1 _ x1 m1 (itok_ET sq rr)⟩⟩
    · cases e
theorem ev_iEnumV {m : MA} {ρ : Rho} {h : Hs} : iEnumV m ρ h = bd (m ρ h) enumV := rfl
theorem ev_enumV {ds : List D} {h : Hs} : enumV [.tup ds] h = some (srcET ds, h) := rfl
theorem ev_enumVr {ds : List D} {n : Nat} {h : Hs} (e : getL h n = some ds) : enumV [.ref n] h = some (srcE n, h) := by
  show (match getL h n with | some _ => some (srcE n, h) | none => none) = _
  rw [e]
theorem srcET_in {ds : List D} {d : D} {i : Nat} {h : Hs} (e : ds[i]? = some d) : srcET ds i h = some (some (.tup [.int (i : Nat), d])) := by unfold srcET; rw [e]; rfl
theorem srcET_out {ds : List D} {i : Nat} {h : Hs} (l : ds.length ≤ i) : srcET ds i h = some none := by unfold srcET; rw [List.getElem?_eq_none l]; rfl
end SL
namespace SL
open PySem PySem.Spec PyProof.Rows L2
/-! ### xs[::step], step 1 or -1 -/
theorem pick_step1 (items : Array Value) : slicePick items none none (some 1) = items := by
  have e0 : slicePick items none none (some 1) = slicePick items none none none := rfl
  rw [e0, PySem.W.kmk_pick_nat items (a := 0) (b := items.size) (by simp [sliceBounds])]
  rw [List.drop_zero, Nat.sub_zero, List.take_of_length_le (by simp)]
section
variable {X : Cx} {e st : Expr} {te ts : TE}
def tStL (K : PySem.W.Frag) (te ts : TE) : TE := fun σ H Q => te σ H fun x H1 => ts σ H1 fun y H2 => ∃ a xs i, x = .ref a ∧ y = .int i ∧ SqL K H2 a xs ∧ ((i = 1 ∧ ∀ p, H2 p = none → Q (.ref p) (upd H2 p (.lst xs))) ∨ (i = -1 ∧ ∀ p, H2 p = none → Q (.ref p) (upd H2 p (.lst xs.reverse))))
theorem pe_stepL {p2 pos : Pos} (he : PE X e te) (hs : PE X st ts) : PE X (.Subscript e (.Slice none none (some st) p2) pos) (tStL X.K te ts) := by
  refine ⟨fun pins s σ H Q I h => ?_⟩
  refine Subscript_ (thn (he.run pins s σ H _ I h) fun v s1 ⟨x, H1, I1, r1, q1⟩ => ?_)
  refine wpAny_Slice (thn (po_none.run pins s1 σ H1 (fun o H2 => o = none ∧ H2 = H1) I1 ⟨rfl, rfl⟩) fun vl s2 ⟨l, H2, I2, pl, el, e2⟩ => ?_)
  subst el e2
  refine thn (po_none.run pins s2 σ H2 (fun o H3 => o = none ∧ H3 = H2) I2 ⟨rfl, rfl⟩) fun vu s3 ⟨u, H3, I3, pu, eu, e3⟩ => ?_
  subst eu e3
  rw [evalPart_some]
  refine thn (hs.run pins s3 σ H3 _ I3 q1) fun vs s4 ⟨y, H4, I4, ry, q4⟩ => ?_
  obtain ⟨a, xs, i, ex, ey, hx, q⟩ := q4
  subst ex ey
  cases r1
  obtain ⟨tk, rfl⟩ := ry
  have ps : IsPart (.int i tk) (some i) := .int i tk
  have I5 : Inv X pins σ H4 { s4 with heap := s4.heap.push { cls := .type "slice", data := .fields #[vl, vu, .int i tk] } } := I4.kept (t' := s4.toks) fun b ob q => Heap.get?_push_of_some _ q
  obtain ⟨its, r, ht, hz⟩ := I5.list hx
  have hlen := r.length
  show wpAny (model X.prog X.w) X.A (subscriptTail e (.Slice none none (some st) p2) (.ref a) (.ref s4.heap.objs.size)) (EP X pins σ Q) X.xe { s4 with heap := s4.heap.push { cls := .type "slice", data := .fields #[vl, vu, .int i tk] } }
  refine tail_any (ops := [.ref a, .ref s4.heap.objs.size]) ht.isList.typeIs (PySem.slot_list_getitem.lookup) ?_ (by with_unfolding_all rfl)
  rcases q with ⟨rfl, q⟩ | ⟨rfl, q⟩
  · refine wpAny_getItem_list_slice ht.isList (Heap.IsSliceOf.new _ vl vu _) pl pu ps (by decide) ?_ (by rw [List.size_toArray]; omega)
    rw [pick_step1]
    refine ⟨.ref _, _, I5.laid (t' := s4.toks) (o := .lst xs) (fun b ob q => Heap.get?_push_of_some _ q) (Nat.le_refl _) ?_, rfl, q _ (I5.hok.fresh (Nat.le_refl _))⟩
    exact ⟨hz, _, 0, r, Heap.get?_push_size _ rfl⟩
  · refine wpAny_getItem_list_slice ht.isList (Heap.IsSliceOf.new _ vl vu _) pl pu ps (by decide) ?_ (by rw [List.size_toArray]; omega)
    rw [PySem.W.krv_pick]
    refine ⟨.ref _, _, I5.laid (t' := s4.toks) (o := .lst xs.reverse) (fun b ob q => Heap.get?_push_of_some _ q) (Nat.le_refl _) ?_, rfl, q _ (I5.hok.fresh (Nat.le_refl _))⟩
    exact ⟨by rw [List.length_reverse]; exact hz, _, 0, r.reverse, Heap.get?_push_size _ rfl⟩
/-! the same on plain data -/
variable {ma ms : ME} {a s' : Expr}
def stG (d y : D) (h : Hs) : Option (D × Hs) := match d, y with
  | .ref n, .int i => match getL h n with
    | some ds => if i = 1 then some (.ref h.length, h ++ [.lst ds]) else if i = -1 then some (.ref h.length, h ++ [.lst ds.reverse]) else none
    | none => none
  | _, _ => none
def eSt (m s : ME) : ME := fun ρ h => bd (m ρ h) fun d h1 => bd (s ρ h1) fun y h2 => stG d y h2
theorem Reps.rev {K : PySem.W.Frag} {α : Al} {L : Nat} {H : Hp} {ds : List D} {vs : List V} (r : Reps K α L H ds vs) : Reps K α L H ds.reverse vs.reverse := by
  have key : ∀ {ds : List D} {vs : List V} {es : List D} {us : List V}, Reps K α L H ds vs → Reps K α L H es us → Reps K α L H (ds.reverse ++ es) (vs.reverse ++ us) := by
    intro ds
    induction ds with
    | nil => intro vs es us r q; cases r; exact q
    | cons d ds ih =>
      intro vs es us r q
      obtain ⟨x, ys, rfl, rx, ry⟩ := r
      rw [List.reverse_cons, List.reverse_cons, List.append_assoc, List.append_assoc]
      exact ih ry ⟨x, us, rfl, rx, q⟩
  have := key r (show Reps K α L H [] [] from rfl)
  rwa [List.append_nil, List.append_nil] at this
theorem c_step {p2 pos : Pos} (ha : CE X a ma) (hs : CE X s' ms) : CE X (.Subscript a (.Slice none none (some s') p2) pos) (eSt ma ms) :=
  PE.imp (pe_stepL ha hs) fun σ H Q ⟨ρ, h, α, d, h', rs, mt, e, q⟩ => by
    obtain ⟨d1, h1, e1, e⟩ := bd_some e
    obtain ⟨d2, h2, e2, e⟩ := bd_some e
    refine ⟨ρ, h, α, d1, h1, rs, mt, e1, fun α1 H1 v1 x1 m1 r1 => ⟨ρ, h1, α1, d2, h2, rs.mono x1, m1, e2, fun α2 H2 v2 x2 m2 r2 => ?_⟩⟩
    have r4 := x2.rep r1
    unfold stG at e
    split at e
    · split at e
      · next e4 =>
        obtain ⟨_, rfl⟩ := r4
        have r2 : v2 = .int _ := r2
        obtain ⟨xs, sq, rr⟩ := m2.getL e4
        refine ⟨_, xs, _, rfl, r2, sq, ?_⟩
        split at e
        · next i1 =>
          cases e
          refine .inl ⟨i1, fun p hp => ?_⟩
          obtain ⟨α', x4, m4, r5⟩ := new_lst m2 hp rr
          exact q α' _ _ (x1.trans (x2.trans x4)) m4 r5
        · split at e
          · next i1 =>
            cases e
            refine .inr ⟨i1, fun p hp => ?_⟩
            obtain ⟨α', x4, m4, r5⟩ := new_lst m2 hp (Reps.rev rr)
            exact q α' _ _ (x1.trans (x2.trans x4)) m4 r5
          · cases e
      · cases e
    · cases e
end
/-! a function of which nothing is said -/
theorem fn_none {P : Program} {w : World} {K : PySem.W.Frag} {mg : Str → Option Value} {base : Heap} {k : Nat} {f : Addr} {fd : FuncData} {ps : List Str} : FnOk P w K mg base CX0 k f fd ps (lF K fun _ _ => none) :=
  ⟨fun vs H Q E h => (by obtain ⟨_, _, _, _, _, _, _, e, _⟩ := h; cases e), fun A outer s H args us vs Q E _ _ _ _ h => (by obtain ⟨_, _, _, _, _, _, _, e, _⟩ := h; cases e)⟩
end SL
namespace SL
open PySem PySem.Spec PyProof.Rows L2
/-! ### a promise of a function in one surrounding alone -/
section
variable {P : Program} {w : World} {K : PySem.W.Frag} {mg : Str → Option Value} {base : Heap} {k : Nat} {f : Addr} {ps : List Str} {sp : Sp}
structure FnAt (A : Around) (P : Program) (w : World) (K : PySem.W.Frag) (mg : Str → Option Value) (base : Heap) (k : Nat) (f : Addr) (fd : FuncData) (ps : List Str) (sp : Sp) : Prop where
  go : ∀ (outer : List Env) (s : Shared) (H : Hp) (args : Args) (us : List Value) (vs : List V) (Q : VK) (E : XK), Room k A → Env0 P w K mg base A outer s H → BindsTo s fd args (ps.zip us) → Vals vs us → sp vs H Q E →
    codeAny (model P w) A (.call (.ref f) args) (CR CX0 outer P w H s Q E) s
/-- a def's promise in one surrounding -/
theorem at_def {A : Around} {x qual : Str} {st : Stmt} {fd : FuncData} {N : List Str} {m : MS} (F : Fun K x qual st f fd) (S : FnScope N ps (defScope st))
    (hbody : ∀ (cdv : Value) (outer : List Env) (s : Shared) (H : Hp) (E : XK), Room k (A.deeper (envOfC qual (defScope st) s.heap.objs.size f cdv)) →
      CSs (cxOf CX0 P w K mg base N qual (defScope st) f cdv A outer s H E).nox (defBody st) m) : FnAt A P w K mg base (k + 1) f fd ps (lF K (runB m ps.length N.length)) := by
  obtain ⟨_, _, _, _, _, _, cv, _, _, rfl, look, rec⟩ := F.ex
  constructor
  intro out sh HH as xs ws QQ EE room env bind rel said
  -- what the plain function answers
  obtain ⟨hs, al, dd, dx, hs', mt, rp, ev, qq⟩ := said
  have width : dd.length = ps.length := by
    unfold runB at ev
    split at ev
    · next c => exact c
    · cases ev
  have width' : ws.length = ps.length := by rw [← width, rp.length]
  have inK : K.In sh.heap := env.mod.kin.keeps (fun b o e => (env.bs b o e).1)
  have noLim : sh.heap.NoLimit := env.mod.nolimit.keeps (fun b o e => (env.bs b o e).1)
  refine codeAny_call_function room.depth (inK _ _ look) rfl S.co S.gen rfl (PySem.W.codeRec_of inK rec) (bind _ _ _ _ ?_)
  refine wpAny_newFunctionEnv_cells S.kind (fun p hp => ?_) fun fe fe_eq sh1 inC => ?_
  · obtain ⟨nm, vv⟩ := p
    have := S.par nm (List.of_mem_zip hp).1
    exact this.imp id fun c => ⟨c, PySem.W.cellsFrom_some _ _ _ (.inl c)⟩
  · subst fe_eq
    refine ⟨noLim.keeps inC.toInCall.keep, codeAny_func ?_⟩
    have good := hbody cv out sh HH EE (room.deeper _)
    have inv0 : L2.Inv (cxOf CX0 P w K mg base N qual (defScope st) f cv A out sh HH EE) [] (L2.start N ws) HH sh1 := inv_start S room.hd env width' rel inC
    -- how it ends
    have ended : ∀ {σ : L2.St} {H1 : Hp} {v : V} {u : Value} {sh2 : Shared}, L2.Inv (cxOf CX0 P w K mg base N qual (defScope st) f cv A out sh HH EE) [] σ H1 sh2 → RelV v u → QQ v H1 → L2.CE out P w HH sh QQ u sh2 := fun J rv q => ⟨_, _, J.os, J.bare, J.base, J.hok, rv, q⟩
    have sat : lS K m { nx := fun _ H1 => QQ .non H1, rt := QQ } (L2.start N ws) HH := by
      unfold runB at ev
      rw [if_pos width] at ev
      cases z : m (dd.map some ++ List.replicate (N.length - ps.length) none) hs with
      | none => rw [z] at ev; cases ev
      | some pr =>
        obtain ⟨⟨o, ρ1⟩, hs1⟩ := pr
        rw [z] at ev
        have slots : L2.start N ws = ws.map some ++ List.replicate (N.length - ps.length) none := by
          unfold L2.start
          rw [width']
        refine ⟨_, hs, al, o, ρ1, hs1, slots ▸ (by rw [← slots]; unfold L2.start; rw [rp.length, width]; exact RepS.start rp), mt, z, fun α1 H1 σ1 x1 m1 _ => ?_⟩
        cases o with
        | nx => cases ev; exact qq α1 H1 .non x1 m1 rfl
        | rt d => cases ev; exact fun v rv => qq α1 H1 v x1 m1 rv
        | bk => cases ev
        | ct => cases ev
    refine wpAny_mono (good.nox.run [] sh1 (L2.start N ws) HH _ inv0 sat) (fun fl sh2 out2 => ?_) fun e sh2 bad => bad
    cases fl with
    | next =>
      obtain ⟨σ1, H1, J, q⟩ := out2
      exact ended (v := .non) (u := Value.none) J rfl q
    | ret u =>
      obtain ⟨v, σ1, H1, J, rv, q⟩ := out2
      exact ended J rv q
    | brk =>
      obtain ⟨_, _, _, q⟩ := out2
      cases q
    | cont =>
      obtain ⟨_, _, _, q⟩ := out2
      cases q
end
end SL
namespace SL
open PySem PySem.Spec PyProof.Rows L2
/-! ### repr, where no repr is under way -/
section
variable {X : Cx}
def rShow (K : PySem.W.Frag) : List V → Hp → VK → Prop := fun xs H Q => ∃ (a : Addr) (p : PyData), xs = [.ref a] ∧ Dp K H (.ref a) p ∧ p.depth ≤ 32 ∧ p.showable = true ∧ p.hasDict = false ∧ p.shown.length ≤ sizeLine ∧ Q (.str p.shown) H
theorem call_show (hg : X.A.guards = some []) (hu : X.A.units + 64 < cLine) : CallR X (.builtin "repr") (rShow X.K) := by
  intro pins s σ H xs us Q I r said
  obtain ⟨a, p, rfl, deep, dep, sh, nd, sz, q⟩ := said
  obtain ⟨u, rfl, ru⟩ := vals1 r
  cases ru
  obtain ⟨as, rd⟩ := Dp.reads I p _ _ deep rfl
  exact repr_of_reads' rd sh (PyData.noDict_hsm nd) hg (by omega) (fun b o e => e) (fun h' tk1 tk2 keeps => ⟨.str p.shown, H, I.kept (t' := tk2) keeps, ⟨_, rfl⟩, q⟩) sz
def reprG : GC
  | [.int i], h => if i.natAbs.log2 < 1920 then some (.str (toString i : String), h) else none
  | [.ref n], h => match toP 32 h (.ref n) with
    | some p => if p.showable = true ∧ p.hasDict = false ∧ p.shown.length ≤ sizeLine then some (.str p.shown, h) else none
    | none => none
  | [.tup ds], h => match toP 32 h (.tup ds) with
    | some p => if p.showable = true ∧ p.hasDict = false ∧ p.shown.length ≤ sizeLine then some (.str p.shown, h) else none
    | none => none
  | _, _ => none
theorem cb_repr (hg : X.A.guards = some []) (hu : X.A.units + 64 < cLine) : CB X (.builtin "repr") reprG := CallR.imp (CallR.or (SkE.call_repr_int) (call_show hg hu)) fun xs H Q ⟨h, α, ds, d, h', mt, r, e, q⟩ => by
  unfold reprG at e
  split at e
  · split at e
    · next c =>
      cases e
      obtain ⟨v, rfl, rv⟩ := reps1 r
      exact .inl ⟨_, by rw [show v = .int _ from rv], c, q α H _ Ex.refl mt rfl⟩
    · cases e
  · split at e
    · next p e1 =>
      split at e
      · next c =>
        cases e
        obtain ⟨v, rfl, rv⟩ := reps1 r
        have dp := toP_dp mt 32 _ _ _ e1 rv
        have dd := toP_depth 32 _ _ _ e1
        obtain ⟨_, rfl⟩ := rv
        exact .inr ⟨_, p, rfl, dp, dd.1, c.1, c.2.1, c.2.2, q α H _ Ex.refl mt rfl⟩
      · cases e
    · cases e
  · split at e
    · next p e1 =>
      split at e
      · next c =>
        cases e
        obtain ⟨v, rfl, rv⟩ := reps1 r
        have dp := toP_dp mt 32 _ _ _ e1 rv
        have dd := toP_depth 32 _ _ _ e1
        obtain ⟨_, _, rfl, _⟩ := rv
        exact .inr ⟨_, p, rfl, dp, dd.1, c.1, c.2.1, c.2.2, q α H _ Ex.refl mt rfl⟩
      · cases e
    · cases e
  · cases e
end
end SL
namespace SL
open PySem PySem.Spec PyProof.Rows L2
/-! ### the law called, its promise known where the caller stands -/
section
variable {P : Program} {w : World} {K : PySem.W.Frag} {mg mb : Str → Option Value} {k : Nat} {fa a : Addr} {fd : FuncData} {x : Str} {sp : Sp} {sh : Shared} {us : List Value} {ns : List Int}
/-- what must hold of the tracked part ahead of the call -/
structure Ahead (K : PySem.W.Frag) (P : Program) (w : World) (sh : Shared) (a : Addr) (ns : List Int) (H : Hp) : Prop where
  only : Only H
  seq : SqL K H a (ns.map V.int)
  ok : HOk P w H sh.heap
  me : ∀ b, H b ≠ none → b = a ∧ K.lookup a = none
theorem ahead_call {H : Hp} (A : Ahead K P w sh a ns H) (kin : K.In sh.heap) (glob : sh.heap.Ns mainGlobals mg) (blt : sh.heap.Ns builtinsNs mb) (boot : ∀ x : Str, x ≠ "__name__" → mb x = bootBuiltins x) (lim : sh.heap.NoLimit) (gens : sh.gens = #[])
    (scr : sh.heap.get? a = some { cls := .type "list", data := .seq us.toArray }) (room : Room k callerA)
    (F : ∀ base : Heap, K.In base → base.Ns mainGlobals mg → FnAt callerA P w K mg base k fa fd [x] sp) (bind : ∀ (s : Shared) (u : Value), BindsTo s fd ⟨[u], []⟩ [(x, u)]) (said : sp [.ref a] H (fun v _ => v = .bl true) fun _ _ _ => False) :
    codeAny (model P w) callerA (.call (.ref fa) ⟨[.ref a], []⟩) (fun r s' => r = .ok (.ret (.bool true)) ∧ OldK sh.heap s'.heap ∧ s'.os = sh.os ∧ AllBare s'.gens) sh := by
  -- dictionaries are not tracked, so they stand in the hidden heap too
  have free : ∀ {b : Addr} {o : Obj} {es : Array DictEntry} {e : Nat}, sh.heap.get? b = some o → o.data = .dict es e → H b = none := by
    intro b o es e g d
    refine Classical.byContradiction fun t => ?_
    obtain ⟨rfl, _⟩ := A.me b t
    rw [scr] at g
    cases g
    cases d
  have spaces : ∀ {b : Addr} {m : Str → Option Value}, sh.heap.Ns b m → (hidT sh.heap H).Ns b m := by
    rintro b m ⟨o, es, e, g, d, r⟩
    exact ⟨o, es, e, hidT_get g (free g d), d, r⟩
  have frag : K.In (hidT sh.heap H) := by
    intro b o g
    refine hidT_get (kin b o g) (Classical.byContradiction fun t => ?_)
    obtain ⟨rfl, z⟩ := A.me b t
    rw [z] at g
    cases g
  have modK : Mod K mg (hidT sh.heap H) := ⟨frag, spaces glob, ⟨mb, spaces blt, boot⟩, by obtain ⟨mc, h1, h2⟩ := lim; exact ⟨mc, spaces h1, h2⟩⟩
  have env : Env0 P w K mg (hidT sh.heap H) callerA [] sh H := by
    constructor
    · rfl
    · exact modK
    · exact fun b o g => of_hidT g
    · exact Nat.le_of_eq (hidT_size _ _)
    · trivial
    · intro b hb
      cases hb
    · exact A.ok
    · exact .of_eq gens
  refine codeAny_mono ((F _ frag (spaces glob)).go [] sh H ⟨[.ref a], []⟩ [.ref a] [.ref a] _ _ room env (bind sh (.ref a)) (.cons rfl .nil) said) fun res s' fin => ?_
  match res, fin with
  | .ok (.ret u), fin =>
    obtain ⟨v, H2, osE, bareE, un, okE, rel, vt⟩ := fin
    have vt : v = .bl true := vt
    subst vt
    have ut : u = Value.bool true := rel
    subst ut
    refine ⟨rfl, OldK.of_keep (fun b o g => ?_), osE, bareE⟩
    by_cases t : H b = none
    · exact un.keep b o g t (by intro z; cases z) (by simp)
    · rcases A.only b with z | ⟨ob, xs, z⟩
      · exact absurd z t
      · have e1 := (A.ok b _ z).1
        rw [g] at e1
        cases e1
        exact (okE b _ (un.frzs b _ _ z)).1
  | .ok .next, fin => exact False.elim fin
  | .ok .brk, fin => exact False.elim fin
  | .ok .cont, fin => exact False.elim fin
theorem law_at (kin : K.In sh.heap) (glob : sh.heap.Ns mainGlobals mg) (blt : sh.heap.Ns builtinsNs mb) (boot : ∀ x : Str, x ≠ "__name__" → mb x = bootBuiltins x) (lim : sh.heap.NoLimit) (gens : sh.gens = #[])
    (scr : sh.heap.get? a = some { cls := .type "list", data := .seq us.toArray }) (whole : IntsAre us ns) (len : ns.length ≤ sizeLine) (room : Room k callerA)
    (F : ∀ base : Heap, K.In base → base.Ns mainGlobals mg → FnAt callerA P w K mg base k fa fd [x] sp) (bind : ∀ (s : Shared) (u : Value), BindsTo s fd ⟨[u], []⟩ [(x, u)])
    (said : ∀ H : Hp, Only H → SqL K H a (ns.map V.int) → sp [.ref a] H (fun v _ => v = .bl true) fun _ _ _ => False) :
    codeAny (model P w) callerA (.call (.ref fa) ⟨[.ref a], []⟩) (fun r s' => r = .ok (.ret (.bool true)) ∧ OldK sh.heap s'.heap ∧ s'.os = sh.os ∧ AllBare s'.gens) sh := by
  have rel := vals_ints whole
  have wide : us.toArray.size ≤ sizeLine := by rw [List.size_toArray, whole.length]; exact len
  have main : ∃ H, Ahead K P w sh a ns H := by
    by_cases own : K.lookup a = none
    · refine ⟨fun b => if b = a then some (.frz { cls := .type "list", data := .seq us.toArray } (.lst (ns.map V.int))) else none, fun b => ?_, .inl (.inr ⟨_, if_pos rfl⟩), fun b u z => ?_, fun b z => ?_⟩
      · by_cases q : b = a
        · exact .inr ⟨_, _, if_pos q⟩
        · exact .inl (if_neg q)
      · by_cases q : b = a
        · subst q
          rw [if_pos rfl] at z
          cases z
          exact ⟨scr, by rw [List.length_map]; exact len, us, _, rel, scr⟩
        · rw [if_neg q] at z
          cases z
      · by_cases q : b = a
        · exact ⟨q, own⟩
        · exact absurd (if_neg q) z
    · obtain ⟨o, lk⟩ : ∃ o, K.lookup a = some o := by
        cases q : K.lookup a with
        | none => exact absurd q own
        | some o => exact ⟨o, rfl⟩
      have g := kin a o lk
      rw [scr] at g
      cases g
      exact ⟨fun _ => none, fun _ => .inl rfl, .inr ⟨_, us.toArray, _, lk, rfl, rfl, rfl, wide, by simpa using rel⟩, fun b u z => (by cases z), fun b z => absurd rfl z⟩
  obtain ⟨H, A⟩ := main
  exact ahead_call A kin glob blt boot lim gens scr room F bind (said H A.only A.seq)
end
theorem walk_at_law {l : PySem.W.OpenLaw} {n k : Nat} {q : Program} {loose : List Str} {XP : (Str → Option Value) → Heap → Prop} {YP : World → Heap → Prop} {d : DefRec} {K : Params → PySem.W.Frag} {sp : World → Sp} {x : Str}
    (many : l.most = some n) (small : n ≤ sizeLine) (nodef : d.params.defaults = []) (room : Room k callerA) (frag : ∀ (w : World) (h : Heap), YP w h → (K w.params).In h)
    (F : ∀ (w : World) (mg : Str → Option Value) (fa : Addr) (h : Heap), (K w.params).In h → h.Ns mainGlobals mg → mg d.name = some (.ref fa) →
      ∃ fd : FuncData, (∀ (s : Shared) (u : Value), BindsTo s fd ⟨[u], []⟩ [(x, u)]) ∧ ∀ base : Heap, (K w.params).In base → base.Ns mainGlobals mg → FnAt callerA l.prog w (K w.params) mg base k fa fd [x] (sp w))
    (said : ∀ (w : World) (H : Hp) (a : Addr) (ns : List Int), ns.length ≤ n → Only H → SqL (K w.params) H a (ns.map V.int) → sp w [.ref a] H (fun v _ => v = .bl true) fun _ _ _ => False) :
    PySem.W.WalkO q loose XP YP l.row.toRowW d [] (fun f vs => PySem.call f vs) :=
  Att.attach_call many nodef fun w s₀ s₁ mg mb fa o pm cd doc a vs ns G Y ho hd hcd named scr whole len gens => by
    obtain ⟨fd, bind, go⟩ := F w mg fa _ (frag w _ Y) G.T.g named
    exact law_at (frag w _ Y) G.T.g G.T.b G.T.builtins G.T.nolimit gens scr whole (Nat.le_trans len small) room go bind (fun H o S => said w H a ns len o S)
end SL
namespace SL
open PySem PySem.Spec PyProof.Rows L2
/-! ### sizes of numbers -/
def Bd (n : Nat) (i : Int) : Prop := i.natAbs < 2 ^ n
theorem Bd.mono {n m : Nat} {i : Int} (h : Bd n i) (l : n ≤ m) : Bd m i := Nat.lt_of_lt_of_le h (Nat.pow_le_pow_right (by decide) l)
theorem Bd.mul {n m : Nat} {i j : Int} (a : Bd n i) (b : Bd m j) : Bd (n + m) (i * j) := by
  unfold Bd at *
  rw [Int.natAbs_mul, Nat.pow_add]
  exact Nat.mul_lt_mul'' a b
theorem Bd.add {n m : Nat} {i j : Int} (a : Bd n i) (b : Bd m j) : Bd (max n m + 1) (i + j) := by
  have a' : i.natAbs < 2 ^ max n m := a.mono (Nat.le_max_left _ _)
  have b' : j.natAbs < 2 ^ max n m := b.mono (Nat.le_max_right _ _)
  unfold Bd
  rw [Nat.pow_succ]
  omega
theorem Bd.neg {n : Nat} {i : Int} (a : Bd n i) : Bd n (-i) := by unfold Bd at *; rw [Int.natAbs_neg]; exact a
theorem Bd.sub {n m : Nat} {i j : Int} (a : Bd n i) (b : Bd m j) : Bd (max n m + 1) (i - j) := by
  have a' : i.natAbs < 2 ^ max n m := a.mono (Nat.le_max_left _ _)
  have b' : j.natAbs < 2 ^ max n m := b.mono (Nat.le_max_right _ _)
  unfold Bd
  rw [Nat.pow_succ]
  omega
theorem Bd.lit (n : Nat) {i : Int} (h : decide (i.natAbs < 2 ^ n) = true) : Bd n i := show i.natAbs < 2 ^ n from of_decide_eq_true h
theorem Bd.ite {n m : Nat} {i j : Int} {c : Prop} [Decidable c] (a : Bd n i) (b : Bd m j) : Bd (max n m) (if c then i else j) := by
  split
  · exact a.mono (Nat.le_max_left _ _)
  · exact b.mono (Nat.le_max_right _ _)
theorem Bd.sign (i : Int) : Bd 1 i.sign := by
  unfold Bd
  rcases Int.lt_trichotomy i 0 with q | q | q
  · rw [Int.sign_eq_neg_one_of_neg q]; decide
  · subst q; decide
  · rw [Int.sign_eq_one_of_pos q]; decide
theorem Bd.of_le {n : Nat} {i j : Int} (b : Bd n j) (h0 : 0 ≤ i) (h1 : i ≤ j) : Bd n i := by unfold Bd at *; omega
theorem Bd.of_range {n : Nat} {i : Int} (h0 : -(2 ^ n : Nat) < i) (h1 : i < (2 ^ n : Nat)) : Bd n i := by unfold Bd; omega
theorem Bd.bits {n : Nat} {i : Int} (b : Bd n i) : Builtin.Int.intBits i ≤ n := by
  unfold Builtin.Int.intBits
  split
  · exact Nat.zero_le _
  · next h =>
    have h' : i.natAbs ≠ 0 := fun z => h (by simpa using z)
    exact (Nat.log2_lt h').mpr b
theorem Bd.log2 {n : Nat} {i : Int} (b : Bd n i) (h : i ≠ 0) : i.natAbs.log2 < n := (Nat.log2_lt (by omega)).mpr b
theorem fmod_abs (i : Int) {j : Int} (hj : j ≠ 0) : (i.fmod j).natAbs < j.natAbs := by
  rcases Int.lt_or_gt_of_ne hj with q | q
  · have h1 := Int.fmod_nonneg_of_pos (-i) (show 0 < -j by omega)
    have h2 := Int.fmod_lt_of_pos (-i) (show 0 < -j by omega)
    rw [Int.neg_fmod_neg] at h1 h2
    omega
  · have h1 := Int.fmod_nonneg_of_pos i q
    have h2 := Int.fmod_lt_of_pos i q
    omega
theorem Bd.fdiv {n : Nat} {i j : Int} (b : Bd n i) : Bd (n + 1) (i.fdiv j) := by
  have h0 : (i.fdiv j).natAbs ≤ i.natAbs + 1 := by
    by_cases hj : j = 0
    · subst hj; simp
    · have hm : j.natAbs ≥ 1 := by omega
      have e := Int.mul_fdiv_add_fmod i j
      have hl : (i.fmod j).natAbs < j.natAbs := fmod_abs i hj
      have e2 : (j * i.fdiv j).natAbs ≤ i.natAbs + (i.fmod j).natAbs := by omega
      rw [Int.natAbs_mul] at e2
      refine Nat.not_lt.mp fun q => ?_
      have : j.natAbs * (i.natAbs + 2) ≤ j.natAbs * (i.fdiv j).natAbs := Nat.mul_le_mul_left _ q
      have h3 : j.natAbs * (i.natAbs + 2) = j.natAbs * i.natAbs + j.natAbs * 2 := Nat.mul_add _ _ _
      have h4 : i.natAbs ≤ j.natAbs * i.natAbs := by
        have := Nat.mul_le_mul_right i.natAbs hm
        omega
      omega
  unfold Bd at *
  rw [Nat.pow_succ]
  have : 1 ≤ 2 ^ n := Nat.one_le_two_pow
  omega
theorem Bd.fmod {n : Nat} {i j : Int} (b : Bd n j) : Bd n (i.fmod j) ∨ j = 0 := by
  by_cases hj : j = 0
  · exact .inr hj
  · exact .inl (Nat.lt_trans (fmod_abs i hj) b)
theorem Bd.fmod' {n : Nat} {i j : Int} (b : Bd n j) (hj : j ≠ 0) : Bd n (i.fmod j) := (Bd.fmod b).resolve_right hj
theorem Bd.pow {n : Nat} {i : Int} (b : Bd n i) (k : Nat) : Bd (n * k + 1) (i ^ k) := by
  unfold Bd at *
  rw [Int.natAbs_pow, Nat.pow_succ, Nat.pow_mul]
  have : i.natAbs ^ k ≤ (2 ^ n) ^ k := Nat.pow_le_pow_left (Nat.le_of_lt b) k
  have : 1 ≤ (2 ^ n) ^ k := Nat.one_le_pow _ _ (Nat.pow_pos (by decide))
  omega
def MOk (i j : Int) : Prop := Builtin.Int.intBits i + Builtin.Int.intBits j ≤ 134217728
theorem MOk.of {n m : Nat} {i j : Int} (a : Bd n i) (b : Bd m j) (h : n + m ≤ 134217728) : MOk i j := by
  have := a.bits
  have := b.bits
  unfold MOk
  omega
def DOk (j : Int) : Prop := j ≠ 0 ∧ j.natAbs.log2 < 9000
theorem DOk.of {n : Nat} {j : Int} (a : Bd n j) (h : j ≠ 0) (hn : n ≤ 9000) : DOk j := ⟨h, Nat.lt_of_lt_of_le (a.log2 h) hn⟩
def ShOk (i j : Int) : Prop := 0 ≤ j ∧ (Builtin.Int.intBits i : Int) + j ≤ 2 ^ 27
theorem ShOk.of {n : Nat} {i j : Int} (a : Bd n i) (h0 : 0 ≤ j) (h : (n : Int) + j ≤ 134217728) : ShOk i j := ⟨h0, by have := a.bits; omega⟩
def PwOk (i j : Int) : Prop := 0 ≤ j ∧ (Builtin.Int.intBits i : Int) * j ≤ 2 ^ 27
theorem PwOk.of {n k : Nat} {i : Int} (a : Bd n i) (h : n * k ≤ 134217728) : PwOk i (k : Int) := ⟨Int.natCast_nonneg k, by
  have h1 := Nat.mul_le_mul_right k a.bits
  have h2 : ((Builtin.Int.intBits i * k : Nat) : Int) ≤ ((134217728 : Nat) : Int) := Int.ofNat_le.mpr (Nat.le_trans h1 h)
  rw [Int.natCast_mul] at h2
  exact h2⟩
section
variable {i j : Int} {h : Hs}
theorem ev_add : addG (.int i) (.int j) h = some (.int (i + j), h) := rfl
theorem ev_sub : subG (.int i) (.int j) h = some (.int (i - j), h) := rfl
theorem ev_mul (b : MOk i j) : mulG (.int i) (.int j) h = some (.int (i * j), h) := if_pos b
theorem ev_fdiv (b : DOk j) : fdivG (.int i) (.int j) h = some (.int (i.fdiv j), h) := if_pos b
theorem ev_mod (b : j ≠ 0) : modG (.int i) (.int j) h = some (.int (i.fmod j), h) := if_pos b
theorem ev_pow (b : PwOk i j) : powG (.int i) (.int j) h = some (.int (i ^ j.toNat), h) := if_pos b
theorem ev_shl (b : ShOk i j) : shlG (.int i) (.int j) h = some (.int (i * 2 ^ j.toNat), h) := if_pos b
theorem ev_neg : negG (.int i) h = some (.int (-i), h) := rfl
theorem ev_lt : ltG (.int i) (.int j) h = some (.bl (decide (i < j)), h) := rfl
theorem ev_le : leG (.int i) (.int j) h = some (.bl (decide (i ≤ j)), h) := rfl
theorem ev_gt : gtG (.int i) (.int j) h = some (.bl (decide (j < i)), h) := rfl
theorem ev_ge : geG (.int i) (.int j) h = some (.bl (decide (j ≤ i)), h) := rfl
theorem ev_eqI : eqG (.int i) (.int j) h = some (.bl (decide (i = j)), h) := by
  show some (D.bl (i == j), h) = _
  rw [Bool.beq_eq_decide_eq]
theorem ev_neI : neG (.int i) (.int j) h = some (.bl (!decide (i = j)), h) := by
  show some (D.bl (!(i == j)), h) = _
  rw [Bool.beq_eq_decide_eq]
theorem ev_abs : absG [.int i] h = some (.int (if i < 0 then -i else i), h) := rfl
theorem ev_intB {k : Bool} : intG [.bl k] h = some (.int (if k = true then 1 else 0), h) := rfl
theorem ev_intI : intG [.int i] h = some (.int i, h) := rfl
theorem ev_minI : minG [.int i, .int j] h = some (.int (if j < i then j else i), h) := rfl
theorem ev_maxI : maxG [.int i, .int j] h = some (.int (if j > i then j else i), h) := rfl
theorem ev_bits : bitsG (.int i) h = some (.int (Builtin.Int.intBits i : Nat), h) := rfl
end
/-! ### steps of evaluation, from the front: what comes behind stays shut -/
section
variable {d x y : D} {i n : Nat} {o : Option D} {ρ ρ1 : Rho} {h h1 : Hs} {m m1 m2 : MS} {ma mb mc me : ME} {mr mx : MA} {ds es : List D} {g : GO} {gu : GU} {gc : GC} {gm : GM} {gg : GG} {gs : GGs} {t u : MT} {k b : Bool} {p c : Prop} [Decidable p] [Decidable c] {T : String}
theorem ev_var0 : eVar 0 (some d :: ρ) h = some (d, h) := rfl
theorem ev_varS : eVar (i + 1) (o :: ρ) h = eVar i ρ h := rfl
theorem ev_c : eC d ρ h = some (d, h) := rfl
def opK (g : GO) (mb : ME) (ρ : Rho) (x : D) (h1 : Hs) : Option (D × Hs) := bd (mb ρ h1) (g x)
theorem ev_op : eOp g ma mb ρ h = bd (ma ρ h) (opK g mb ρ) := rfl
theorem ev_opK : opK g mb ρ x h1 = bd (mb ρ h1) (g x) := rfl
theorem ev_un : eUn gu ma ρ h = bd (ma ρ h) gu := rfl
theorem ev_call : eCall gc mr ρ h = bd (mr ρ h) gc := rfl
theorem ev_nil : aNil ρ h = some ([], h) := rfl
def acK (mr : MA) (ρ : Rho) (d : D) (h1 : Hs) : Option (List D × Hs) := bd (mr ρ h1) fun ds h2 => some (d :: ds, h2)
def consK (d : D) (ds : List D) (h : Hs) : Option (List D × Hs) := some (d :: ds, h)
theorem ev_cons : aCons ma mr ρ h = bd (ma ρ h) (acK mr ρ) := rfl
theorem ev_acK : acK mr ρ d h = bd (mr ρ h) (consK d) := rfl
theorem ev_consK : consK d ds h = some (d :: ds, h) := rfl
def tupK (ds : List D) (h : Hs) : Option (D × Hs) := some (.tup ds, h)
def lstK (ds : List D) (h : Hs) : Option (D × Hs) := some (.ref h.length, h ++ [.lst ds])
theorem ev_tup : eTup mr ρ h = bd (mr ρ h) tupK := rfl
theorem ev_tupK : tupK ds h = some (.tup ds, h) := rfl
theorem ev_lst : eLst mr ρ h = bd (mr ρ h) lstK := rfl
theorem ev_lstK : lstK ds h = some (.ref h.length, h ++ [.lst ds]) := rfl
def ifK {R : Type} (m1 m2 : MR R) (ρ : Rho) (k : Bool) (h : Hs) : Option (R × Hs) := if k = true then m1 ρ h else m2 ρ h
theorem ev_ifE : eIf t ma mb ρ h = bd (t ρ h) (ifK ma mb ρ) := rfl
theorem ev_ifS : sIf t m1 m2 ρ h = bd (t ρ h) (ifK m1 m2 ρ) := by
  show (match t ρ h with | some (k, h1) => _ | none => none) = _
  cases t ρ h with
  | none => rfl
  | some p => rfl
theorem ev_ifKT {R : Type} {m1 m2 : MR R} : ifK m1 m2 ρ true h = m1 ρ h := rfl
theorem ev_ifKF {R : Type} {m1 m2 : MR R} : ifK m1 m2 ρ false h = m2 ρ h := rfl
theorem ev_ifK {R : Type} {m1 m2 : MR R} : ifK m1 m2 ρ (decide p) h = if p then m1 ρ h else m2 ρ h := by unfold ifK; by_cases q : p <;> simp [q]
theorem ev_ifKN {R : Type} {m1 m2 : MR R} : ifK m1 m2 ρ (!decide p) h = if p then m2 ρ h else m1 ρ h := by unfold ifK; by_cases q : p <;> simp [q]
def tvK (d : D) (h : Hs) : Option (Bool × Hs) := match d with | .bl b => some (b, h) | _ => none
theorem ev_tV : tV ma ρ h = bd (ma ρ h) tvK := by
  unfold tV
  cases z : ma ρ h with
  | none => rfl
  | some p => obtain ⟨d, h1⟩ := p; cases d <;> rfl
theorem ev_tvK : tvK (.bl b) h = some (b, h) := rfl
def truK (d : D) (h : Hs) : Option (Bool × Hs) := match truD h d with | some k => some (k, h) | none => none
theorem ev_tTru : tTru ma ρ h = bd (ma ρ h) truK := rfl
theorem ev_truB : truK (.bl b) h = some (b, h) := rfl
theorem ev_truN : truK .non h = some (false, h) := rfl
theorem ev_truI {j : Int} : truK (.int j) h = some (!decide (j = 0), h) := by
  show some (j != 0, h) = _
  rw [bne, Bool.beq_eq_decide_eq]
theorem ev_truT : truK (.tup ds) h = some (!ds.isEmpty, h) := rfl
def andK (u : MT) (ρ : Rho) (k : Bool) (h : Hs) : Option (Bool × Hs) := if k = true then u ρ h else some (false, h)
def orK (u : MT) (ρ : Rho) (k : Bool) (h : Hs) : Option (Bool × Hs) := if k = true then some (true, h) else u ρ h
def notK (k : Bool) (h : Hs) : Option (Bool × Hs) := some (!k, h)
theorem ev_and : tAnd2 t u ρ h = bd (t ρ h) (andK u ρ) := rfl
theorem ev_or : tOr2 t u ρ h = bd (t ρ h) (orK u ρ) := rfl
theorem ev_not : tNot1 t ρ h = bd (t ρ h) notK := rfl
theorem ev_notK : notK k h = some (!k, h) := rfl
theorem ev_andT : andK u ρ true h = u ρ h := rfl
theorem ev_andF : andK u ρ false h = some (false, h) := rfl
theorem ev_orT : orK u ρ true h = some (true, h) := rfl
theorem ev_orF : orK u ρ false h = u ρ h := rfl
theorem ev_andK : andK u ρ (decide p) h = if p then u ρ h else some (false, h) := by unfold andK; by_cases q : p <;> simp [q]
theorem ev_andKN : andK u ρ (!decide p) h = if p then some (false, h) else u ρ h := by unfold andK; by_cases q : p <;> simp [q]
theorem ev_orK : orK u ρ (decide p) h = if p then some (true, h) else u ρ h := by unfold orK; by_cases q : p <;> simp [q]
theorem ev_orKN : orK u ρ (!decide p) h = if p then u ρ h else some (true, h) := by unfold orK; by_cases q : p <;> simp [q]
def eAndK (mb : ME) (ρ : Rho) (d : D) (h : Hs) : Option (D × Hs) := match truD h d with | some true => mb ρ h | some false => some (d, h) | none => none
def eOrK (mb : ME) (ρ : Rho) (d : D) (h : Hs) : Option (D × Hs) := match truD h d with | some true => some (d, h) | some false => mb ρ h | none => none
def eNotK (d : D) (h : Hs) : Option (D × Hs) := match truD h d with | some k => some (.bl (!k), h) | none => none
theorem ev_eAnd : eAnd2 ma mb ρ h = bd (ma ρ h) (eAndK mb ρ) := rfl
theorem ev_eOr : eOr2 ma mb ρ h = bd (ma ρ h) (eOrK mb ρ) := rfl
theorem ev_eNot : eNot1 ma ρ h = bd (ma ρ h) eNotK := rfl
theorem ev_eNotB : eNotK (.bl b) h = some (.bl (!b), h) := rfl
theorem ev_eAndT : eAndK mb ρ (.bl true) h = mb ρ h := rfl
theorem ev_eAndF : eAndK mb ρ (.bl false) h = some (.bl false, h) := rfl
theorem ev_eAndB : eAndK mb ρ (.bl (decide p)) h = if p then mb ρ h else some (.bl false, h) := by
  by_cases q : p
  · simp only [q, decide_true, if_true]; rfl
  · simp only [q, decide_false, if_false]; rfl
theorem ev_eAndBN : eAndK mb ρ (.bl (!decide p)) h = if p then some (.bl false, h) else mb ρ h := by
  by_cases q : p
  · simp only [q, decide_true, if_true]; rfl
  · simp only [q, decide_false, if_false]; rfl
theorem ev_eOrT : eOrK mb ρ (.bl true) h = some (.bl true, h) := rfl
theorem ev_eOrF : eOrK mb ρ (.bl false) h = mb ρ h := rfl
theorem ev_eOrN : eOrK mb ρ .non h = mb ρ h := rfl
theorem ev_eOrB : eOrK mb ρ (.bl (decide p)) h = if p then some (.bl true, h) else mb ρ h := by
  by_cases q : p
  · simp only [q, decide_true, if_true]; rfl
  · simp only [q, decide_false, if_false]; rfl
theorem ev_eOrBN : eOrK mb ρ (.bl (!decide p)) h = if p then mb ρ h else some (.bl true, h) := by
  by_cases q : p
  · simp only [q, decide_true, if_true]; rfl
  · simp only [q, decide_false, if_false]; rfl
def chK1 (g g' : GO) (mb mc : ME) (ρ : Rho) (x : D) (h : Hs) : Option (D × Hs) := bd (mb ρ h) fun y h2 => bd (g x y h2) fun z h3 => match z with
  | .bl true => bd (mc ρ h3) fun w h4 => g' y w h4
  | .bl false => some (.bl false, h3)
  | _ => none
def chK2 (g g' : GO) (mc : ME) (ρ : Rho) (x y : D) (h : Hs) : Option (D × Hs) := bd (g x y h) fun z h3 => match z with
  | .bl true => bd (mc ρ h3) fun w h4 => g' y w h4
  | .bl false => some (.bl false, h3)
  | _ => none
def chK3 (g' : GO) (mc : ME) (ρ : Rho) (y z : D) (h : Hs) : Option (D × Hs) := match z with
  | .bl true => bd (mc ρ h) (g' y)
  | .bl false => some (.bl false, h)
  | _ => none
variable {g' : GO}
theorem ev_chain : eChain g g' ma mb mc ρ h = bd (ma ρ h) (chK1 g g' mb mc ρ) := rfl
theorem ev_chK1 : chK1 g g' mb mc ρ x h = bd (mb ρ h) (chK2 g g' mc ρ x) := rfl
theorem ev_chK2 : chK2 g g' mc ρ x y h = bd (g x y h) (chK3 g' mc ρ y) := rfl
theorem ev_chK3 : chK3 g' mc ρ y (.bl (decide p)) h = if p then bd (mc ρ h) (g' y) else some (.bl false, h) := by
  by_cases q : p
  · simp only [q, decide_true, if_true]; rfl
  · simp only [q, decide_false, if_false]; rfl
theorem ev_chK3T : chK3 g' mc ρ y (.bl true) h = bd (mc ρ h) (g' y) := rfl
theorem ev_chK3F : chK3 g' mc ρ y (.bl false) h = some (.bl false, h) := rfl
/-! statements -/
def thnK (m2 : MS) (r : Out × Rho) (h : Hs) : Option ((Out × Rho) × Hs) := match r with
  | (.nx, ρ1) => m2 ρ1 h
  | r => some (r, h)
theorem ev_seq : sSeq m1 m2 ρ h = bd (m1 ρ h) (thnK m2) := by
  unfold sSeq
  cases m1 ρ h with
  | none => rfl
  | some p => obtain ⟨⟨o, ρ1⟩, h1⟩ := p; cases o <;> rfl
theorem ev_thn : thnK m2 (.nx, ρ1) h = m2 ρ1 h := rfl
theorem ev_thnR : thnK m2 (.rt d, ρ1) h = some ((.rt d, ρ1), h) := rfl
theorem ev_thnB : thnK m2 (.bk, ρ1) h = some ((.bk, ρ1), h) := rfl
theorem ev_thnC : thnK m2 (.ct, ρ1) h = some ((.ct, ρ1), h) := rfl
theorem ev_next : sNext ρ h = some ((.nx, ρ), h) := rfl
theorem ev_break : sBreak ρ h = some ((.bk, ρ), h) := rfl
theorem ev_cont : sCont ρ h = some ((.ct, ρ), h) := rfl
def retK (ρ : Rho) (d : D) (h : Hs) : Option ((Out × Rho) × Hs) := some ((.rt d, ρ), h)
theorem ev_ret : sRet ma ρ h = bd (ma ρ h) (retK ρ) := by
  unfold sRet
  cases ma ρ h with
  | none => rfl
  | some p => rfl
theorem ev_retK : retK ρ d h = some ((.rt d, ρ), h) := rfl
theorem ev_retN : sRetN ρ h = some ((.rt .non, ρ), h) := rfl
def exprK (ρ : Rho) (_ : D) (h : Hs) : Option ((Out × Rho) × Hs) := some ((.nx, ρ), h)
theorem ev_expr : sExpr ma ρ h = bd (ma ρ h) (exprK ρ) := by
  unfold sExpr
  cases ma ρ h with
  | none => rfl
  | some p => rfl
theorem ev_exprK : exprK ρ d h = some ((.nx, ρ), h) := rfl
def nxK (ρ : Rho) (h : Hs) : Option ((Out × Rho) × Hs) := some ((.nx, ρ), h)
def asgK (g : GG) (ρ : Rho) (d : D) (h : Hs) : Option ((Out × Rho) × Hs) := bd (g d ρ h) nxK
theorem ev_asg : sAsg ma gg ρ h = bd (ma ρ h) (asgK gg ρ) := by
  unfold sAsg
  cases ma ρ h with
  | none => rfl
  | some p =>
    obtain ⟨d, h1⟩ := p
    show (match gg d ρ h1 with | some (ρ1, h2) => _ | none => none) = bd (gg d ρ h1) nxK
    cases gg d ρ h1 with
    | none => rfl
    | some q => rfl
theorem ev_asgK : asgK gg ρ d h = bd (gg d ρ h) nxK := rfl
theorem ev_nxK : nxK ρ h = some ((.nx, ρ), h) := rfl
theorem ev_gNm : gNm i d ρ h = some (ρ.set i (some d), h) := rfl
theorem ev_gTp : gTp gs (.tup ds) ρ h = gs ds ρ h := rfl
theorem ev_gsNil : gsNil [] ρ h = some (ρ, h) := rfl
def gsK (gs : GGs) (ds : List D) (ρ : Rho) (h : Hs) : Option (Rho × Hs) := gs ds ρ h
theorem ev_gsCons : gsCons gg gs (d :: ds) ρ h = bd (gg d ρ h) (gsK gs ds) := by
  show (match gg d ρ h with | some (ρ1, h1) => gs ds ρ1 h1 | none => none) = _
  cases gg d ρ h with
  | none => rfl
  | some q => rfl
theorem ev_gsK : gsK gs ds ρ h = gs ds ρ h := rfl
def gSbK1 (mi : ME) (v : D) (ρ : Rho) (o : D) (h : Hs) : Option (Rho × Hs) := bd (mi ρ h) fun i h2 => match setG o i v h2 with | some h3 => some (ρ, h3) | none => none
def gSbK2 (o v : D) (ρ : Rho) (i : D) (h : Hs) : Option (Rho × Hs) := match setG o i v h with | some h3 => some (ρ, h3) | none => none
theorem ev_gSb : gSb ma mb d ρ h = bd (ma ρ h) (gSbK1 mb d ρ) := rfl
theorem ev_gSbK1 : gSbK1 mb d ρ x h = bd (mb ρ h) (gSbK2 x d ρ) := rfl
theorem ev_gSbK2 {h3 : Hs} (e : setG x y d h = some h3) : gSbK2 x d ρ y h = some (ρ, h3) := by unfold gSbK2; rw [e]
def parK (is : List Nat) (ρ : Rho) (ds : List D) (h : Hs) : Option ((Out × Rho) × Hs) := if ds.length = is.length then some ((.nx, (is.zip ds).foldl (fun r p => r.set p.1 (some p.2)) ρ), h) else none
theorem ev_par {is : List Nat} : sPar is mr ρ h = bd (mr ρ h) (parK is ρ) := by
  unfold sPar
  cases mr ρ h with
  | none => rfl
  | some p => rfl
theorem ev_parK2 {i j : Nat} : parK [i, j] ρ [x, y] h = some ((.nx, (ρ.set i (some x)).set j (some y)), h) := rfl
theorem ev_parK3 {i j l : Nat} : parK [i, j, l] ρ [x, y, d] h = some ((.nx, ((ρ.set i (some x)).set j (some y)).set l (some d)), h) := rfl
def mtK (T : String) (g : GM) (mr : MA) (ρ : Rho) (x : D) (h : Hs) : Option (D × Hs) := if tyD T h x = true then bd (mr ρ h) (g x) else none
theorem ev_mt : eMt T gm ma mr ρ h = bd (ma ρ h) (mtK T gm mr ρ) := rfl
theorem ev_mtK (e : tyD T h x = true) : mtK T gm mr ρ x h = bd (mr ρ h) (gm x) := by unfold mtK; rw [if_pos e]
theorem runB_ok (hl : ds.length = n) : runB m n i ds h = outB (m (ds.map some ++ List.replicate (i - n) none) h) := by unfold runB; rw [if_pos hl]
theorem out_rt : outB (some ((.rt d, ρ), h)) = some (d, h) := rfl
theorem out_nx : outB (some ((.nx, ρ), h)) = some (.non, h) := rfl
theorem out_ite {a b : Option ((Out × Rho) × Hs)} : outB (if c then a else b) = if c then outB a else outB b := by split <;> rfl
theorem bd_ite {A B : Type} {a b : Option (A × Hs)} {f : A → Hs → Option (B × Hs)} : bd (if c then a else b) f = if c then bd a f else bd b f := by split <;> rfl
theorem ev_opTup {j : Int} (e : atI ds j = some d) : subG' (.tup ds) (.int j) h = some (d, h) := by
  show (match atI ds j with | some d => some (d, h) | none => none) = _
  rw [e]
theorem ev_get0 : subG' (.tup (d :: ds)) (.int 0) h = some (d, h) := ev_opTup (L2.atI_nat (j := 0) rfl)
theorem ev_get1 : subG' (.tup (x :: d :: ds)) (.int 1) h = some (d, h) := ev_opTup (L2.atI_nat (j := 1) rfl)
theorem ev_get2 : subG' (.tup (x :: y :: d :: ds)) (.int 2) h = some (d, h) := ev_opTup (L2.atI_nat (j := 2) rfl)
end
end SL
namespace SL
open PySem PySem.Spec PyProof.Rows L2
/-! ### the law called, the bits of its numbers told -/
theorem walk_at_lawB {l : PySem.W.OpenLaw} {n k : Nat} {q : Program} {loose : List Str} {XP : (Str → Option Value) → Heap → Prop} {YP : World → Heap → Prop} {d : DefRec} {K : Params → PySem.W.Frag} {sp : World → Sp} {x : Str}
    (many : l.most = some n) (small : n ≤ sizeLine) (nodef : d.params.defaults = []) (room : Room k callerA) (frag : ∀ (w : World) (h : Heap), YP w h → (K w.params).In h)
    (F : ∀ (w : World) (mg : Str → Option Value) (fa : Addr) (h : Heap), (K w.params).In h → h.Ns mainGlobals mg → mg d.name = some (.ref fa) →
      ∃ fd : FuncData, (∀ (s : Shared) (u : Value), BindsTo s fd ⟨[u], []⟩ [(x, u)]) ∧ ∀ base : Heap, (K w.params).In base → base.Ns mainGlobals mg → FnAt callerA l.prog w (K w.params) mg base k fa fd [x] (sp w))
    (said : ∀ (w : World) (H : Hp) (a : Addr) (ns : List Int), ns.length ≤ n → (∀ z ∈ ns, Builtin.Int.intBits z ≤ 1048576) → Only H → SqL (K w.params) H a (ns.map V.int) → sp w [.ref a] H (fun v _ => v = .bl true) fun _ _ _ => False) :
    PySem.W.WalkO q loose XP YP l.row.toRowW d [] (fun f vs => PySem.call f vs) :=
  Att.attach_callB many nodef fun w s₀ s₁ mg mb fa o pm cd doc a vs ns G Y ho hd hcd named scr whole len bits gens => by
    obtain ⟨fd, bind, go⟩ := F w mg fa _ (frag w _ Y) G.T.g named
    exact law_at (frag w _ Y) G.T.g G.T.b G.T.builtins G.T.nolimit gens scr whole (Nat.le_trans len small) room go bind (fun H o S => said w H a ns len bits o S)
theorem Bd.of_bits {n : Nat} {i : Int} (h : Builtin.Int.intBits i ≤ n) : Bd n i := by
  unfold Builtin.Int.intBits at h
  unfold Bd
  split at h
  · next z =>
    have : i.natAbs = 0 := by simpa using z
    rw [this]; exact Nat.two_pow_pos n
  · next z => exact Nat.lt_of_lt_of_le (Nat.lt_log2_self) (Nat.pow_le_pow_right (by decide) h)
end SL
namespace SL
open PySem PySem.Spec PyProof.Rows L2
/-! ### instances of the text's classes -/
/-- what a class must have for its fields -/
def ClsF (K : PySem.W.Frag) (nm : Str) (fl : List Str) : Prop := ∀ C, ClsN K nm C → Cls K C ∧ ∀ f ∈ fl, NoAttr K C f
theorem ClsN.uniq {K : PySem.W.Frag} {nm : Str} {C C' : Addr} (a : ClsN K nm C) (b : ClsN K nm C') : C = C' := by
  unfold ClsN at a b
  rw [a] at b
  cases b; rfl
section
variable {K : PySem.W.Frag} {α : Al} {L : Nat} {H : Hp}
theorem RepF.look (f : Str) : ∀ {fs : List (Str × D)} {ys : List (Str × V)}, RepF K α L H fs ys → (match fs.lookup f with | some d => ∃ v, ys.lookup f = some v ∧ Rep K α L H d v | none => ys.lookup f = none)
  | [], ys, ⟨a, b⟩ => by
    have : ys = [] := by
      cases ys with
      | nil => rfl
      | cons _ _ => cases a
    rw [this]; rfl
  | (k1, d) :: r, [], ⟨a, b⟩ => nomatch a
  | (k1, d) :: r, (k2, v) :: t, ⟨a, b⟩ => by
    simp only [List.map_cons, List.cons.injEq] at a
    obtain ⟨x, ys, e, r1, r2⟩ := b
    simp only [List.map_cons, List.cons.injEq] at e
    obtain ⟨e1, e2⟩ := e
    obtain ⟨a1, a2⟩ := a
    subst a1
    have ih := RepF.look f (fs := r) (ys := t) ⟨a2, by rw [e2]; exact r2⟩
    rw [List.lookup_cons, List.lookup_cons]
    cases q : f == k1 with
    | true => exact ⟨v, rfl, by rw [e1]; exact r1⟩
    | false => exact ih
theorem RepF.get {f : Str} {fs : List (Str × D)} {ys : List (Str × V)} {d : D} (r : RepF K α L H fs ys) (e : fs.lookup f = some d) : ∃ v, ys.lookup f = some v ∧ Rep K α L H d v := by
  have := RepF.look f r
  rw [e] at this; exact this
theorem RepF.no {f : Str} {fs : List (Str × D)} {ys : List (Str × V)} (r : RepF K α L H fs ys) (e : fs.lookup f = none) : ys.lookup f = none := by
  have := RepF.look f r
  rw [e] at this; exact this
theorem RepF.len {fs : List (Str × D)} {ys : List (Str × V)} (r : RepF K α L H fs ys) : ys.length = fs.length := by
  have := congrArg List.length r.1
  simpa using this.symm
def putFD (f : Str) (v : D) : List (Str × D) → List (Str × D)
  | [] => [(f, v)]
  | p :: r => if p.1 = f then (f, v) :: r else p :: putFD f v r
theorem RepF.put {f : Str} {d : D} {v : V} (q : Rep K α L H d v) : ∀ {fs : List (Str × D)} {ys : List (Str × V)}, RepF K α L H fs ys → RepF K α L H (putFD f d fs) (putF f v ys)
  | [], ys, ⟨a, b⟩ => by
    have : ys = [] := by
      cases ys with
      | nil => rfl
      | cons _ _ => cases a
    rw [this]; exact ⟨rfl, v, [], rfl, q, rfl⟩
  | (k1, d1) :: r, [], ⟨a, b⟩ => nomatch a
  | (k1, d1) :: r, (k2, v1) :: t, ⟨a, b⟩ => by
    simp only [List.map_cons, List.cons.injEq] at a
    obtain ⟨x, ys, e, r1, r2⟩ := b
    simp only [List.map_cons, List.cons.injEq] at e
    obtain ⟨a1, a2⟩ := a
    subst a1
    have rt : RepF K α L H r t := ⟨a2, by rw [e.2]; exact r2⟩
    have ih := RepF.put (f := f) q rt
    unfold putFD putF
    by_cases c : k1 = f
    · rw [if_pos c, if_pos c]
      exact ⟨by simp only [List.map_cons, a2, c], _, _, rfl, q, rt.2⟩
    · rw [if_neg c, if_neg c]
      exact ⟨by simp only [List.map_cons, ih.1], _, _, rfl, by rw [show v1 = x from e.1]; exact r1, ih.2⟩
end
section
variable {X : Cx} {e o a b c : Expr} {ma mb mo : ME} {pos pos' p apos : Pos} {es : List Expr} {m : MA} {g : GC} {k : Nat} {nm f x : Str}
/-- e.f -/
def fldG (nm f : Str) : GU
  | .ref n, h => match h[n]? with
    | some (.ins nm' fs) => if nm' = nm then match fs.lookup f with
      | some d => some (d, h)
      | none => none
      else none
    | _ => none
  | _, _ => none
theorem fldG_some {d r : D} {h h' : Hs} (e : fldG nm f d h = some (r, h')) : ∃ n fs, d = .ref n ∧ h[n]? = some (.ins nm fs) ∧ fs.lookup f = some r ∧ h' = h := by
  unfold fldG at e
  split at e
  · split at e
    · next e1 =>
      split at e
      · next q =>
        split at e
        · next e2 => cases e; subst q; exact ⟨_, _, rfl, e1, e2, rfl⟩
        · cases e
      · cases e
    · cases e
  · cases e
theorem c_fld {fl : List Str} (hC : ClsF X.K nm fl) (hf : f ∈ fl) (ha : CE X e ma) (hb : attributeBase e f X.env (eval e X.env) = eval e X.env := by rfl) : CE X (.Attribute e f pos) (eUn (fldG nm f) ma) :=
  PE.imp (pe_fld ha hb) fun σ H Q t => by
    obtain ⟨ρ, h, α, d, h', rs, mt, e, q⟩ := un_seq t
    refine ⟨ρ, h, α, d, h', rs, mt, e, fun α1 H1 v1 x1 m1 r1 => ?_⟩
    obtain ⟨h2, α2, dx, d2, h3, mt2, rx, e2, q2⟩ := q α1 H1 v1 x1 m1 r1
    obtain ⟨n, fs, rfl, e3, e4, rfl⟩ := fldG_some e2
    obtain ⟨_, rfl⟩ := rx
    obtain ⟨C, dx, ys, cn, a1, a2, rf⟩ := mt2.at_ n _ e3
    obtain ⟨v, l, rv⟩ := rf.get e4
    obtain ⟨cl, na⟩ := hC C cn
    exact ⟨_, C, dx, ys, v, rfl, a1, cl, na f hf, l, q2 α2 H1 v Ex.refl mt2 rv⟩
/-- o.f = e -/
def fldSet (nm f : Str) (v : D) (d : D) (h : Hs) : Option Hs := match d with
  | .ref n => match h[n]? with
    | some (.ins nm' fs) => if nm' = nm ∧ fs.length < 1000 then some (h.set n (.ins nm (putFD f v fs))) else none
    | _ => none
  | _ => none
theorem fldSet_some {v d : D} {h h' : Hs} (e : fldSet nm f v d h = some h') : ∃ n fs, d = .ref n ∧ h[n]? = some (.ins nm fs) ∧ fs.length < 1000 ∧ h' = h.set n (.ins nm (putFD f v fs)) := by
  unfold fldSet at e
  split at e
  · split at e
    · next e1 =>
      split at e
      · next q => cases e; obtain ⟨q1, q2⟩ := q; subst q1; exact ⟨_, _, rfl, e1, q2, rfl⟩
      · cases e
    · cases e
  · cases e
def sFldSet (nm f : Str) (mo mv : ME) : MS := fun ρ h => bd (mv ρ h) fun v h1 => bd (mo ρ h1) fun d h2 => match fldSet nm f v d h2 with
  | some h3 => some ((.nx, ρ), h3)
  | none => none
theorem s_fld {fl : List Str} {value : Expr} {mv : ME} (hC : ClsF X.K nm fl) (hf : f ∈ fl) (ho : CE X o mo) (hv : CE X value mv) (hs : swapsWith value (some (.Attribute o f pos')) pos.line X.env = pure false := by rfl) :
    CS X (.Assign [.Attribute o f pos'] value pos) (sFldSet nm f mo mv) :=
  PS.imp (ps_fld ho hv hs) fun E σ H ⟨ρ, h, α, out, ρ', h', rs, mt, e, q⟩ => by
    obtain ⟨v, h1, e1, e⟩ := bd_some e
    obtain ⟨d, h2, e2, e⟩ := bd_some e
    split at e
    · next h3 e3 =>
      cases e
      obtain ⟨n, fs, rfl, e4, hl, rfl⟩ := fldSet_some e3
      refine ⟨ρ, h, α, v, h1, rs, mt, e1, fun α1 H1 v1 x1 m1 r1 => ⟨ρ, h1, α1, .ref n, h2, rs.mono x1, m1, e2, fun α2 H2 v2 x2 m2 r2 => ?_⟩⟩
      obtain ⟨ln, rfl⟩ := r2
      obtain ⟨C, dx, ys, cn, a1, a2, rf⟩ := m2.at_ n _ e4
      obtain ⟨cl, na⟩ := hC C cn
      refine ⟨_, C, dx, ys, rfl, a1, cl, na f hf, by rw [rf.len]; exact hl, ?_⟩
      have u : Mu h2 n := ⟨_, e4, rfl⟩
      have x3 : Ex α2 H2 h2 α2 (upd H2 (α2 n) (.ins C dx (putF f v1 ys))) (h2.set n (.ins nm (putFD f v fs))) := Ex.write m2 u rfl
      have ndx : dx ≠ α2 n := fun z => m2.own a2 n u z.symm
      have m3 := m2.write (o := .ins C dx (putF f v1 ys)) (ao := .ins nm (putFD f v fs)) u rfl ⟨C, dx, _, cn, upd_same, by rw [upd_ne ndx]; exact a2, x3.repF (RepF.put (x2.rep r1) rf)⟩
      have x4 := x1.trans (x2.trans x3)
      exact q α2 _ σ x4 m3 (rs.mono x4)
    · cases e
/-! ### a method of an own class called, an instance made -/
/-- a method that may be called -/
structure CalM (P : Program) (w : World) (K : PySem.W.Frag) (mg : Str → Option Value) (base : Heap) (k : Nat) (nm x : Str) (g : GC) : Prop where
  ex : ∃ (a : Addr) (fd : FuncData) (ps : List Str), FnOk P w K mg base CX0 k a fd ps (lF K g) ∧ Binds K fd ps [] ∧ ∀ C, ClsN K nm C → Cls K C ∧ Meth K C x a
structure CalI (P : Program) (w : World) (K : PySem.W.Frag) (mg : Str → Option Value) (base : Heap) (k : Nat) (nm : Str) (g : GC) : Prop where
  ex : ∃ (C a : Addr) (fd : FuncData) (ps : List Str), FnOk P w K mg base CX0 k a fd ps (lF K g) ∧ Binds K fd ps [] ∧ ClsN K nm C ∧ mg nm = some (.ref C) ∧ Mk K C a
theorem CalM.mono {P : Program} {w : World} {K : PySem.W.Frag} {mg : Str → Option Value} {base : Heap} {j k : Nat} {nm x : Str} {g : GC} (c : CalM P w K mg base j nm x g) (h : j ≤ k) : CalM P w K mg base k nm x g := by
  obtain ⟨a, fd, ps, F, b, r⟩ := c.ex
  exact ⟨a, fd, ps, F.mono h, b, r⟩
theorem CalI.mono {P : Program} {w : World} {K : PySem.W.Frag} {mg : Str → Option Value} {base : Heap} {j k : Nat} {nm : Str} {g : GC} (c : CalI P w K mg base j nm g) (h : j ≤ k) : CalI P w K mg base k nm g := by
  obtain ⟨C, a, fd, ps, F, b, r⟩ := c.ex
  exact ⟨C, a, fd, ps, F.mono h, b, r⟩
/-- the receiver: an instance of the class -/
def recv (nm x : Str) (d : D) (h : Hs) : Bool := match d with
  | .ref n => match h[n]? with
    | some (.ins nm' fs) => decide (nm' = nm) && (fs.lookup x).isNone
    | _ => false
  | _ => false
theorem recv_ok {d : D} {h : Hs} (e : recv nm x d h = true) : ∃ n fs, d = .ref n ∧ h[n]? = some (.ins nm fs) ∧ fs.lookup x = none := by
  unfold recv at e
  split at e
  · split at e
    · next e1 =>
      rw [Bool.and_eq_true] at e
      obtain ⟨q1, q2⟩ := e
      have q1 := of_decide_eq_true q1
      subst q1
      exact ⟨_, _, rfl, e1, by simpa using q2⟩
    · cases e
  · cases e
def eOM (nm x : Str) (g : GC) (mo : ME) (m : MA) : ME := fun ρ h => bd (mo ρ h) fun d h1 => if recv nm x d h1 = true then bd (m ρ h1) fun ds h2 => g (d :: ds) h2 else none
theorem om_seq {K : PySem.W.Frag} {C a : Addr} {σ : L2.St} {H : Hp} {Q : VK} (cn : ∀ C', ClsN K nm C' → C' = C) (t : lE K (eOM nm x g mo m) σ H Q) : tMeth C x (lF K g) [] (fun _ _ _ => False) (lE K mo) (lA K m) σ H Q := by
  obtain ⟨ρ, h, α, d, h', rs, mt, e, q⟩ := t
  obtain ⟨d1, h1, e1, e⟩ := bd_some e
  split at e
  · next rc =>
    obtain ⟨ds, h2, e2, e3⟩ := bd_some e
    obtain ⟨n, fs, rfl, e4, e5⟩ := recv_ok rc
    refine ⟨ρ, h, α, .ref n, h1, rs, mt, e1, fun α1 H1 v1 x1 m1 r1 => ?_⟩
    have r1' := r1
    obtain ⟨ln, rfl⟩ := r1
    obtain ⟨C', dx, ys, cn', a1, a2, rf⟩ := m1.at_ n _ e4
    have := cn C' cn'
    subst this
    refine ⟨_, dx, ys, rfl, a1, rf.no e5, ρ, h1, α1, ds, h2, rs.mono x1, m1, e2, fun α2 H2 vs x2 m2 r2 => ?_⟩
    show lC K g (.ref (α1 n) :: (vs ++ [])) H2 Q
    rw [List.append_nil]
    exact ⟨h2, α2, _, d, h', m2, Reps.cons (x2.rep r1') r2, e3, fun α3 H3 v3 x3 m3 r3 => q α3 H3 v3 (x1.trans (x2.trans x3)) m3 r3⟩
  · cases e
theorem c_om {pl : Sem Bool} (hM : CalM X.prog X.w X.K X.mg X.base k nm x g) (hr : Room k X.A) {C : Addr} (hC : ClsN X.K nm C) (ho : CE X o mo) (ha : CL X (e :: es) m)
    (hst : starEach (e :: es) X.env = (false, eval e X.env) :: starEach es X.env := by rfl) (hpl : (backTo pos (starEach es X.env)).any (·.1) = false := by rfl)
    (ht : eval (.Call (.Attribute o x apos) (e :: es) [] pos) X.env = (do
      let ov ← eval o X.env
      standAt apos.atName
      let (f, first) ← holding [ov] (getMethod ov x pl)
      callWith pos f first (backTo pos (starEach (e :: es) X.env)) (backToKw pos (keywordEach [] X.env))) := by rfl) :
    CE X (.Call (.Attribute o x apos) (e :: es) [] pos) (eOM nm x g mo m) := by
  obtain ⟨f, fd, ps, F, bi, cm⟩ := hM.ex
  obtain ⟨cl, me⟩ := cm C hC
  exact PE.imp (pe_meth (E := fun _ _ _ => False) ho cl me F hr bi .nil pass0 ha.1 hst hpl ht) fun σ H Q t => om_seq (a := f) (fun C' h => h.uniq hC) t
theorem c_om0 {pl : Sem Bool} (hM : CalM X.prog X.w X.K X.mg X.base k nm x g) (hr : Room k X.A) {C : Addr} (hC : ClsN X.K nm C) (ho : CE X o mo)
    (ht : eval (.Call (.Attribute o x apos) [] [] pos) X.env = (do
      let ov ← eval o X.env
      standAt apos.atName
      let (f, first) ← holding [ov] (getMethod ov x pl)
      callWith pos f first (backTo pos (starEach [] X.env)) (backToKw pos (keywordEach [] X.env))) := by rfl) :
    CE X (.Call (.Attribute o x apos) [] [] pos) (eOM nm x g mo aNil) := by
  obtain ⟨f, fd, ps, F, bi, cm⟩ := hM.ex
  obtain ⟨cl, me⟩ := cm C hC
  refine PE.imp (pe_meth0 (E := fun _ _ _ => False) ho cl me F hr bi .nil pass0 ht) fun σ H Q t => ?_
  obtain ⟨ρ, h, α, d, h', rs, mt, e, q⟩ := om_seq (a := f) (fun C' h => h.uniq hC) t
  refine ⟨ρ, h, α, d, h', rs, mt, e, fun α1 H1 v1 x1 m1 r1 => ?_⟩
  obtain ⟨a, dx, fs, ex, ea, l, t2⟩ := q α1 H1 v1 x1 m1 r1
  refine ⟨a, dx, fs, ex, ea, l, ?_⟩
  obtain ⟨ρ2, h2, α2, ds, h3, rs2, mt2, e2, q2⟩ := t2
  cases e2
  exact q2 α2 H1 [] Ex.refl mt2 rfl
def eMake (nm : Str) (g : GC) (m : MA) : ME := fun ρ h => bd (m ρ h) fun ds h1 => match g (.ref h1.length :: ds) (h1 ++ [.ins nm []]) with
  | some (.non, h2) => some (.ref h1.length, h2)
  | _ => none
theorem make_seq {K : PySem.W.Frag} {C : Addr} {σ : L2.St} {H : Hp} {Q : VK} (cn : ClsN K nm C) (t : lE K (eMake nm g m) σ H Q) : tMake C (lF K g) [] (fun _ _ _ => False) (lA K m) σ H Q := by
  obtain ⟨ρ, h, α, d, h', rs, mt, e, q⟩ := t
  obtain ⟨ds, h1, e1, e⟩ := bd_some e
  split at e
  · next h2 e2 =>
    cases e
    refine ⟨ρ, h, α, ds, h1, rs, mt, e1, fun α1 H1 vs x1 m1 r1 => ?_⟩
    intro x dx nx ndx ne
    show lC K g (.ref x :: (vs ++ [])) _ _
    rw [List.append_nil]
    have xg : Ex α1 H1 h1 α1 (upd H1 dx (.own x)) h1 := Ex.grow ndx
    have nx2 : upd H1 dx (.own x) x = none := by rw [upd_ne (fun z => ne z.symm)]; exact nx
    have xa : Ex α1 (upd H1 dx (.own x)) h1 (al1 α1 h1.length x) (upd (upd H1 dx (.own x)) x (.ins C dx [])) (h1 ++ [.ins nm []]) := Ex.alloc nx2
    have ma := (m1.grow (o := .own x) ndx).alloc (o := .ins C dx []) (ao := .ins nm []) nx2 ⟨C, dx, [], cn, upd_same, by rw [upd_ne ne]; exact upd_same, rfl, rfl⟩
    have xt := xg.trans xa
    have rx : Rep K (al1 α1 h1.length x) (h1 ++ [AO.ins nm []]).length (upd (upd H1 dx (.own x)) x (.ins C dx [])) (.ref h1.length) (.ref x) := ⟨by rw [len_snoc]; exact Nat.lt_succ_self _, by rw [al1_same]⟩
    refine ⟨h1 ++ [.ins nm []], al1 α1 h1.length x, _, .non, _, ma, Reps.cons rx (xt.reps r1), e2, fun α3 H3 v3 x3 m3 r3 => ⟨r3, ?_⟩⟩
    exact q α3 H3 _ (x1.trans (xt.trans x3)) m3 (x3.rep rx)
  · cases e
theorem c_make (hM : CalI X.prog X.w X.K X.mg X.base k nm g) (hr : Room (k + 1) X.A) (ha : CL X (e :: es) m) (hg : Gl X nm := by rfl) (hdb : (nm == ("__debug__" : Str)) = false := by decide) (he : starEach (e :: es) X.env = (false, eval e X.env) :: starEach es X.env := by rfl) (hpl : (backTo pos (starEach es X.env)).any (·.1) = false := by rfl) :
    CE X (.Call (.Name nm p) (e :: es) [] pos) (eMake nm g m) := by
  obtain ⟨C, f, fd, ps, F, bi, cn, hm, M⟩ := hM.ex
  exact PE.imp (pe_make (E := fun _ _ _ => False) M F hr hg hm bi .nil pass0 ha.1 hdb he hpl) fun σ H Q t => make_seq cn t
theorem c_make0 (hM : CalI X.prog X.w X.K X.mg X.base k nm g) (hr : Room (k + 1) X.A) (hg : Gl X nm := by rfl) (hdb : (nm == ("__debug__" : Str)) = false := by decide) :
    CE X (.Call (.Name nm p) [] [] pos) (eMake nm g aNil) := by
  obtain ⟨C, f, fd, ps, F, bi, cn, hm, M⟩ := hM.ex
  refine PE.imp (pe_make0 (E := fun _ _ _ => False) M F hr hg hm bi .nil pass0 hdb) fun σ H Q t => ?_
  obtain ⟨ρ, h, α, ds, h', rs, mt, e, q⟩ := make_seq cn t
  cases e
  exact q α H [] Ex.refl mt rfl
end
end SL
namespace SL
open PySem PySem.Spec PyProof.Rows L2
/-! ### set of a list of ints -/
/-- a set as it is new -/
abbrev eSet (w : World) : Obj := { cls := .type "set", dict := none, data := .set #[] 0 (.fresh 0 0 (!w.params.followText "set-order")) }
abbrev sGot (w : World) (s : Shared) (ns : List Int) (h : Heap) (c : Nat) : Prop := SetR w h s.heap.objs.size (fun j => decide (j ∈ ns)) c ∧ c ≤ ns.length ∧ ∀ b o, s.heap.get? b = some o → h.get? b = some o
theorem ints_get {items : Array Value} {ns : List Int} (r : IntsAre items.toList ns) : ∀ (i : Nat) (v : Value), items[i]? = some v → ∃ k t, ns[i]? = some k ∧ v = .int k t := fun i v hv => by
  have len := IntsAre.length r
  have li : i < ns.length := by rw [← len, Array.length_toList]; exact (Array.getElem?_eq_some_iff.mp hv).1
  obtain ⟨t, e⟩ := IntsAre.int_at r i v (by rw [Array.getElem?_toList]; exact hv)
  have eg := List.getElem?_eq_getElem li
  refine ⟨ns[i], t, eg, ?_⟩
  rw [e, List.getD_eq_getElem?_getD, eg]; rfl
section
variable {P : Program} {w : World} {A : Around} {E : Value → Shared → Prop} {s : Shared}
set_option maxHeartbeats 3200000 in
theorem set_of_list {l : Addr} {items : Array Value} {ns : List Int} {Q : Value → Shared → Prop} (calm : A.handled = none) (isl : s.heap.IsList l items) (are : IntsAre items.toList ns) (few : ns.length + 1 < scanBound)
    (fin : ∀ h tk c, sGot w s ns h c → Q (.ref s.heap.objs.size) { s with heap := h, toks := tk }) : wpAny (model P w) A (call (.type "set") [.ref l]) Q E s := by
  have size : items.size = ns.length := by have q := are.length; rwa [Array.length_toList] at q
  obtain ⟨c, tl, k1⟩ := F.called_set.mro
  have k2 := F.called_set.made; have k3 := F.called_set.sub; have k4 := F.called_set.notType; have k5 := F.called_set.canCreate; have k6 := F.typeCall_set_1 (.ref l)
  refine wpAny_call (codeAny_of_tree ?_); show wpAny _ _ (callAny (.type "set") _) _ _ _
  refine wpAny_pure ⟨Code.quiet_builtin _ (by decide +kernel), codeAny_builtin F.entry_type_call ?_⟩; rw [Around.under_plain (weight_type_call_type "set" [.ref l] []) rfl]
  repeat (any_goals (first | assumption | wp_step))
  refine codeAny_mono (code_set_led1 (.ref l) (E := E) (Q₁ := fun ob t => ob = .ref s.heap.objs.size ∧ t = { s with heap := s.heap.push (eSet w) }) ⟨rfl, rfl⟩) fun r t said => ?_
  match r, said with
  | .error _, said => exact said
  | .ok .next, said => exact said.elim
  | .ok .brk, said => exact said.elim
  | .ok .cont, said => exact said.elim
  | .ok (.ret ob), ⟨e1, e2⟩ =>
    subst e1 e2
    have at0 : (s.heap.push (eSet w)).get? s.heap.objs.size = some (eSet w) := Heap.get?_push_size _ rfl
    have ty : Shared.TypeIs { s with heap := s.heap.push (eSet w) } (.ref s.heap.objs.size) "set" := ⟨_, at0, rfl⟩
    have k7 := F.called_set.init.lookup; have k8 := F.called_set.init.bind (.ref s.heap.objs.size)
    repeat (any_goals (first | assumption | wp_step))
    refine codeAny_mono (codeAny_call_builtin (R := wants (fun r t => r = .none ∧ ∃ h tk c, t = { s with heap := h, toks := tk } ∧ sGot w s ns h c) E) F.called_set.init.plain F.entry_set_init (check_set_init_1 ty ?_)) fun r2 t2 said2 => ?_
    · obtain ⟨⟨kc, kd, kdat, ksl⟩, gl, ecl, nl, edat⟩ := isl
      simp only at ecl edat
      subst ecl edat
      have gl2 : (s.heap.push (eSet w)).get? l = some { cls := .type "list", dict := kd, data := .seq items nl, slots := ksl } := Heap.get?_push_of_some _ gl
      have isl2 : (s.heap.push (eSet w)).IsList l items := ⟨_, gl2, rfl, nl, rfl⟩
      have m1 := F.sub_list_set; have m2 := F.sub_list_frozenset; have m3 : (Value.type "list" == Value.type "dict") = false := by decide
      unfold Builtin.«set.__init__» noKeywords Builtin.Frozenset.updateFrom
      generalize em : pyIter = PI
      wp_walk
      subst em
      refine wpAny_pyIter_list isl2 ?_; refine wpAny_bind (wpAny_runValue ?_)
      have ll : l < s.heap.objs.size := Heap.lt_size gl
      have calm3 : A.in1.in1.in1.handled = none := by simp [calm]
      have ap : l ≠ (s.heap.push (eSet w)).objs.size := by rw [Heap.size_push]; exact Nat.ne_of_lt (Nat.lt_succ_of_lt ll)
      have out : s.heap.objs.size ∉ [(s.heap.push (eSet w)).objs.size, l] := by
        rw [Heap.size_push]
        intro z
        rcases List.mem_cons.mp z with z | z
        · exact absurd z (Nat.ne_of_lt (Nat.lt_succ_self _))
        · exact absurd (List.mem_singleton.mp z) (Nat.ne_of_gt ll)
      refine set_update_ints ((Walks.list calm3 _ l ap items).toS) s.heap.objs.size out ns size few (ints_get are) (items.size - 0) 0 _ (by omega) (Nat.zero_le _) ⟨⟨_, Heap.get?_push_size _ rfl, rfl, rfl⟩, (isl2.push _)⟩ ?c1 ?c2
      case c1 => exact ⟨0, Nat.le_refl 0, setR_new_at (Heap.get?_push_of_some _ at0)⟩
      case c2 =>
        intro t' c' mv lc got
        obtain ⟨h', g', d', tk', os'⟩ := t'
        obtain rfl : g' = s.gens := mv.gens
        obtain rfl : d' = s.drawn := mv.drawn
        obtain rfl : os' = s.os := mv.os
        show wpAny _ _ _ _ _ _
        refine wpAny_pure ?_; show wpAny _ _ (ret Value.none) _ _ _
        rw [size] at lc
        refine wpAny_pure ⟨rfl, h', tk', c', rfl, got, lc, fun b o e => ?_⟩
        have lb : b < s.heap.objs.size := Heap.lt_size e
        refine mv.heap b o (fun z => ?_) (Heap.get?_push_of_some _ (Heap.get?_push_of_some _ e))
        rcases List.mem_cons.mp z with z | z
        · exact absurd z (Nat.ne_of_lt lb)
        · exact absurd ((List.mem_singleton.mp z).trans (Heap.size_push ..)) (Nat.ne_of_lt (Nat.lt_succ_of_lt lb))
    · match r2, said2 with
      | .error _, said2 => exact said2
      | .ok .next, said2 => exact said2.elim
      | .ok .brk, said2 => exact said2.elim
      | .ok .cont, said2 => exact said2.elim
      | .ok (.ret r), ⟨e1, h', tk, c', e2, got⟩ =>
        subst e1 e2
        repeat (any_goals (first | assumption | wp_step))
        exact fin _ _ _ got
end
end SL
namespace SL
open PySem PySem.Spec PyProof.Rows L2
/-! ### sorted of a set, of a dict's keys, however many -/
section
variable {P : Program} {w : World} {A : Around} {E : Value → Shared → Prop} {s : Shared}
theorem sort_ints_at {l : Addr} {us : List Value} {ms : List Int} {c : Nat} {R : PySem.Fin → Shared → Prop} (at_ : s.heap.get? l = some (seqObj "list" us.toArray c)) (are : IntsAre us ms) (few : us.length ≤ sizeLine)
    (fin : ∀ (vs : Array Value) (ks : List Int), IntsAre vs.toList ks → ks.Perm ms → ks.Pairwise (· ≤ ·) → R (.done (.ret .none)) { s with heap := sortedHeap s.heap l us vs }) :
    wpAny (model P w) A (Builtin.«list.sort» ⟨[.ref l], []⟩) R E s :=
  SrtO.list_sort_ord SrtO.swo_int at_ few (fun two => SrtO.ints_sortable are two) fun vs srt stb => by
    obtain ⟨z1, z2, z3⟩ := SrtO.ints_out are srt stb
    exact fin vs.toArray _ (by simpa using z1) z2 z3
theorem sorted_set_any {a : Addr} {M : Int → Bool} {m : Nat} {Q : Value → Shared → Prop} (got : SetR w s.heap a M m) (calm : A.handled = none)
    (fin : ∀ t p (vs : Array Value) (c : Nat) (ks : List Int), (∀ b o, s.heap.get? b = some o → t.heap.get? b = some o) → t.gens = s.gens → t.os = s.os → s.heap.objs.size ≤ p →
      t.heap.get? p = some (seqObj "list" vs c) → IntsAre vs.toList ks → ks.Pairwise (· < ·) → (∀ k, k ∈ ks ↔ M k = true) → ks.length = m → Q (.ref p) t) :
    wpAny (model P w) A (call (.builtin "sorted") [.ref a]) Q E s := by
  obtain ⟨ob, ents, epo, tab, here, exa, dat, good, nodup, memb, room, fits, many, ris, led⟩ := got
  refine Calls.call_function_entry kind_sorted plain_sorted entry_sorted (args_sorted1 _) ?_
  unfold Builtin.«sorted»
  refine wpAny_bind (m := checkCount "sorted" 1 1 _) (wpAny_pure ?_)
  refine wpAny_bind (collect_set (A := A.in1) calm ⟨ob, here, exa.1, dat⟩ fits room ris led fun t us stay low gens os perm => ?_)
  have lu : us.length = m := by rw [perm.length_eq, List.length_map, Array.length_toList]; exact many
  have lz : us.length ≤ sizeLine := by rw [lu, sizeLine_eq]; unfold scanBound at room; omega
  have are : IntsAre us (us.map Builtin.Re.reRawOf) := ints_of us fun u hu => by
    obtain ⟨x, hx, ex⟩ := List.mem_map.mp (perm.mem_iff.mp hu)
    obtain ⟨k, tk, z, _⟩ := good x hx
    exact ⟨k, tk, by rw [← ex]; exact z⟩
  have keys : (us.map Builtin.Re.reRawOf).Perm (ents.toList.map L2.keyOf) := by
    have := perm.map Builtin.Re.reRawOf
    rw [List.map_map] at this
    exact this
  refine wpAny_bind (wpAny_newList ?_ lz)
  have laid : (t.heap.push (seqObj "list" us.toArray 0)).get? t.heap.objs.size = some (seqObj "list" us.toArray 0) := Heap.get?_push_size _ rfl
  refine wpAny_bind (wpAny_holding (wpAny_call_entry slot_list_sort ⟨_, laid, rfl⟩ entry_list_sort (sort_ints_at laid are lz fun vs ks b1 b2 b3 => ⟨_, rfl, ?_⟩) (args_list_sort _)))
  obtain ⟨c, hc⟩ := sortedHeap_at (vs := us) (out := vs) laid
  have pk := b2.trans keys
  refine wpAny_pure ⟨_, rfl, fin _ t.heap.objs.size vs c ks (fun b u e => ?_) gens os low hc b1 (lt_of_le_nodup ks b3 (pk.nodup_iff.mpr nodup)) (fun k => by rw [pk.mem_iff, ← memb k]) ?_⟩
  · have old := stay b u e
    have lb := Heap.lt_size old
    show (sortedHeap (t.heap.push (seqObj "list" us.toArray 0)) t.heap.objs.size us vs).get? b = some u
    rw [sortedHeap_old (Nat.ne_of_lt lb) (by rw [size_push']; exact Nat.lt_succ_of_lt lb)]
    exact Heap.get?_push_of_some _ old
  · rw [pk.length_eq, List.length_map, Array.length_toList]; exact many
end
section
variable {X : Cx}
def rSortSet (w : World) : List V → Hp → VK → Prop := fun xs H Q => ∃ (a : Addr) (M : Int → Bool) (m : Nat), xs = [V.ref a] ∧ H a = some (SetO w a M m) ∧ m < 4096 ∧
  ∀ (ks : List Int) (p : Addr), ks.Pairwise (· < ·) → (∀ k : Int, k ∈ ks ↔ M k = true) → ks.length = m → H p = none → Q (.ref p) (upd H p (.lst (ks.map V.int)))
theorem cr_sortSet (calm : X.calm = true) : CallR X (.builtin "sorted") (rSortSet X.w) := by
  intro pins s σ H xs us Q I r said
  obtain ⟨a, M, m, rfl, ha, few, q⟩ := said
  rw [Vals.ref1 r]
  refine sorted_set_any (setO_get I ha) (I.ok.hd calm) fun t p vs c ks stay gens os low hc are up mem len => ?_
  have free : H p = none := I.hok.fresh low
  have fits : (ks.map V.int).length ≤ sizeLine := by rw [List.length_map, len, sizeLine_eq]; omega
  have J : Inv X pins σ (upd H p (.lst (ks.map V.int))) { s with heap := t.heap, gens := t.gens, drawn := t.drawn, toks := t.toks } :=
    I.call (ch := []) (Un.laid stay low free) (I.hok.laid stay low ⟨fits, vs.toList, c, vals_of_ints are, hc⟩) (by rw [gens]; exact I.bare) (fun _ z => nomatch z)
  have et : t = { s with heap := t.heap, gens := t.gens, drawn := t.drawn, toks := t.toks } := by
    cases t
    cases s
    cases os
    rfl
  rw [et]
  exact ⟨.ref p, _, J, rfl, q ks p up mem len free⟩
theorem cr_sortDict (calm : X.calm = true) : CallR X (.builtin "sorted") (fun xs H Q => ∃ (a : Addr) (kvs : List (Key × V)) (ms : List Int), xs = [.ref a] ∧ Rd H a (.dK kvs) ∧ kvs.map (·.1) = ms.map Sum.inl ∧ ms.length < 4096 ∧
    ∀ (ys : List Int) (p : Addr), ys.Perm ms → ys.Pairwise (· ≤ ·) → H p = none → Q (.ref p) (upd H p (.lst (ys.map V.int)))) := by
  intro pins s σ H xs us Q I r said
  obtain ⟨a, kvs, ms, rfl, rd, keys, few, q⟩ := said
  obtain ⟨u, rfl, ru⟩ := vals1 r
  cases ru
  obtain ⟨_, lo, ws, rel, dd⟩ := dk_rd I.hok rd
  obtain ⟨epo, dat⟩ := dd.dictAt
  have wk : ws.map (·.1) = ms.map Sum.inl := rel.keys.symm.trans keys
  have wl : ws.length = ms.length := by simpa using congrArg List.length wk
  have lz : ws.length ≤ sizeLine := by rw [wl, sizeLine_eq]; omega
  refine Calls.call_function_entry kind_sorted plain_sorted entry_sorted (args_sorted1 _) ?_
  unfold Builtin.«sorted»
  refine wpAny_bind (m := checkCount "sorted" 1 1 _) (wpAny_pure ?_)
  refine wpAny_bind (PySem.W.kdu_collect (A := X.A.in1) (PySem.W.kdl_dict (knd := mixKind X.prog X.w) (kvs := ws) (ep := epo) lo) (I.ok.hd calm) dat lz fun g tk acc stay got => ?_)
  have la : acc.toList.length = ms.length := by rw [Array.length_toList, got.1, wl]
  have are : IntsAre acc.toList ms := ints_each la fun j v ev => by
    obtain ⟨k, y, f1, f2⟩ := got.2 j v (by rw [← Array.getElem?_toList]; exact ev)
    have f3 : (ws.map (·.1))[j]? = some k := by rw [List.getElem?_map, f1]; rfl
    rw [wk, List.getElem?_map] at f3
    cases f4 : ms[j]? with
    | none => rw [f4] at f3; cases f3
    | some z =>
      rw [f4] at f3
      have f5 : Sum.inl z = k := Option.some.inj f3
      subst f5
      rcases keyIs_shape (show keyIs (Sum.inl z) v = true from f2) with ⟨i, t, g1, g2⟩ | ⟨i, t, g1, g2⟩
      · cases g1
        exact ⟨z, t, rfl, g2⟩
      · cases g1
  have I1 : Inv X pins σ H { s with heap := g, toks := tk } := I.kept stay
  refine wpAny_bind (wpAny_newList ?_ (by rw [la, ← wl]; exact lz))
  have laid : (g.push (seqObj "list" acc.toList.toArray 0)).get? g.objs.size = some (seqObj "list" acc.toList.toArray 0) := Heap.get?_push_size _ rfl
  show wpAny _ _ _ _ _ { s with heap := g.push (seqObj "list" acc.toList.toArray 0), toks := tk }
  refine wpAny_bind (wpAny_holding (wpAny_call_entry slot_list_sort ⟨_, laid, rfl⟩ entry_list_sort
    (sort_ints_at (s := { s with heap := g.push (seqObj "list" acc.toList.toArray 0), toks := tk }) laid are (by rw [la, ← wl]; exact lz) fun vs ys b1 b2 b3 => ⟨_, rfl, ?_⟩) (args_list_sort _)))
  obtain ⟨e', he'⟩ := sortedHeap_at (vs := acc.toList) (out := vs) laid
  have fits : (ys.map V.int).length ≤ sizeLine := by
    rw [List.length_map, b2.length_eq, ← wl]; exact lz
  refine wpAny_pure ⟨_, rfl, .ref g.objs.size, upd H g.objs.size (.lst (ys.map V.int)), I1.laid (t' := tk) (fun b u e => ?_) (Nat.le_refl _)
    (show ObjOk X.prog X.w _ _ _ (.lst (ys.map V.int)) from ⟨fits, vs.toList, e', vals_of_ints b1, by rw [Array.toArray_toList]; exact he'⟩), rfl, q ys _ b2 b3 (I1.hok.fresh (Nat.le_refl _))⟩
  have lb : b < g.objs.size := Heap.lt_size e
  rw [sortedHeap_old (Nat.ne_of_lt lb) (by rw [size_push']; exact Nat.lt_succ_of_lt lb)]
  exact Heap.get?_push_of_some _ e
end
end SL
namespace SL
open PySem PySem.Spec PyProof.Rows L2
/-! ### d.update(list of pairs) -/
section
variable {X : Cx}
theorem two_lists {pins : List (Addr × Obj)} {σ : L2.St} {H : Hp} {s : Shared} (I : Inv X pins σ H s) : ∀ {ps : List Addr} {kvs : List (Key × V)}, Paired (fun p kv => SqT X.K H p [kV kv.1, kv.2]) ps kvs →
    ∃ (qs : List (Value × Value)) (rs : List (Key × Value)), KV kvs rs ∧ qs.length = ps.length ∧ rs.length = ps.length ∧ ∀ (j : Nat) (k v : Value), qs[j]? = some (k, v) → ∃ (b : Addr) (q : Key), ps[j]? = some b ∧ IsTup s.heap b #[k, v] ∧ rs[j]? = some (q, v) ∧ (mixKind X.prog X.w).is q k = true
  | _, _, .nil => ⟨[], [], .nil, rfl, rfl, fun j k v e => by simp at e⟩
  | _, _, .cons (a := p) (b := kv) hd tl => by
    obtain ⟨qs, rs, r, l1, l2, ih⟩ := two_lists I tl
    obtain ⟨its, rv, it, _⟩ := I.tuple hd
    obtain ⟨u, y, rfl, ru, ry⟩ := vals2 rv
    refine ⟨(u, y) :: qs, (kv.1, y) :: rs, .cons ⟨rfl, ry⟩ r, by simp [l1], by simp [l2], fun j k v e => ?_⟩
    match j with
    | 0 =>
      obtain ⟨rfl, rfl⟩ : u = k ∧ y = v := by simpa using e
      exact ⟨p, kv.1, rfl, it, rfl, kV_is ru⟩
    | j + 1 =>
      obtain ⟨b, q, e1, e2, e3, e4⟩ := ih j k v (by simpa using e)
      exact ⟨b, q, by simpa using e1, e2, by simpa using e3, e4⟩
def rUpd (K : PySem.W.Frag) : V → List V → Hp → VK → Prop := fun x xs H Q => ∃ (d a : Addr) (kvs more : List (Key × V)) (ps : List Addr), x = .ref d ∧ xs = [.ref a] ∧ H d = some (.dK kvs) ∧ SqL K H a (ps.map V.ref) ∧ Paired (fun p kv => SqT K H p [kV kv.1, kv.2]) ps more ∧ kvs.length + more.length ≤ sizeLine ∧
  Q .non (upd H d (.dK (mergeK kvs more)))
theorem mt_update (calm : X.calm = true) : MtR X "dict.update" (rUpd X.K) := by
  intro pins s σ H x xs v us Q I rx rxs said
  obtain ⟨d, a, kvs, more, ps, rfl, rfl, hd, sq, pr, sz, fin⟩ := said
  obtain ⟨u, rfl, ru⟩ := vals1 rxs
  cases rx; cases ru
  obtain ⟨its, rv, pl, _⟩ := I.list sq
  have ei := refs_at rv
  subst ei
  obtain ⟨qs, rs, kr, l1, l2, ih⟩ := two_lists I pr
  obtain ⟨z1, z2, vs, kv0, dof⟩ := I.hok d _ hd
  obtain ⟨od, es, ep, god, exd, datd, _⟩ := id dof
  have clsd : od.cls = .type "dict" := exd.1
  have items : PairItems s.heap (ps.map Value.ref).toArray (fun j => ps.getD j 0) qs := ⟨by simp [l1], fun j k v e => by
    obtain ⟨b, q, e1, e2, _⟩ := ih j k v e
    have eb : ps.getD j 0 = b := by rw [List.getD_eq_getElem?_getD, e1]; rfl
    refine ⟨?_, .inl ?_⟩
    · rw [List.getElem?_toArray, List.getElem?_map, e1]; exact congrArg (fun z => some (Value.ref z)) eb.symm
    · show IsTup s.heap (ps.getD j 0) _; rw [eb]; exact e2⟩
  obtain ⟨ol, nl, gol, cll, dil, dal⟩ := pl
  have away : d ∉ a :: (List.range qs.length).map (fun j => ps.getD j 0) := fun z => by
    rcases List.mem_cons.mp z with z | z
    · subst z
      rw [god] at gol
      cases gol
      rw [clsd] at cll
      exact absurd cll (by decide)
    · obtain ⟨j, lj, ej⟩ := List.mem_map.mp z
      have lj := List.mem_range.mp lj
      obtain ⟨b, q, e1, ⟨ot, got, clt, _⟩, _⟩ := ih j qs[j].1 qs[j].2 (List.getElem?_eq_getElem lj)
      have eb : ps.getD j 0 = b := by rw [List.getD_eq_getElem?_getD, e1]; rfl
      rw [← ej, eb, got] at god
      cases god
      rw [clsd] at clt
      exact absurd clt (by decide)
  have ll : more.length = ps.length := by rw [← l2]; exact Paired.length kr
  refine call_update_pairs (knd := mixKind X.prog X.w) (acc := vs) (kvs := rs) (PairArg.list a (ps.map Value.ref).toArray (fun j => ps.getD j 0) qs) (I.ok.hd calm) ⟨⟨ol, nl, gol, cll, dil, dal⟩, items⟩ away ⟨by rw [l1, l2], fun i key v e => ?_⟩ dof (by rw [← Paired.length kv0, l1, ← ll]; exact sz) fun h' tk hd' k => ?_
  · obtain ⟨b, q, _, _, e3, e4⟩ := ih i key v e
    exact ⟨q, e3, e4⟩
  · have lm : (mergeK kvs more).length ≤ sizeLine := Nat.le_trans (length_mergeK more kvs) sz
    obtain ⟨od', _, _, god', _⟩ := id hd'
    exact ⟨.non, upd H d (.dK (mergeK kvs more)), I.write (e := d) (t' := tk) (by rw [hd]; trivial) (.inl rfl) (fun b u hb e => k b u hb (fun z => nomatch z) e) ⟨od', god'⟩ (show ObjOk X.prog X.w _ _ _ (.dK (mergeK kvs more)) from ⟨lm, z2, merged vs rs, KV.merge kr kv0, hd'⟩), rfl, fin⟩
/-! on plain data -/
/-- pairs of a list of tuples -/
def pairsD : List D → Option (List (Key × D))
  | [] => some []
  | .tup [k, v] :: r => match keyOf k, pairsD r with
    | some q, some rs => some ((q, v) :: rs)
    | _, _ => none
  | _ :: _ => none
theorem pairsD_rep {K : PySem.W.Frag} {α : Al} {L : Nat} {H : Hp} : ∀ {ds : List D} {kvs : List (Key × D)} {xs : List V}, pairsD ds = some kvs → Reps K α L H ds xs → ∃ (ps : List Addr) (ys : List (Key × V)), xs = ps.map V.ref ∧ RepKV K α L H kvs ys ∧ Paired (fun p kv => SqT K H p [kV kv.1, kv.2]) ps ys
  | [], kvs, xs, e, r => by cases e; exact ⟨[], [], r, ⟨rfl, rfl⟩, .nil⟩
  | d :: ds, kvs, _, e, ⟨x, zs, rfl, r1, r2⟩ => by
    unfold pairsD at e
    split at e
    · next h => cases h
    · next k v r h =>
      cases h
      split at e
      · next q rs e1 e2 =>
        cases e
        obtain ⟨a, ws, rfl, sa, y1, _, rfl, rk, y2, _, rfl, rv, rfl⟩ := r1
        obtain ⟨ps, ys, rfl, ry, pp⟩ := pairsD_rep e2 r2
        refine ⟨a :: ps, (q, y2) :: ys, rfl, ⟨by simp [ry.1], y2, _, rfl, rv, ry.2⟩, .cons ?_ pp⟩
        have := sa.seq
        rw [key_rep e1 rk] at this
        exact this
      · cases e
    · cases e
def updateG : GM
  | .ref n, [.ref m], h => match h[n]?, getL h m with
    | some (.dct kvs), some ds => match pairsD ds with
      | some more => if kvs.length + more.length ≤ sizeLine then some (.non, h.set n (.dct (mergeD kvs more))) else none
      | none => none
    | _, _ => none
  | _, _, _ => none
theorem cm_update (calm : X.calm = true) : CM X "dict.update" updateG := MtR.imp (mt_update calm) fun x xs H Q ⟨h, α, dx, ds, d, h', mt, rx, r, e, q⟩ => by
  unfold updateG at e
  split at e
  · split at e
    · next e1 e2 =>
      split at e
      · next e3 =>
        split at e
        · next c =>
          cases e
          obtain ⟨_, rfl⟩ := rx
          obtain ⟨v, rfl, _, rfl⟩ := reps1 r
          obtain ⟨ys, a1, rk⟩ := mt.at_ _ _ e1
          obtain ⟨xs, sq, rr⟩ := mt.getL e2
          obtain ⟨ps, zs, rfl, rz, pp⟩ := pairsD_rep e3 rr
          obtain ⟨x2, m2⟩ := set_dct mt e1 rfl (repKV_merge rz rk)
          exact ⟨_, _, ys, zs, ps, rfl, rfl, a1, sq, pp, by rw [repKV_len rk, repKV_len rz]; exact c, q α _ _ x2 m2 rfl⟩
        · cases e
      · cases e
    · cases e
  · cases e
/-- dict(list of pairs) -/
def dictG : GC
  | [.ref m], h => match getL h m with
    | some ds => match pairsD ds with
      | some more => some (.ref h.length, h ++ [.dct (mergeD [] more)])
      | none => none
    | none => none
  | _, _ => none
theorem cb_dict (calm : X.calm = true) : CB X (.type "dict") dictG := CallR.imp (call_dictP calm) fun xs H Q ⟨h, α, ds, d, h', mt, r, e, q⟩ => by
  unfold dictG at e
  split at e
  · split at e
    · next e2 =>
      split at e
      · next more e3 =>
        cases e
        obtain ⟨v, rfl, _, rfl⟩ := reps1 r
        obtain ⟨xs, sq, rr⟩ := mt.getL e2
        obtain ⟨ps, zs, rfl, rz, pp⟩ := pairsD_rep e3 rr
        refine ⟨_, ps, zs, rfl, sq, pp, fun p hp => ?_⟩
        have x2 : Ex α H h (al1 α h.length p) (upd H p (.dK (mergeK [] zs))) (h ++ [.dct (mergeD [] more)]) := Ex.alloc hp
        have rk := repKV_merge rz (kvs := []) (ys := []) ⟨rfl, rfl⟩
        exact q _ _ _ x2 (mt.alloc hp ⟨_, upd_same, x2.repKV rk⟩) ⟨by rw [len_snoc]; exact Nat.lt_succ_self _, by rw [al1_same]⟩
      · cases e
    · cases e
  · cases e
end
/-! ### sorted -/
/-- ints put in order; each once -/
def insO (x : Int) : List Int → List Int
  | [] => [x]
  | y :: r => if x ≤ y then x :: y :: r else y :: insO x r
def soI (ns : List Int) : List Int := ns.foldr insO []
def insU (x : Int) : List Int → List Int
  | [] => [x]
  | y :: r => if x < y then x :: y :: r else if x = y then y :: r else y :: insU x r
def ssI (ns : List Int) : List Int := ns.foldr insU []
theorem insO_perm (x : Int) : ∀ l : List Int, (insO x l).Perm (x :: l)
  | [] => .refl _
  | y :: r => by
    unfold insO
    split
    · exact .refl _
    · exact ((insO_perm x r).cons y).trans (.swap x y r)
theorem soI_perm : ∀ ns : List Int, (soI ns).Perm ns
  | [] => .refl _
  | n :: ns => (insO_perm n _).trans ((soI_perm ns).cons n)
theorem insO_up (x : Int) : ∀ l : List Int, l.Pairwise (· ≤ ·) → (insO x l).Pairwise (· ≤ ·)
  | [], _ => by simp [insO]
  | y :: r, h => by
    obtain ⟨h1, h2⟩ := List.pairwise_cons.mp h
    unfold insO
    split
    · next c => exact List.pairwise_cons.mpr ⟨fun z hz => by rcases List.mem_cons.mp hz with rfl | hz; exact c; exact Int.le_trans c (h1 z hz), h⟩
    · next c =>
      refine List.pairwise_cons.mpr ⟨fun z hz => ?_, insO_up x r h2⟩
      rcases List.mem_cons.mp ((insO_perm x r).mem_iff.mp hz) with rfl | hz
      · omega
      · exact h1 z hz
theorem soI_up : ∀ ns : List Int, (soI ns).Pairwise (· ≤ ·)
  | [] => .nil
  | n :: ns => insO_up n _ (soI_up ns)
theorem sorted_one : ∀ {xs ys : List Int}, xs.Perm ys → xs.Pairwise (· ≤ ·) → ys.Pairwise (· ≤ ·) → xs = ys
  | [], ys, p, _, _ => (List.nil_perm.mp p).symm
  | x :: xs, [], p, _, _ => absurd (List.perm_nil.mp p) (by simp)
  | x :: xs, y :: ys, p, hx, hy => by
    obtain ⟨a1, a2⟩ := List.pairwise_cons.mp hx
    obtain ⟨b1, b2⟩ := List.pairwise_cons.mp hy
    have e : x = y := by
      have m1 : x ∈ y :: ys := p.mem_iff.mp List.mem_cons_self
      have m2 : y ∈ x :: xs := p.mem_iff.mpr List.mem_cons_self
      rcases List.mem_cons.mp m1 with q | q
      · exact q
      · rcases List.mem_cons.mp m2 with q2 | q2
        · exact q2.symm
        · have := b1 x q; have := a1 y q2; omega
    subst e
    rw [sorted_one ((List.perm_cons x).mp p) a2 b2]
theorem insU_mem (x : Int) : ∀ (l : List Int) (z : Int), z ∈ insU x l ↔ z = x ∨ z ∈ l
  | [], z => by simp [insU]
  | y :: r, z => by
    unfold insU
    split
    · simp
    · split
      · next c => subst c; simp
      · rw [List.mem_cons, insU_mem x r z, List.mem_cons]
        constructor
        · rintro (q | q | q)
          · exact .inr (.inl q)
          · exact .inl q
          · exact .inr (.inr q)
        · rintro (q | q | q)
          · exact .inr (.inl q)
          · exact .inl q
          · exact .inr (.inr q)
theorem insU_up (x : Int) : ∀ l : List Int, l.Pairwise (· < ·) → (insU x l).Pairwise (· < ·)
  | [], _ => by simp [insU]
  | y :: r, h => by
    obtain ⟨h1, h2⟩ := List.pairwise_cons.mp h
    unfold insU
    split
    · next c => exact List.pairwise_cons.mpr ⟨fun z hz => by rcases List.mem_cons.mp hz with rfl | hz; exact c; exact Int.lt_trans c (h1 z hz), h⟩
    · next c =>
      split
      · exact h
      · next c2 =>
        refine List.pairwise_cons.mpr ⟨fun z hz => ?_, insU_up x r h2⟩
        rcases (insU_mem x r z).mp hz with rfl | hz
        · omega
        · exact h1 z hz
theorem ssI_mem : ∀ (ns : List Int) (z : Int), z ∈ ssI ns ↔ z ∈ ns
  | [], z => by simp [ssI]
  | n :: ns, z => by
    show z ∈ insU n (ssI ns) ↔ _
    rw [insU_mem, ssI_mem ns, List.mem_cons]
theorem ssI_up : ∀ ns : List Int, (ssI ns).Pairwise (· < ·)
  | [] => .nil
  | n :: ns => insU_up n _ (ssI_up ns)
theorem up_one : ∀ {xs ys : List Int}, (∀ z, z ∈ xs ↔ z ∈ ys) → xs.Pairwise (· < ·) → ys.Pairwise (· < ·) → xs = ys
  | [], ys, p, _, _ => by
    cases ys with
    | nil => rfl
    | cons y ys => exact absurd ((p y).mpr List.mem_cons_self) (by simp)
  | x :: xs, [], p, _, _ => absurd ((p x).mp List.mem_cons_self) (by simp)
  | x :: xs, y :: ys, p, hx, hy => by
    obtain ⟨a1, a2⟩ := List.pairwise_cons.mp hx
    obtain ⟨b1, b2⟩ := List.pairwise_cons.mp hy
    have e : x = y := by
      rcases List.mem_cons.mp ((p x).mp List.mem_cons_self) with q | q
      · exact q
      · rcases List.mem_cons.mp ((p y).mpr List.mem_cons_self) with q2 | q2
        · exact q2.symm
        · have := b1 x q; have := a1 y q2; omega
    subst e
    rw [up_one (fun z => ?_) a2 b2]
    constructor
    · intro hz
      rcases List.mem_cons.mp ((p z).mp (List.mem_cons_of_mem _ hz)) with q | q
      · have := a1 z hz; omega
      · exact q
    · intro hz
      rcases List.mem_cons.mp ((p z).mpr (List.mem_cons_of_mem _ hz)) with q | q
      · have := b1 z hz; omega
      · exact q
/-- texts put in order -/
def strLt (a b : Str) : Bool := decide (a.cps.toList < b.cps.toList)
def insS (x : Str) : List Str → List Str
  | [] => [x]
  | y :: r => if strLt y x = true then y :: insS x r else x :: y :: r
def soS (ns : List Str) : List Str := ns.foldr insS []
section
variable {X : Cx} {e : Expr} {ma : ME} {pos : Pos}
def keysI : List (Key × D) → Option (List Int)
  | [] => some []
  | (.inl i, _) :: r => match keysI r with
    | some is => some (i :: is)
    | none => none
  | _ :: _ => none
theorem keysI_eq : ∀ {kvs : List (Key × D)} {is : List Int}, keysI kvs = some is → kvs.map (·.1) = is.map Sum.inl
  | [], is, e => by cases e; rfl
  | (.inl i, d) :: r, is, e => by
    unfold keysI at e
    split at e
    · next e1 => cases e; simp [keysI_eq e1]
    · cases e
  | (.inr x, d) :: r, is, e => by cases e
def sortedG : GC
  | [.ref n], h => match getL h n with
    | some ds => match intsD ds with
      | some ns => some (.ref h.length, h ++ [.lst ((soI ns).map D.int)])
      | none => none
    | none => match h[n]? with
      | some (.dct kvs) => match keysI kvs with
        | some is => if is.length < 4096 then some (.ref h.length, h ++ [.lst ((soI is).map D.int)]) else none
        | none => none
      | _ => none
  | _, _ => none
theorem cb_sorted (calm : X.calm = true) : CB X (.builtin "sorted") sortedG := CallR.imp (CallR.or cr_sortedI (cr_sortDict calm)) fun xs H Q ⟨h, α, ds, d, h', mt, r, e, q⟩ => by
  have new : ∀ (ns : List Int) (p : Addr), H p = none → ∃ α', Ex α H h α' (upd H p (.lst (ns.map V.int))) (h ++ [.lst (ns.map D.int)]) ∧ Mt X.K α' (upd H p (.lst (ns.map V.int))) (h ++ [.lst (ns.map D.int)]) ∧ Rep X.K α' (h ++ [AO.lst (ns.map D.int)]).length (upd H p (.lst (ns.map V.int))) (.ref h.length) (.ref p) := fun ns p hp => new_lst mt hp (Reps.of_ints ns)
  unfold sortedG at e
  split at e
  · split at e
    · next e2 =>
      split at e
      · next e3 =>
        cases e
        obtain ⟨v, rfl, _, rfl⟩ := reps1 r
        refine .inl ⟨_, _, rfl, seq_ints mt e2 e3, fun ns' p pm up hp => ?_⟩
        have : ns' = soI _ := sorted_one (pm.trans (soI_perm _).symm) up (soI_up _)
        subst this
        obtain ⟨α', x2, m2, r2⟩ := new _ p hp
        exact q α' _ _ x2 m2 r2
      · cases e
    · split at e
      · next e2 =>
        split at e
        · next e3 =>
          split at e
          · next c =>
            cases e
            obtain ⟨v, rfl, _, rfl⟩ := reps1 r
            obtain ⟨ys, a1, rk⟩ := mt.at_ _ _ e2
            refine .inr ⟨_, ys, _, rfl, .of a1, by rw [← rk.1]; exact keysI_eq e3, c, fun ns' p pm up hp => ?_⟩
            have : ns' = soI _ := sorted_one (pm.trans (soI_perm _).symm) up (soI_up _)
            subst this
            obtain ⟨α', x2, m2, r2⟩ := new _ p hp
            exact q α' _ _ x2 m2 r2
          · cases e
        · cases e
      · cases e
  · cases e
/-! sorted(set(xs)) -/
def rSetL (K : PySem.W.Frag) (w : World) : List V → Hp → VK → Prop := fun xs H Q => ∃ (a : Addr) (ns : List Int), xs = [.ref a] ∧ SqL K H a (ns.map V.int) ∧ ns.length + 1 < scanBound ∧ ∀ p c, H p = none → c ≤ ns.length → Q (.ref p) (upd H p (SetO w p (fun j => decide (j ∈ ns)) c))
theorem cr_setL (calm : X.calm = true) : CallR X (.type "set") (rSetL X.K X.w) := by
  intro pins s σ H xs us Q I r said
  obtain ⟨a, ns, rfl, sq, few, q⟩ := said
  obtain ⟨its, rv, pl, _⟩ := I.list sq
  rw [Vals.ref1 r]
  have are : IntsAre its.toArray.toList ns := by simpa using ints_of_vals rv
  refine set_of_list (I.ok.hd calm) pl.isList are few fun h tk c got => ?_
  exact ⟨.ref s.heap.objs.size, _, I.laid (t' := tk) got.2.2 (Nat.le_refl _) (setO_new got.1), rfl, q _ c (I.hok.fresh (Nat.le_refl _)) got.2.1⟩
def ssetG : GU
  | .ref n, h => match getL h n with
    | some ds => match intsD ds with
      | some ns => if ns.length < 4000 then some (.ref h.length, h ++ [.lst ((ssI ns).map D.int)]) else none
      | none => none
    | none => none
  | _, _ => none
theorem c_sset {p1 p2 q1 q2 : Pos} (calm : X.calm = true) (hm : X.mg "sorted" = none) (hm2 : X.mg "set" = none) (ha : CE X e ma) (hg : Gl X "sorted" := by rfl) (hg2 : Gl X "set" := by rfl)
    (he : starEach [.Call (.Name "set" p2) [e] [] q2] X.env = (false, eval (.Call (.Name "set" p2) [e] [] q2) X.env) :: starEach [] X.env := by rfl) (hpl : (backTo q1 (starEach [] X.env)).any (·.1) = false := by rfl)
    (he2 : starEach [e] X.env = (false, eval e X.env) :: starEach [] X.env := by rfl) (hpl2 : (backTo q2 (starEach [] X.env)).any (·.1) = false := by rfl) :
    CE X (.Call (.Name "sorted" p1) [.Call (.Name "set" p2) [e] [] q2] [] q1) (eUn ssetG ma) := by
  refine PE.imp (pe_callB (cr_sortSet calm) hg hm (by decide +kernel) (pa_cons (pe_callTy (cr_setL calm) hg2 hm2 (by decide +kernel) (pa_cons ha pa_nil he2) (by decide) (by decide) he2 hpl2) pa_nil he) (by decide) (by decide) he hpl) fun σ H Q t => ?_
  obtain ⟨ρ, h, α, d, h', rs, mt, e, q⟩ := un_seq t
  refine ⟨ρ, h, α, d, h', rs, mt, e, fun α1 H1 v1 x1 m1 r1 => ?_⟩
  obtain ⟨h2, α2, dx, d2, h3, mt2, rx, e2, q2⟩ := q α1 H1 v1 x1 m1 r1
  unfold ssetG at e2
  split at e2
  · split at e2
    · next e3 =>
      split at e2
      · next ns e4 =>
        split at e2
        · next c =>
          cases e2
          obtain ⟨_, rfl⟩ := rx
          refine ⟨_, ns, rfl, seq_ints mt2 e3 e4, Nat.lt_of_lt_of_le (Nat.succ_lt_succ c) (Nat.le_of_ble_eq_true rfl), fun p cc hp lc => ?_⟩
          refine ⟨p, _, cc, rfl, upd_same, by omega, fun ns' p2 up mem ln hp2 => ?_⟩
          have : ns' = ssI ns := up_one (fun z => by rw [mem z, ssI_mem]; simp) up (ssI_up _)
          subst this
          have x2 : Ex α2 H1 h2 α2 (upd H1 p (SetO X.w p (fun j => decide (j ∈ ns)) cc)) h2 := Ex.grow hp
          obtain ⟨α', x3, m3, r3⟩ := new_lst (mt2.grow hp) hp2 (Reps.of_ints (ssI ns))
          exact q2 α' _ _ (x2.trans x3) m3 r3
        · cases e2
      · cases e2
    · cases e2
  · cases e2
end
end SL
namespace SL
open PySem PySem.Spec PyProof.Rows L2
/-! ### defs that ask for repr, called where none is under way -/
structure CalG (P : Program) (w : World) (K : PySem.W.Frag) (mg : Str → Option Value) (base : Heap) (k : Nat) (x : Str) (g : GC) : Prop where
  ex : ∃ (a : Addr) (fd : FuncData) (ps : List Str), (∀ A : Around, A.guards = some [] → FnAt A P w K mg base k a fd ps (lF K g)) ∧ (∀ ds h r, g ds h = some r → ds.length = ps.length) ∧ mg x = some (.ref a) ∧ PySem.W.keepIn K (.ref a) = true ∧ Binds K fd ps []
theorem FnAt.mono {A : Around} {P : Program} {w : World} {K : PySem.W.Frag} {mg : Str → Option Value} {base : Heap} {j k : Nat} {f : Addr} {fd : FuncData} {ps : List Str} {sp : Sp} (F : FnAt A P w K mg base j f fd ps sp) (h : j ≤ k) : FnAt A P w K mg base k f fd ps sp :=
  ⟨fun outer s H args us vs Q E hr => F.go outer s H args us vs Q E (hr.mono h)⟩
theorem CalG.mono {P : Program} {w : World} {K : PySem.W.Frag} {mg : Str → Option Value} {base : Heap} {j k : Nat} {x : Str} {g : GC} (c : CalG P w K mg base j x g) (h : j ≤ k) : CalG P w K mg base k x g := by
  obtain ⟨a, fd, ps, F, r⟩ := c.ex
  exact ⟨a, fd, ps, fun A z => (F A z).mono h, r⟩
theorem runB_len {m : MS} {n N : Nat} {ds : List D} {h : Hs} {r : D × Hs} (e : runB m n N ds h = some r) : ds.length = n := by
  unfold runB at e
  split at e
  · next c => exact c
  · cases e
section
variable {X : Cx} {e : Expr} {p pos : Pos} {es : List Expr} {x : Str} {m : MA} {g : GC} {k : Nat} {f : Addr} {fd : FuncData} {ps : List Str}
theorem run_at {pins : List (Addr × Obj)} {σ : L2.St} {H : Hp} {s : Shared} {Q : VK} {us : List Value} {vs : List V} (F : FnAt X.A X.prog X.w X.K X.mg X.base k f fd ps (lF X.K g)) (len : ∀ ds h r, g ds h = some r → ds.length = ps.length) (room : Room k X.A) (bind : Binds X.K fd ps [])
    (I : Inv X pins σ H s) (rel : Vals vs us) (said : lC X.K g vs H Q) : wpAny (model X.prog X.w) X.A (call (.ref f) us) (EP X pins σ Q) X.xe s := by
  have wide : us.length = ps.length := by
    obtain ⟨h0, α, ds, d, h', mt, r, ev, _⟩ := said
    rw [← rel.length, r.length]
    exact len ds h0 _ ev
  have bnd := bind s us I.kIn (by simpa using wide)
  rw [List.append_nil] at bnd
  refine wpAny_call (codeAny_mono (F.go X.stack s H ⟨us, []⟩ us vs Q (fun _ _ _ => False) room I.env0 bnd rel said) fun res t out => ?_)
  match res, out with
  | .error err, out => exact pass0 pins σ H s err t I out
  | .ok (.ret u), out => exact I.after out
  | .ok .next, out => exact False.elim out
  | .ok .brk, out => exact False.elim out
  | .ok .cont, out => exact False.elim out
theorem c_callG (c : CalG X.prog X.w X.K X.mg X.base k x g) (calm : X.A.guards = some []) (hr : Room k X.A) (ha : CL X (e :: es) m) (hg : Gl X x := by rfl) (hdb : (x == ("__debug__" : Str)) = false := by decide) (he : starEach (e :: es) X.env = (false, eval e X.env) :: starEach es X.env := by rfl)
    (hpl : (backTo pos (starEach es X.env)).any (·.1) = false := by rfl) : CE X (.Call (.Name x p) (e :: es) [] pos) (eCall g m) := by
  obtain ⟨f, fd, ps, F, len, named, kept, bind⟩ := c.ex
  have key : PE X (.Call (.Name x p) (e :: es) [] pos) (fun σ H Q => lA X.K m σ H fun vs H1 => lC X.K g vs H1 Q) := by
    refine ⟨fun pins s σ H Q I h => ?_⟩
    refine wpAny_Call_Name_kw (ld_glob I hg named ?_ hdb)
    refine PySem.W.callWith_K (h₀ := X.base) I.ok.mod.kin kept (thn (ha.1.run pos pins s σ H _ I h) fun us s1 ⟨vs, H1, I1, r, q⟩ => ⟨I1.kIn, ?_⟩) he hpl
    exact run_at (F X.A calm) len hr bind I1 r q
  exact PE.imp key fun σ H Q t => call_seq t
end
end SL
namespace K22
open PySem PySem.Spec PyProof.Rows L2 SL
noncomputable def m__law_started : MS := (sRet (eDict (pCons (eC (.str "script")) (eVar 0) (pCons (eC (.str "at")) (eC (.int 0)) (pCons (eC (.str "rest")) (eLc (iSeq (eVar 0)) (gNm 1) tYes1 (eOp mulG (eVar 1) (eCall intG (aCons (eOp geG (eVar 1) (eOp powG (eC (.int 10)) (eC (.int 18)))) aNil))) [1]) pNil)))))
noncomputable def f__law_started : GC := runB m__law_started 1 2
noncomputable def m__law_draw : MS := (sSeq (sAsg (eOp subG' (eVar 0) (eC (.str "at"))) (gNm 2)) (sSeq (sAsg (eOp addG (eVar 2) (eC (.int 1))) (gSb (eVar 0) (eC (.str "at")))) (sSeq (sAsg (eOp subG' (eVar 0) (eC (.str "script"))) (gNm 3)) (sSeq (sAsg (eIf (tV (eOp neG (eOp subG' (eVar 0) (eC (.str "rest"))) (eLst aNil))) (eOp subG' (eOp subG' (eVar 0) (eC (.str "rest"))) (eOp modG (eVar 2) (eCall lenG (aCons (eVar 3) aNil)))) (eC (.int 0))) (gNm 4)) (sSeq (sIf (tV (eOp gtG (eVar 4) (eC (.int 0)))) (sSeq (sAsg (eOp fdivG (eVar 4) (eVar 1)) (gSb (eOp subG' (eVar 0) (eC (.str "rest"))) (eOp modG (eVar 2) (eCall lenG (aCons (eVar 3) aNil))))) (sRet (eOp modG (eVar 4) (eVar 1)))) sNext) (sSeq (sAsg (eIf (tV (eOp neG (eVar 3) (eLst aNil))) (eOp subG' (eVar 3) (eOp modG (eVar 2) (eCall lenG (aCons (eVar 3) aNil)))) (eC (.int 0))) (gNm 5)) (sSeq (sAsg (eOp modG (eOp addG (eOp addG (eOp mulG (eOp modG (eVar 5) (eC (.int 2147483629))) (eC (.int 48271))) (eOp mulG (eOp mulG (eC (.int 69621)) (eVar 2)) (eVar 2))) (eC (.int 104729))) (eC (.int 2147483647))) (gNm 6)) (sSeq (sAsg (eOp modG (eOp mulG (eVar 6) (eOp addG (eC (.int 16807)) (eOp mulG (eC (.int 2)) (eVar 2)))) (eC (.int 2147483629))) (gNm 6)) (sRet (eOp modG (eOp fdivG (eOp modG (eOp mulG (eVar 6) (eVar 6)) (eC (.int 1000000007))) (eC (.int 7))) (eVar 1)))))))))))
noncomputable def f__law_draw : GC := runB m__law_draw 2 7
noncomputable def m__law_of : MS := (sRet (eOp subG' (eVar 1) (eCall f__law_draw (aCons (eVar 0) (aCons (eCall lenG (aCons (eVar 1) aNil)) aNil)))))
noncomputable def f__law_of : GC := runB m__law_of 2 2
noncomputable def m__law_distance : MS := (sRet (eCall f__law_of (aCons (eVar 0) (aCons (eLst (aCons (eCall f__law_draw (aCons (eVar 0) (aCons (eC (.int 12)) aNil))) (aCons (eCall f__law_draw (aCons (eVar 0) (aCons (eC (.int 12)) aNil))) (aCons (eCall f__law_draw (aCons (eVar 0) (aCons (eC (.int 60)) aNil))) (aCons (eCall f__law_draw (aCons (eVar 0) (aCons (eOp powG (eC (.int 10)) (eC (.int 6))) aNil))) aNil))))) aNil))))
noncomputable def f__law_distance : GC := runB m__law_distance 1 1
noncomputable def m__law_brought : MS := (sRet (eCall maxG (aCons (eOp subG (eC (.int 0)) (eVar 1)) (aCons (eCall minG (aCons (eVar 1) (aCons (eVar 0) aNil))) aNil))))
noncomputable def f__law_brought : GC := runB m__law_brought 2 2
noncomputable def m__law_beside : MS := (sSeq (sAsg (eSl (eVar 2) (oSome (eC (.int 1))) oNone) (gTp (gsCons (gNm 4) (gsCons (gNm 5) (gsCons (gNm 6) gsNil))))) (sSeq (sAsg (eCall f__law_draw (aCons (eVar 0) (aCons (eC (.int 5)) aNil))) (gNm 7)) (sSeq (sIf (tV (eOp eqG (eVar 7) (eC (.int 0)))) (sRet (eTup (aCons (eVar 1) (aCons (eCall f__law_brought (aCons (eOp addG (eVar 4) (eVar 3)) (aCons (eOp powG (eC (.int 10)) (eC (.int 6))) aNil))) (aCons (eVar 5) (aCons (eVar 6) aNil)))))) sNext) (sSeq (sIf (tV (eOp eqG (eVar 7) (eC (.int 1)))) (sRet (eTup (aCons (eVar 1) (aCons (eCall f__law_brought (aCons (eOp addG (eVar 4) (eOp mulG (eC (.int 3)) (eOp fdivG (eVar 3) (eC (.int 5))))) (aCons (eOp powG (eC (.int 10)) (eC (.int 6))) aNil))) (aCons (eCall f__law_brought (aCons (eOp subG (eVar 5) (eOp mulG (eC (.int 4)) (eOp fdivG (eVar 3) (eC (.int 5))))) (aCons (eOp powG (eC (.int 10)) (eC (.int 6))) aNil))) (aCons (eVar 6) aNil)))))) sNext) (sSeq (sIf (tV (eOp eqG (eVar 7) (eC (.int 2)))) (sRet (eTup (aCons (eVar 1) (aCons (eVar 4) (aCons (eVar 5) (aCons (eVar 6) aNil)))))) sNext) (sSeq (sAsg (eOp addG (eC (.int 1)) (eCall f__law_draw (aCons (eVar 0) (aCons (eC (.int 9)) aNil)))) (gNm 8)) (sSeq (sAsg (eCall tupleG (aCons (eLc (iSeq (eVar 6)) (gTp (gsCons (gNm 10) (gsCons (gNm 11) (gsCons (gNm 12) gsNil)))) tYes1 (eTup (aCons (eVar 10) (aCons (eCall f__law_brought (aCons (eOp addG (eVar 11) (eVar 8)) (aCons (eC (.int 1000)) aNil))) (aCons (eVar 12) aNil)))) [10, 11, 12]) aNil)) (gNm 9)) (sSeq (sIf (tV (eOp eqG (eVar 9) (eTup aNil))) (sAsg (eTup (aCons (eTup (aCons (eCall f__law_draw (aCons (eVar 0) (aCons (eC (.int 4)) aNil))) (aCons (eVar 8) (aCons (eC (.int 0)) aNil)))) aNil)) (gNm 9)) sNext) (sRet (eTup (aCons (eVar 1) (aCons (eCall f__law_brought (aCons (eOp subG (eVar 4) (eOp mulG (eVar 8) (eCall f__law_draw (aCons (eVar 0) (aCons (eC (.int 40)) aNil))))) (aCons (eOp powG (eC (.int 10)) (eC (.int 6))) aNil))) (aCons (eCall f__law_brought (aCons (eOp addG (eVar 5) (eVar 3)) (aCons (eOp powG (eC (.int 10)) (eC (.int 6))) aNil))) (aCons (eVar 9) aNil))))))))))))))
noncomputable def f__law_beside : GC := runB m__law_beside 4 13
noncomputable def m__law_rows : MS := (sSeq (sAsg (eCall f__law_of (aCons (eVar 0) (aCons (eLst (aCons (eTup (aCons (eC (.int 3)) (aCons (eC (.int 3)) aNil))) (aCons (eTup (aCons (eC (.int 6)) (aCons (eC (.int 9)) aNil))) (aCons (eTup (aCons (eC (.int 9)) (aCons (eC (.int 2)) aNil))) (aCons (eTup (aCons (eC (.int 1000)) (aCons (eC (.int 1000)) aNil))) (aCons (eTup (aCons (eC (.int 80000)) (aCons (eC (.int 300)) aNil))) aNil)))))) aNil))) (gTp (gsCons (gNm 1) (gsCons (gNm 2) gsNil)))) (sSeq (sAsg (eC (.int 0)) (gNm 3)) (sSeq (sAsg (eLst aNil) (gNm 4)) (sSeq (sFor (iRange (aCons (eCall f__law_draw (aCons (eVar 0) (aCons (eCall f__law_of (aCons (eVar 0) (aCons (eLst (aCons (eC (.int 4)) (aCons (eC (.int 4)) (aCons (eC (.int 4)) (aCons (eC (.int 13)) aNil))))) aNil))) aNil))) aNil)) (gNm 5) (sSeq (sAsg (eOp addG (eOp addG (eVar 3) (eCall f__law_draw (aCons (eVar 0) (aCons (eVar 1) aNil)))) (eCall intG (aCons (eOp gtG (eVar 5) (eC (.int 0))) aNil))) (gNm 3)) (sExpr (eMt "list" appendG (eVar 4) (aCons (eTup (aCons (eVar 3) (aCons (eOp subG (eCall f__law_draw (aCons (eVar 0) (aCons (eOp addG (eOp mulG (eC (.int 2)) (eVar 2)) (eC (.int 1))) aNil))) (eVar 2)) (aCons (eOp subG (eCall f__law_draw (aCons (eVar 0) (aCons (eOp addG (eOp mulG (eC (.int 2)) (eVar 2)) (eC (.int 1))) aNil))) (eVar 2)) aNil)))) aNil))))) (sRet (eCall tupleG (aCons (eVar 4) aNil)))))))
noncomputable def f__law_rows : GC := runB m__law_rows 1 6
noncomputable def m__law_things : MS := (sSeq (sAsg (eLst (aCons (eC (.str "gull")) (aCons (eC (.str "ox")) (aCons (eC (.str "arc")) (aCons (eC (.str "ar")) (aCons (eC (.str "root")) (aCons (eC (.str "f")) (aCons (eC (.str "gu")) (aCons (eC (.str "oxen")) (aCons (eC (.str "wall")) (aCons (eC (.str "el")) (aCons (eC (.str "thing")) (aCons (eC (.str "th")) aNil))))))))))))) (gNm 3)) (sSeq (sAsg (eLst aNil) (gNm 4)) (sSeq (sFor (iRange (aCons (eVar 1) aNil)) (gNm 5) (sSeq (sAsg (eMt "list" popG (eVar 3) (aCons (eCall f__law_draw (aCons (eVar 0) (aCons (eCall lenG (aCons (eVar 3) aNil)) aNil))) aNil)) (gNm 6)) (sIf (tAnd2 (tV (eOp neG (eVar 4) (eLst aNil))) (tV (eOp eqG (eCall f__law_draw (aCons (eVar 0) (aCons (eC (.int 2)) aNil))) (eC (.int 1))))) (sExpr (eMt "list" appendG (eVar 4) (aCons (eCall f__law_beside (aCons (eVar 0) (aCons (eVar 6) (aCons (eCall f__law_of (aCons (eVar 0) (aCons (eVar 4) aNil))) (aCons (eOp addG (eVar 2) (eCall f__law_of (aCons (eVar 0) (aCons (eLst (aCons (eC (.int 0)) (aCons (eC (.int 0)) (aCons (eC (.int 0)) (aCons (eC (.int 1)) (aCons (eUn negG (eC (.int 1))) aNil)))))) aNil)))) aNil))))) aNil))) (sSeq (sAsg (eCall f__law_of (aCons (eVar 0) (aCons (eLst (aCons (eC (.int 5)) (aCons (eC (.int 12)) (aCons (eC (.int 12)) (aCons (eC (.int 60)) (aCons (eC (.int 1000)) (aCons (eOp powG (eC (.int 10)) (eC (.int 6))) aNil))))))) aNil))) (gNm 7)) (sSeq (sPar [8, 9] (aCons (eOp subG (eCall f__law_draw (aCons (eVar 0) (aCons (eOp addG (eOp mulG (eC (.int 2)) (eVar 7)) (eC (.int 1))) aNil))) (eVar 7)) (aCons (eOp subG (eCall f__law_draw (aCons (eVar 0) (aCons (eOp addG (eOp mulG (eC (.int 2)) (eVar 7)) (eC (.int 1))) aNil))) (eVar 7)) aNil))) (sExpr (eMt "list" appendG (eVar 4) (aCons (eTup (aCons (eVar 6) (aCons (eVar 8) (aCons (eVar 9) (aCons (eCall f__law_rows (aCons (eVar 0) aNil)) aNil))))) aNil)))))))) (sRet (eVar 4)))))
noncomputable def f__law_things : GC := runB m__law_things 3 10
noncomputable def m_World_init : MS := (sSeq (sFldSet "World" "told_things" (eVar 0) (eCall listG (aCons (eVar 1) aNil))) (sFldSet "World" "told_walls" (eVar 0) (eCall listG (aCons (eVar 2) aNil))))
noncomputable def f_World_init : GC := runB m_World_init 3 3
noncomputable def m__law_worlds : MS := (sSeq (sAsg (eCall f__law_distance (aCons (eVar 0) aNil)) (gNm 2)) (sSeq (sAsg (eCall f__law_things (aCons (eVar 0) (aCons (eOp addG (eC (.int 1)) (eCall f__law_draw (aCons (eVar 0) (aCons (eCall f__law_of (aCons (eVar 0) (aCons (eOp addG (eOp mulG (eLst (aCons (eVar 1) aNil)) (eC (.int 7))) (eLst (aCons (eC (.int 12)) aNil))) aNil))) aNil)))) (aCons (eVar 2) aNil)))) (gNm 3)) (sSeq (sAsg (eOp mulG (eLst (aCons (eTup (aCons (eC (.str "arc")) (aCons (eC (.int 0)) (aCons (eC (.int 0)) (aCons (eC (.int 3)) (aCons (eC (.int 4)) aNil)))))) aNil)) (eCall f__law_draw (aCons (eVar 0) (aCons (eC (.int 2)) aNil)))) (gNm 4)) (sRet (eTup (aCons (eVar 3) (aCons (eMake "World" f_World_init (aCons (eCall listG (aCons (eVar 3) aNil)) (aCons (eVar 4) aNil))) (aCons (eVar 2) aNil))))))))
noncomputable def f__law_worlds : GC := runB m__law_worlds 2 5
noncomputable def m__law_begins : MS := (sSeq (sAsg (eLst (aCons (eC (.int 0)) aNil)) (gNm 1)) (sSeq (sFor (iSeq (eVar 0)) (gNm 2) (sAsg (eOp addG (eVar 1) (eLc (iSeq (eOp subG' (eVar 2) (eC (.int 3)))) (gNm 3) tYes1 (eOp subG' (eVar 3) (eC (.int 0))) [3])) (gNm 1))) (sRet (eUn ssetG (eVar 1)))))
noncomputable def f__law_begins : GC := runB m__law_begins 1 4
noncomputable def m__law_common : MS := (sSeq (sAsg (eC (.int 0)) (gNm 1)) (sSeq (sFor (iSeq (eVar 0)) (gNm 2) (sSeq (sPar [3, 4] (aCons (eVar 1) (aCons (eCall absG (aCons (eVar 2) aNil)) aNil))) (sSeq (sWh (tV (eOp gtG (eVar 4) (eC (.int 0)))) (sPar [3, 4] (aCons (eVar 4) (aCons (eOp modG (eVar 3) (eVar 4)) aNil)))) (sAsg (eVar 3) (gNm 1))))) (sRet (eVar 1))))
noncomputable def f__law_common : GC := runB m__law_common 1 5
noncomputable def m__law_whole : MS := (sRet (eAnd2 (eCall isiG (aCons (eVar 0) (aCons (eC (.ty "int")) aNil))) (eNot1 (eCall isiG (aCons (eVar 0) (aCons (eC (.ty "bool")) aNil))))))
noncomputable def f__law_whole : GC := runB m__law_whole 1 1
noncomputable def m__law_is_square : MS := (sSeq (sAsg (eVar 0) (gNm 1)) (sSeq (sAsg (eOp addG (eOp fdivG (eVar 0) (eC (.int 2))) (eC (.int 1))) (gNm 2)) (sSeq (sWh (tV (eOp ltG (eVar 2) (eVar 1))) (sSeq (sAsg (eVar 2) (gNm 1)) (sAsg (eOp fdivG (eOp addG (eVar 1) (eOp fdivG (eVar 0) (eVar 1))) (eC (.int 2))) (gNm 2)))) (sRet (eOp eqG (eOp mulG (eVar 1) (eVar 1)) (eVar 0))))))
noncomputable def f__law_is_square : GC := runB m__law_is_square 1 3
noncomputable def m__law_sum_sign : MS := (sSeq (sIf (tV (eOp gtG (eOp mulG (eVar 0) (eVar 0)) (eOp mulG (eOp mulG (eVar 1) (eVar 1)) (eVar 2)))) (sRet (eIf (tV (eOp gtG (eVar 0) (eC (.int 0)))) (eC (.int 1)) (eUn negG (eC (.int 1))))) sNext) (sRet (eOp subG (eCall intG (aCons (eOp gtG (eVar 1) (eC (.int 0))) aNil)) (eCall intG (aCons (eOp ltG (eVar 1) (eC (.int 0))) aNil)))))
noncomputable def f__law_sum_sign : GC := runB m__law_sum_sign 3 3
noncomputable def m__law_sign : MS := (sSeq (sAsg (eVar 0) (gTp (gsCons (gNm 2) (gsCons (gNm 3) (gsCons (gNm 4) gsNil))))) (sSeq (sIf (tV (eOp neG (eOp subG' (eVar 1) (eC (.int 0))) (eC (.str "root")))) (sSeq (sAsg (eVar 1) (gTp (gsCons (gNm 5) (gsCons (gNm 6) gsNil)))) (sSeq (sAsg (eOp addG (eOp mulG (eOp mulG (eVar 2) (eVar 6)) (eVar 6)) (eOp mulG (eVar 5) (eOp addG (eOp mulG (eVar 3) (eVar 6)) (eOp mulG (eVar 4) (eVar 5))))) (gNm 7)) (sRet (eOp subG (eCall intG (aCons (eOp gtG (eVar 7) (eC (.int 0))) aNil)) (eCall intG (aCons (eOp ltG (eVar 7) (eC (.int 0))) aNil)))))) sNext) (sSeq (sAsg (eOp subG' (eVar 1) (eC (.int 1))) (gTp (gsCons (gNm 8) (gsCons (gNm 9) (gsCons (gNm 10) gsNil))))) (sSeq (sAsg (eOp subG (eOp mulG (eC (.int 2)) (eOp subG' (eVar 1) (eC (.int 2)))) (eC (.int 1))) (gNm 11)) (sSeq (sAsg (eOp subG (eOp mulG (eVar 9) (eVar 9)) (eOp mulG (eOp mulG (eC (.int 4)) (eVar 8)) (eVar 10))) (gNm 12)) (sSeq (sAsg (eOp subG (eOp mulG (eOp mulG (eOp mulG (eC (.int 4)) (eVar 10)) (eVar 10)) (eVar 2)) (eOp mulG (eOp mulG (eOp mulG (eC (.int 2)) (eVar 10)) (eVar 9)) (eVar 3))) (gNm 13)) (sSeq (sAsg (eOp addG (eVar 13) (eOp mulG (eVar 4) (eOp addG (eOp mulG (eVar 9) (eVar 9)) (eVar 12)))) (gNm 13)) (sSeq (sAsg (eOp mulG (eVar 11) (eOp subG (eOp mulG (eOp mulG (eC (.int 2)) (eVar 10)) (eVar 3)) (eOp mulG (eOp mulG (eC (.int 2)) (eVar 9)) (eVar 4)))) (gNm 14)) (sSeq (sIf (tV (eOp eqG (eVar 14) (eC (.int 0)))) (sRet (eOp subG (eCall intG (aCons (eOp gtG (eVar 13) (eC (.int 0))) aNil)) (eCall intG (aCons (eOp ltG (eVar 13) (eC (.int 0))) aNil)))) sNext) (sRet (eCall f__law_sum_sign (aCons (eVar 13) (aCons (eVar 14) (aCons (eVar 12) aNil))))))))))))))
noncomputable def f__law_sign : GC := runB m__law_sign 2 15
noncomputable def m__law_is_time : MS := (sSeq (sIf (tOr2 (tNot1 (tTru (eCall isiG (aCons (eVar 0) (aCons (eC (.ty "tuple")) aNil))))) (tV (eOp notInG (eCall lenG (aCons (eVar 0) aNil)) (eTup (aCons (eC (.int 2)) (aCons (eC (.int 3)) aNil)))))) (sRet (eC (.bl false))) sNext) (sSeq (sIf (tV (eOp eqG (eCall lenG (aCons (eVar 0) aNil)) (eC (.int 2)))) (sSeq (sAsg (eAnd2 (eCall allG (aCons (eLc (iSeq (eVar 0)) (gNm 3) tYes1 (eCall f__law_whole (aCons (eVar 3) aNil)) [3]) aNil)) (eAnd2 (eOp gtG (eOp subG' (eVar 0) (eC (.int 1))) (eC (.int 0))) (eOp geG (eOp subG' (eVar 0) (eC (.int 0))) (eC (.int 0))))) (gNm 1)) (sRet (eAnd2 (eVar 1) (eOp eqG (eCall f__law_common (aCons (eVar 0) aNil)) (eC (.int 1)))))) sNext) (sSeq (sIf (tOr2 (tV (eOp neG (eOp subG' (eVar 0) (eC (.int 0))) (eC (.str "root")))) (tOr2 (tNot1 (tTru (eCall isiG (aCons (eOp subG' (eVar 0) (eC (.int 1))) (aCons (eC (.ty "tuple")) aNil))))) (tOr2 (tV (eOp neG (eCall lenG (aCons (eOp subG' (eVar 0) (eC (.int 1))) aNil)) (eC (.int 3)))) (tV (eOp notInG (eOp subG' (eVar 0) (eC (.int 2))) (eTup (aCons (eC (.int 0)) (aCons (eC (.int 1)) aNil)))))))) (sRet (eC (.bl false))) sNext) (sSeq (sIf (tOr2 (tNot1 (tTru (eCall allG (aCons (eLc (iSeq (eOp addG (eOp subG' (eVar 0) (eC (.int 1))) (eSl (eVar 0) (oSome (eC (.int 2))) oNone))) (gNm 3) tYes1 (eCall f__law_whole (aCons (eVar 3) aNil)) [3]) aNil)))) (tOr2 (tV (eOp ltG (eOp subG' (eOp subG' (eVar 0) (eC (.int 1))) (eC (.int 2))) (eC (.int 1)))) (tV (eOp neG (eCall f__law_common (aCons (eOp subG' (eVar 0) (eC (.int 1))) aNil)) (eC (.int 1)))))) (sRet (eC (.bl false))) sNext) (sSeq (sAsg (eOp subG (eOp mulG (eOp subG' (eOp subG' (eVar 0) (eC (.int 1))) (eC (.int 1))) (eOp subG' (eOp subG' (eVar 0) (eC (.int 1))) (eC (.int 1)))) (eOp mulG (eOp mulG (eC (.int 4)) (eOp subG' (eOp subG' (eVar 0) (eC (.int 1))) (eC (.int 0)))) (eOp subG' (eOp subG' (eVar 0) (eC (.int 1))) (eC (.int 2))))) (gNm 2)) (sRet (eAnd2 (eOp gtG (eVar 2) (eC (.int 0))) (eAnd2 (eNot1 (eCall f__law_is_square (aCons (eVar 2) aNil))) (eOp geG (eCall f__law_sign (aCons (eTup (aCons (eC (.int 0)) (aCons (eC (.int 1)) (aCons (eC (.int 0)) aNil)))) (aCons (eVar 0) aNil))) (eC (.int 0)))))))))))
noncomputable def f__law_is_time : GC := runB m__law_is_time 1 4
noncomputable def m__law_a_time : MS := (sSeq (sPar [1, 2] (aCons (eCall f__law_draw (aCons (eVar 0) (aCons (eC (.int 400)) aNil))) (aCons (eOp addG (eC (.int 1)) (eCall f__law_draw (aCons (eVar 0) (aCons (eC (.int 30)) aNil)))) aNil))) (sSeq (sAsg (eCall f__law_common (aCons (eTup (aCons (eVar 1) (aCons (eVar 2) aNil))) aNil)) (gNm 3)) (sSeq (sAsg (eLst (aCons (eTup (aCons (eCall f__law_draw (aCons (eVar 0) (aCons (eC (.int 30)) aNil))) (aCons (eC (.int 1)) aNil))) (aCons (eTup (aCons (eCall f__law_draw (aCons (eVar 0) (aCons (eOp powG (eC (.int 10)) (eC (.int 6))) aNil))) (aCons (eC (.int 1)) aNil))) (aCons (eTup (aCons (eOp fdivG (eVar 1) (eVar 3)) (aCons (eOp fdivG (eVar 2) (eVar 3)) aNil))) aNil)))) (gNm 4)) (sSeq (sAsg (eTup (aCons (eOp subG (eC (.int 0)) (eCall f__law_draw (aCons (eVar 0) (aCons (eC (.int 2000)) aNil)))) (aCons (eOp subG (eCall f__law_draw (aCons (eVar 0) (aCons (eC (.int 41)) aNil))) (eC (.int 20))) (aCons (eOp addG (eC (.int 1)) (eCall f__law_draw (aCons (eVar 0) (aCons (eC (.int 9)) aNil)))) aNil)))) (gNm 5)) (sSeq (sAsg (eTup (aCons (eOp addG (eC (.int 1)) (eCall f__law_draw (aCons (eVar 0) (aCons (eC (.int 900)) aNil)))) (aCons (eOp subG (eC (.int 0)) (eCall f__law_draw (aCons (eVar 0) (aCons (eC (.int 200)) aNil)))) (aCons (eOp addG (eC (.int 1)) (eCall f__law_draw (aCons (eVar 0) (aCons (eC (.int 4)) aNil)))) aNil)))) (gNm 6)) (sSeq (sFor (iEnumV (aCons (eLst (aCons (eVar 6) (aCons (eVar 5) aNil))) aNil)) (gTp (gsCons (gNm 7) (gsCons (gNm 8) gsNil))) (sSeq (sAsg (eCall f__law_common (aCons (eVar 8) aNil)) (gNm 3)) (sSeq (sAsg (eTup (aCons (eC (.str "root")) (aCons (eCall tupleG (aCons (eLc (iSeq (eVar 8)) (gNm 10) tYes1 (eOp fdivG (eVar 10) (eVar 3)) [10]) aNil)) (aCons (eVar 7) aNil)))) (gNm 9)) (sAsg (eOp addG (eVar 4) (eOp mulG (eLst (aCons (eVar 9) (aCons (eVar 9) aNil))) (eCall intG (aCons (eCall f__law_is_time (aCons (eVar 9) aNil)) aNil)))) (gNm 4))))) (sRet (eCall f__law_of (aCons (eVar 0) (aCons (eVar 4) aNil))))))))))
noncomputable def f__law_a_time : GC := runB m__law_a_time 1 11
noncomputable def m_World_told : MS := (sRet (eTup (aCons (eCall listG (aCons (eUn (fldG "World" "told_things") (eVar 0)) aNil)) (aCons (eCall listG (aCons (eUn (fldG "World" "told_walls") (eVar 0)) aNil)) aNil))))
noncomputable def f_World_told : GC := runB m_World_told 1 1
noncomputable def m_thing_of : MS := (sSeq (sFor (iSeq (eOp subG' (eOM "World" "told" f_World_told (eVar 0) aNil) (eC (.int 0)))) (gNm 2) (sIf (tAnd2 (tTru (eCall isiG (aCons (eVar 1) (aCons (eC (.ty "str")) aNil)))) (tV (eOp eqG (eOp subG' (eVar 2) (eC (.int 0))) (eVar 1)))) (sRet (eVar 2)) sNext)) sStuck)
noncomputable def f_thing_of : GC := runB m_thing_of 2 3
noncomputable def m_is_number : MS := (sRet (eAnd2 (eCall isiG (aCons (eVar 0) (aCons (eC (.ty "int")) aNil))) (eNot1 (eCall isiG (aCons (eVar 0) (aCons (eC (.ty "bool")) aNil))))))
noncomputable def f_is_number : GC := runB m_is_number 1 1
noncomputable def m_common_divisor : MS := (sSeq (sPar [0, 1] (aCons (eCall absG (aCons (eVar 0) aNil)) (aCons (eCall absG (aCons (eVar 1) aNil)) aNil))) (sSeq (sWh (tV (eOp gtG (eVar 1) (eC (.int 0)))) (sPar [0, 1] (aCons (eVar 1) (aCons (eOp modG (eVar 0) (eVar 1)) aNil)))) (sRet (eVar 0))))
noncomputable def f_common_divisor : GC := runB m_common_divisor 2 2
noncomputable def m_is_fraction : MS := (sSeq (sIf (tOr2 (tNot1 (tTru (eCall isiG (aCons (eVar 0) (aCons (eC (.ty "tuple")) aNil))))) (tOr2 (tV (eOp neG (eCall lenG (aCons (eVar 0) aNil)) (eC (.int 2)))) (tOr2 (tNot1 (tTru (eCall f_is_number (aCons (eOp subG' (eVar 0) (eC (.int 0))) aNil)))) (tNot1 (tTru (eCall f_is_number (aCons (eOp subG' (eVar 0) (eC (.int 1))) aNil))))))) (sRet (eC (.bl false))) sNext) (sRet (eAnd2 (eOp gtG (eOp subG' (eVar 0) (eC (.int 1))) (eC (.int 0))) (eOp eqG (eCall f_common_divisor (aCons (eOp subG' (eVar 0) (eC (.int 0))) (aCons (eOp subG' (eVar 0) (eC (.int 1))) aNil))) (eC (.int 1))))))
noncomputable def f_is_fraction : GC := runB m_is_fraction 1 1
noncomputable def m_is_poly : MS := (sRet (eAnd2 (eCall isiG (aCons (eVar 0) (aCons (eC (.ty "tuple")) aNil))) (eAnd2 (eOp eqG (eCall lenG (aCons (eVar 0) aNil)) (eC (.int 3))) (eCall allG (aCons (eLc (iSeq (eVar 0)) (gNm 1) tYes1 (eCall f_is_number (aCons (eVar 1) aNil)) [1]) aNil)))))
noncomputable def f_is_poly : GC := runB m_is_poly 1 2
noncomputable def m_inner : MS := (sSeq (sAsg (eVar 0) (gTp (gsCons (gNm 1) (gsCons (gNm 2) (gsCons (gNm 3) gsNil))))) (sRet (eOp subG (eOp mulG (eVar 2) (eVar 2)) (eOp mulG (eOp mulG (eC (.int 4)) (eVar 3)) (eVar 1)))))
noncomputable def f_inner : GC := runB m_inner 1 4
noncomputable def m_whole_root : MS := (sSeq (sAsg (eC (.int 0)) (gNm 1)) (sSeq (sAsg (eC (.int 1)) (gNm 2)) (sSeq (sWh (tV (eOp leG (eOp mulG (eVar 2) (eVar 2)) (eVar 0))) (sAsg (eOp mulG (eVar 2) (eC (.int 2))) (gNm 2))) (sSeq (sWh (tV (eOp gtG (eOp subG (eVar 2) (eVar 1)) (eC (.int 1)))) (sSeq (sAsg (eOp fdivG (eOp addG (eVar 1) (eVar 2)) (eC (.int 2))) (gNm 3)) (sIf (tV (eOp leG (eOp mulG (eVar 3) (eVar 3)) (eVar 0))) (sAsg (eVar 3) (gNm 1)) (sAsg (eVar 3) (gNm 2))))) (sRet (eVar 1))))))
noncomputable def f_whole_root : GC := runB m_whole_root 1 4
noncomputable def m_is_square : MS := (sRet (eAnd2 (eOp geG (eVar 0) (eC (.int 0))) (eOp eqG (eOp mulG (eCall f_whole_root (aCons (eVar 0) aNil)) (eCall f_whole_root (aCons (eVar 0) aNil))) (eVar 0))))
noncomputable def f_is_square : GC := runB m_is_square 1 1
noncomputable def m_is_root : MS := (sSeq (sIf (tOr2 (tNot1 (tTru (eCall isiG (aCons (eVar 0) (aCons (eC (.ty "tuple")) aNil))))) (tOr2 (tV (eOp neG (eCall lenG (aCons (eVar 0) aNil)) (eC (.int 3)))) (tOr2 (tNot1 (tTru (eCall isiG (aCons (eOp subG' (eVar 0) (eC (.int 0))) (aCons (eC (.ty "str")) aNil))))) (tV (eOp neG (eOp subG' (eVar 0) (eC (.int 0))) (eC (.str "root"))))))) (sRet (eC (.bl false))) sNext) (sSeq (sIf (tOr2 (tNot1 (tTru (eCall f_is_poly (aCons (eOp subG' (eVar 0) (eC (.int 1))) aNil)))) (tOr2 (tNot1 (tTru (eCall f_is_number (aCons (eOp subG' (eVar 0) (eC (.int 2))) aNil)))) (tOr2 (tNot1 (tV (eChain leG leG (eC (.int 0)) (eOp subG' (eVar 0) (eC (.int 2))) (eC (.int 1))))) (tV (eOp ltG (eOp subG' (eOp subG' (eVar 0) (eC (.int 1))) (eC (.int 2))) (eC (.int 1))))))) (sRet (eC (.bl false))) sNext) (sSeq (sAsg (eOp subG' (eVar 0) (eC (.int 1))) (gTp (gsCons (gNm 1) (gsCons (gNm 2) (gsCons (gNm 3) gsNil))))) (sSeq (sAsg (eCall f_common_divisor (aCons (eCall f_common_divisor (aCons (eVar 1) (aCons (eVar 2) aNil))) (aCons (eVar 3) aNil))) (gNm 4)) (sRet (eAnd2 (eOp eqG (eVar 4) (eC (.int 1))) (eAnd2 (eOp gtG (eCall f_inner (aCons (eOp subG' (eVar 0) (eC (.int 1))) aNil)) (eC (.int 0))) (eNot1 (eCall f_is_square (aCons (eCall f_inner (aCons (eOp subG' (eVar 0) (eC (.int 1))) aNil)) aNil))))))))))
noncomputable def f_is_root : GC := runB m_is_root 1 5
noncomputable def m_sign_of : MS := (sRet (eOp subG (eCall intG (aCons (eOp gtG (eVar 0) (eC (.int 0))) aNil)) (eCall intG (aCons (eOp ltG (eVar 0) (eC (.int 0))) aNil))))
noncomputable def f_sign_of : GC := runB m_sign_of 1 1
noncomputable def m_sign_of_sum : MS := (sSeq (sAsg (eCall f_sign_of (aCons (eVar 0) aNil)) (gNm 3)) (sSeq (sAsg (eCall f_sign_of (aCons (eVar 1) aNil)) (gNm 4)) (sSeq (sIf (tV (eOp geG (eOp mulG (eVar 3) (eVar 4)) (eC (.int 0)))) (sRet (eCall f_sign_of (aCons (eOp addG (eVar 3) (eVar 4)) aNil))) sNext) (sRet (eOp mulG (eVar 3) (eCall f_sign_of (aCons (eOp subG (eOp mulG (eVar 0) (eVar 0)) (eOp mulG (eOp mulG (eVar 1) (eVar 1)) (eVar 2))) aNil)))))))
noncomputable def f_sign_of_sum : GC := runB m_sign_of_sum 3 5
noncomputable def m_is_time : MS := (sSeq (sIf (tTru (eCall f_is_fraction (aCons (eVar 0) aNil))) (sRet (eOp geG (eOp subG' (eVar 0) (eC (.int 0))) (eC (.int 0)))) sNext) (sRet (eAnd2 (eCall f_is_root (aCons (eVar 0) aNil)) (eOp gtG (eCall f_sign_of_sum (aCons (eOp subG (eC (.int 0)) (eOp subG' (eOp subG' (eVar 0) (eC (.int 1))) (eC (.int 1)))) (aCons (eOp subG (eOp mulG (eC (.int 2)) (eOp subG' (eVar 0) (eC (.int 2)))) (eC (.int 1))) (aCons (eCall f_inner (aCons (eOp subG' (eVar 0) (eC (.int 1))) aNil)) aNil)))) (eC (.int 0))))))
noncomputable def f_is_time : GC := runB m_is_time 1 1
noncomputable def m_need_time : MS := (sIf (tNot1 (tTru (eCall f_is_time (aCons (eVar 0) aNil)))) sStuck sNext)
noncomputable def f_need_time : GC := runB m_need_time 1 1
noncomputable def m_way_of : MS := (sSeq (sAsg (eVar 0) (gTp (gsCons (gNm 1) (gsCons (gNm 2) (gsCons (gNm 3) (gsCons (gNm 4) gsNil)))))) (sSeq (sAsg (eLst aNil) (gNm 5)) (sSeq (sAsg (eC (.int 0)) (gNm 6)) (sSeq (sAsg (eTup (aCons (eC (.int 0)) (aCons (eC (.int 0)) aNil))) (gNm 7)) (sSeq (sFor (iSeq (eOp addG (eVar 4) (eTup (aCons (eTup (aCons (eC .non) (aCons (eC (.int 0)) (aCons (eC (.int 0)) aNil)))) aNil)))) (gTp (gsCons (gNm 8) (gsCons (gNm 9) (gsCons (gNm 10) gsNil)))) (sSeq (sIf (tOr2 (tV (eOp isG (eVar 8) (eC .non))) (tV (eOp gtG (eVar 8) (eVar 6)))) (sSeq (sAsg (eTup (aCons (eTup (aCons (eOp subG (eVar 2) (eOp mulG (eOp subG' (eVar 7) (eC (.int 0))) (eVar 6))) (aCons (eOp subG' (eVar 7) (eC (.int 0))) (aCons (eC (.int 0)) aNil)))) (aCons (eTup (aCons (eOp subG (eVar 3) (eOp mulG (eOp subG' (eVar 7) (eC (.int 1))) (eVar 6))) (aCons (eOp subG' (eVar 7) (eC (.int 1))) (aCons (eC (.int 0)) aNil)))) aNil))) (gNm 11)) (sExpr (eMt "list" appendG (eVar 5) (aCons (eTup (aCons (eVar 6) (aCons (eVar 8) (aCons (eVar 11) aNil)))) aNil)))) sNext) (sSeq (sIf (tV (eOp isNotG (eVar 8) (eC .non))) (sSeq (sAsg (eOp addG (eVar 2) (eOp mulG (eOp subG' (eVar 7) (eC (.int 0))) (eOp subG (eVar 8) (eVar 6)))) (gNm 2)) (sSeq (sAsg (eOp addG (eVar 3) (eOp mulG (eOp subG' (eVar 7) (eC (.int 1))) (eOp subG (eVar 8) (eVar 6)))) (gNm 3)) (sAsg (eVar 8) (gNm 6)))) sNext) (sAsg (eTup (aCons (eVar 9) (aCons (eVar 10) aNil))) (gNm 7))))) (sRet (eVar 5)))))))
noncomputable def f_way_of : GC := runB m_way_of 1 12
noncomputable def m_sign_at : MS := (sSeq (sIf (tV (eOp neG (eOp subG' (eVar 1) (eC (.int 0))) (eC (.str "root")))) (sSeq (sAsg (eVar 1) (gTp (gsCons (gNm 2) (gsCons (gNm 3) gsNil)))) (sRet (eCall f_sign_of (aCons (eOp addG (eOp mulG (eOp addG (eOp mulG (eOp subG' (eVar 0) (eC (.int 2))) (eVar 2)) (eOp mulG (eOp subG' (eVar 0) (eC (.int 1))) (eVar 3))) (eVar 2)) (eOp mulG (eOp mulG (eOp subG' (eVar 0) (eC (.int 0))) (eVar 3)) (eVar 3))) aNil)))) sNext) (sSeq (sAsg (eVar 1) (gTp (gsCons (gNm 4) (gsCons (gNm 5) (gsCons (gNm 6) gsNil))))) (sSeq (sAsg (eVar 5) (gTp (gsCons (gNm 7) (gsCons (gNm 8) (gsCons (gNm 9) gsNil))))) (sSeq (sAsg (eOp subG (eOp mulG (eOp subG' (eVar 0) (eC (.int 0))) (eVar 9)) (eOp mulG (eOp subG' (eVar 0) (eC (.int 2))) (eVar 7))) (gNm 10)) (sSeq (sAsg (eOp subG (eOp mulG (eOp subG' (eVar 0) (eC (.int 1))) (eVar 9)) (eOp mulG (eOp subG' (eVar 0) (eC (.int 2))) (eVar 8))) (gNm 11)) (sRet (eCall f_sign_of_sum (aCons (eOp subG (eOp mulG (eOp mulG (eC (.int 2)) (eVar 9)) (eVar 10)) (eOp mulG (eVar 11) (eVar 8))) (aCons (eOp mulG (eVar 11) (eOp subG (eOp mulG (eC (.int 2)) (eVar 6)) (eC (.int 1)))) (aCons (eCall f_inner (aCons (eVar 5) aNil)) aNil))))))))))
noncomputable def f_sign_at : GC := runB m_sign_at 2 12
noncomputable def m_side_of : MS := (sRet (eCall f_sign_at (aCons (eTup (aCons (eOp subG' (eVar 0) (eC (.int 1))) (aCons (eOp mulG (eC (.int 2)) (eOp subG' (eVar 0) (eC (.int 2)))) (aCons (eC (.int 0)) aNil)))) (aCons (eVar 1) aNil))))
noncomputable def f_side_of : GC := runB m_side_of 2 2
noncomputable def m_compare : MS := (sSeq (sIf (tV (eOp eqG (eVar 0) (eVar 1))) (sRet (eC (.int 0))) sNext) (sSeq (sIf (tV (eOp neG (eOp subG' (eVar 1) (eC (.int 0))) (eC (.str "root")))) (sRet (eCall f_sign_at (aCons (eTup (aCons (eOp subG (eC (.int 0)) (eOp subG' (eVar 1) (eC (.int 0)))) (aCons (eOp subG' (eVar 1) (eC (.int 1))) (aCons (eC (.int 0)) aNil)))) (aCons (eVar 0) aNil)))) sNext) (sSeq (sAsg (eVar 1) (gTp (gsCons (gNm 2) (gsCons (gNm 3) (gsCons (gNm 4) gsNil))))) (sSeq (sAsg (eOp subG (eOp mulG (eC (.int 2)) (eVar 4)) (eC (.int 1))) (gNm 5)) (sSeq (sIf (tV (eOp neG (eCall f_side_of (aCons (eVar 3) (aCons (eVar 0) aNil))) (eVar 5))) (sRet (eOp subG (eC (.int 0)) (eVar 5))) sNext) (sRet (eOp mulG (eVar 5) (eCall f_sign_at (aCons (eVar 3) (aCons (eVar 0) aNil))))))))))
noncomputable def f_compare : GC := runB m_compare 2 6
noncomputable def m_place_in : MS := (sSeq (sAsg (eC .non) (gNm 2)) (sSeq (sFor (iSeq (eCall f_way_of (aCons (eVar 0) aNil))) (gTp (gsCons (gNm 3) (gsCons (gNm 4) (gsCons (gNm 5) gsNil)))) (sIf (tOr2 (tV (eOp isG (eVar 2) (eC .non))) (tV (eOp geG (eCall f_compare (aCons (eVar 1) (aCons (eTup (aCons (eVar 3) (aCons (eC (.int 1)) aNil))) aNil))) (eC (.int 0))))) (sAsg (eVar 5) (gNm 2)) sNext)) (sRet (eVar 2))))
noncomputable def f_place_in : GC := runB m_place_in 2 6
noncomputable def m_fraction : MS := (sSeq (sAsg (eOp mulG (eCall f_common_divisor (aCons (eVar 0) (aCons (eVar 1) aNil))) (eCall f_sign_of (aCons (eVar 1) aNil))) (gNm 2)) (sRet (eTup (aCons (eOp fdivG (eVar 0) (eVar 2)) (aCons (eOp fdivG (eVar 1) (eVar 2)) aNil)))))
noncomputable def f_fraction : GC := runB m_fraction 2 3
noncomputable def m_value_at : MS := (sSeq (sAsg (eVar 1) (gTp (gsCons (gNm 2) (gsCons (gNm 3) gsNil)))) (sSeq (sAsg (eVar 0) (gTp (gsCons (gNm 4) (gsCons (gNm 5) (gsCons (gNm 6) gsNil))))) (sRet (eCall f_fraction (aCons (eOp addG (eOp addG (eOp mulG (eOp mulG (eVar 4) (eVar 3)) (eVar 3)) (eOp mulG (eOp mulG (eVar 5) (eVar 2)) (eVar 3))) (eOp mulG (eOp mulG (eVar 6) (eVar 2)) (eVar 2))) (aCons (eOp mulG (eVar 3) (eVar 3)) aNil))))))
noncomputable def f_value_at : GC := runB m_value_at 2 7
noncomputable def m_place_at : MS := (sSeq (sAsg (eCall f_thing_of (aCons (eVar 0) (aCons (eVar 1) aNil))) (gNm 3)) (sSeq (sExpr (eCall f_need_time (aCons (eVar 2) aNil))) (sSeq (sAsg (eCall f_place_in (aCons (eVar 3) (aCons (eVar 2) aNil))) (gNm 4)) (sSeq (sIf (tV (eOp eqG (eOp subG' (eVar 2) (eC (.int 0))) (eC (.str "root")))) (sRet (eVar 4)) sNext) (sRet (eTup (aCons (eCall f_value_at (aCons (eOp subG' (eVar 4) (eC (.int 0))) (aCons (eVar 2) aNil))) (aCons (eCall f_value_at (aCons (eOp subG' (eVar 4) (eC (.int 1))) (aCons (eVar 2) aNil))) aNil))))))))
noncomputable def f_place_at : GC := runB m_place_at 3 5
noncomputable def m__law_order : MS := (sSeq (sIf (tV (eOp neG (eOp subG' (eVar 0) (eC (.int 0))) (eC (.str "root")))) (sRet (eCall f__law_sign (aCons (eTup (aCons (eOp subG' (eVar 0) (eC (.int 0))) (aCons (eOp subG (eC (.int 0)) (eOp subG' (eVar 0) (eC (.int 1)))) (aCons (eC (.int 0)) aNil)))) (aCons (eVar 1) aNil)))) sNext) (sSeq (sIf (tV (eOp neG (eOp subG' (eVar 1) (eC (.int 0))) (eC (.str "root")))) (sRet (eCall f__law_sign (aCons (eTup (aCons (eOp subG (eC (.int 0)) (eOp subG' (eVar 1) (eC (.int 0)))) (aCons (eOp subG' (eVar 1) (eC (.int 1))) (aCons (eC (.int 0)) aNil)))) (aCons (eVar 0) aNil)))) sNext) (sSeq (sAsg (eOp subG' (eVar 0) (eC (.int 1))) (gTp (gsCons (gNm 2) (gsCons (gNm 3) (gsCons (gNm 4) gsNil))))) (sSeq (sAsg (eOp subG' (eVar 1) (eC (.int 1))) (gTp (gsCons (gNm 5) (gsCons (gNm 6) (gsCons (gNm 7) gsNil))))) (sSeq (sAsg (eOp subG (eOp mulG (eVar 6) (eVar 4)) (eOp mulG (eVar 3) (eVar 7))) (gNm 8)) (sSeq (sAsg (eOp mulG (eOp subG (eOp mulG (eC (.int 2)) (eOp subG' (eVar 0) (eC (.int 2)))) (eC (.int 1))) (eVar 7)) (gNm 9)) (sSeq (sAsg (eOp mulG (eOp subG (eOp mulG (eC (.int 2)) (eOp subG' (eVar 1) (eC (.int 2)))) (eC (.int 1))) (eVar 4)) (gNm 10)) (sSeq (sAsg (eOp subG (eOp mulG (eVar 3) (eVar 3)) (eOp mulG (eOp mulG (eC (.int 4)) (eVar 2)) (eVar 4))) (gNm 11)) (sSeq (sAsg (eOp subG (eOp mulG (eVar 6) (eVar 6)) (eOp mulG (eOp mulG (eC (.int 4)) (eVar 5)) (eVar 7))) (gNm 12)) (sSeq (sAsg (eCall f__law_sum_sign (aCons (eVar 8) (aCons (eVar 9) (aCons (eVar 11) aNil)))) (gNm 13)) (sSeq (sAsg (eOp subG (eCall intG (aCons (eOp gtG (eVar 10) (eC (.int 0))) aNil)) (eCall intG (aCons (eOp ltG (eVar 10) (eC (.int 0))) aNil))) (gNm 14)) (sSeq (sIf (tV (eOp neG (eVar 13) (eVar 14))) (sRet (eOp subG (eCall intG (aCons (eOp gtG (eVar 13) (eVar 14)) aNil)) (eCall intG (aCons (eOp ltG (eVar 13) (eVar 14)) aNil)))) sNext) (sSeq (sAsg (eOp subG (eOp addG (eOp mulG (eVar 8) (eVar 8)) (eOp mulG (eOp mulG (eVar 9) (eVar 9)) (eVar 11))) (eOp mulG (eOp mulG (eVar 10) (eVar 10)) (eVar 12))) (gNm 15)) (sSeq (sIf (tV (eOp eqG (eVar 8) (eC (.int 0)))) (sRet (eOp mulG (eVar 13) (eOp subG (eCall intG (aCons (eOp gtG (eVar 15) (eC (.int 0))) aNil)) (eCall intG (aCons (eOp ltG (eVar 15) (eC (.int 0))) aNil))))) sNext) (sRet (eOp mulG (eVar 13) (eCall f__law_sum_sign (aCons (eVar 15) (aCons (eOp mulG (eOp mulG (eC (.int 2)) (eVar 8)) (eVar 9)) (aCons (eVar 11) aNil))))))))))))))))))))
noncomputable def f__law_order : GC := runB m__law_order 2 16
noncomputable def m__law_place : MS := (sSeq (sAsg (eSl (eVar 0) (oSome (eC (.int 1))) oNone) (gTp (gsCons (gNm 2) (gsCons (gNm 3) (gsCons (gNm 4) gsNil))))) (sSeq (sFor (iEnumV (aCons (eVar 4) aNil)) (gTp (gsCons (gNm 5) (gsCons (gTp (gsCons (gNm 6) (gsCons (gNm 7) (gsCons (gNm 8) gsNil)))) gsNil))) (sSeq (sAsg (eIf (tV (eOp ltG (eOp addG (eVar 5) (eC (.int 1))) (eCall lenG (aCons (eVar 4) aNil)))) (eOp subG' (eOp subG' (eVar 4) (eOp addG (eVar 5) (eC (.int 1)))) (eC (.int 0))) (eVar 1)) (gNm 9)) (sSeq (sAsg (eCall maxG (aCons (eC (.int 0)) (aCons (eOp subG (eCall minG (aCons (eVar 9) (aCons (eVar 1) aNil))) (eVar 6)) aNil))) (gNm 10)) (sSeq (sAsg (eOp addG (eVar 2) (eOp mulG (eVar 7) (eVar 10))) (gNm 2)) (sAsg (eOp addG (eVar 3) (eOp mulG (eVar 8) (eVar 10))) (gNm 3)))))) (sRet (eTup (aCons (eVar 2) (aCons (eVar 3) aNil))))))
noncomputable def f__law_place : GC := runB m__law_place 2 11
noncomputable def m__law_lines : MS := (sSeq (sAsg (eSl (eOp subG' (eOp addG (eLst (aCons (eTup (aCons (eC (.int 0)) (aCons (eC (.int 0)) (aCons (eC (.int 0)) aNil)))) aNil)) (eLc (iSeq (eOp subG' (eVar 0) (eC (.int 3)))) (gNm 5) (tV (eOp leG (eOp subG' (eVar 5) (eC (.int 0))) (eVar 1))) (eVar 5) [5])) (eUn negG (eC (.int 1)))) (oSome (eC (.int 1))) oNone) (gNm 2)) (sSeq (sAsg (eCall f__law_place (aCons (eVar 0) (aCons (eVar 1) aNil))) (gTp (gsCons (gNm 3) (gsCons (gNm 4) gsNil)))) (sRet (eTup (aCons (eTup (aCons (eOp subG (eVar 3) (eOp mulG (eOp subG' (eVar 2) (eC (.int 0))) (eVar 1))) (aCons (eOp subG' (eVar 2) (eC (.int 0))) (aCons (eC (.int 0)) aNil)))) (aCons (eTup (aCons (eOp subG (eVar 4) (eOp mulG (eOp subG' (eVar 2) (eC (.int 1))) (eVar 1))) (aCons (eOp subG' (eVar 2) (eC (.int 1))) (aCons (eC (.int 0)) aNil)))) aNil))))))
noncomputable def f__law_lines : GC := runB m__law_lines 2 6
noncomputable def m__law_lowest : MS := (sSeq (sAsg (eCall f__law_common (aCons (eTup (aCons (eVar 0) (aCons (eVar 1) aNil))) aNil)) (gNm 2)) (sRet (eTup (aCons (eOp fdivG (eVar 0) (eVar 2)) (aCons (eOp fdivG (eVar 1) (eVar 2)) aNil)))))
noncomputable def f__law_lowest : GC := runB m__law_lowest 2 3
noncomputable def m__law_where : MS := (sSeq (sIf (tV (eOp eqG (eOp subG' (eVar 1) (eC (.int 0))) (eC (.str "root")))) (sSeq (sAsg (eOp subG' (eLc (iSeq (eCall f__law_begins (aCons (eLst (aCons (eVar 0) aNil)) aNil))) (gNm 7) (tV (eOp ltG (eCall f__law_order (aCons (eTup (aCons (eVar 7) (aCons (eC (.int 1)) aNil))) (aCons (eVar 1) aNil))) (eC (.int 0)))) (eVar 7) [7]) (eUn negG (eC (.int 1)))) (gNm 2)) (sRet (eCall f__law_lines (aCons (eVar 0) (aCons (eVar 2) aNil))))) sNext) (sSeq (sAsg (eVar 1) (gTp (gsCons (gNm 3) (gsCons (gNm 4) gsNil)))) (sSeq (sAsg (eOp fdivG (eVar 3) (eVar 4)) (gNm 5)) (sSeq (sAsg (eCall f__law_lines (aCons (eVar 0) (aCons (eVar 5) aNil))) (gNm 6)) (sRet (eCall tupleG (aCons (eLc (iSeq (eVar 6)) (gNm 8) tYes1 (eCall f__law_lowest (aCons (eOp addG (eOp mulG (eOp subG' (eVar 8) (eC (.int 0))) (eVar 4)) (eOp mulG (eOp subG' (eVar 8) (eC (.int 1))) (eVar 3))) (aCons (eVar 4) aNil))) [8]) aNil)))))))
noncomputable def f__law_where : GC := runB m__law_where 2 9
noncomputable def m_law : MS := (sSeq (sAsg (eCall f__law_started (aCons (eVar 0) aNil)) (gNm 1)) (sSeq (sAsg (eCall f__law_worlds (aCons (eVar 1) (aCons (eC (.int 4)) aNil))) (gTp (gsCons (gNm 2) (gsCons (gNm 3) (gsCons (gNm 4) gsNil))))) (sSeq (sAsg (eCall f__law_begins (aCons (eVar 2) aNil)) (gNm 5)) (sSeq (sAsg (eLc (iRange (aCons (eC (.int 6)) aNil)) (gNm 10) tYes1 (eCall f__law_a_time (aCons (eVar 1) aNil)) [10]) (gNm 6)) (sSeq (sAsg (eOp addG (eOp addG (eVar 6) (eLc (iSeq (eSl (eVar 5) oNone (oSome (eC (.int 5))))) (gNm 11) tYes1 (eTup (aCons (eVar 11) (aCons (eC (.int 1)) aNil))) [11])) (eLc (iSeq (eSl (eVar 5) oNone (oSome (eC (.int 5))))) (gNm 11) tYes1 (eTup (aCons (eOp addG (eOp mulG (eC (.int 2)) (eVar 11)) (eC (.int 1))) (aCons (eC (.int 2)) aNil))) [11])) (gNm 6)) (sSeq (sFor (iSeq (eVar 6)) (gNm 7) (sFor (iSeq (eVar 2)) (gNm 8) (sFor (iRange (aCons (eC (.int 2)) aNil)) (gNm 9) (sIf (tV (eOp neG (eCall reprG (aCons (eCall f_place_at (aCons (eVar 3) (aCons (eOp subG' (eVar 8) (eC (.int 0))) (aCons (eVar 7) aNil)))) aNil)) (eCall reprG (aCons (eCall f__law_where (aCons (eVar 8) (aCons (eVar 7) aNil))) aNil)))) (sRet (eC (.bl false))) sNext)))) (sRet (eC (.bl true)))))))))
noncomputable def f_law : GC := runB m_law 1 12
end K22
namespace K22
open PySem PySem.Spec PyProof.Rows L2 SL
def topS (i : Nat) : Stmt := PySem.Challenge.pw_nearways_k22_places_at_times.main.body.getD i (.Pass ⟨0, 0, 0, 0⟩)
def blts : List Str := ["abs", "all", "bool", "enumerate", "int", "isinstance", "len", "list", "max", "min", "range", "repr", "set", "sorted", "str", "tuple"]
section
variable {P : Program} {w : World} {K : PySem.W.Frag} {mg : Str → Option Value} {base : Heap} {f : Addr} {fd : FuncData} {k : Nat}
abbrev s__law_started : Stmt := topS 31
abbrev N__law_started : List Str := ["_law_script", "_law_cell"]
theorem sc__law_started : FnScope N__law_started ["_law_script"] (defScope s__law_started) := ⟨rfl, rfl, rfl, by decide +kernel, rfl, by decide +kernel, by decide +kernel⟩
set_option maxHeartbeats 0 in
theorem ok__law_started (F : Fun K "_law_started" "_law_started" s__law_started f fd) (bg : ∀ x, x ∈ blts → mg x = none) : FnOk P w K mg base CX0 (k + 1) f fd ["_law_script"] (lF K f__law_started) := by
  refine ok_def F sc__law_started fun cdv A outer s H E hr => ?_
  have nd := (sc__law_started).nd
  have hu : (A.deeper (envOfC "_law_started" (defScope s__law_started) s.heap.objs.size f cdv)).units + 64 < cLine := hr.units
  unfold m__law_started
  exact (s_one (s_ret (c_dict (p_cons c_str (c_var 0) (p_cons c_str c_int (p_cons c_str (c_lcv rfl nd (i_seq (c_var 0)) (blkOk_by (own := [("_law_cell", 1)]) (N := N__law_started) (sc := defScope s__law_started) (by decide +kernel)) (by decide) (fun _ _ _ _ _ => (g_name 1 nd)) (fun _ _ _ _ _ => ts_nil) (fun _ _ _ _ _ => (c_op co_mul (c_var 1) (c_callTy cb_int (bg "int" (by decide)) (by decide +kernel) (a_cons (c_cmp co_ge (c_var 1) (c_op co_pow c_int c_int)) a_nil))))) p_nil))))))
abbrev s__law_draw : Stmt := topS 32
abbrev N__law_draw : List Str := ["_law_m", "_law_many", "_law_k", "_law_cells", "_law_left", "_law_cell", "_law_number"]
theorem sc__law_draw : FnScope N__law_draw ["_law_m", "_law_many"] (defScope s__law_draw) := ⟨rfl, rfl, rfl, by decide +kernel, rfl, by decide +kernel, by decide +kernel⟩
set_option maxHeartbeats 0 in
theorem ok__law_draw (F : Fun K "_law_draw" "_law_draw" s__law_draw f fd) (bg : ∀ x, x ∈ blts → mg x = none) : FnOk P w K mg base CX0 (k + 1) f fd ["_law_m", "_law_many"] (lF K f__law_draw) := by
  refine ok_def F sc__law_draw fun cdv A outer s H E hr => ?_
  have nd := (sc__law_draw).nd
  have hu : (A.deeper (envOfC "_law_draw" (defScope s__law_draw) s.heap.objs.size f cdv)).units + 64 < cLine := hr.units
  unfold m__law_draw
  exact (s_cons (s_set 2 nd (c_sub hu (c_var 0) c_str)) (s_cons (s_asg (c_op co_add (c_var 2) c_int) (g_sub hu (c_var 0) c_str)) (s_cons (s_set 3 nd (c_sub hu (c_var 0) c_str)) (s_cons (s_set 4 nd (c_if (t_cmp (co_ne hu) (c_sub hu (c_var 0) c_str) (c_lst a_nil)) (c_sub hu (c_sub hu (c_var 0) c_str) (c_op co_mod (c_var 2) (c_callB cb_len (bg "len" (by decide)) (by decide +kernel) (a_cons (c_var 3) a_nil)))) c_int)) (s_cons (s_if (t_cmp co_gt (c_var 4) c_int) (s_cons (s_asg (c_op co_fdiv (c_var 4) (c_var 1)) (g_sub hu (c_sub hu (c_var 0) c_str) (c_op co_mod (c_var 2) (c_callB cb_len (bg "len" (by decide)) (by decide +kernel) (a_cons (c_var 3) a_nil))))) (s_one (s_ret (c_op co_mod (c_var 4) (c_var 1))))) s_nil) (s_cons (s_set 5 nd (c_if (t_cmp (co_ne hu) (c_var 3) (c_lst a_nil)) (c_sub hu (c_var 3) (c_op co_mod (c_var 2) (c_callB cb_len (bg "len" (by decide)) (by decide +kernel) (a_cons (c_var 3) a_nil)))) c_int)) (s_cons (s_set 6 nd (c_op co_mod (c_op co_add (c_op co_add (c_op co_mul (c_op co_mod (c_var 5) c_int) c_int) (c_op co_mul (c_op co_mul c_int (c_var 2)) (c_var 2))) c_int) c_int)) (s_cons (s_set 6 nd (c_op co_mod (c_op co_mul (c_var 6) (c_op co_add c_int (c_op co_mul c_int (c_var 2)))) c_int)) (s_one (s_ret (c_op co_mod (c_op co_fdiv (c_op co_mod (c_op co_mul (c_var 6) (c_var 6)) c_int) c_int) (c_var 1))))))))))))
abbrev s__law_of : Stmt := topS 33
abbrev N__law_of : List Str := ["_law_m", "_law_some"]
theorem sc__law_of : FnScope N__law_of ["_law_m", "_law_some"] (defScope s__law_of) := ⟨rfl, rfl, rfl, by decide +kernel, rfl, by decide +kernel, by decide +kernel⟩
set_option maxHeartbeats 0 in
theorem ok__law_of (F : Fun K "_law_of" "_law_of" s__law_of f fd) (bg : ∀ x, x ∈ blts → mg x = none) (c__law_draw : Cal P w K mg base k "_law_draw" f__law_draw) : FnOk P w K mg base CX0 (k + 1) f fd ["_law_m", "_law_some"] (lF K f__law_of) := by
  refine ok_def F sc__law_of fun cdv A outer s H E hr => ?_
  have nd := (sc__law_of).nd
  have hu : (A.deeper (envOfC "_law_of" (defScope s__law_of) s.heap.objs.size f cdv)).units + 64 < cLine := hr.units
  unfold m__law_of
  exact (s_one (s_ret (c_sub hu (c_var 1) (c_call c__law_draw hr (a_cons (c_var 0) (a_cons (c_callB cb_len (bg "len" (by decide)) (by decide +kernel) (a_cons (c_var 1) a_nil)) a_nil))))))
abbrev s__law_distance : Stmt := topS 38
abbrev N__law_distance : List Str := ["_law_m"]
theorem sc__law_distance : FnScope N__law_distance ["_law_m"] (defScope s__law_distance) := ⟨rfl, rfl, rfl, by decide +kernel, rfl, by decide +kernel, by decide +kernel⟩
set_option maxHeartbeats 0 in
theorem ok__law_distance (F : Fun K "_law_distance" "_law_distance" s__law_distance f fd) (bg : ∀ x, x ∈ blts → mg x = none) (c__law_draw : Cal P w K mg base k "_law_draw" f__law_draw) (c__law_of : Cal P w K mg base k "_law_of" f__law_of) : FnOk P w K mg base CX0 (k + 1) f fd ["_law_m"] (lF K f__law_distance) := by
  refine ok_def F sc__law_distance fun cdv A outer s H E hr => ?_
  have nd := (sc__law_distance).nd
  have hu : (A.deeper (envOfC "_law_distance" (defScope s__law_distance) s.heap.objs.size f cdv)).units + 64 < cLine := hr.units
  unfold m__law_distance
  exact (s_one (s_ret (c_call c__law_of hr (a_cons (c_var 0) (a_cons (c_lst (a_cons (c_call c__law_draw hr (a_cons (c_var 0) (a_cons c_int a_nil))) (a_cons (c_call c__law_draw hr (a_cons (c_var 0) (a_cons c_int a_nil))) (a_cons (c_call c__law_draw hr (a_cons (c_var 0) (a_cons c_int a_nil))) (a_cons (c_call c__law_draw hr (a_cons (c_var 0) (a_cons (c_op co_pow c_int c_int) a_nil))) a_nil))))) a_nil)))))
abbrev s__law_brought : Stmt := topS 35
abbrev N__law_brought : List Str := ["_law_number", "_law_most"]
theorem sc__law_brought : FnScope N__law_brought ["_law_number", "_law_most"] (defScope s__law_brought) := ⟨rfl, rfl, rfl, by decide +kernel, rfl, by decide +kernel, by decide +kernel⟩
set_option maxHeartbeats 0 in
theorem ok__law_brought (F : Fun K "_law_brought" "_law_brought" s__law_brought f fd) (bg : ∀ x, x ∈ blts → mg x = none) : FnOk P w K mg base CX0 (k + 1) f fd ["_law_number", "_law_most"] (lF K f__law_brought) := by
  refine ok_def F sc__law_brought fun cdv A outer s H E hr => ?_
  have nd := (sc__law_brought).nd
  have hu : (A.deeper (envOfC "_law_brought" (defScope s__law_brought) s.heap.objs.size f cdv)).units + 64 < cLine := hr.units
  unfold m__law_brought
  exact (s_one (s_ret (c_callB (cb_max rfl) (bg "max" (by decide)) (by decide +kernel) (a_cons (c_op co_sub c_int (c_var 1)) (a_cons (c_callB (cb_min rfl) (bg "min" (by decide)) (by decide +kernel) (a_cons (c_var 1) (a_cons (c_var 0) a_nil))) a_nil)))))
abbrev s__law_beside : Stmt := topS 36
abbrev N__law_beside : List Str := ["_law_m", "_law_name", "_law_other", "_law_far", "_law_x", "_law_y", "_law_rows_here", "_law_way", "_law_more", "_law_over", "_law_time", "_law_across", "_law_high"]
theorem sc__law_beside : FnScope N__law_beside ["_law_m", "_law_name", "_law_other", "_law_far"] (defScope s__law_beside) := ⟨rfl, rfl, rfl, by decide +kernel, rfl, by decide +kernel, by decide +kernel⟩
set_option maxHeartbeats 0 in
theorem ok__law_beside (F : Fun K "_law_beside" "_law_beside" s__law_beside f fd) (bg : ∀ x, x ∈ blts → mg x = none) (c__law_draw : Cal P w K mg base k "_law_draw" f__law_draw) (c__law_brought : Cal P w K mg base k "_law_brought" f__law_brought) : FnOk P w K mg base CX0 (k + 1) f fd ["_law_m", "_law_name", "_law_other", "_law_far"] (lF K f__law_beside) := by
  refine ok_def F sc__law_beside fun cdv A outer s H E hr => ?_
  have nd := (sc__law_beside).nd
  have hu : (A.deeper (envOfC "_law_beside" (defScope s__law_beside) s.heap.objs.size f cdv)).units + 64 < cLine := hr.units
  unfold m__law_beside
  exact (s_cons (s_asg (c_slice (c_var 2) (o_some c_int) o_none) (g_tup rfl (gs_cons (g_name 4 nd) (gs_cons (g_name 5 nd) (gs_cons (g_name 6 nd) gs_nil))) (gsl_cons (gsl_cons (gsl_cons gsl_nil))))) (s_cons (s_set 7 nd (c_call c__law_draw hr (a_cons (c_var 0) (a_cons c_int a_nil)))) (s_cons (s_if (t_cmp (co_eq hu) (c_var 7) c_int) (s_one (s_ret (c_tup (a_cons (c_var 1) (a_cons (c_call c__law_brought hr (a_cons (c_op co_add (c_var 4) (c_var 3)) (a_cons (c_op co_pow c_int c_int) a_nil))) (a_cons (c_var 5) (a_cons (c_var 6) a_nil))))))) s_nil) (s_cons (s_if (t_cmp (co_eq hu) (c_var 7) c_int) (s_one (s_ret (c_tup (a_cons (c_var 1) (a_cons (c_call c__law_brought hr (a_cons (c_op co_add (c_var 4) (c_op co_mul c_int (c_op co_fdiv (c_var 3) c_int))) (a_cons (c_op co_pow c_int c_int) a_nil))) (a_cons (c_call c__law_brought hr (a_cons (c_op co_sub (c_var 5) (c_op co_mul c_int (c_op co_fdiv (c_var 3) c_int))) (a_cons (c_op co_pow c_int c_int) a_nil))) (a_cons (c_var 6) a_nil))))))) s_nil) (s_cons (s_if (t_cmp (co_eq hu) (c_var 7) c_int) (s_one (s_ret (c_tup (a_cons (c_var 1) (a_cons (c_var 4) (a_cons (c_var 5) (a_cons (c_var 6) a_nil))))))) s_nil) (s_cons (s_set 8 nd (c_op co_add c_int (c_call c__law_draw hr (a_cons (c_var 0) (a_cons c_int a_nil))))) (s_cons (s_set 9 nd (c_callTy cb_tuple (bg "tuple" (by decide)) (by decide +kernel) (a_cons (c_lcv rfl nd (i_seq (c_var 6)) (blkOk_by (own := [("_law_time", 10), ("_law_across", 11), ("_law_high", 12)]) (N := N__law_beside) (sc := defScope s__law_beside) (by decide +kernel)) (by decide) (fun _ _ _ _ _ => (g_tup rfl (gs_cons (g_name 10 nd) (gs_cons (g_name 11 nd) (gs_cons (g_name 12 nd) gs_nil))) (gsl_cons (gsl_cons (gsl_cons gsl_nil))))) (fun _ _ _ _ _ => ts_nil) (fun _ _ _ _ _ => (c_tup (a_cons (c_var 10) (a_cons (c_call c__law_brought hr (a_cons (c_op co_add (c_var 11) (c_var 8)) (a_cons c_int a_nil))) (a_cons (c_var 12) a_nil)))))) a_nil))) (s_cons (s_if (t_cmp (co_eq hu) (c_var 9) (c_tup a_nil)) (s_one (s_set 9 nd (c_tup (a_cons (c_tup (a_cons (c_call c__law_draw hr (a_cons (c_var 0) (a_cons c_int a_nil))) (a_cons (c_var 8) (a_cons c_int a_nil)))) a_nil)))) s_nil) (s_one (s_ret (c_tup (a_cons (c_var 1) (a_cons (c_call c__law_brought hr (a_cons (c_op co_sub (c_var 4) (c_op co_mul (c_var 8) (c_call c__law_draw hr (a_cons (c_var 0) (a_cons c_int a_nil))))) (a_cons (c_op co_pow c_int c_int) a_nil))) (a_cons (c_call c__law_brought hr (a_cons (c_op co_add (c_var 5) (c_var 3)) (a_cons (c_op co_pow c_int c_int) a_nil))) (a_cons (c_var 9) a_nil)))))))))))))))
abbrev s__law_rows : Stmt := topS 34
abbrev N__law_rows : List Str := ["_law_m", "_law_gap", "_law_fast", "_law_time", "_law_found", "_law_k"]
theorem sc__law_rows : FnScope N__law_rows ["_law_m"] (defScope s__law_rows) := ⟨rfl, rfl, rfl, by decide +kernel, rfl, by decide +kernel, by decide +kernel⟩
set_option maxHeartbeats 0 in
theorem ok__law_rows (F : Fun K "_law_rows" "_law_rows" s__law_rows f fd) (bg : ∀ x, x ∈ blts → mg x = none) (c__law_of : Cal P w K mg base k "_law_of" f__law_of) (c__law_draw : Cal P w K mg base k "_law_draw" f__law_draw) : FnOk P w K mg base CX0 (k + 1) f fd ["_law_m"] (lF K f__law_rows) := by
  refine ok_def F sc__law_rows fun cdv A outer s H E hr => ?_
  have nd := (sc__law_rows).nd
  have hu : (A.deeper (envOfC "_law_rows" (defScope s__law_rows) s.heap.objs.size f cdv)).units + 64 < cLine := hr.units
  unfold m__law_rows
  exact (s_cons (s_asg (c_call c__law_of hr (a_cons (c_var 0) (a_cons (c_lst (a_cons (c_tup (a_cons c_int (a_cons c_int a_nil))) (a_cons (c_tup (a_cons c_int (a_cons c_int a_nil))) (a_cons (c_tup (a_cons c_int (a_cons c_int a_nil))) (a_cons (c_tup (a_cons c_int (a_cons c_int a_nil))) (a_cons (c_tup (a_cons c_int (a_cons c_int a_nil))) a_nil)))))) a_nil))) (g_tup rfl (gs_cons (g_name 1 nd) (gs_cons (g_name 2 nd) gs_nil)) (gsl_cons (gsl_cons gsl_nil)))) (s_cons (s_set 3 nd c_int) (s_cons (s_set 4 nd (c_lst a_nil)) (s_cons (s_for PassesOwn.never rfl (i_range1 (bg "range" (by decide)) (a_cons (c_call c__law_draw hr (a_cons (c_var 0) (a_cons (c_call c__law_of hr (a_cons (c_var 0) (a_cons (c_lst (a_cons c_int (a_cons c_int (a_cons c_int (a_cons c_int a_nil))))) a_nil))) a_nil))) a_nil)) (g_name 5 nd) (s_cons (s_set 3 nd (c_op co_add (c_op co_add (c_var 3) (c_call c__law_draw hr (a_cons (c_var 0) (a_cons (c_var 1) a_nil)))) (c_callTy cb_int (bg "int" (by decide)) (by decide +kernel) (a_cons (c_cmp co_gt (c_var 5) c_int) a_nil)))) (s_one (s_expr (c_meth PySem.F.plainAttrs_list PySem.F.slot_list_append PySem.F.type_list_append cm_append (c_var 4) (a_cons (c_tup (a_cons (c_var 3) (a_cons (c_op co_sub (c_call c__law_draw hr (a_cons (c_var 0) (a_cons (c_op co_add (c_op co_mul c_int (c_var 2)) c_int) a_nil))) (c_var 2)) (a_cons (c_op co_sub (c_call c__law_draw hr (a_cons (c_var 0) (a_cons (c_op co_add (c_op co_mul c_int (c_var 2)) c_int) a_nil))) (c_var 2)) a_nil)))) a_nil)))))) (s_one (s_ret (c_callTy cb_tuple (bg "tuple" (by decide)) (by decide +kernel) (a_cons (c_var 4) a_nil))))))))
abbrev s__law_things : Stmt := topS 37
abbrev N__law_things : List Str := ["_law_m", "_law_most", "_law_distance_here", "_law_names", "_law_found", "_law_k", "_law_name", "_law_wide", "_law_x", "_law_y"]
theorem sc__law_things : FnScope N__law_things ["_law_m", "_law_most", "_law_distance_here"] (defScope s__law_things) := ⟨rfl, rfl, rfl, by decide +kernel, rfl, by decide +kernel, by decide +kernel⟩
set_option maxHeartbeats 0 in
theorem ok__law_things (F : Fun K "_law_things" "_law_things" s__law_things f fd) (bg : ∀ x, x ∈ blts → mg x = none) (c__law_draw : Cal P w K mg base k "_law_draw" f__law_draw) (c__law_of : Cal P w K mg base k "_law_of" f__law_of) (c__law_beside : Cal P w K mg base k "_law_beside" f__law_beside) (c__law_rows : Cal P w K mg base k "_law_rows" f__law_rows) : FnOk P w K mg base CX0 (k + 1) f fd ["_law_m", "_law_most", "_law_distance_here"] (lF K f__law_things) := by
  refine ok_def F sc__law_things fun cdv A outer s H E hr => ?_
  have nd := (sc__law_things).nd
  have hu : (A.deeper (envOfC "_law_things" (defScope s__law_things) s.heap.objs.size f cdv)).units + 64 < cLine := hr.units
  unfold m__law_things
  exact (s_cons (s_set 3 nd (c_lst (a_cons c_str (a_cons c_str (a_cons c_str (a_cons c_str (a_cons c_str (a_cons c_str (a_cons c_str (a_cons c_str (a_cons c_str (a_cons c_str (a_cons c_str (a_cons c_str a_nil)))))))))))))) (s_cons (s_set 4 nd (c_lst a_nil)) (s_cons (s_for PassesOwn.never rfl (i_range1 (bg "range" (by decide)) (a_cons (c_var 1) a_nil)) (g_name 5 nd) (s_cons (s_set 6 nd (c_meth PySem.F.plainAttrs_list PySem.F.slot_list_pop PySem.F.type_list_pop cm_pop (c_var 3) (a_cons (c_call c__law_draw hr (a_cons (c_var 0) (a_cons (c_callB cb_len (bg "len" (by decide)) (by decide +kernel) (a_cons (c_var 3) a_nil)) a_nil))) a_nil))) (s_one (s_if (CW.pt (t_and (t_cmp (co_ne hu) (c_var 4) (c_lst a_nil)) (t_and1 (t_cmp (co_eq hu) (c_call c__law_draw hr (a_cons (c_var 0) (a_cons c_int a_nil))) c_int)))) (s_one (s_expr (c_meth PySem.F.plainAttrs_list PySem.F.slot_list_append PySem.F.type_list_append cm_append (c_var 4) (a_cons (c_call c__law_beside hr (a_cons (c_var 0) (a_cons (c_var 6) (a_cons (c_call c__law_of hr (a_cons (c_var 0) (a_cons (c_var 4) a_nil))) (a_cons (c_op co_add (c_var 2) (c_call c__law_of hr (a_cons (c_var 0) (a_cons (c_lst (a_cons c_int (a_cons c_int (a_cons c_int (a_cons c_int (a_cons (c_neg c_int) a_nil)))))) a_nil)))) a_nil))))) a_nil)))) (s_cons (s_set 7 nd (c_call c__law_of hr (a_cons (c_var 0) (a_cons (c_lst (a_cons c_int (a_cons c_int (a_cons c_int (a_cons c_int (a_cons c_int (a_cons (c_op co_pow c_int c_int) a_nil))))))) a_nil)))) (s_cons (s_par 8 9 rfl nd (a_cons (c_op co_sub (c_call c__law_draw hr (a_cons (c_var 0) (a_cons (c_op co_add (c_op co_mul c_int (c_var 7)) c_int) a_nil))) (c_var 7)) (a_cons (c_op co_sub (c_call c__law_draw hr (a_cons (c_var 0) (a_cons (c_op co_add (c_op co_mul c_int (c_var 7)) c_int) a_nil))) (c_var 7)) a_nil))) (s_one (s_expr (c_meth PySem.F.plainAttrs_list PySem.F.slot_list_append PySem.F.type_list_append cm_append (c_var 4) (a_cons (c_tup (a_cons (c_var 6) (a_cons (c_var 8) (a_cons (c_var 9) (a_cons (c_call c__law_rows hr (a_cons (c_var 0) a_nil)) a_nil))))) a_nil)))))))))) (s_one (s_ret (c_var 4))))))
abbrev s_World_init : Stmt := inClass (topS 29) 0
abbrev N_World_init : List Str := ["self", "things", "walls"]
theorem sc_World_init : FnScope N_World_init ["self", "things", "walls"] (defScope s_World_init) := ⟨rfl, rfl, rfl, by decide +kernel, rfl, by decide +kernel, by decide +kernel⟩
set_option maxHeartbeats 0 in
theorem ok_World_init (F : Fun K "__init__" "World.__init__" s_World_init f fd) (bg : ∀ x, x ∈ blts → mg x = none) (q_World : ClsF K "World" ["told_things", "told_walls"]) : FnOk P w K mg base CX0 (k + 1) f fd ["self", "things", "walls"] (lF K f_World_init) := by
  refine ok_def F sc_World_init fun cdv A outer s H E hr => ?_
  have nd := (sc_World_init).nd
  have hu : (A.deeper (envOfC "World.__init__" (defScope s_World_init) s.heap.objs.size f cdv)).units + 64 < cLine := hr.units
  unfold m_World_init
  exact (s_cons (s_fld q_World (by decide +kernel) (c_var 0) (c_callTy cb_list (bg "list" (by decide)) (by decide +kernel) (a_cons (c_var 1) a_nil))) (s_one (s_fld q_World (by decide +kernel) (c_var 0) (c_callTy cb_list (bg "list" (by decide)) (by decide +kernel) (a_cons (c_var 2) a_nil)))))
abbrev s__law_worlds : Stmt := topS 39
abbrev N__law_worlds : List Str := ["_law_m", "_law_most", "_law_distance_here", "_law_things_here", "_law_shuts"]
theorem sc__law_worlds : FnScope N__law_worlds ["_law_m", "_law_most"] (defScope s__law_worlds) := ⟨rfl, rfl, rfl, by decide +kernel, rfl, by decide +kernel, by decide +kernel⟩
set_option maxHeartbeats 0 in
theorem ok__law_worlds (F : Fun K "_law_worlds" "_law_worlds" s__law_worlds f fd) (bg : ∀ x, x ∈ blts → mg x = none) {j : Nat} (hj : j + 1 ≤ k) (c__law_distance : Cal P w K mg base k "_law_distance" f__law_distance) (c__law_of : Cal P w K mg base k "_law_of" f__law_of) (c__law_draw : Cal P w K mg base k "_law_draw" f__law_draw) (c__law_things : Cal P w K mg base k "_law_things" f__law_things) (c_World_init : CalI P w K mg base j "World" f_World_init) : FnOk P w K mg base CX0 (k + 1) f fd ["_law_m", "_law_most"] (lF K f__law_worlds) := by
  refine ok_def F sc__law_worlds fun cdv A outer s H E hr => ?_
  have nd := (sc__law_worlds).nd
  have hu : (A.deeper (envOfC "_law_worlds" (defScope s__law_worlds) s.heap.objs.size f cdv)).units + 64 < cLine := hr.units
  unfold m__law_worlds
  exact (s_cons (s_set 2 nd (c_call c__law_distance hr (a_cons (c_var 0) a_nil))) (s_cons (s_set 3 nd (c_call c__law_things hr (a_cons (c_var 0) (a_cons (c_op co_add c_int (c_call c__law_draw hr (a_cons (c_var 0) (a_cons (c_call c__law_of hr (a_cons (c_var 0) (a_cons (c_op co_add (c_op co_mul (c_lst (a_cons (c_var 1) a_nil)) c_int) (c_lst (a_cons c_int a_nil))) a_nil))) a_nil)))) (a_cons (c_var 2) a_nil))))) (s_cons (s_set 4 nd (c_op co_mul (c_lst (a_cons (c_tup (a_cons c_str (a_cons c_int (a_cons c_int (a_cons c_int (a_cons c_int a_nil)))))) a_nil)) (c_call c__law_draw hr (a_cons (c_var 0) (a_cons c_int a_nil))))) (s_one (s_ret (c_tup (a_cons (c_var 3) (a_cons (c_make c_World_init (hr.mono hj) (a_cons (c_callTy cb_list (bg "list" (by decide)) (by decide +kernel) (a_cons (c_var 3) a_nil)) (a_cons (c_var 4) a_nil))) (a_cons (c_var 2) a_nil)))))))))
abbrev s__law_begins : Stmt := topS 41
abbrev N__law_begins : List Str := ["_law_things_here", "_law_found", "_law_thing", "_law_row"]
theorem sc__law_begins : FnScope N__law_begins ["_law_things_here"] (defScope s__law_begins) := ⟨rfl, rfl, rfl, by decide +kernel, rfl, by decide +kernel, by decide +kernel⟩
set_option maxHeartbeats 0 in
theorem ok__law_begins (F : Fun K "_law_begins" "_law_begins" s__law_begins f fd) (bg : ∀ x, x ∈ blts → mg x = none) : FnOk P w K mg base CX0 (k + 1) f fd ["_law_things_here"] (lF K f__law_begins) := by
  refine ok_def F sc__law_begins fun cdv A outer s H E hr => ?_
  have nd := (sc__law_begins).nd
  have hu : (A.deeper (envOfC "_law_begins" (defScope s__law_begins) s.heap.objs.size f cdv)).units + 64 < cLine := hr.units
  unfold m__law_begins
  exact (s_cons (s_set 1 nd (c_lst (a_cons c_int a_nil))) (s_cons (s_for PassesOwn.never rfl (i_seq (c_var 0)) (g_name 2 nd) (s_one (s_set 1 nd (c_op co_add (c_var 1) (c_lcv rfl nd (i_seq (c_sub hu (c_var 2) c_int)) (blkOk_by (own := [("_law_row", 3)]) (N := N__law_begins) (sc := defScope s__law_begins) (by decide +kernel)) (by decide) (fun _ _ _ _ _ => (g_name 3 nd)) (fun _ _ _ _ _ => ts_nil) (fun _ _ _ _ _ => (c_sub hu (c_var 3) c_int))))))) (s_one (s_ret (c_sset rfl (bg "sorted" (by decide)) (bg "set" (by decide)) (c_var 1))))))
abbrev s__law_common : Stmt := topS 46
abbrev N__law_common : List Str := ["_law_numbers", "_law_found", "_law_number", "_law_one", "_law_other"]
theorem sc__law_common : FnScope N__law_common ["_law_numbers"] (defScope s__law_common) := ⟨rfl, rfl, rfl, by decide +kernel, rfl, by decide +kernel, by decide +kernel⟩
set_option maxHeartbeats 0 in
theorem ok__law_common (F : Fun K "_law_common" "_law_common" s__law_common f fd) (bg : ∀ x, x ∈ blts → mg x = none) : FnOk P w K mg base CX0 (k + 1) f fd ["_law_numbers"] (lF K f__law_common) := by
  refine ok_def F sc__law_common fun cdv A outer s H E hr => ?_
  have nd := (sc__law_common).nd
  have hu : (A.deeper (envOfC "_law_common" (defScope s__law_common) s.heap.objs.size f cdv)).units + 64 < cLine := hr.units
  unfold m__law_common
  exact (s_cons (s_set 1 nd c_int) (s_cons (s_for PassesOwn.never rfl (i_seq (c_var 0)) (g_name 2 nd) (s_cons (s_par 3 4 rfl nd (a_cons (c_var 1) (a_cons (c_callB cb_abs (bg "abs" (by decide)) (by decide +kernel) (a_cons (c_var 2) a_nil)) a_nil))) (s_cons (s_while PassesOwn.never (t_cmp co_gt (c_var 4) c_int) (s_one (s_par 3 4 rfl nd (a_cons (c_var 4) (a_cons (c_op co_mod (c_var 3) (c_var 4)) a_nil))))) (s_one (s_set 1 nd (c_var 3)))))) (s_one (s_ret (c_var 1)))))
abbrev s__law_whole : Stmt := topS 48
abbrev N__law_whole : List Str := ["_law_thing"]
theorem sc__law_whole : FnScope N__law_whole ["_law_thing"] (defScope s__law_whole) := ⟨rfl, rfl, rfl, by decide +kernel, rfl, by decide +kernel, by decide +kernel⟩
set_option maxHeartbeats 0 in
theorem ok__law_whole (F : Fun K "_law_whole" "_law_whole" s__law_whole f fd) (bg : ∀ x, x ∈ blts → mg x = none) : FnOk P w K mg base CX0 (k + 1) f fd ["_law_thing"] (lF K f__law_whole) := by
  refine ok_def F sc__law_whole fun cdv A outer s H E hr => ?_
  have nd := (sc__law_whole).nd
  have hu : (A.deeper (envOfC "_law_whole" (defScope s__law_whole) s.heap.objs.size f cdv)).units + 64 < cLine := hr.units
  unfold m__law_whole
  exact (s_one (s_ret (c_and (c_callB cb_isi (bg "isinstance" (by decide)) (by decide +kernel) (a_cons (c_var 0) (a_cons (c_bty (bg "int" (by decide)) (by decide +kernel)) a_nil))) (c_one (c_not (c_callB cb_isi (bg "isinstance" (by decide)) (by decide +kernel) (a_cons (c_var 0) (a_cons (c_bty (bg "bool" (by decide)) (by decide +kernel)) a_nil))))))))
abbrev s__law_is_square : Stmt := topS 47
abbrev N__law_is_square : List Str := ["_law_number", "_law_root", "_law_more"]
theorem sc__law_is_square : FnScope N__law_is_square ["_law_number"] (defScope s__law_is_square) := ⟨rfl, rfl, rfl, by decide +kernel, rfl, by decide +kernel, by decide +kernel⟩
set_option maxHeartbeats 0 in
theorem ok__law_is_square (F : Fun K "_law_is_square" "_law_is_square" s__law_is_square f fd) (bg : ∀ x, x ∈ blts → mg x = none) : FnOk P w K mg base CX0 (k + 1) f fd ["_law_number"] (lF K f__law_is_square) := by
  refine ok_def F sc__law_is_square fun cdv A outer s H E hr => ?_
  have nd := (sc__law_is_square).nd
  have hu : (A.deeper (envOfC "_law_is_square" (defScope s__law_is_square) s.heap.objs.size f cdv)).units + 64 < cLine := hr.units
  unfold m__law_is_square
  exact (s_cons (s_set 1 nd (c_var 0)) (s_cons (s_set 2 nd (c_op co_add (c_op co_fdiv (c_var 0) c_int) c_int)) (s_cons (s_while PassesOwn.never (t_cmp co_lt (c_var 2) (c_var 1)) (s_cons (s_set 1 nd (c_var 2)) (s_one (s_set 2 nd (c_op co_fdiv (c_op co_add (c_var 1) (c_op co_fdiv (c_var 0) (c_var 1))) c_int))))) (s_one (s_ret (c_cmp (co_eq hu) (c_op co_mul (c_var 1) (c_var 1)) (c_var 0)))))))
abbrev s__law_sum_sign : Stmt := topS 43
abbrev N__law_sum_sign : List Str := ["_law_plain", "_law_many", "_law_inside"]
theorem sc__law_sum_sign : FnScope N__law_sum_sign ["_law_plain", "_law_many", "_law_inside"] (defScope s__law_sum_sign) := ⟨rfl, rfl, rfl, by decide +kernel, rfl, by decide +kernel, by decide +kernel⟩
set_option maxHeartbeats 0 in
theorem ok__law_sum_sign (F : Fun K "_law_sum_sign" "_law_sum_sign" s__law_sum_sign f fd) (bg : ∀ x, x ∈ blts → mg x = none) : FnOk P w K mg base CX0 (k + 1) f fd ["_law_plain", "_law_many", "_law_inside"] (lF K f__law_sum_sign) := by
  refine ok_def F sc__law_sum_sign fun cdv A outer s H E hr => ?_
  have nd := (sc__law_sum_sign).nd
  have hu : (A.deeper (envOfC "_law_sum_sign" (defScope s__law_sum_sign) s.heap.objs.size f cdv)).units + 64 < cLine := hr.units
  unfold m__law_sum_sign
  exact (s_cons (s_if (t_cmp co_gt (c_op co_mul (c_var 0) (c_var 0)) (c_op co_mul (c_op co_mul (c_var 1) (c_var 1)) (c_var 2))) (s_one (s_ret (c_if (t_cmp co_gt (c_var 0) c_int) c_int (c_neg c_int)))) s_nil) (s_one (s_ret (c_op co_sub (c_callTy cb_int (bg "int" (by decide)) (by decide +kernel) (a_cons (c_cmp co_gt (c_var 1) c_int) a_nil)) (c_callTy cb_int (bg "int" (by decide)) (by decide +kernel) (a_cons (c_cmp co_lt (c_var 1) c_int) a_nil))))))
abbrev s__law_sign : Stmt := topS 44
abbrev N__law_sign : List Str := ["_law_poly", "_law_time", "_law_c", "_law_b", "_law_a", "_law_above", "_law_below", "_law_worth", "_law_low", "_law_mid", "_law_top", "_law_side", "_law_inside", "_law_plain", "_law_many"]
theorem sc__law_sign : FnScope N__law_sign ["_law_poly", "_law_time"] (defScope s__law_sign) := ⟨rfl, rfl, rfl, by decide +kernel, rfl, by decide +kernel, by decide +kernel⟩
set_option maxHeartbeats 0 in
theorem ok__law_sign (F : Fun K "_law_sign" "_law_sign" s__law_sign f fd) (bg : ∀ x, x ∈ blts → mg x = none) (c__law_sum_sign : Cal P w K mg base k "_law_sum_sign" f__law_sum_sign) : FnOk P w K mg base CX0 (k + 1) f fd ["_law_poly", "_law_time"] (lF K f__law_sign) := by
  refine ok_def F sc__law_sign fun cdv A outer s H E hr => ?_
  have nd := (sc__law_sign).nd
  have hu : (A.deeper (envOfC "_law_sign" (defScope s__law_sign) s.heap.objs.size f cdv)).units + 64 < cLine := hr.units
  unfold m__law_sign
  exact (s_cons (s_asg (c_var 0) (g_tup rfl (gs_cons (g_name 2 nd) (gs_cons (g_name 3 nd) (gs_cons (g_name 4 nd) gs_nil))) (gsl_cons (gsl_cons (gsl_cons gsl_nil))))) (s_cons (s_if (t_cmp (co_ne hu) (c_sub hu (c_var 1) c_int) c_str) (s_cons (s_asg (c_var 1) (g_tup rfl (gs_cons (g_name 5 nd) (gs_cons (g_name 6 nd) gs_nil)) (gsl_cons (gsl_cons gsl_nil)))) (s_cons (s_set 7 nd (c_op co_add (c_op co_mul (c_op co_mul (c_var 2) (c_var 6)) (c_var 6)) (c_op co_mul (c_var 5) (c_op co_add (c_op co_mul (c_var 3) (c_var 6)) (c_op co_mul (c_var 4) (c_var 5)))))) (s_one (s_ret (c_op co_sub (c_callTy cb_int (bg "int" (by decide)) (by decide +kernel) (a_cons (c_cmp co_gt (c_var 7) c_int) a_nil)) (c_callTy cb_int (bg "int" (by decide)) (by decide +kernel) (a_cons (c_cmp co_lt (c_var 7) c_int) a_nil))))))) s_nil) (s_cons (s_asg (c_sub hu (c_var 1) c_int) (g_tup rfl (gs_cons (g_name 8 nd) (gs_cons (g_name 9 nd) (gs_cons (g_name 10 nd) gs_nil))) (gsl_cons (gsl_cons (gsl_cons gsl_nil))))) (s_cons (s_set 11 nd (c_op co_sub (c_op co_mul c_int (c_sub hu (c_var 1) c_int)) c_int)) (s_cons (s_set 12 nd (c_op co_sub (c_op co_mul (c_var 9) (c_var 9)) (c_op co_mul (c_op co_mul c_int (c_var 8)) (c_var 10)))) (s_cons (s_set 13 nd (c_op co_sub (c_op co_mul (c_op co_mul (c_op co_mul c_int (c_var 10)) (c_var 10)) (c_var 2)) (c_op co_mul (c_op co_mul (c_op co_mul c_int (c_var 10)) (c_var 9)) (c_var 3)))) (s_cons (s_set 13 nd (c_op co_add (c_var 13) (c_op co_mul (c_var 4) (c_op co_add (c_op co_mul (c_var 9) (c_var 9)) (c_var 12))))) (s_cons (s_set 14 nd (c_op co_mul (c_var 11) (c_op co_sub (c_op co_mul (c_op co_mul c_int (c_var 10)) (c_var 3)) (c_op co_mul (c_op co_mul c_int (c_var 9)) (c_var 4))))) (s_cons (s_if (t_cmp (co_eq hu) (c_var 14) c_int) (s_one (s_ret (c_op co_sub (c_callTy cb_int (bg "int" (by decide)) (by decide +kernel) (a_cons (c_cmp co_gt (c_var 13) c_int) a_nil)) (c_callTy cb_int (bg "int" (by decide)) (by decide +kernel) (a_cons (c_cmp co_lt (c_var 13) c_int) a_nil))))) s_nil) (s_one (s_ret (c_call c__law_sum_sign hr (a_cons (c_var 13) (a_cons (c_var 14) (a_cons (c_var 12) a_nil)))))))))))))))
abbrev s__law_is_time : Stmt := topS 49
abbrev N__law_is_time : List Str := ["_law_thing", "_law_good", "_law_inside", "_law_part"]
theorem sc__law_is_time : FnScope N__law_is_time ["_law_thing"] (defScope s__law_is_time) := ⟨rfl, rfl, rfl, by decide +kernel, rfl, by decide +kernel, by decide +kernel⟩
set_option maxHeartbeats 0 in
theorem ok__law_is_time (F : Fun K "_law_is_time" "_law_is_time" s__law_is_time f fd) (bg : ∀ x, x ∈ blts → mg x = none) (c__law_whole : Cal P w K mg base k "_law_whole" f__law_whole) (c__law_common : Cal P w K mg base k "_law_common" f__law_common) (c__law_is_square : Cal P w K mg base k "_law_is_square" f__law_is_square) (c__law_sign : Cal P w K mg base k "_law_sign" f__law_sign) : FnOk P w K mg base CX0 (k + 1) f fd ["_law_thing"] (lF K f__law_is_time) := by
  refine ok_def F sc__law_is_time fun cdv A outer s H E hr => ?_
  have nd := (sc__law_is_time).nd
  have hu : (A.deeper (envOfC "_law_is_time" (defScope s__law_is_time) s.heap.objs.size f cdv)).units + 64 < cLine := hr.units
  unfold m__law_is_time
  exact (s_cons (s_if (CW.pt (t_or (t_not (t_tru (c_callB cb_isi (bg "isinstance" (by decide)) (by decide +kernel) (a_cons (c_var 0) (a_cons (c_bty (bg "tuple" (by decide)) (by decide +kernel)) a_nil))))) (t_or1 (t_cmp (co_notIn hu) (c_callB cb_len (bg "len" (by decide)) (by decide +kernel) (a_cons (c_var 0) a_nil)) (c_tup (a_cons c_int (a_cons c_int a_nil))) (by rfl))))) (s_one (s_ret c_bl)) s_nil) (s_cons (s_if (t_cmp (co_eq hu) (c_callB cb_len (bg "len" (by decide)) (by decide +kernel) (a_cons (c_var 0) a_nil)) c_int) (s_cons (s_set 1 nd (c_and (c_callB (cb_all rfl) (bg "all" (by decide)) (by decide +kernel) (a_cons (c_lcv rfl nd (i_seq (c_var 0)) (blkOk_by (own := [("_law_part", 3)]) (N := N__law_is_time) (sc := defScope s__law_is_time) (by decide +kernel)) (by decide) (fun _ _ _ _ _ => (g_name 3 nd)) (fun _ _ _ _ _ => ts_nil) (fun _ _ _ _ _ => (c_call c__law_whole hr (a_cons (c_var 3) a_nil)))) a_nil)) (c_and (c_cmp co_gt (c_sub hu (c_var 0) c_int) c_int) (c_one (c_cmp co_ge (c_sub hu (c_var 0) c_int) c_int))))) (s_one (s_ret (c_and (c_var 1) (c_one (c_cmp (co_eq hu) (c_call c__law_common hr (a_cons (c_var 0) a_nil)) c_int)))))) s_nil) (s_cons (s_if (CW.pt (t_or (t_cmp (co_ne hu) (c_sub hu (c_var 0) c_int) c_str) (t_or (t_not (t_tru (c_callB cb_isi (bg "isinstance" (by decide)) (by decide +kernel) (a_cons (c_sub hu (c_var 0) c_int) (a_cons (c_bty (bg "tuple" (by decide)) (by decide +kernel)) a_nil))))) (t_or (t_cmp (co_ne hu) (c_callB cb_len (bg "len" (by decide)) (by decide +kernel) (a_cons (c_sub hu (c_var 0) c_int) a_nil)) c_int) (t_or1 (t_cmp (co_notIn hu) (c_sub hu (c_var 0) c_int) (c_tup (a_cons c_int (a_cons c_int a_nil))) (by rfl))))))) (s_one (s_ret c_bl)) s_nil) (s_cons (s_if (CW.pt (t_or (t_not (t_tru (c_callB (cb_all rfl) (bg "all" (by decide)) (by decide +kernel) (a_cons (c_lcv rfl nd (i_seq (c_op co_add (c_sub hu (c_var 0) c_int) (c_slice (c_var 0) (o_some c_int) o_none))) (blkOk_by (own := [("_law_part", 3)]) (N := N__law_is_time) (sc := defScope s__law_is_time) (by decide +kernel)) (by decide) (fun _ _ _ _ _ => (g_name 3 nd)) (fun _ _ _ _ _ => ts_nil) (fun _ _ _ _ _ => (c_call c__law_whole hr (a_cons (c_var 3) a_nil)))) a_nil)))) (t_or (t_cmp co_lt (c_sub hu (c_sub hu (c_var 0) c_int) c_int) c_int) (t_or1 (t_cmp (co_ne hu) (c_call c__law_common hr (a_cons (c_sub hu (c_var 0) c_int) a_nil)) c_int))))) (s_one (s_ret c_bl)) s_nil) (s_cons (s_set 2 nd (c_op co_sub (c_op co_mul (c_sub hu (c_sub hu (c_var 0) c_int) c_int) (c_sub hu (c_sub hu (c_var 0) c_int) c_int)) (c_op co_mul (c_op co_mul c_int (c_sub hu (c_sub hu (c_var 0) c_int) c_int)) (c_sub hu (c_sub hu (c_var 0) c_int) c_int)))) (s_one (s_ret (c_and (c_cmp co_gt (c_var 2) c_int) (c_and (c_not (c_call c__law_is_square hr (a_cons (c_var 2) a_nil))) (c_one (c_cmp co_ge (c_call c__law_sign hr (a_cons (c_tup (a_cons c_int (a_cons c_int (a_cons c_int a_nil)))) (a_cons (c_var 0) a_nil))) c_int)))))))))))
abbrev s__law_a_time : Stmt := topS 50
abbrev N__law_a_time : List Str := ["_law_m", "_law_above", "_law_below", "_law_part", "_law_some", "_law_greater", "_law_lesser", "_law_place_here", "_law_quadratic", "_law_root", "_law_number"]
theorem sc__law_a_time : FnScope N__law_a_time ["_law_m"] (defScope s__law_a_time) := ⟨rfl, rfl, rfl, by decide +kernel, rfl, by decide +kernel, by decide +kernel⟩
set_option maxHeartbeats 0 in
theorem ok__law_a_time (F : Fun K "_law_a_time" "_law_a_time" s__law_a_time f fd) (bg : ∀ x, x ∈ blts → mg x = none) (c__law_draw : Cal P w K mg base k "_law_draw" f__law_draw) (c__law_common : Cal P w K mg base k "_law_common" f__law_common) (c__law_is_time : Cal P w K mg base k "_law_is_time" f__law_is_time) (c__law_of : Cal P w K mg base k "_law_of" f__law_of) : FnOk P w K mg base CX0 (k + 1) f fd ["_law_m"] (lF K f__law_a_time) := by
  refine ok_def F sc__law_a_time fun cdv A outer s H E hr => ?_
  have nd := (sc__law_a_time).nd
  have hu : (A.deeper (envOfC "_law_a_time" (defScope s__law_a_time) s.heap.objs.size f cdv)).units + 64 < cLine := hr.units
  unfold m__law_a_time
  exact (s_cons (s_par 1 2 rfl nd (a_cons (c_call c__law_draw hr (a_cons (c_var 0) (a_cons c_int a_nil))) (a_cons (c_op co_add c_int (c_call c__law_draw hr (a_cons (c_var 0) (a_cons c_int a_nil)))) a_nil))) (s_cons (s_set 3 nd (c_call c__law_common hr (a_cons (c_tup (a_cons (c_var 1) (a_cons (c_var 2) a_nil))) a_nil))) (s_cons (s_set 4 nd (c_lst (a_cons (c_tup (a_cons (c_call c__law_draw hr (a_cons (c_var 0) (a_cons c_int a_nil))) (a_cons c_int a_nil))) (a_cons (c_tup (a_cons (c_call c__law_draw hr (a_cons (c_var 0) (a_cons (c_op co_pow c_int c_int) a_nil))) (a_cons c_int a_nil))) (a_cons (c_tup (a_cons (c_op co_fdiv (c_var 1) (c_var 3)) (a_cons (c_op co_fdiv (c_var 2) (c_var 3)) a_nil))) a_nil))))) (s_cons (s_set 5 nd (c_tup (a_cons (c_op co_sub c_int (c_call c__law_draw hr (a_cons (c_var 0) (a_cons c_int a_nil)))) (a_cons (c_op co_sub (c_call c__law_draw hr (a_cons (c_var 0) (a_cons c_int a_nil))) c_int) (a_cons (c_op co_add c_int (c_call c__law_draw hr (a_cons (c_var 0) (a_cons c_int a_nil)))) a_nil))))) (s_cons (s_set 6 nd (c_tup (a_cons (c_op co_add c_int (c_call c__law_draw hr (a_cons (c_var 0) (a_cons c_int a_nil)))) (a_cons (c_op co_sub c_int (c_call c__law_draw hr (a_cons (c_var 0) (a_cons c_int a_nil)))) (a_cons (c_op co_add c_int (c_call c__law_draw hr (a_cons (c_var 0) (a_cons c_int a_nil)))) a_nil))))) (s_cons (s_for PassesOwn.never rfl (i_enumV (bg "enumerate" (by decide)) (a_cons (c_lst (a_cons (c_var 6) (a_cons (c_var 5) a_nil))) a_nil)) (g_tup rfl (gs_cons (g_name 7 nd) (gs_cons (g_name 8 nd) gs_nil)) (gsl_cons (gsl_cons gsl_nil))) (s_cons (s_set 3 nd (c_call c__law_common hr (a_cons (c_var 8) a_nil))) (s_cons (s_set 9 nd (c_tup (a_cons c_str (a_cons (c_callTy cb_tuple (bg "tuple" (by decide)) (by decide +kernel) (a_cons (c_lcv rfl nd (i_seq (c_var 8)) (blkOk_by (own := [("_law_number", 10)]) (N := N__law_a_time) (sc := defScope s__law_a_time) (by decide +kernel)) (by decide) (fun _ _ _ _ _ => (g_name 10 nd)) (fun _ _ _ _ _ => ts_nil) (fun _ _ _ _ _ => (c_op co_fdiv (c_var 10) (c_var 3)))) a_nil)) (a_cons (c_var 7) a_nil))))) (s_one (s_set 4 nd (c_op co_add (c_var 4) (c_op co_mul (c_lst (a_cons (c_var 9) (a_cons (c_var 9) a_nil))) (c_callTy cb_int (bg "int" (by decide)) (by decide +kernel) (a_cons (c_call c__law_is_time hr (a_cons (c_var 9) a_nil)) a_nil))))))))) (s_one (s_ret (c_call c__law_of hr (a_cons (c_var 0) (a_cons (c_var 4) a_nil)))))))))))
abbrev s_World_told : Stmt := inClass (topS 29) 1
abbrev N_World_told : List Str := ["self"]
theorem sc_World_told : FnScope N_World_told ["self"] (defScope s_World_told) := ⟨rfl, rfl, rfl, by decide +kernel, rfl, by decide +kernel, by decide +kernel⟩
set_option maxHeartbeats 0 in
theorem ok_World_told (F : Fun K "told" "World.told" s_World_told f fd) (bg : ∀ x, x ∈ blts → mg x = none) (q_World : ClsF K "World" ["told_things", "told_walls"]) : FnOk P w K mg base CX0 (k + 1) f fd ["self"] (lF K f_World_told) := by
  refine ok_def F sc_World_told fun cdv A outer s H E hr => ?_
  have nd := (sc_World_told).nd
  have hu : (A.deeper (envOfC "World.told" (defScope s_World_told) s.heap.objs.size f cdv)).units + 64 < cLine := hr.units
  unfold m_World_told
  exact (s_one (s_ret (c_tup (a_cons (c_callTy cb_list (bg "list" (by decide)) (by decide +kernel) (a_cons (c_fld q_World (by decide +kernel) (c_var 0)) a_nil)) (a_cons (c_callTy cb_list (bg "list" (by decide)) (by decide +kernel) (a_cons (c_fld q_World (by decide +kernel) (c_var 0)) a_nil)) a_nil)))))
abbrev s_thing_of : Stmt := topS 24
abbrev N_thing_of : List Str := ["world", "name", "thing"]
theorem sc_thing_of : FnScope N_thing_of ["world", "name"] (defScope s_thing_of) := ⟨rfl, rfl, rfl, by decide +kernel, rfl, by decide +kernel, by decide +kernel⟩
set_option maxHeartbeats 0 in
theorem ok_thing_of (F : Fun K "thing_of" "thing_of" s_thing_of f fd) (bg : ∀ x, x ∈ blts → mg x = none) {C_World : Addr} (n_World : ClsN K "World" C_World) (c_World_told : CalM P w K mg base k "World" "told" f_World_told) : FnOk P w K mg base CX0 (k + 1) f fd ["world", "name"] (lF K f_thing_of) := by
  refine ok_def F sc_thing_of fun cdv A outer s H E hr => ?_
  have nd := (sc_thing_of).nd
  have hu : (A.deeper (envOfC "thing_of" (defScope s_thing_of) s.heap.objs.size f cdv)).units + 64 < cLine := hr.units
  unfold m_thing_of
  exact (s_cons (s_for PassesOwn.never rfl (i_seq (c_sub hu (c_om0 c_World_told hr n_World (c_var 0)) c_int)) (g_name 2 nd) (s_one (s_if (CW.pt (t_and (t_tru (c_callB cb_isi (bg "isinstance" (by decide)) (by decide +kernel) (a_cons (c_var 1) (a_cons (c_bty (bg "str" (by decide)) (by decide +kernel)) a_nil)))) (t_and1 (t_cmp (co_eq hu) (c_sub hu (c_var 2) c_int) (c_var 1))))) (s_one (s_ret (c_var 2))) s_nil))) (s_one s_stuck))
abbrev s_is_number : Stmt := topS 11
abbrev N_is_number : List Str := ["thing"]
theorem sc_is_number : FnScope N_is_number ["thing"] (defScope s_is_number) := ⟨rfl, rfl, rfl, by decide +kernel, rfl, by decide +kernel, by decide +kernel⟩
set_option maxHeartbeats 0 in
theorem ok_is_number (F : Fun K "is_number" "is_number" s_is_number f fd) (bg : ∀ x, x ∈ blts → mg x = none) : FnOk P w K mg base CX0 (k + 1) f fd ["thing"] (lF K f_is_number) := by
  refine ok_def F sc_is_number fun cdv A outer s H E hr => ?_
  have nd := (sc_is_number).nd
  have hu : (A.deeper (envOfC "is_number" (defScope s_is_number) s.heap.objs.size f cdv)).units + 64 < cLine := hr.units
  unfold m_is_number
  exact (s_one (s_ret (c_and (c_callB cb_isi (bg "isinstance" (by decide)) (by decide +kernel) (a_cons (c_var 0) (a_cons (c_bty (bg "int" (by decide)) (by decide +kernel)) a_nil))) (c_one (c_not (c_callB cb_isi (bg "isinstance" (by decide)) (by decide +kernel) (a_cons (c_var 0) (a_cons (c_bty (bg "bool" (by decide)) (by decide +kernel)) a_nil))))))))
abbrev s_common_divisor : Stmt := topS 6
abbrev N_common_divisor : List Str := ["one", "other"]
theorem sc_common_divisor : FnScope N_common_divisor ["one", "other"] (defScope s_common_divisor) := ⟨rfl, rfl, rfl, by decide +kernel, rfl, by decide +kernel, by decide +kernel⟩
set_option maxHeartbeats 0 in
theorem ok_common_divisor (F : Fun K "common_divisor" "common_divisor" s_common_divisor f fd) (bg : ∀ x, x ∈ blts → mg x = none) : FnOk P w K mg base CX0 (k + 1) f fd ["one", "other"] (lF K f_common_divisor) := by
  refine ok_def F sc_common_divisor fun cdv A outer s H E hr => ?_
  have nd := (sc_common_divisor).nd
  have hu : (A.deeper (envOfC "common_divisor" (defScope s_common_divisor) s.heap.objs.size f cdv)).units + 64 < cLine := hr.units
  unfold m_common_divisor
  exact (s_cons (s_par 0 1 rfl nd (a_cons (c_callB cb_abs (bg "abs" (by decide)) (by decide +kernel) (a_cons (c_var 0) a_nil)) (a_cons (c_callB cb_abs (bg "abs" (by decide)) (by decide +kernel) (a_cons (c_var 1) a_nil)) a_nil))) (s_cons (s_while PassesOwn.never (t_cmp co_gt (c_var 1) c_int) (s_one (s_par 0 1 rfl nd (a_cons (c_var 1) (a_cons (c_op co_mod (c_var 0) (c_var 1)) a_nil))))) (s_one (s_ret (c_var 0)))))
abbrev s_is_fraction : Stmt := topS 10
abbrev N_is_fraction : List Str := ["thing"]
theorem sc_is_fraction : FnScope N_is_fraction ["thing"] (defScope s_is_fraction) := ⟨rfl, rfl, rfl, by decide +kernel, rfl, by decide +kernel, by decide +kernel⟩
set_option maxHeartbeats 0 in
theorem ok_is_fraction (F : Fun K "is_fraction" "is_fraction" s_is_fraction f fd) (bg : ∀ x, x ∈ blts → mg x = none) (c_is_number : Cal P w K mg base k "is_number" f_is_number) (c_common_divisor : Cal P w K mg base k "common_divisor" f_common_divisor) : FnOk P w K mg base CX0 (k + 1) f fd ["thing"] (lF K f_is_fraction) := by
  refine ok_def F sc_is_fraction fun cdv A outer s H E hr => ?_
  have nd := (sc_is_fraction).nd
  have hu : (A.deeper (envOfC "is_fraction" (defScope s_is_fraction) s.heap.objs.size f cdv)).units + 64 < cLine := hr.units
  unfold m_is_fraction
  exact (s_cons (s_if (CW.pt (t_or (t_not (t_tru (c_callB cb_isi (bg "isinstance" (by decide)) (by decide +kernel) (a_cons (c_var 0) (a_cons (c_bty (bg "tuple" (by decide)) (by decide +kernel)) a_nil))))) (t_or (t_cmp (co_ne hu) (c_callB cb_len (bg "len" (by decide)) (by decide +kernel) (a_cons (c_var 0) a_nil)) c_int) (t_or (t_not (t_tru (c_call c_is_number hr (a_cons (c_sub hu (c_var 0) c_int) a_nil)))) (t_or1 (t_not (t_tru (c_call c_is_number hr (a_cons (c_sub hu (c_var 0) c_int) a_nil))))))))) (s_one (s_ret c_bl)) s_nil) (s_one (s_ret (c_and (c_cmp co_gt (c_sub hu (c_var 0) c_int) c_int) (c_one (c_cmp (co_eq hu) (c_call c_common_divisor hr (a_cons (c_sub hu (c_var 0) c_int) (a_cons (c_sub hu (c_var 0) c_int) a_nil))) c_int))))))
abbrev s_is_poly : Stmt := topS 12
abbrev N_is_poly : List Str := ["thing", "part"]
theorem sc_is_poly : FnScope N_is_poly ["thing"] (defScope s_is_poly) := ⟨rfl, rfl, rfl, by decide +kernel, rfl, by decide +kernel, by decide +kernel⟩
set_option maxHeartbeats 0 in
theorem ok_is_poly (F : Fun K "is_poly" "is_poly" s_is_poly f fd) (bg : ∀ x, x ∈ blts → mg x = none) (c_is_number : Cal P w K mg base k "is_number" f_is_number) : FnOk P w K mg base CX0 (k + 1) f fd ["thing"] (lF K f_is_poly) := by
  refine ok_def F sc_is_poly fun cdv A outer s H E hr => ?_
  have nd := (sc_is_poly).nd
  have hu : (A.deeper (envOfC "is_poly" (defScope s_is_poly) s.heap.objs.size f cdv)).units + 64 < cLine := hr.units
  unfold m_is_poly
  exact (s_one (s_ret (c_and (c_callB cb_isi (bg "isinstance" (by decide)) (by decide +kernel) (a_cons (c_var 0) (a_cons (c_bty (bg "tuple" (by decide)) (by decide +kernel)) a_nil))) (c_and (c_cmp (co_eq hu) (c_callB cb_len (bg "len" (by decide)) (by decide +kernel) (a_cons (c_var 0) a_nil)) c_int) (c_one (c_callB (cb_all rfl) (bg "all" (by decide)) (by decide +kernel) (a_cons (c_lcv rfl nd (i_seq (c_var 0)) (blkOk_by (own := [("part", 1)]) (N := N_is_poly) (sc := defScope s_is_poly) (by decide +kernel)) (by decide) (fun _ _ _ _ _ => (g_name 1 nd)) (fun _ _ _ _ _ => ts_nil) (fun _ _ _ _ _ => (c_call c_is_number hr (a_cons (c_var 1) a_nil)))) a_nil)))))))
abbrev s_inner : Stmt := topS 15
abbrev N_inner : List Str := ["quadratic", "c", "b", "a"]
theorem sc_inner : FnScope N_inner ["quadratic"] (defScope s_inner) := ⟨rfl, rfl, rfl, by decide +kernel, rfl, by decide +kernel, by decide +kernel⟩
set_option maxHeartbeats 0 in
theorem ok_inner (F : Fun K "inner" "inner" s_inner f fd) (bg : ∀ x, x ∈ blts → mg x = none) : FnOk P w K mg base CX0 (k + 1) f fd ["quadratic"] (lF K f_inner) := by
  refine ok_def F sc_inner fun cdv A outer s H E hr => ?_
  have nd := (sc_inner).nd
  have hu : (A.deeper (envOfC "inner" (defScope s_inner) s.heap.objs.size f cdv)).units + 64 < cLine := hr.units
  unfold m_inner
  exact (s_cons (s_asg (c_var 0) (g_tup rfl (gs_cons (g_name 1 nd) (gs_cons (g_name 2 nd) (gs_cons (g_name 3 nd) gs_nil))) (gsl_cons (gsl_cons (gsl_cons gsl_nil))))) (s_one (s_ret (c_op co_sub (c_op co_mul (c_var 2) (c_var 2)) (c_op co_mul (c_op co_mul c_int (c_var 3)) (c_var 1))))))
abbrev s_whole_root : Stmt := topS 7
abbrev N_whole_root : List Str := ["number", "low", "high", "middle"]
theorem sc_whole_root : FnScope N_whole_root ["number"] (defScope s_whole_root) := ⟨rfl, rfl, rfl, by decide +kernel, rfl, by decide +kernel, by decide +kernel⟩
set_option maxHeartbeats 0 in
theorem ok_whole_root (F : Fun K "whole_root" "whole_root" s_whole_root f fd) (bg : ∀ x, x ∈ blts → mg x = none) : FnOk P w K mg base CX0 (k + 1) f fd ["number"] (lF K f_whole_root) := by
  refine ok_def F sc_whole_root fun cdv A outer s H E hr => ?_
  have nd := (sc_whole_root).nd
  have hu : (A.deeper (envOfC "whole_root" (defScope s_whole_root) s.heap.objs.size f cdv)).units + 64 < cLine := hr.units
  unfold m_whole_root
  exact (s_cons (s_set 1 nd c_int) (s_cons (s_set 2 nd c_int) (s_cons (s_while PassesOwn.never (t_cmp co_le (c_op co_mul (c_var 2) (c_var 2)) (c_var 0)) (s_one (s_set 2 nd (c_op co_mul (c_var 2) c_int)))) (s_cons (s_while PassesOwn.never (t_cmp co_gt (c_op co_sub (c_var 2) (c_var 1)) c_int) (s_cons (s_set 3 nd (c_op co_fdiv (c_op co_add (c_var 1) (c_var 2)) c_int)) (s_one (s_if (t_cmp co_le (c_op co_mul (c_var 3) (c_var 3)) (c_var 0)) (s_one (s_set 1 nd (c_var 3))) (s_one (s_set 2 nd (c_var 3))))))) (s_one (s_ret (c_var 1)))))))
abbrev s_is_square : Stmt := topS 8
abbrev N_is_square : List Str := ["number"]
theorem sc_is_square : FnScope N_is_square ["number"] (defScope s_is_square) := ⟨rfl, rfl, rfl, by decide +kernel, rfl, by decide +kernel, by decide +kernel⟩
set_option maxHeartbeats 0 in
theorem ok_is_square (F : Fun K "is_square" "is_square" s_is_square f fd) (bg : ∀ x, x ∈ blts → mg x = none) (c_whole_root : Cal P w K mg base k "whole_root" f_whole_root) : FnOk P w K mg base CX0 (k + 1) f fd ["number"] (lF K f_is_square) := by
  refine ok_def F sc_is_square fun cdv A outer s H E hr => ?_
  have nd := (sc_is_square).nd
  have hu : (A.deeper (envOfC "is_square" (defScope s_is_square) s.heap.objs.size f cdv)).units + 64 < cLine := hr.units
  unfold m_is_square
  exact (s_one (s_ret (c_and (c_cmp co_ge (c_var 0) c_int) (c_one (c_cmp (co_eq hu) (c_op co_mul (c_call c_whole_root hr (a_cons (c_var 0) a_nil)) (c_call c_whole_root hr (a_cons (c_var 0) a_nil))) (c_var 0))))))
abbrev s_is_root : Stmt := topS 16
abbrev N_is_root : List Str := ["thing", "c", "b", "a", "divisor"]
theorem sc_is_root : FnScope N_is_root ["thing"] (defScope s_is_root) := ⟨rfl, rfl, rfl, by decide +kernel, rfl, by decide +kernel, by decide +kernel⟩
set_option maxHeartbeats 0 in
theorem ok_is_root (F : Fun K "is_root" "is_root" s_is_root f fd) (bg : ∀ x, x ∈ blts → mg x = none) (c_is_poly : Cal P w K mg base k "is_poly" f_is_poly) (c_is_number : Cal P w K mg base k "is_number" f_is_number) (c_common_divisor : Cal P w K mg base k "common_divisor" f_common_divisor) (c_inner : Cal P w K mg base k "inner" f_inner) (c_is_square : Cal P w K mg base k "is_square" f_is_square) : FnOk P w K mg base CX0 (k + 1) f fd ["thing"] (lF K f_is_root) := by
  refine ok_def F sc_is_root fun cdv A outer s H E hr => ?_
  have nd := (sc_is_root).nd
  have hu : (A.deeper (envOfC "is_root" (defScope s_is_root) s.heap.objs.size f cdv)).units + 64 < cLine := hr.units
  unfold m_is_root
  exact (s_cons (s_if (CW.pt (t_or (t_not (t_tru (c_callB cb_isi (bg "isinstance" (by decide)) (by decide +kernel) (a_cons (c_var 0) (a_cons (c_bty (bg "tuple" (by decide)) (by decide +kernel)) a_nil))))) (t_or (t_cmp (co_ne hu) (c_callB cb_len (bg "len" (by decide)) (by decide +kernel) (a_cons (c_var 0) a_nil)) c_int) (t_or (t_not (t_tru (c_callB cb_isi (bg "isinstance" (by decide)) (by decide +kernel) (a_cons (c_sub hu (c_var 0) c_int) (a_cons (c_bty (bg "str" (by decide)) (by decide +kernel)) a_nil))))) (t_or1 (t_cmp (co_ne hu) (c_sub hu (c_var 0) c_int) c_str)))))) (s_one (s_ret c_bl)) s_nil) (s_cons (s_if (CW.pt (t_or (t_not (t_tru (c_call c_is_poly hr (a_cons (c_sub hu (c_var 0) c_int) a_nil)))) (t_or (t_not (t_tru (c_call c_is_number hr (a_cons (c_sub hu (c_var 0) c_int) a_nil)))) (t_or (t_not (t_chain co_le co_le c_int (c_sub hu (c_var 0) c_int) c_int)) (t_or1 (t_cmp co_lt (c_sub hu (c_sub hu (c_var 0) c_int) c_int) c_int)))))) (s_one (s_ret c_bl)) s_nil) (s_cons (s_asg (c_sub hu (c_var 0) c_int) (g_tup rfl (gs_cons (g_name 1 nd) (gs_cons (g_name 2 nd) (gs_cons (g_name 3 nd) gs_nil))) (gsl_cons (gsl_cons (gsl_cons gsl_nil))))) (s_cons (s_set 4 nd (c_call c_common_divisor hr (a_cons (c_call c_common_divisor hr (a_cons (c_var 1) (a_cons (c_var 2) a_nil))) (a_cons (c_var 3) a_nil)))) (s_one (s_ret (c_and (c_cmp (co_eq hu) (c_var 4) c_int) (c_and (c_cmp co_gt (c_call c_inner hr (a_cons (c_sub hu (c_var 0) c_int) a_nil)) c_int) (c_one (c_not (c_call c_is_square hr (a_cons (c_call c_inner hr (a_cons (c_sub hu (c_var 0) c_int) a_nil)) a_nil))))))))))))
abbrev s_sign_of : Stmt := topS 5
abbrev N_sign_of : List Str := ["number"]
theorem sc_sign_of : FnScope N_sign_of ["number"] (defScope s_sign_of) := ⟨rfl, rfl, rfl, by decide +kernel, rfl, by decide +kernel, by decide +kernel⟩
set_option maxHeartbeats 0 in
theorem ok_sign_of (F : Fun K "sign_of" "sign_of" s_sign_of f fd) (bg : ∀ x, x ∈ blts → mg x = none) : FnOk P w K mg base CX0 (k + 1) f fd ["number"] (lF K f_sign_of) := by
  refine ok_def F sc_sign_of fun cdv A outer s H E hr => ?_
  have nd := (sc_sign_of).nd
  have hu : (A.deeper (envOfC "sign_of" (defScope s_sign_of) s.heap.objs.size f cdv)).units + 64 < cLine := hr.units
  unfold m_sign_of
  exact (s_one (s_ret (c_op co_sub (c_callTy cb_int (bg "int" (by decide)) (by decide +kernel) (a_cons (c_cmp co_gt (c_var 0) c_int) a_nil)) (c_callTy cb_int (bg "int" (by decide)) (by decide +kernel) (a_cons (c_cmp co_lt (c_var 0) c_int) a_nil)))))
abbrev s_sign_of_sum : Stmt := topS 18
abbrev N_sign_of_sum : List Str := ["plain", "many", "inside", "one", "other"]
theorem sc_sign_of_sum : FnScope N_sign_of_sum ["plain", "many", "inside"] (defScope s_sign_of_sum) := ⟨rfl, rfl, rfl, by decide +kernel, rfl, by decide +kernel, by decide +kernel⟩
set_option maxHeartbeats 0 in
theorem ok_sign_of_sum (F : Fun K "sign_of_sum" "sign_of_sum" s_sign_of_sum f fd) (bg : ∀ x, x ∈ blts → mg x = none) (c_sign_of : Cal P w K mg base k "sign_of" f_sign_of) : FnOk P w K mg base CX0 (k + 1) f fd ["plain", "many", "inside"] (lF K f_sign_of_sum) := by
  refine ok_def F sc_sign_of_sum fun cdv A outer s H E hr => ?_
  have nd := (sc_sign_of_sum).nd
  have hu : (A.deeper (envOfC "sign_of_sum" (defScope s_sign_of_sum) s.heap.objs.size f cdv)).units + 64 < cLine := hr.units
  unfold m_sign_of_sum
  exact (s_cons (s_set 3 nd (c_call c_sign_of hr (a_cons (c_var 0) a_nil))) (s_cons (s_set 4 nd (c_call c_sign_of hr (a_cons (c_var 1) a_nil))) (s_cons (s_if (t_cmp co_ge (c_op co_mul (c_var 3) (c_var 4)) c_int) (s_one (s_ret (c_call c_sign_of hr (a_cons (c_op co_add (c_var 3) (c_var 4)) a_nil)))) s_nil) (s_one (s_ret (c_op co_mul (c_var 3) (c_call c_sign_of hr (a_cons (c_op co_sub (c_op co_mul (c_var 0) (c_var 0)) (c_op co_mul (c_op co_mul (c_var 1) (c_var 1)) (c_var 2))) a_nil))))))))
abbrev s_is_time : Stmt := topS 17
abbrev N_is_time : List Str := ["thing"]
theorem sc_is_time : FnScope N_is_time ["thing"] (defScope s_is_time) := ⟨rfl, rfl, rfl, by decide +kernel, rfl, by decide +kernel, by decide +kernel⟩
set_option maxHeartbeats 0 in
theorem ok_is_time (F : Fun K "is_time" "is_time" s_is_time f fd) (bg : ∀ x, x ∈ blts → mg x = none) (c_is_fraction : Cal P w K mg base k "is_fraction" f_is_fraction) (c_is_root : Cal P w K mg base k "is_root" f_is_root) (c_inner : Cal P w K mg base k "inner" f_inner) (c_sign_of_sum : Cal P w K mg base k "sign_of_sum" f_sign_of_sum) : FnOk P w K mg base CX0 (k + 1) f fd ["thing"] (lF K f_is_time) := by
  refine ok_def F sc_is_time fun cdv A outer s H E hr => ?_
  have nd := (sc_is_time).nd
  have hu : (A.deeper (envOfC "is_time" (defScope s_is_time) s.heap.objs.size f cdv)).units + 64 < cLine := hr.units
  unfold m_is_time
  exact (s_cons (s_if (t_tru (c_call c_is_fraction hr (a_cons (c_var 0) a_nil))) (s_one (s_ret (c_cmp co_ge (c_sub hu (c_var 0) c_int) c_int))) s_nil) (s_one (s_ret (c_and (c_call c_is_root hr (a_cons (c_var 0) a_nil)) (c_one (c_cmp co_gt (c_call c_sign_of_sum hr (a_cons (c_op co_sub c_int (c_sub hu (c_sub hu (c_var 0) c_int) c_int)) (a_cons (c_op co_sub (c_op co_mul c_int (c_sub hu (c_var 0) c_int)) c_int) (a_cons (c_call c_inner hr (a_cons (c_sub hu (c_var 0) c_int) a_nil)) a_nil)))) c_int))))))
abbrev s_need_time : Stmt := topS 23
abbrev N_need_time : List Str := ["thing"]
theorem sc_need_time : FnScope N_need_time ["thing"] (defScope s_need_time) := ⟨rfl, rfl, rfl, by decide +kernel, rfl, by decide +kernel, by decide +kernel⟩
set_option maxHeartbeats 0 in
theorem ok_need_time (F : Fun K "need_time" "need_time" s_need_time f fd) (bg : ∀ x, x ∈ blts → mg x = none) (c_is_time : Cal P w K mg base k "is_time" f_is_time) : FnOk P w K mg base CX0 (k + 1) f fd ["thing"] (lF K f_need_time) := by
  refine ok_def F sc_need_time fun cdv A outer s H E hr => ?_
  have nd := (sc_need_time).nd
  have hu : (A.deeper (envOfC "need_time" (defScope s_need_time) s.heap.objs.size f cdv)).units + 64 < cLine := hr.units
  unfold m_need_time
  exact (s_one (s_if (t_not (t_tru (c_call c_is_time hr (a_cons (c_var 0) a_nil)))) (s_one s_stuck) s_nil))
abbrev s_way_of : Stmt := topS 25
abbrev N_way_of : List Str := ["thing", "name", "x", "y", "rows", "found", "since", "speed", "time", "across", "high", "place"]
theorem sc_way_of : FnScope N_way_of ["thing"] (defScope s_way_of) := ⟨rfl, rfl, rfl, by decide +kernel, rfl, by decide +kernel, by decide +kernel⟩
set_option maxHeartbeats 0 in
theorem ok_way_of (F : Fun K "way_of" "way_of" s_way_of f fd) (bg : ∀ x, x ∈ blts → mg x = none) : FnOk P w K mg base CX0 (k + 1) f fd ["thing"] (lF K f_way_of) := by
  refine ok_def F sc_way_of fun cdv A outer s H E hr => ?_
  have nd := (sc_way_of).nd
  have hu : (A.deeper (envOfC "way_of" (defScope s_way_of) s.heap.objs.size f cdv)).units + 64 < cLine := hr.units
  unfold m_way_of
  exact (s_cons (s_asg (c_var 0) (g_tup rfl (gs_cons (g_name 1 nd) (gs_cons (g_name 2 nd) (gs_cons (g_name 3 nd) (gs_cons (g_name 4 nd) gs_nil)))) (gsl_cons (gsl_cons (gsl_cons (gsl_cons gsl_nil)))))) (s_cons (s_set 5 nd (c_lst a_nil)) (s_cons (s_set 6 nd c_int) (s_cons (s_set 7 nd (c_tup (a_cons c_int (a_cons c_int a_nil)))) (s_cons (s_for PassesOwn.never rfl (i_seq (c_op co_add (c_var 4) (c_tup (a_cons (c_tup (a_cons c_non (a_cons c_int (a_cons c_int a_nil)))) a_nil)))) (g_tup rfl (gs_cons (g_name 8 nd) (gs_cons (g_name 9 nd) (gs_cons (g_name 10 nd) gs_nil))) (gsl_cons (gsl_cons (gsl_cons gsl_nil)))) (s_cons (s_if (CW.pt (t_or (t_cmp co_is (c_var 8) c_non) (t_or1 (t_cmp co_gt (c_var 8) (c_var 6))))) (s_cons (s_set 11 nd (c_tup (a_cons (c_tup (a_cons (c_op co_sub (c_var 2) (c_op co_mul (c_sub hu (c_var 7) c_int) (c_var 6))) (a_cons (c_sub hu (c_var 7) c_int) (a_cons c_int a_nil)))) (a_cons (c_tup (a_cons (c_op co_sub (c_var 3) (c_op co_mul (c_sub hu (c_var 7) c_int) (c_var 6))) (a_cons (c_sub hu (c_var 7) c_int) (a_cons c_int a_nil)))) a_nil)))) (s_one (s_expr (c_meth PySem.F.plainAttrs_list PySem.F.slot_list_append PySem.F.type_list_append cm_append (c_var 5) (a_cons (c_tup (a_cons (c_var 6) (a_cons (c_var 8) (a_cons (c_var 11) a_nil)))) a_nil))))) s_nil) (s_cons (s_if (t_cmp co_isNot (c_var 8) c_non) (s_cons (s_set 2 nd (c_op co_add (c_var 2) (c_op co_mul (c_sub hu (c_var 7) c_int) (c_op co_sub (c_var 8) (c_var 6))))) (s_cons (s_set 3 nd (c_op co_add (c_var 3) (c_op co_mul (c_sub hu (c_var 7) c_int) (c_op co_sub (c_var 8) (c_var 6))))) (s_one (s_set 6 nd (c_var 8))))) s_nil) (s_one (s_set 7 nd (c_tup (a_cons (c_var 9) (a_cons (c_var 10) a_nil)))))))) (s_one (s_ret (c_var 5))))))))
abbrev s_sign_at : Stmt := topS 19
abbrev N_sign_at : List Str := ["poly", "time", "above", "below", "sort", "quadratic", "which", "c", "b", "a", "plain", "many"]
theorem sc_sign_at : FnScope N_sign_at ["poly", "time"] (defScope s_sign_at) := ⟨rfl, rfl, rfl, by decide +kernel, rfl, by decide +kernel, by decide +kernel⟩
set_option maxHeartbeats 0 in
theorem ok_sign_at (F : Fun K "sign_at" "sign_at" s_sign_at f fd) (bg : ∀ x, x ∈ blts → mg x = none) (c_sign_of : Cal P w K mg base k "sign_of" f_sign_of) (c_inner : Cal P w K mg base k "inner" f_inner) (c_sign_of_sum : Cal P w K mg base k "sign_of_sum" f_sign_of_sum) : FnOk P w K mg base CX0 (k + 1) f fd ["poly", "time"] (lF K f_sign_at) := by
  refine ok_def F sc_sign_at fun cdv A outer s H E hr => ?_
  have nd := (sc_sign_at).nd
  have hu : (A.deeper (envOfC "sign_at" (defScope s_sign_at) s.heap.objs.size f cdv)).units + 64 < cLine := hr.units
  unfold m_sign_at
  exact (s_cons (s_if (t_cmp (co_ne hu) (c_sub hu (c_var 1) c_int) c_str) (s_cons (s_asg (c_var 1) (g_tup rfl (gs_cons (g_name 2 nd) (gs_cons (g_name 3 nd) gs_nil)) (gsl_cons (gsl_cons gsl_nil)))) (s_one (s_ret (c_call c_sign_of hr (a_cons (c_op co_add (c_op co_mul (c_op co_add (c_op co_mul (c_sub hu (c_var 0) c_int) (c_var 2)) (c_op co_mul (c_sub hu (c_var 0) c_int) (c_var 3))) (c_var 2)) (c_op co_mul (c_op co_mul (c_sub hu (c_var 0) c_int) (c_var 3)) (c_var 3))) a_nil))))) s_nil) (s_cons (s_asg (c_var 1) (g_tup rfl (gs_cons (g_name 4 nd) (gs_cons (g_name 5 nd) (gs_cons (g_name 6 nd) gs_nil))) (gsl_cons (gsl_cons (gsl_cons gsl_nil))))) (s_cons (s_asg (c_var 5) (g_tup rfl (gs_cons (g_name 7 nd) (gs_cons (g_name 8 nd) (gs_cons (g_name 9 nd) gs_nil))) (gsl_cons (gsl_cons (gsl_cons gsl_nil))))) (s_cons (s_set 10 nd (c_op co_sub (c_op co_mul (c_sub hu (c_var 0) c_int) (c_var 9)) (c_op co_mul (c_sub hu (c_var 0) c_int) (c_var 7)))) (s_cons (s_set 11 nd (c_op co_sub (c_op co_mul (c_sub hu (c_var 0) c_int) (c_var 9)) (c_op co_mul (c_sub hu (c_var 0) c_int) (c_var 8)))) (s_one (s_ret (c_call c_sign_of_sum hr (a_cons (c_op co_sub (c_op co_mul (c_op co_mul c_int (c_var 9)) (c_var 10)) (c_op co_mul (c_var 11) (c_var 8))) (a_cons (c_op co_mul (c_var 11) (c_op co_sub (c_op co_mul c_int (c_var 6)) c_int)) (a_cons (c_call c_inner hr (a_cons (c_var 5) a_nil)) a_nil)))))))))))
abbrev s_side_of : Stmt := topS 20
abbrev N_side_of : List Str := ["quadratic", "time"]
theorem sc_side_of : FnScope N_side_of ["quadratic", "time"] (defScope s_side_of) := ⟨rfl, rfl, rfl, by decide +kernel, rfl, by decide +kernel, by decide +kernel⟩
set_option maxHeartbeats 0 in
theorem ok_side_of (F : Fun K "side_of" "side_of" s_side_of f fd) (bg : ∀ x, x ∈ blts → mg x = none) (c_sign_at : Cal P w K mg base k "sign_at" f_sign_at) : FnOk P w K mg base CX0 (k + 1) f fd ["quadratic", "time"] (lF K f_side_of) := by
  refine ok_def F sc_side_of fun cdv A outer s H E hr => ?_
  have nd := (sc_side_of).nd
  have hu : (A.deeper (envOfC "side_of" (defScope s_side_of) s.heap.objs.size f cdv)).units + 64 < cLine := hr.units
  unfold m_side_of
  exact (s_one (s_ret (c_call c_sign_at hr (a_cons (c_tup (a_cons (c_sub hu (c_var 0) c_int) (a_cons (c_op co_mul c_int (c_sub hu (c_var 0) c_int)) (a_cons c_int a_nil)))) (a_cons (c_var 1) a_nil)))))
abbrev s_compare : Stmt := topS 21
abbrev N_compare : List Str := ["one", "other", "sort", "quadratic", "which", "side"]
theorem sc_compare : FnScope N_compare ["one", "other"] (defScope s_compare) := ⟨rfl, rfl, rfl, by decide +kernel, rfl, by decide +kernel, by decide +kernel⟩
set_option maxHeartbeats 0 in
theorem ok_compare (F : Fun K "compare" "compare" s_compare f fd) (bg : ∀ x, x ∈ blts → mg x = none) (c_sign_at : Cal P w K mg base k "sign_at" f_sign_at) (c_side_of : Cal P w K mg base k "side_of" f_side_of) : FnOk P w K mg base CX0 (k + 1) f fd ["one", "other"] (lF K f_compare) := by
  refine ok_def F sc_compare fun cdv A outer s H E hr => ?_
  have nd := (sc_compare).nd
  have hu : (A.deeper (envOfC "compare" (defScope s_compare) s.heap.objs.size f cdv)).units + 64 < cLine := hr.units
  unfold m_compare
  exact (s_cons (s_if (t_cmp (co_eq hu) (c_var 0) (c_var 1)) (s_one (s_ret c_int)) s_nil) (s_cons (s_if (t_cmp (co_ne hu) (c_sub hu (c_var 1) c_int) c_str) (s_one (s_ret (c_call c_sign_at hr (a_cons (c_tup (a_cons (c_op co_sub c_int (c_sub hu (c_var 1) c_int)) (a_cons (c_sub hu (c_var 1) c_int) (a_cons c_int a_nil)))) (a_cons (c_var 0) a_nil))))) s_nil) (s_cons (s_asg (c_var 1) (g_tup rfl (gs_cons (g_name 2 nd) (gs_cons (g_name 3 nd) (gs_cons (g_name 4 nd) gs_nil))) (gsl_cons (gsl_cons (gsl_cons gsl_nil))))) (s_cons (s_set 5 nd (c_op co_sub (c_op co_mul c_int (c_var 4)) c_int)) (s_cons (s_if (t_cmp (co_ne hu) (c_call c_side_of hr (a_cons (c_var 3) (a_cons (c_var 0) a_nil))) (c_var 5)) (s_one (s_ret (c_op co_sub c_int (c_var 5)))) s_nil) (s_one (s_ret (c_op co_mul (c_var 5) (c_call c_sign_at hr (a_cons (c_var 3) (a_cons (c_var 0) a_nil)))))))))))
abbrev s_place_in : Stmt := topS 26
abbrev N_place_in : List Str := ["thing", "time", "found", "since", "until", "place"]
theorem sc_place_in : FnScope N_place_in ["thing", "time"] (defScope s_place_in) := ⟨rfl, rfl, rfl, by decide +kernel, rfl, by decide +kernel, by decide +kernel⟩
set_option maxHeartbeats 0 in
theorem ok_place_in (F : Fun K "place_in" "place_in" s_place_in f fd) (bg : ∀ x, x ∈ blts → mg x = none) (c_way_of : Cal P w K mg base k "way_of" f_way_of) (c_compare : Cal P w K mg base k "compare" f_compare) : FnOk P w K mg base CX0 (k + 1) f fd ["thing", "time"] (lF K f_place_in) := by
  refine ok_def F sc_place_in fun cdv A outer s H E hr => ?_
  have nd := (sc_place_in).nd
  have hu : (A.deeper (envOfC "place_in" (defScope s_place_in) s.heap.objs.size f cdv)).units + 64 < cLine := hr.units
  unfold m_place_in
  exact (s_cons (s_set 2 nd c_non) (s_cons (s_for PassesOwn.never rfl (i_seq (c_call c_way_of hr (a_cons (c_var 0) a_nil))) (g_tup rfl (gs_cons (g_name 3 nd) (gs_cons (g_name 4 nd) (gs_cons (g_name 5 nd) gs_nil))) (gsl_cons (gsl_cons (gsl_cons gsl_nil)))) (s_one (s_if (CW.pt (t_or (t_cmp co_is (c_var 2) c_non) (t_or1 (t_cmp co_ge (c_call c_compare hr (a_cons (c_var 1) (a_cons (c_tup (a_cons (c_var 3) (a_cons c_int a_nil))) a_nil))) c_int)))) (s_one (s_set 2 nd (c_var 5))) s_nil))) (s_one (s_ret (c_var 2)))))
abbrev s_fraction : Stmt := topS 9
abbrev N_fraction : List Str := ["above", "below", "divisor"]
theorem sc_fraction : FnScope N_fraction ["above", "below"] (defScope s_fraction) := ⟨rfl, rfl, rfl, by decide +kernel, rfl, by decide +kernel, by decide +kernel⟩
set_option maxHeartbeats 0 in
theorem ok_fraction (F : Fun K "fraction" "fraction" s_fraction f fd) (bg : ∀ x, x ∈ blts → mg x = none) (c_common_divisor : Cal P w K mg base k "common_divisor" f_common_divisor) (c_sign_of : Cal P w K mg base k "sign_of" f_sign_of) : FnOk P w K mg base CX0 (k + 1) f fd ["above", "below"] (lF K f_fraction) := by
  refine ok_def F sc_fraction fun cdv A outer s H E hr => ?_
  have nd := (sc_fraction).nd
  have hu : (A.deeper (envOfC "fraction" (defScope s_fraction) s.heap.objs.size f cdv)).units + 64 < cLine := hr.units
  unfold m_fraction
  exact (s_cons (s_set 2 nd (c_op co_mul (c_call c_common_divisor hr (a_cons (c_var 0) (a_cons (c_var 1) a_nil))) (c_call c_sign_of hr (a_cons (c_var 1) a_nil)))) (s_one (s_ret (c_tup (a_cons (c_op co_fdiv (c_var 0) (c_var 2)) (a_cons (c_op co_fdiv (c_var 1) (c_var 2)) a_nil))))))
abbrev s_value_at : Stmt := topS 13
abbrev N_value_at : List Str := ["poly", "number", "above", "below", "c", "b", "a"]
theorem sc_value_at : FnScope N_value_at ["poly", "number"] (defScope s_value_at) := ⟨rfl, rfl, rfl, by decide +kernel, rfl, by decide +kernel, by decide +kernel⟩
set_option maxHeartbeats 0 in
theorem ok_value_at (F : Fun K "value_at" "value_at" s_value_at f fd) (bg : ∀ x, x ∈ blts → mg x = none) (c_fraction : Cal P w K mg base k "fraction" f_fraction) : FnOk P w K mg base CX0 (k + 1) f fd ["poly", "number"] (lF K f_value_at) := by
  refine ok_def F sc_value_at fun cdv A outer s H E hr => ?_
  have nd := (sc_value_at).nd
  have hu : (A.deeper (envOfC "value_at" (defScope s_value_at) s.heap.objs.size f cdv)).units + 64 < cLine := hr.units
  unfold m_value_at
  exact (s_cons (s_asg (c_var 1) (g_tup rfl (gs_cons (g_name 2 nd) (gs_cons (g_name 3 nd) gs_nil)) (gsl_cons (gsl_cons gsl_nil)))) (s_cons (s_asg (c_var 0) (g_tup rfl (gs_cons (g_name 4 nd) (gs_cons (g_name 5 nd) (gs_cons (g_name 6 nd) gs_nil))) (gsl_cons (gsl_cons (gsl_cons gsl_nil))))) (s_one (s_ret (c_call c_fraction hr (a_cons (c_op co_add (c_op co_add (c_op co_mul (c_op co_mul (c_var 4) (c_var 3)) (c_var 3)) (c_op co_mul (c_op co_mul (c_var 5) (c_var 2)) (c_var 3))) (c_op co_mul (c_op co_mul (c_var 6) (c_var 2)) (c_var 2))) (a_cons (c_op co_mul (c_var 3) (c_var 3)) a_nil)))))))
abbrev s_place_at : Stmt := topS 27
abbrev N_place_at : List Str := ["world", "name", "time", "thing", "found"]
theorem sc_place_at : FnScope N_place_at ["world", "name", "time"] (defScope s_place_at) := ⟨rfl, rfl, rfl, by decide +kernel, rfl, by decide +kernel, by decide +kernel⟩
set_option maxHeartbeats 0 in
theorem ok_place_at (F : Fun K "place_at" "place_at" s_place_at f fd) (bg : ∀ x, x ∈ blts → mg x = none) (c_thing_of : Cal P w K mg base k "thing_of" f_thing_of) (c_need_time : Cal P w K mg base k "need_time" f_need_time) (c_place_in : Cal P w K mg base k "place_in" f_place_in) (c_value_at : Cal P w K mg base k "value_at" f_value_at) : FnOk P w K mg base CX0 (k + 1) f fd ["world", "name", "time"] (lF K f_place_at) := by
  refine ok_def F sc_place_at fun cdv A outer s H E hr => ?_
  have nd := (sc_place_at).nd
  have hu : (A.deeper (envOfC "place_at" (defScope s_place_at) s.heap.objs.size f cdv)).units + 64 < cLine := hr.units
  unfold m_place_at
  exact (s_cons (s_set 3 nd (c_call c_thing_of hr (a_cons (c_var 0) (a_cons (c_var 1) a_nil)))) (s_cons (s_expr (c_call c_need_time hr (a_cons (c_var 2) a_nil))) (s_cons (s_set 4 nd (c_call c_place_in hr (a_cons (c_var 3) (a_cons (c_var 2) a_nil)))) (s_cons (s_if (t_cmp (co_eq hu) (c_sub hu (c_var 2) c_int) c_str) (s_one (s_ret (c_var 4))) s_nil) (s_one (s_ret (c_tup (a_cons (c_call c_value_at hr (a_cons (c_sub hu (c_var 4) c_int) (a_cons (c_var 2) a_nil))) (a_cons (c_call c_value_at hr (a_cons (c_sub hu (c_var 4) c_int) (a_cons (c_var 2) a_nil))) a_nil)))))))))
abbrev s__law_order : Stmt := topS 45
abbrev N__law_order : List Str := ["_law_one", "_law_other", "_law_low", "_law_mid", "_law_top", "_law_least", "_law_middle", "_law_most", "_law_plain", "_law_mine", "_law_its", "_law_inside", "_law_further", "_law_left", "_law_right", "_law_rest"]
theorem sc__law_order : FnScope N__law_order ["_law_one", "_law_other"] (defScope s__law_order) := ⟨rfl, rfl, rfl, by decide +kernel, rfl, by decide +kernel, by decide +kernel⟩
set_option maxHeartbeats 0 in
theorem ok__law_order (F : Fun K "_law_order" "_law_order" s__law_order f fd) (bg : ∀ x, x ∈ blts → mg x = none) (c__law_sign : Cal P w K mg base k "_law_sign" f__law_sign) (c__law_sum_sign : Cal P w K mg base k "_law_sum_sign" f__law_sum_sign) : FnOk P w K mg base CX0 (k + 1) f fd ["_law_one", "_law_other"] (lF K f__law_order) := by
  refine ok_def F sc__law_order fun cdv A outer s H E hr => ?_
  have nd := (sc__law_order).nd
  have hu : (A.deeper (envOfC "_law_order" (defScope s__law_order) s.heap.objs.size f cdv)).units + 64 < cLine := hr.units
  unfold m__law_order
  exact (s_cons (s_if (t_cmp (co_ne hu) (c_sub hu (c_var 0) c_int) c_str) (s_one (s_ret (c_call c__law_sign hr (a_cons (c_tup (a_cons (c_sub hu (c_var 0) c_int) (a_cons (c_op co_sub c_int (c_sub hu (c_var 0) c_int)) (a_cons c_int a_nil)))) (a_cons (c_var 1) a_nil))))) s_nil) (s_cons (s_if (t_cmp (co_ne hu) (c_sub hu (c_var 1) c_int) c_str) (s_one (s_ret (c_call c__law_sign hr (a_cons (c_tup (a_cons (c_op co_sub c_int (c_sub hu (c_var 1) c_int)) (a_cons (c_sub hu (c_var 1) c_int) (a_cons c_int a_nil)))) (a_cons (c_var 0) a_nil))))) s_nil) (s_cons (s_asg (c_sub hu (c_var 0) c_int) (g_tup rfl (gs_cons (g_name 2 nd) (gs_cons (g_name 3 nd) (gs_cons (g_name 4 nd) gs_nil))) (gsl_cons (gsl_cons (gsl_cons gsl_nil))))) (s_cons (s_asg (c_sub hu (c_var 1) c_int) (g_tup rfl (gs_cons (g_name 5 nd) (gs_cons (g_name 6 nd) (gs_cons (g_name 7 nd) gs_nil))) (gsl_cons (gsl_cons (gsl_cons gsl_nil))))) (s_cons (s_set 8 nd (c_op co_sub (c_op co_mul (c_var 6) (c_var 4)) (c_op co_mul (c_var 3) (c_var 7)))) (s_cons (s_set 9 nd (c_op co_mul (c_op co_sub (c_op co_mul c_int (c_sub hu (c_var 0) c_int)) c_int) (c_var 7))) (s_cons (s_set 10 nd (c_op co_mul (c_op co_sub (c_op co_mul c_int (c_sub hu (c_var 1) c_int)) c_int) (c_var 4))) (s_cons (s_set 11 nd (c_op co_sub (c_op co_mul (c_var 3) (c_var 3)) (c_op co_mul (c_op co_mul c_int (c_var 2)) (c_var 4)))) (s_cons (s_set 12 nd (c_op co_sub (c_op co_mul (c_var 6) (c_var 6)) (c_op co_mul (c_op co_mul c_int (c_var 5)) (c_var 7)))) (s_cons (s_set 13 nd (c_call c__law_sum_sign hr (a_cons (c_var 8) (a_cons (c_var 9) (a_cons (c_var 11) a_nil))))) (s_cons (s_set 14 nd (c_op co_sub (c_callTy cb_int (bg "int" (by decide)) (by decide +kernel) (a_cons (c_cmp co_gt (c_var 10) c_int) a_nil)) (c_callTy cb_int (bg "int" (by decide)) (by decide +kernel) (a_cons (c_cmp co_lt (c_var 10) c_int) a_nil)))) (s_cons (s_if (t_cmp (co_ne hu) (c_var 13) (c_var 14)) (s_one (s_ret (c_op co_sub (c_callTy cb_int (bg "int" (by decide)) (by decide +kernel) (a_cons (c_cmp co_gt (c_var 13) (c_var 14)) a_nil)) (c_callTy cb_int (bg "int" (by decide)) (by decide +kernel) (a_cons (c_cmp co_lt (c_var 13) (c_var 14)) a_nil))))) s_nil) (s_cons (s_set 15 nd (c_op co_sub (c_op co_add (c_op co_mul (c_var 8) (c_var 8)) (c_op co_mul (c_op co_mul (c_var 9) (c_var 9)) (c_var 11))) (c_op co_mul (c_op co_mul (c_var 10) (c_var 10)) (c_var 12)))) (s_cons (s_if (t_cmp (co_eq hu) (c_var 8) c_int) (s_one (s_ret (c_op co_mul (c_var 13) (c_op co_sub (c_callTy cb_int (bg "int" (by decide)) (by decide +kernel) (a_cons (c_cmp co_gt (c_var 15) c_int) a_nil)) (c_callTy cb_int (bg "int" (by decide)) (by decide +kernel) (a_cons (c_cmp co_lt (c_var 15) c_int) a_nil)))))) s_nil) (s_one (s_ret (c_op co_mul (c_var 13) (c_call c__law_sum_sign hr (a_cons (c_var 15) (a_cons (c_op co_mul (c_op co_mul c_int (c_var 8)) (c_var 9)) (a_cons (c_var 11) a_nil)))))))))))))))))))))
abbrev s__law_place : Stmt := topS 40
abbrev N__law_place : List Str := ["_law_thing", "_law_time", "_law_x", "_law_y", "_law_rows_here", "_law_k", "_law_start", "_law_across", "_law_high", "_law_until", "_law_gone"]
theorem sc__law_place : FnScope N__law_place ["_law_thing", "_law_time"] (defScope s__law_place) := ⟨rfl, rfl, rfl, by decide +kernel, rfl, by decide +kernel, by decide +kernel⟩
set_option maxHeartbeats 0 in
theorem ok__law_place (F : Fun K "_law_place" "_law_place" s__law_place f fd) (bg : ∀ x, x ∈ blts → mg x = none) : FnOk P w K mg base CX0 (k + 1) f fd ["_law_thing", "_law_time"] (lF K f__law_place) := by
  refine ok_def F sc__law_place fun cdv A outer s H E hr => ?_
  have nd := (sc__law_place).nd
  have hu : (A.deeper (envOfC "_law_place" (defScope s__law_place) s.heap.objs.size f cdv)).units + 64 < cLine := hr.units
  unfold m__law_place
  exact (s_cons (s_asg (c_slice (c_var 0) (o_some c_int) o_none) (g_tup rfl (gs_cons (g_name 2 nd) (gs_cons (g_name 3 nd) (gs_cons (g_name 4 nd) gs_nil))) (gsl_cons (gsl_cons (gsl_cons gsl_nil))))) (s_cons (s_for PassesOwn.never rfl (i_enumV (bg "enumerate" (by decide)) (a_cons (c_var 4) a_nil)) (g_tup rfl (gs_cons (g_name 5 nd) (gs_cons (g_tup rfl (gs_cons (g_name 6 nd) (gs_cons (g_name 7 nd) (gs_cons (g_name 8 nd) gs_nil))) (gsl_cons (gsl_cons (gsl_cons gsl_nil)))) gs_nil)) (gsl_cons (gsl_cons gsl_nil))) (s_cons (s_set 9 nd (c_if (t_cmp co_lt (c_op co_add (c_var 5) c_int) (c_callB cb_len (bg "len" (by decide)) (by decide +kernel) (a_cons (c_var 4) a_nil))) (c_sub hu (c_sub hu (c_var 4) (c_op co_add (c_var 5) c_int)) c_int) (c_var 1))) (s_cons (s_set 10 nd (c_callB (cb_max rfl) (bg "max" (by decide)) (by decide +kernel) (a_cons c_int (a_cons (c_op co_sub (c_callB (cb_min rfl) (bg "min" (by decide)) (by decide +kernel) (a_cons (c_var 9) (a_cons (c_var 1) a_nil))) (c_var 6)) a_nil)))) (s_cons (s_set 2 nd (c_op co_add (c_var 2) (c_op co_mul (c_var 7) (c_var 10)))) (s_one (s_set 3 nd (c_op co_add (c_var 3) (c_op co_mul (c_var 8) (c_var 10))))))))) (s_one (s_ret (c_tup (a_cons (c_var 2) (a_cons (c_var 3) a_nil)))))))
abbrev s__law_lines : Stmt := topS 42
abbrev N__law_lines : List Str := ["_law_thing", "_law_since", "_law_speed", "_law_x", "_law_y", "_law_row"]
theorem sc__law_lines : FnScope N__law_lines ["_law_thing", "_law_since"] (defScope s__law_lines) := ⟨rfl, rfl, rfl, by decide +kernel, rfl, by decide +kernel, by decide +kernel⟩
set_option maxHeartbeats 0 in
theorem ok__law_lines (F : Fun K "_law_lines" "_law_lines" s__law_lines f fd) (bg : ∀ x, x ∈ blts → mg x = none) (c__law_place : Cal P w K mg base k "_law_place" f__law_place) : FnOk P w K mg base CX0 (k + 1) f fd ["_law_thing", "_law_since"] (lF K f__law_lines) := by
  refine ok_def F sc__law_lines fun cdv A outer s H E hr => ?_
  have nd := (sc__law_lines).nd
  have hu : (A.deeper (envOfC "_law_lines" (defScope s__law_lines) s.heap.objs.size f cdv)).units + 64 < cLine := hr.units
  unfold m__law_lines
  exact (s_cons (s_set 2 nd (c_slice (c_sub hu (c_op co_add (c_lst (a_cons (c_tup (a_cons c_int (a_cons c_int (a_cons c_int a_nil)))) a_nil)) (c_lcv rfl nd (i_seq (c_sub hu (c_var 0) c_int)) (blkOk_by (own := [("_law_row", 5)]) (N := N__law_lines) (sc := defScope s__law_lines) (by decide +kernel)) (by decide) (fun _ _ _ _ _ => (g_name 5 nd)) (fun _ _ _ _ _ => (ts_one (t_cmp co_le (c_sub hu (c_var 5) c_int) (c_var 1)))) (fun _ _ _ _ _ => (c_var 5)))) (c_neg c_int)) (o_some c_int) o_none)) (s_cons (s_asg (c_call c__law_place hr (a_cons (c_var 0) (a_cons (c_var 1) a_nil))) (g_tup rfl (gs_cons (g_name 3 nd) (gs_cons (g_name 4 nd) gs_nil)) (gsl_cons (gsl_cons gsl_nil)))) (s_one (s_ret (c_tup (a_cons (c_tup (a_cons (c_op co_sub (c_var 3) (c_op co_mul (c_sub hu (c_var 2) c_int) (c_var 1))) (a_cons (c_sub hu (c_var 2) c_int) (a_cons c_int a_nil)))) (a_cons (c_tup (a_cons (c_op co_sub (c_var 4) (c_op co_mul (c_sub hu (c_var 2) c_int) (c_var 1))) (a_cons (c_sub hu (c_var 2) c_int) (a_cons c_int a_nil)))) a_nil)))))))
abbrev s__law_lowest : Stmt := topS 51
abbrev N__law_lowest : List Str := ["_law_above", "_law_below", "_law_part"]
theorem sc__law_lowest : FnScope N__law_lowest ["_law_above", "_law_below"] (defScope s__law_lowest) := ⟨rfl, rfl, rfl, by decide +kernel, rfl, by decide +kernel, by decide +kernel⟩
set_option maxHeartbeats 0 in
theorem ok__law_lowest (F : Fun K "_law_lowest" "_law_lowest" s__law_lowest f fd) (bg : ∀ x, x ∈ blts → mg x = none) (c__law_common : Cal P w K mg base k "_law_common" f__law_common) : FnOk P w K mg base CX0 (k + 1) f fd ["_law_above", "_law_below"] (lF K f__law_lowest) := by
  refine ok_def F sc__law_lowest fun cdv A outer s H E hr => ?_
  have nd := (sc__law_lowest).nd
  have hu : (A.deeper (envOfC "_law_lowest" (defScope s__law_lowest) s.heap.objs.size f cdv)).units + 64 < cLine := hr.units
  unfold m__law_lowest
  exact (s_cons (s_set 2 nd (c_call c__law_common hr (a_cons (c_tup (a_cons (c_var 0) (a_cons (c_var 1) a_nil))) a_nil))) (s_one (s_ret (c_tup (a_cons (c_op co_fdiv (c_var 0) (c_var 2)) (a_cons (c_op co_fdiv (c_var 1) (c_var 2)) a_nil))))))
abbrev s__law_where : Stmt := topS 52
abbrev N__law_where : List Str := ["_law_thing", "_law_time", "_law_begin", "_law_above", "_law_below", "_law_floor", "_law_lines_here", "_law_since", "_law_line"]
theorem sc__law_where : FnScope N__law_where ["_law_thing", "_law_time"] (defScope s__law_where) := ⟨rfl, rfl, rfl, by decide +kernel, rfl, by decide +kernel, by decide +kernel⟩
set_option maxHeartbeats 0 in
theorem ok__law_where (F : Fun K "_law_where" "_law_where" s__law_where f fd) (bg : ∀ x, x ∈ blts → mg x = none) (c__law_begins : Cal P w K mg base k "_law_begins" f__law_begins) (c__law_order : Cal P w K mg base k "_law_order" f__law_order) (c__law_lines : Cal P w K mg base k "_law_lines" f__law_lines) (c__law_lowest : Cal P w K mg base k "_law_lowest" f__law_lowest) : FnOk P w K mg base CX0 (k + 1) f fd ["_law_thing", "_law_time"] (lF K f__law_where) := by
  refine ok_def F sc__law_where fun cdv A outer s H E hr => ?_
  have nd := (sc__law_where).nd
  have hu : (A.deeper (envOfC "_law_where" (defScope s__law_where) s.heap.objs.size f cdv)).units + 64 < cLine := hr.units
  unfold m__law_where
  exact (s_cons (s_if (t_cmp (co_eq hu) (c_sub hu (c_var 1) c_int) c_str) (s_cons (s_set 2 nd (c_sub hu (c_lcv rfl nd (i_seq (c_call c__law_begins hr (a_cons (c_lst (a_cons (c_var 0) a_nil)) a_nil))) (blkOk_by (own := [("_law_since", 7)]) (N := N__law_where) (sc := defScope s__law_where) (by decide +kernel)) (by decide) (fun _ _ _ _ _ => (g_name 7 nd)) (fun _ _ _ _ _ => (ts_one (t_cmp co_lt (c_call c__law_order hr (a_cons (c_tup (a_cons (c_var 7) (a_cons c_int a_nil))) (a_cons (c_var 1) a_nil))) c_int))) (fun _ _ _ _ _ => (c_var 7))) (c_neg c_int))) (s_one (s_ret (c_call c__law_lines hr (a_cons (c_var 0) (a_cons (c_var 2) a_nil)))))) s_nil) (s_cons (s_asg (c_var 1) (g_tup rfl (gs_cons (g_name 3 nd) (gs_cons (g_name 4 nd) gs_nil)) (gsl_cons (gsl_cons gsl_nil)))) (s_cons (s_set 5 nd (c_op co_fdiv (c_var 3) (c_var 4))) (s_cons (s_set 6 nd (c_call c__law_lines hr (a_cons (c_var 0) (a_cons (c_var 5) a_nil)))) (s_one (s_ret (c_callTy cb_tuple (bg "tuple" (by decide)) (by decide +kernel) (a_cons (c_lcv rfl nd (i_seq (c_var 6)) (blkOk_by (own := [("_law_line", 8)]) (N := N__law_where) (sc := defScope s__law_where) (by decide +kernel)) (by decide) (fun _ _ _ _ _ => (g_name 8 nd)) (fun _ _ _ _ _ => ts_nil) (fun _ _ _ _ _ => (c_call c__law_lowest hr (a_cons (c_op co_add (c_op co_mul (c_sub hu (c_var 8) c_int) (c_var 4)) (c_op co_mul (c_sub hu (c_var 8) c_int) (c_var 3))) (a_cons (c_var 4) a_nil))))) a_nil))))))))
abbrev s_law : Stmt := topS 53
abbrev N_law : List Str := ["_law_script", "_law_m", "_law_things_here", "_law_world", "_law_distance_here", "_law_begins_here", "_law_times", "_law_time", "_law_thing", "_law_again", "_law_k", "_law_begin"]
theorem sc_law : FnScope N_law ["_law_script"] (defScope s_law) := ⟨rfl, rfl, rfl, by decide +kernel, rfl, by decide +kernel, by decide +kernel⟩
set_option maxHeartbeats 0 in
theorem ok_law {A : Around} (hA : A.guards = some []) (F : Fun K "law" "law" s_law f fd) (bg : ∀ x, x ∈ blts → mg x = none) (c__law_started : Cal P w K mg base k "_law_started" f__law_started) (c__law_worlds : Cal P w K mg base k "_law_worlds" f__law_worlds) (c__law_begins : Cal P w K mg base k "_law_begins" f__law_begins) (c__law_a_time : Cal P w K mg base k "_law_a_time" f__law_a_time) (c_place_at : Cal P w K mg base k "place_at" f_place_at) (c__law_where : Cal P w K mg base k "_law_where" f__law_where) : FnAt A P w K mg base (k + 1) f fd ["_law_script"] (lF K f_law) := by
  refine at_def F sc_law fun cdv outer s H E hr => ?_
  have nd := (sc_law).nd
  have hu : (A.deeper (envOfC "law" (defScope s_law) s.heap.objs.size f cdv)).units + 64 < cLine := hr.units
  have hg : (A.deeper (envOfC "law" (defScope s_law) s.heap.objs.size f cdv)).guards = some [] := hA
  unfold m_law
  exact (s_cons (s_set 1 nd (c_call c__law_started hr (a_cons (c_var 0) a_nil))) (s_cons (s_asg (c_call c__law_worlds hr (a_cons (c_var 1) (a_cons c_int a_nil))) (g_tup rfl (gs_cons (g_name 2 nd) (gs_cons (g_name 3 nd) (gs_cons (g_name 4 nd) gs_nil))) (gsl_cons (gsl_cons (gsl_cons gsl_nil))))) (s_cons (s_set 5 nd (c_call c__law_begins hr (a_cons (c_var 2) a_nil))) (s_cons (s_setLcv 6 rfl nd (i_range1 (bg "range" (by decide)) (a_cons c_int a_nil)) (blkOk_by (own := [("_law_k", 10)]) (N := N_law) (sc := defScope s_law) (by decide +kernel)) (by decide) (fun _ _ _ _ _ => (g_name 10 nd)) (fun _ _ _ _ _ => ts_nil) (fun _ _ _ _ _ => (c_call c__law_a_time hr (a_cons (c_var 1) a_nil))) (sw_true rfl rfl rfl (by decide +kernel))) (s_cons (s_set 6 nd (c_op co_add (c_op co_add (c_var 6) (c_lcv rfl nd (i_seq (c_slice (c_var 5) o_none (o_some c_int))) (blkOk_by (own := [("_law_begin", 11)]) (N := N_law) (sc := defScope s_law) (by decide +kernel)) (by decide) (fun _ _ _ _ _ => (g_name 11 nd)) (fun _ _ _ _ _ => ts_nil) (fun _ _ _ _ _ => (c_tup (a_cons (c_var 11) (a_cons c_int a_nil)))))) (c_lcv rfl nd (i_seq (c_slice (c_var 5) o_none (o_some c_int))) (blkOk_by (own := [("_law_begin", 11)]) (N := N_law) (sc := defScope s_law) (by decide +kernel)) (by decide) (fun _ _ _ _ _ => (g_name 11 nd)) (fun _ _ _ _ _ => ts_nil) (fun _ _ _ _ _ => (c_tup (a_cons (c_op co_add (c_op co_mul c_int (c_var 11)) c_int) (a_cons c_int a_nil))))))) (s_cons (s_for PassesOwn.never rfl (i_seq (c_var 6)) (g_name 7 nd) (s_one (s_for PassesOwn.never rfl (i_seq (c_var 2)) (g_name 8 nd) (s_one (s_for PassesOwn.never rfl (i_range1 (bg "range" (by decide)) (a_cons c_int a_nil)) (g_name 9 nd) (s_one (s_if (t_cmp (co_ne hu) (c_callB (cb_repr hg hu) (bg "repr" (by decide)) (by decide +kernel) (a_cons (c_call c_place_at hr (a_cons (c_var 3) (a_cons (c_sub hu (c_var 8) c_int) (a_cons (c_var 7) a_nil)))) a_nil)) (c_callB (cb_repr hg hu) (bg "repr" (by decide)) (by decide +kernel) (a_cons (c_call c__law_where hr (a_cons (c_var 8) (a_cons (c_var 7) a_nil))) a_nil))) (s_one (s_ret c_bl)) s_nil))))))) (s_one (s_ret c_bl))))))))
end
end K22
namespace SL
open PySem PySem.Spec PyProof.Rows L2
/-! ### loops, one turn at a time -/
section
variable {t : MT} {m : MS} {ρ ρ1 ρ2 : Rho} {h h1 h2 : Hs} {src : Src} {g : GG} {d : D} {i : Nat} {mi : MI} {tt : MT} {te : ME} {vs : List Nat} {acc : List D}
noncomputable def whK2 (t : MT) (m : MS) (r : Out × Rho) (h : Hs) : Option ((Out × Rho) × Hs) := match r with
  | (.nx, ρ2) => sWh t m ρ2 h
  | (.ct, ρ2) => sWh t m ρ2 h
  | (.bk, ρ2) => some ((.nx, ρ2), h)
  | (.rt d, ρ2) => some ((.rt d, ρ2), h)
noncomputable def whK (t : MT) (m : MS) (ρ : Rho) (k : Bool) (h : Hs) : Option ((Out × Rho) × Hs) := if k = true then bd (m ρ h) (whK2 t m) else some ((.nx, ρ), h)
theorem wh_eq : sWh t m ρ h = bd (t ρ h) (whK t m ρ) := by
  unfold sWh
  rw [itW_eq]
  unfold whStep
  simp only
  cases z : t ρ h with
  | none => rfl
  | some r =>
    obtain ⟨k, h1⟩ := r
    cases k with
    | false => rfl
    | true =>
      simp only [bd_ok, whK, if_true]
      cases z2 : m ρ h1 with
      | none => rfl
      | some r =>
        obtain ⟨⟨o, ρ2⟩, h2⟩ := r
        cases o <;> rfl
theorem ev_whT : whK t m ρ true h = bd (m ρ h) (whK2 t m) := rfl
theorem ev_whF : whK t m ρ false h = some ((.nx, ρ), h) := rfl
theorem ev_whD {p : Prop} [Decidable p] : whK t m ρ (decide p) h = if p then bd (m ρ h) (whK2 t m) else some ((.nx, ρ), h) := by unfold whK; by_cases q : p <;> simp [q]
theorem ev_wh2 : whK2 t m (.nx, ρ) h = sWh t m ρ h := rfl
theorem ev_wh2c : whK2 t m (.ct, ρ) h = sWh t m ρ h := rfl
theorem ev_wh2r : whK2 t m (.rt d, ρ) h = some ((.rt d, ρ), h) := rfl
theorem ev_wh2b : whK2 t m (.bk, ρ) h = some ((.nx, ρ), h) := rfl
noncomputable def frW (src : Src) (g : GG) (m : MS) (i : Nat) (ρ : Rho) (h : Hs) : Option ((Out × Rho) × Hs) := itW (frStep src g m) (i, ρ, h)
noncomputable def frK2 (src : Src) (g : GG) (m : MS) (i : Nat) (r : Out × Rho) (h : Hs) : Option ((Out × Rho) × Hs) := match r with
  | (.nx, ρ2) => frW src g m (i + 1) ρ2 h
  | (.ct, ρ2) => frW src g m (i + 1) ρ2 h
  | (.bk, ρ2) => some ((.nx, ρ2), h)
  | (.rt d, ρ2) => some ((.rt d, ρ2), h)
noncomputable def frK1 (src : Src) (g : GG) (m : MS) (i : Nat) (ρ : Rho) (h : Hs) : Option ((Out × Rho) × Hs) := bd (m ρ h) (frK2 src g m i)
noncomputable def forK (g : GG) (m : MS) (ρ : Rho) (src : Src) (h : Hs) : Option ((Out × Rho) × Hs) := frW src g m 0 ρ h
theorem ev_for : sFor mi g m ρ h = bd (mi ρ h) (forK g m ρ) := by
  unfold sFor
  cases mi ρ h with
  | none => rfl
  | some p => rfl
theorem ev_forK : forK g m ρ src h = frW src g m 0 ρ h := rfl
theorem fr_end (e : src i h = some none) : frW src g m i ρ h = some ((.nx, ρ), h) := by
  unfold frW
  rw [itW_eq]
  unfold frStep
  simp only [e]
theorem fr_turn (e : src i h = some (some d)) : frW src g m i ρ h = bd (g d ρ h) (frK1 src g m i) := by
  unfold frW
  rw [itW_eq]
  unfold frStep
  simp only [e]
  cases z : g d ρ h with
  | none => rfl
  | some r =>
    obtain ⟨ρ1, h1⟩ := r
    simp only [bd_ok, frK1]
    cases z2 : m ρ1 h1 with
    | none => rfl
    | some r =>
      obtain ⟨⟨o, ρ2⟩, h2⟩ := r
      cases o <;> rfl
theorem ev_fr1 : frK1 src g m i ρ h = bd (m ρ h) (frK2 src g m i) := rfl
theorem ev_fr2 : frK2 src g m i (.nx, ρ) h = frW src g m (i + 1) ρ h := rfl
theorem ev_fr2c : frK2 src g m i (.ct, ρ) h = frW src g m (i + 1) ρ h := rfl
theorem ev_fr2r : frK2 src g m i (.rt d, ρ) h = some ((.rt d, ρ), h) := rfl
theorem ev_fr2b : frK2 src g m i (.bk, ρ) h = some ((.nx, ρ), h) := rfl
/-! comprehensions -/
noncomputable def lcW (src : Src) (g : GG) (tt : MT) (te : ME) (ρ : Rho) (i : Nat) (acc : List D) (h : Hs) : Option (List D × Hs) := itW (lcStep src g tt te ρ) (i, acc, h)
noncomputable def lcK (g : GG) (tt : MT) (te : ME) (vs : List Nat) (ρ : Rho) (src : Src) (h : Hs) : Option (D × Hs) := bd (lcW src g tt te (wipeR ρ vs) 0 [] h) lstK
theorem ev_lc : eLc mi g tt te vs ρ h = bd (mi ρ h) (lcK g tt te vs ρ) := by
  unfold eLc
  cases mi ρ h with
  | none => rfl
  | some p =>
    obtain ⟨src, h1⟩ := p
    simp only [bd_ok, lcK, lcW]
    cases itW (lcStep src g tt te (wipeR ρ vs)) (0, [], h1) with
    | none => rfl
    | some q => rfl
theorem ev_lcK : lcK g tt te vs ρ src h = bd (lcW src g tt te (wipeR ρ vs) 0 [] h) lstK := rfl
noncomputable def lcK3 (src : Src) (g : GG) (tt : MT) (te : ME) (ρ : Rho) (i : Nat) (acc : List D) (y : D) (h : Hs) : Option (List D × Hs) := if acc.length < sizeLine then lcW src g tt te ρ (i + 1) (acc ++ [y]) h else none
noncomputable def lcK2 (src : Src) (g : GG) (tt : MT) (te : ME) (ρ : Rho) (i : Nat) (acc : List D) (ρ1 : Rho) (k : Bool) (h : Hs) : Option (List D × Hs) := if k = true then bd (te ρ1 h) (lcK3 src g tt te ρ i acc) else lcW src g tt te ρ (i + 1) acc h
noncomputable def lcK1 (src : Src) (g : GG) (tt : MT) (te : ME) (ρ : Rho) (i : Nat) (acc : List D) (ρ1 : Rho) (h : Hs) : Option (List D × Hs) := bd (tt ρ1 h) (lcK2 src g tt te ρ i acc ρ1)
theorem lc_end (e : src i h = some none) : lcW src g tt te ρ i acc h = some (acc, h) := by
  unfold lcW
  rw [itW_eq]
  unfold lcStep
  simp only [e]
theorem lc_turn (e : src i h = some (some d)) : lcW src g tt te ρ i acc h = bd (g d ρ h) (lcK1 src g tt te ρ i acc) := by
  unfold lcW
  rw [itW_eq]
  unfold lcStep
  simp only [e]
  cases z : g d ρ h with
  | none => rfl
  | some r =>
    obtain ⟨ρ1, h1⟩ := r
    simp only [bd_ok, lcK1]
    cases z2 : tt ρ1 h1 with
    | none => rfl
    | some r =>
      obtain ⟨k, h2⟩ := r
      cases k with
      | false => rfl
      | true =>
        simp only [bd_ok, lcK2, if_true]
        cases z3 : te ρ1 h2 with
        | none => rfl
        | some r =>
          obtain ⟨y, h3⟩ := r
          simp only [bd_ok, lcK3]
          by_cases c : acc.length < sizeLine
          · simp only [if_pos c]; rfl
          · simp only [if_neg c]
theorem ev_lc1 : lcK1 src g tt te ρ i acc ρ1 h = bd (tt ρ1 h) (lcK2 src g tt te ρ i acc ρ1) := rfl
theorem ev_lc2T : lcK2 src g tt te ρ i acc ρ1 true h = bd (te ρ1 h) (lcK3 src g tt te ρ i acc) := rfl
theorem ev_lc2F : lcK2 src g tt te ρ i acc ρ1 false h = lcW src g tt te ρ (i + 1) acc h := rfl
theorem ev_lc2D {p : Prop} [Decidable p] : lcK2 src g tt te ρ i acc ρ1 (decide p) h = if p then bd (te ρ1 h) (lcK3 src g tt te ρ i acc) else lcW src g tt te ρ (i + 1) acc h := by unfold lcK2; by_cases q : p <;> simp [q]
theorem ev_lc3 (c : acc.length < sizeLine) : lcK3 src g tt te ρ i acc d h = lcW src g tt te ρ (i + 1) (acc ++ [d]) h := if_pos c
theorem ev_yes : tYes1 ρ h = some (true, h) := rfl
/-! sources -/
variable {ds : List D} {lo : Int} {n : Nat}
theorem srcR_in (l : i < n) : srcR lo n i h = some (some (.int (lo + (i : Nat)))) := by unfold srcR; rw [if_pos l]
theorem srcR_out (l : n ≤ i) : srcR lo n i h = some none := by unfold srcR; rw [if_neg (Nat.not_lt.mpr l)]
theorem srcT_in (e : ds[i]? = some d) : srcT ds i h = some (some d) := by unfold srcT; rw [e]
theorem srcT_out (l : ds.length ≤ i) : srcT ds i h = some none := by unfold srcT; rw [List.getElem?_eq_none l]
theorem srcL_in (g : getL h n = some ds) (e : ds[i]? = some d) : srcL n i h = some (some d) := by unfold srcL; rw [g]; exact congrArg some e
theorem srcL_out (g : getL h n = some ds) (l : ds.length ≤ i) : srcL n i h = some none := by unfold srcL; rw [g]; exact congrArg some (List.getElem?_eq_none l)
theorem srcE_in (g : getL h n = some ds) (e : ds[i]? = some d) : srcE n i h = some (some (.tup [.int (i : Nat), d])) := by unfold srcE; rw [g]; simp [e]
theorem srcE_out (g : getL h n = some ds) (l : ds.length ≤ i) : srcE n i h = some none := by unfold srcE; rw [g]; simp [List.getElem?_eq_none l]
variable {ma : ME} {mx : MA} {z : Str}
def seqK (d : D) (h1 : Hs) : Option (Src × Hs) := match d with
  | .ref n => match getL h1 n with
    | some _ => some (srcL n, h1)
    | none => none
  | .tup ds => some (srcT ds, h1)
  | .str z => some (srcS z, h1)
  | _ => none
theorem ev_iSeq : iSeq ma ρ h = bd (ma ρ h) seqK := rfl
theorem ev_seqT : seqK (.tup ds) h = some (srcT ds, h) := rfl
theorem ev_seqS : seqK (.str z) h = some (srcS z, h) := rfl
theorem ev_seqL (e : getL h n = some ds) : seqK (.ref n) h = some (srcL n, h) := by
  show (match getL h n with | some _ => some (srcL n, h) | none => none) = _
  rw [e]
def rangeK (ds : List D) (h1 : Hs) : Option (Src × Hs) := match ds with
  | [.int j] => if inRg j = true then some (srcR 0 j.toNat, h1) else none
  | [.int i, .int j] => if inRg i = true ∧ inRg j = true then some (srcR i (j - i).toNat, h1) else none
  | [.int i, .int j, .int c] => if c ≠ 0 ∧ c.natAbs < 1073741824 ∧ Builtin.Range.small i j c = true ∧ 0 ≤ Builtin.Range.rangeSize i j c then some (srcC i c (Builtin.Range.rangeSize i j c).toNat, h1) else none
  | _ => none
theorem ev_iRange : iRange mx ρ h = bd (mx ρ h) rangeK := rfl
theorem ev_range1 {j : Int} (h0 : -(2 ^ 62) ≤ j) (h9 : j < 2 ^ 62) : rangeK [.int j] h = some (srcR 0 j.toNat, h) := by
  show (if inRg j = true then _ else _) = _
  rw [if_pos (by unfold inRg; rw [decide_eq_true h0, decide_eq_true h9]; rfl)]
theorem ev_range2 {j k : Int} (h0 : -(2 ^ 62) ≤ j) (h9 : j < 2 ^ 62) (k0 : -(2 ^ 62) ≤ k) (k9 : k < 2 ^ 62) : rangeK [.int j, .int k] h = some (srcR j (k - j).toNat, h) := by
  show (if inRg j = true ∧ inRg k = true then _ else _) = _
  rw [if_pos ⟨by unfold inRg; rw [decide_eq_true h0, decide_eq_true h9]; rfl, by unfold inRg; rw [decide_eq_true k0, decide_eq_true k9]; rfl⟩]
def enumK (ds : List D) (h1 : Hs) : Option (Src × Hs) := match ds with
  | [.ref n] => match getL h1 n with
    | some _ => some (srcE n, h1)
    | none => none
  | _ => none
theorem ev_iEnum : iEnumD mx ρ h = bd (mx ρ h) enumK := rfl
theorem ev_enumK (e : getL h n = some ds) : enumK [.ref n] h = some (srcE n, h) := by
  show (match getL h n with | some _ => some (srcE n, h) | none => none) = _
  rw [e]
def zipK (ds : List D) (h1 : Hs) : Option (Src × Hs) := match ds with
  | [.ref n, .ref k] => match getL h1 n, getL h1 k with
    | some _, some _ => some (srcZ n k, h1)
    | _, _ => none
  | [.tup ds, .tup es] => some (srcZT ds es, h1)
  | _ => none
theorem ev_iZip : iZipD mx ρ h = bd (mx ρ h) zipK := rfl
theorem ev_neIS {i : Int} {z : Str} : neG (.int i) (.str z) h = some (.bl true, h) := rfl
theorem ev_eqIS {i : Int} {z : Str} : eqG (.int i) (.str z) h = some (.bl false, h) := rfl
theorem ev_neSS {y z : Str} : neG (.str y) (.str z) h = some (.bl (!decide (y = z)), h) := by
  show some (D.bl (!(y == z)), h) = _
  rw [Bool.beq_eq_decide_eq]
theorem ev_eqSS {y z : Str} : eqG (.str y) (.str z) h = some (.bl (decide (y = z)), h) := by
  show some (D.bl (y == z), h) = _
  rw [Bool.beq_eq_decide_eq]
theorem ev_isN : isG d .non h = some (.bl (isNonD d), h) := by cases d <;> rfl
theorem ev_isNot : isNotG d .non h = some (.bl (!isNonD d), h) := by cases d <;> rfl
theorem isNon_t {ds : List D} : isNonD (.tup ds) = false := rfl
theorem isNon_n : isNonD .non = true := rfl
theorem isNon_i {j : Int} : isNonD (.int j) = false := rfl
theorem isNon_r {j : Nat} : isNonD (.ref j) = false := rfl
end
end SL
namespace RR
/-! ### the real numbers, as rows of fractions -/
def IsC (f : Nat → Rat) : Prop := ∀ e : Rat, 0 < e → ∃ N : Nat, ∀ m n, N ≤ m → N ≤ n → f m - f n < e
structure CS where
  f : Nat → Rat
  c : IsC f
/-- at last no greater -/
def Le (x y : Nat → Rat) : Prop := ∀ e : Rat, 0 < e → ∃ N : Nat, ∀ n, N ≤ n → x n - y n < e
theorem half_pos {e : Rat} (h : 0 < e) : 0 < e / 2 := by grind
theorem Le.rfl' {x : Nat → Rat} : Le x x := fun e h => ⟨0, fun n _ => by grind⟩
theorem Le.trans' {x y z : Nat → Rat} (a : Le x y) (b : Le y z) : Le x z := fun e h => by
  obtain ⟨N, p⟩ := a (e / 2) (half_pos h)
  obtain ⟨M, q⟩ := b (e / 2) (half_pos h)
  refine ⟨max N M, fun n l => ?_⟩
  have := p n (Nat.le_trans (Nat.le_max_left _ _) l)
  have := q n (Nat.le_trans (Nat.le_max_right _ _) l)
  grind
instance st : Setoid CS where
  r x y := Le x.f y.f ∧ Le y.f x.f
  iseqv := ⟨fun x => ⟨Le.rfl', Le.rfl'⟩, fun h => ⟨h.2, h.1⟩, fun a b => ⟨a.1.trans' b.1, b.2.trans' a.2⟩⟩
theorem eqv_iff {x y : CS} : x ≈ y ↔ Le x.f y.f ∧ Le y.f x.f := Iff.rfl
theorem isC_const (q : Rat) : IsC fun _ => q := fun e h => ⟨0, fun m n _ _ => by grind⟩
theorem isC_add {f g : Nat → Rat} (a : IsC f) (b : IsC g) : IsC fun n => f n + g n := fun e h => by
  obtain ⟨N, p⟩ := a (e / 2) (half_pos h)
  obtain ⟨M, q⟩ := b (e / 2) (half_pos h)
  refine ⟨max N M, fun m n l l' => ?_⟩
  have := p m n (Nat.le_trans (Nat.le_max_left _ _) l) (Nat.le_trans (Nat.le_max_left _ _) l')
  have := q m n (Nat.le_trans (Nat.le_max_right _ _) l) (Nat.le_trans (Nat.le_max_right _ _) l')
  grind
theorem isC_neg {f : Nat → Rat} (a : IsC f) : IsC fun n => - f n := fun e h => by
  obtain ⟨N, p⟩ := a e h
  refine ⟨N, fun m n l l' => ?_⟩
  have := p n m l' l
  grind
/-- bounded -/
theorem bound_upto (f : Nat → Rat) : ∀ N : Nat, ∃ B : Rat, 0 < B ∧ ∀ n, n < N → f n < B ∧ -B < f n
  | 0 => ⟨1, by decide, fun n h => absurd h (Nat.not_lt_zero n)⟩
  | N + 1 => by
    obtain ⟨B, hB, h⟩ := bound_upto f N
    refine ⟨B + (if f N < 0 then - f N else f N) + 1, by split <;> grind, fun n l => ?_⟩
    by_cases q : n = N
    · subst q; split <;> grind
    · have := h n (by omega)
      split <;> grind
theorem isC_bound {f : Nat → Rat} (a : IsC f) : ∃ B : Rat, 0 < B ∧ ∀ n, f n < B ∧ -B < f n := by
  obtain ⟨N, p⟩ := a 1 (by decide)
  obtain ⟨B, hB, h⟩ := bound_upto f (N + 1)
  refine ⟨B + 1, by grind, fun n => ?_⟩
  by_cases q : n < N + 1
  · have := h n q; grind
  · have h1 := p n N (by omega) (Nat.le_refl _)
    have h2 := p N n (Nat.le_refl _) (by omega)
    have := h N (by omega)
    grind
/-- a product is small where one part is -/
theorem mul_small {a d B e : Rat} (hB : 0 < B) (h1 : a < B) (h2 : -B < a) (h3 : d < e) (h4 : -e < d) (he : 0 < e) : a * d < B * e ∧ -(B * e) < a * d := by
  have p1 : 0 < (B - a) * (e + d) := Rat.mul_pos (by grind) (by grind)
  have p2 : 0 < (B + a) * (e - d) := Rat.mul_pos (by grind) (by grind)
  have p3 : 0 < (B - a) * (e - d) := Rat.mul_pos (by grind) (by grind)
  have p4 : 0 < (B + a) * (e + d) := Rat.mul_pos (by grind) (by grind)
  constructor <;> grind
theorem div_posQ {a b : Rat} (ha : 0 < a) (hb : 0 < b) : 0 < a / b := by
  rw [Rat.div_def]
  exact Rat.mul_pos ha (Rat.inv_pos.mpr hb)
theorem div_mul_self {e B : Rat} (hB : 0 < B) : B * (e / B) = e := by grind
theorem isC_mul {f g : Nat → Rat} (a : IsC f) (b : IsC g) : IsC fun n => f n * g n := fun e h => by
  obtain ⟨B, hB, p⟩ := isC_bound a
  obtain ⟨C, hC, q⟩ := isC_bound b
  have h1 : 0 < e / 2 / B := div_posQ (half_pos h) hB
  have h2 : 0 < e / 2 / C := div_posQ (half_pos h) hC
  obtain ⟨N, u⟩ := a _ h2
  obtain ⟨M, v⟩ := b _ h1
  refine ⟨max N M, fun m n l l' => ?_⟩
  have u1 := u m n (by omega) (by omega)
  have u2 := u n m (by omega) (by omega)
  have v1 := v m n (by omega) (by omega)
  have v2 := v n m (by omega) (by omega)
  have s1 := mul_small hB (p m).1 (p m).2 (d := g m - g n) v1 (by grind) h1
  have s2 := mul_small hC (q n).1 (q n).2 (d := f m - f n) u1 (by grind) h2
  rw [div_mul_self hB] at s1
  rw [div_mul_self hC] at s2
  grind
theorem le_add {f g f' g' : Nat → Rat} (a : Le f f') (b : Le g g') : Le (fun n => f n + g n) (fun n => f' n + g' n) := fun e h => by
  obtain ⟨N, p⟩ := a (e / 2) (half_pos h)
  obtain ⟨M, q⟩ := b (e / 2) (half_pos h)
  refine ⟨max N M, fun n l => ?_⟩
  have := p n (by omega)
  have := q n (by omega)
  grind
theorem le_neg {f f' : Nat → Rat} (a : Le f f') : Le (fun n => - f' n) (fun n => - f n) := fun e h => by
  obtain ⟨N, p⟩ := a e h
  refine ⟨N, fun n l => ?_⟩
  have := p n l
  grind
theorem eq_mul {f g f' g' : Nat → Rat} (cf : IsC f) (cg' : IsC g') (a : Le f f') (a' : Le f' f) (b : Le g g') (b' : Le g' g) : Le (fun n => f n * g n) (fun n => f' n * g' n) := fun e h => by
  obtain ⟨B, hB, p⟩ := isC_bound cf
  obtain ⟨C, hC, q⟩ := isC_bound cg'
  have h1 : 0 < e / 2 / B := div_posQ (half_pos h) hB
  have h2 : 0 < e / 2 / C := div_posQ (half_pos h) hC
  obtain ⟨N1, u⟩ := a _ h2
  obtain ⟨N2, u'⟩ := a' _ h2
  obtain ⟨M1, v⟩ := b _ h1
  obtain ⟨M2, v'⟩ := b' _ h1
  refine ⟨max (max N1 N2) (max M1 M2), fun n l => ?_⟩
  have u1 := u n (by omega)
  have u2 := u' n (by omega)
  have v1 := v n (by omega)
  have v2 := v' n (by omega)
  have s1 := mul_small hB (p n).1 (p n).2 (d := g n - g' n) v1 (by grind) h1
  have s2 := mul_small hC (q n).1 (q n).2 (d := f n - f' n) u1 (by grind) h2
  rw [div_mul_self hB] at s1
  rw [div_mul_self hC] at s2
  grind
end RR
def RR.Rl : Type := Quotient RR.st
namespace RR
def of (q : Rat) : Rl := Quotient.mk st ⟨fun _ => q, isC_const q⟩
def addR : Rl → Rl → Rl := Quotient.lift₂ (fun x y => Quotient.mk st ⟨fun n => x.f n + y.f n, isC_add x.c y.c⟩) fun a b c d h k => Quotient.sound ⟨le_add h.1 k.1, le_add h.2 k.2⟩
def negR : Rl → Rl := Quotient.lift (fun x => Quotient.mk st ⟨fun n => - x.f n, isC_neg x.c⟩) fun a b h => Quotient.sound ⟨le_neg h.2, le_neg h.1⟩
def mulR : Rl → Rl → Rl := Quotient.lift₂ (fun x y => Quotient.mk st ⟨fun n => x.f n * y.f n, isC_mul x.c y.c⟩) fun a b c d h k => Quotient.sound ⟨eq_mul a.c d.c h.1 h.2 k.1 k.2, eq_mul c.c b.c h.2 h.1 k.2 k.1⟩
def leR : Rl → Rl → Prop := Quotient.lift₂ (fun x y => Le x.f y.f) fun a b c d h k => propext ⟨fun q => h.2.trans' (q.trans' k.1), fun q => h.1.trans' (q.trans' k.2)⟩
instance : Add Rl := ⟨addR⟩
instance : Neg Rl := ⟨negR⟩
instance : Mul Rl := ⟨mulR⟩
instance : Sub Rl := ⟨fun a b => a + -b⟩
instance : LE Rl := ⟨leR⟩
instance : LT Rl := ⟨fun a b => ¬ b ≤ a⟩
instance : NatCast Rl := ⟨fun n => of (n : Rat)⟩
instance : IntCast Rl := ⟨fun n => of (n : Rat)⟩
instance (n : Nat) : OfNat Rl n := ⟨of (n : Rat)⟩
instance : SMul Nat Rl := ⟨fun n a => (n : Rl) * a⟩
instance : SMul Int Rl := ⟨fun n a => (n : Rl) * a⟩
def powR (a : Rl) : Nat → Rl
  | 0 => 1
  | n + 1 => powR a n * a
instance : HPow Rl Nat Rl := ⟨powR⟩
theorem sound' {x y : CS} (h : ∀ n, x.f n = y.f n) : (Quotient.mk st x : Rl) = Quotient.mk st y := Quotient.sound ⟨fun e he => ⟨0, fun n _ => by rw [h n]; grind⟩, fun e he => ⟨0, fun n _ => by rw [h n]; grind⟩⟩
instance : Lean.Grind.CommRing Rl where
  natCast := inferInstance
  ofNat := inferInstance
  nsmul := inferInstance
  npow := inferInstance
  intCast := inferInstance
  zsmul := inferInstance
  add_zero a := by
    induction a using Quotient.ind
    exact sound' fun n => by show _ + ((0 : Nat) : Rat) = _; grind
  add_comm a b := by
    induction a using Quotient.ind
    induction b using Quotient.ind
    exact sound' fun n => by show _ + _ = _ + _; grind
  add_assoc a b c := by
    induction a using Quotient.ind
    induction b using Quotient.ind
    induction c using Quotient.ind
    exact sound' fun n => by show _ + _ + _ = _ + (_ + _); grind
  mul_assoc a b c := by
    induction a using Quotient.ind
    induction b using Quotient.ind
    induction c using Quotient.ind
    exact sound' fun n => by show _ * _ * _ = _ * (_ * _); grind
  mul_one a := by
    induction a using Quotient.ind
    exact sound' fun n => by show _ * ((1 : Nat) : Rat) = _; grind
  mul_comm a b := by
    induction a using Quotient.ind
    induction b using Quotient.ind
    exact sound' fun n => by show _ * _ = _ * _; grind
  left_distrib a b c := by
    induction a using Quotient.ind
    induction b using Quotient.ind
    induction c using Quotient.ind
    exact sound' fun n => by show _ * (_ + _) = _ * _ + _ * _; grind
  one_mul a := by
    induction a using Quotient.ind
    exact sound' fun n => by show ((1 : Nat) : Rat) * _ = _; grind
  right_distrib a b c := by
    induction a using Quotient.ind
    induction b using Quotient.ind
    induction c using Quotient.ind
    exact sound' fun n => by show (_ + _) * _ = _ * _ + _ * _; grind
  mul_zero a := by
    induction a using Quotient.ind
    exact sound' fun n => by show _ * ((0 : Nat) : Rat) = ((0 : Nat) : Rat); grind
  zero_mul a := by
    induction a using Quotient.ind
    exact sound' fun n => by show ((0 : Nat) : Rat) * _ = ((0 : Nat) : Rat); grind
  pow_zero a := rfl
  pow_succ a n := rfl
  ofNat_succ n := sound' fun _ => by show ((n + 1 : Nat) : Rat) = ((n : Nat) : Rat) + ((1 : Nat) : Rat); grind
  ofNat_eq_natCast n := rfl
  nsmul_eq_natCast_mul n a := rfl
  neg_add_cancel a := by
    induction a using Quotient.ind
    exact sound' fun n => by show - _ + _ = ((0 : Nat) : Rat); grind
  sub_eq_add_neg a b := rfl
  neg_zsmul n a := by
    induction a using Quotient.ind
    exact sound' fun k => by show ((-n : Int) : Rat) * _ = -(((n : Int) : Rat) * _); grind
  zsmul_natCast_eq_nsmul n a := by
    induction a using Quotient.ind
    exact sound' fun k => by show (((n : Nat) : Int) : Rat) * _ = ((n : Nat) : Rat) * _; rw [Rat.intCast_natCast]
  intCast_ofNat n := sound' fun _ => by show (((n : Nat) : Int) : Rat) = ((n : Nat) : Rat); rw [Rat.intCast_natCast]
  intCast_neg n := sound' fun _ => by show ((-n : Int) : Rat) = -((n : Int) : Rat); grind
/-- above nought -/
theorem not_le_iff {x y : CS} : ¬ Le x.f y.f ↔ ∃ e : Rat, 0 < e ∧ ∃ N : Nat, ∀ n, N ≤ n → e < x.f n - y.f n := by
  constructor
  · intro h
    have h' : ∃ e : Rat, 0 < e ∧ ∀ N : Nat, ∃ n, N ≤ n ∧ ¬ x.f n - y.f n < e := by
      refine Classical.byContradiction fun q => h fun e he => ?_
      refine Classical.byContradiction fun q2 => q ⟨e, he, fun N => ?_⟩
      refine Classical.byContradiction fun q3 => q2 ⟨N, fun n l => ?_⟩
      refine Classical.byContradiction fun q4 => q3 ⟨n, l, q4⟩
    obtain ⟨e, he, p⟩ := h'
    have he4 : 0 < e / 4 := by grind
    obtain ⟨N, u⟩ := x.c _ he4
    obtain ⟨M, v⟩ := y.c _ he4
    refine ⟨e / 4, he4, max N M, fun n l => ?_⟩
    obtain ⟨m, lm, q⟩ := p (max N M)
    have := u m n (by omega) (by omega)
    have := v n m (by omega) (by omega)
    grind
  · rintro ⟨e, he, N, p⟩ q
    obtain ⟨M, q⟩ := q e he
    have := p (max N M) (by omega)
    have := q (max N M) (by omega)
    grind
instance : Std.IsLinearOrder Rl where
  le_refl a := by
    induction a using Quotient.ind
    exact Le.rfl'
  le_trans a b c := by
    induction a using Quotient.ind
    induction b using Quotient.ind
    induction c using Quotient.ind
    exact fun h k => Le.trans' h k
  le_antisymm a b := by
    induction a using Quotient.ind
    induction b using Quotient.ind
    exact fun h k => Quotient.sound ⟨h, k⟩
  le_total a b := by
    induction a using Quotient.ind with
    | _ x =>
    induction b using Quotient.ind with
    | _ y =>
    show Le x.f y.f ∨ Le y.f x.f
    by_cases q : Le x.f y.f
    · exact .inl q
    · obtain ⟨e, he, N, p⟩ := not_le_iff.mp q
      exact .inr fun e' he' => ⟨N, fun n l => by have := p n l; grind⟩
instance : Std.LawfulOrderLT Rl where
  lt_iff a b := by
    constructor
    · intro h
      exact ⟨(Std.IsLinearPreorder.le_total a b).resolve_right h, h⟩
    · exact fun h => h.2
theorem add_le_left (a b c : Rl) : a ≤ b ↔ a + c ≤ b + c := by
  induction a using Quotient.ind with
  | _ x =>
  induction b using Quotient.ind with
  | _ y =>
  induction c using Quotient.ind with
  | _ z =>
  show Le x.f y.f ↔ Le (fun n => x.f n + z.f n) (fun n => y.f n + z.f n)
  constructor
  · intro h e he
    obtain ⟨N, p⟩ := h e he
    exact ⟨N, fun n l => by have := p n l; grind⟩
  · intro h e he
    obtain ⟨N, p⟩ := h e he
    exact ⟨N, fun n l => by have := p n l; grind⟩
instance : Lean.Grind.OrderedAdd Rl := ⟨fun {a b} c => add_le_left a b c⟩
theorem mul_posR (a b : Rl) (ha : 0 < a) (hb : 0 < b) : 0 < a * b := by
  induction a using Quotient.ind with
  | _ x =>
  induction b using Quotient.ind with
  | _ y =>
  obtain ⟨e, he, N, p⟩ := (not_le_iff (x := x) (y := ⟨fun _ => ((0 : Nat) : Rat), isC_const _⟩)).mp ha
  obtain ⟨e', he', M, q⟩ := (not_le_iff (x := y) (y := ⟨fun _ => ((0 : Nat) : Rat), isC_const _⟩)).mp hb
  refine (not_le_iff (x := ⟨fun n => x.f n * y.f n, isC_mul x.c y.c⟩) (y := ⟨fun _ => ((0 : Nat) : Rat), isC_const _⟩)).mpr ⟨e * e', Rat.mul_pos he he', max N M, fun n l => ?_⟩
  have h1 := p n (by omega)
  have h2 := q n (by omega)
  simp only at h1 h2 ⊢
  have z : ((0 : Nat) : Rat) = 0 := rfl
  rw [z] at h1 h2 ⊢
  have h3 : 0 < (x.f n - e) * e' := Rat.mul_pos (by grind) he'
  have h4 : 0 < x.f n * (y.f n - e') := Rat.mul_pos (by grind) (by grind)
  grind
instance : Lean.Grind.OrderedRing Rl where
  zero_lt_one := by
    refine (not_le_iff (x := ⟨fun _ => ((1 : Nat) : Rat), isC_const _⟩) (y := ⟨fun _ => ((0 : Nat) : Rat), isC_const _⟩)).mpr ⟨1 / 2, by decide +kernel, 0, fun n _ => ?_⟩
    show (1 : Rat) / 2 < ((1 : Nat) : Rat) - ((0 : Nat) : Rat)
    decide +kernel
  mul_lt_mul_of_pos_left {a b c} h k := by
    have h1 : 0 < b - a := by grind
    have := mul_posR c (b - a) k h1
    rw [show c * (b - a) = c * b - c * a by grind] at this
    revert this
    generalize c * b = x
    generalize c * a = y
    intro this
    grind
  mul_lt_mul_of_pos_right {a b c} h k := by
    have h1 : 0 < b - a := by grind
    have := mul_posR (b - a) c h1 k
    rw [show (b - a) * c = b * c - a * c by grind] at this
    revert this
    generalize b * c = x
    generalize a * c = y
    intro this
    grind
/-! ### whole numbers and fractions among them -/
theorem of_add (a b : Rat) : of (a + b) = of a + of b := sound' fun _ => rfl
theorem of_mul (a b : Rat) : of (a * b) = of a * of b := sound' fun _ => rfl
theorem of_le {a b : Rat} : of a ≤ of b ↔ a ≤ b := by
  constructor
  · intro h
    refine Rat.not_lt.mp fun q => ?_
    obtain ⟨N, p⟩ := h (a - b) (by grind)
    have : a - b < a - b := p N (Nat.le_refl _)
    grind
  · intro h e he
    exact ⟨0, fun n _ => by show a - b < e; grind⟩
theorem of_lt {a b : Rat} : of a < of b ↔ a < b := by
  show ¬ of b ≤ of a ↔ _
  rw [of_le]
  exact Rat.not_le
theorem of_inj {a b : Rat} (h : of a = of b) : a = b := by
  have h1 : of a ≤ of b := by rw [h]; exact Std.IsPreorder.le_refl _
  have h2 : of b ≤ of a := by rw [h]; exact Std.IsPreorder.le_refl _
  have := of_le.mp h1
  have := of_le.mp h2
  grind
theorem cast_eq (i : Int) : (i : Rl) = of (i : Rat) := rfl
theorem cast_add (i j : Int) : ((i + j : Int) : Rl) = (i : Rl) + (j : Rl) := by
  rw [cast_eq, cast_eq, cast_eq, ← of_add, Rat.intCast_add]
theorem cast_mul (i j : Int) : ((i * j : Int) : Rl) = (i : Rl) * (j : Rl) := by
  rw [cast_eq, cast_eq, cast_eq, ← of_mul, Rat.intCast_mul]
theorem cast_neg (i : Int) : ((-i : Int) : Rl) = -(i : Rl) := Lean.Grind.Ring.intCast_neg i
theorem cast_sub (i j : Int) : ((i - j : Int) : Rl) = (i : Rl) - (j : Rl) := by
  rw [Int.sub_eq_add_neg, cast_add, cast_neg]; grind
theorem cast_lt {i j : Int} : (i : Rl) < (j : Rl) ↔ i < j := by
  rw [cast_eq, cast_eq, of_lt]; exact Rat.intCast_lt_intCast
theorem cast_le {i j : Int} : (i : Rl) ≤ (j : Rl) ↔ i ≤ j := by
  rw [cast_eq, cast_eq, of_le]; exact Rat.intCast_le_intCast
theorem cast_inj {i j : Int} (h : (i : Rl) = (j : Rl)) : i = j := by
  have := of_inj h
  exact Rat.intCast_inj.mp this
example (a b c : Rl) (h : a < b) (h2 : b ≤ c) : 2 * a + 1 < 2 * c + 1 := by grind
example (a b : Rl) (h : 0 < a) (h2 : a < b) : a * a < b * b := by
  have := mul_posR (b - a) (b + a) (by grind) (by grind)
  grind
end RR
namespace RR
/-! ### roots -/
theorem isq_ex : ∀ n : Nat, ∃ m : Nat, m * m ≤ n ∧ n < (m + 1) * (m + 1)
  | 0 => ⟨0, by decide, by decide⟩
  | n + 1 => by
    obtain ⟨m, a, b⟩ := isq_ex n
    by_cases q : n + 1 < (m + 1) * (m + 1)
    · exact ⟨m, by omega, q⟩
    · exact ⟨m + 1, by omega, by grind⟩
noncomputable def isq (n : Nat) : Nat := (isq_ex n).choose
theorem isq_le (n : Nat) : isq n * isq n ≤ n := (isq_ex n).choose_spec.1
theorem isq_lt (n : Nat) : n < (isq n + 1) * (isq n + 1) := (isq_ex n).choose_spec.2
theorem small_ex {e : Rat} (he : 0 < e) (C : Nat) : ∃ N : Nat, ∀ k : Nat, N ≤ k → (C : Rat) < e * ((k : Rat) + 1) := by
  refine ⟨C * e.den, fun k h => ?_⟩
  have h1 : (C : Rat) * e.den ≤ (k : Rat) := by
    rw [← Rat.natCast_mul]; exact Rat.natCast_le_natCast.mpr h
  have h2 : (1 : Rat) ≤ e * e.den := by
    have hd : e * e.den = (e.num : Rat) := by
      have h0 := Rat.mkRat_self e
      rw [Rat.mkRat_eq_div] at h0
      have hp : (e.den : Rat) ≠ 0 := by
        intro z
        exact e.den_nz (Rat.natCast_inj.mp (z.trans rfl))
      rw [← h0]; grind
    rw [hd]
    have : (1 : Int) ≤ e.num := by
      have h9 : 0 < e.num := by
        refine Int.not_le.mp fun z => ?_
        have hp : (0 : Rat) ≤ (e.den : Rat) := Rat.natCast_nonneg
        have h8 : (e.num : Rat) ≤ 0 := Rat.intCast_le_intCast.mpr z
        have hq : (0 : Rat) < (e.den : Rat) := by
          have := Rat.natCast_lt_natCast.mpr e.den_pos
          exact this
        have := Rat.mul_pos he hq
        grind
      omega
    exact Rat.intCast_le_intCast.mpr this
  have h3 : (0 : Rat) ≤ (C : Rat) := Rat.natCast_nonneg
  have h4 : 0 ≤ (e * e.den - 1) * (C : Rat) := Rat.mul_nonneg (by grind) h3
  have h5 : 0 ≤ e * ((k : Rat) - C * e.den) := Rat.mul_nonneg (by grind) (by grind)
  grind
noncomputable def sq (D k : Nat) : Rat := (isq (D * ((k + 1) * (k + 1))) : Rat) / ((k : Rat) + 1)
theorem kpos (k : Nat) : (0 : Rat) < (k : Rat) + 1 := by
  have : (0 : Rat) ≤ (k : Rat) := Rat.natCast_nonneg
  grind
theorem sq_nn (D k : Nat) : 0 ≤ sq D k := by
  unfold sq
  rw [Rat.div_def]
  exact Rat.mul_nonneg Rat.natCast_nonneg (by have := Rat.inv_pos.mpr (kpos k); grind)
theorem sq_mul (D k : Nat) : sq D k * ((k : Rat) + 1) = (isq (D * ((k + 1) * (k + 1))) : Rat) := by
  have := kpos k
  unfold sq
  grind
theorem cast_k (k : Nat) : ((k + 1 : Nat) : Rat) = (k : Rat) + 1 := by
  rw [Rat.natCast_add]; rfl
theorem sq_le (D k : Nat) : sq D k * sq D k ≤ (D : Rat) := by
  have h1 : ((isq (D * ((k + 1) * (k + 1))) * isq (D * ((k + 1) * (k + 1))) : Nat) : Rat) ≤ ((D * ((k + 1) * (k + 1)) : Nat) : Rat) := Rat.natCast_le_natCast.mpr (isq_le _)
  rw [Rat.natCast_mul, Rat.natCast_mul, Rat.natCast_mul, cast_k, ← sq_mul] at h1
  have h2 := kpos k
  have h3 : 0 < ((k : Rat) + 1) * ((k : Rat) + 1) := Rat.mul_pos h2 h2
  refine Rat.not_lt.mp fun q => ?_
  have := Rat.mul_pos (show 0 < sq D k * sq D k - D by grind) h3
  grind
theorem sq_gt (D k : Nat) : (D : Rat) * (((k : Rat) + 1) * ((k : Rat) + 1)) < (sq D k * ((k : Rat) + 1) + 1) * (sq D k * ((k : Rat) + 1) + 1) := by
  have h1 : ((D * ((k + 1) * (k + 1)) : Nat) : Rat) < (((isq (D * ((k + 1) * (k + 1))) + 1) * (isq (D * ((k + 1) * (k + 1))) + 1) : Nat) : Rat) := Rat.natCast_lt_natCast.mpr (isq_lt _)
  rw [Rat.natCast_mul, Rat.natCast_mul, Rat.natCast_mul, cast_k, cast_k, ← sq_mul] at h1
  exact h1
theorem sq_near (D k j : Nat) : (sq D k - sq D j) * ((j : Rat) + 1) < 1 := by
  refine Rat.not_le.mp fun q => ?_
  have hj := kpos j
  have h1 := sq_nn D k
  have h2 := sq_nn D j
  have h3 := sq_le D k
  have h4 := sq_gt D j
  have h5 : 0 ≤ sq D j * ((j : Rat) + 1) := Rat.mul_nonneg h2 (by grind)
  have h6 : 0 ≤ (sq D k * ((j : Rat) + 1) - (sq D j * ((j : Rat) + 1) + 1)) * (sq D k * ((j : Rat) + 1) + (sq D j * ((j : Rat) + 1) + 1)) :=
    Rat.mul_nonneg (by grind) (by have : 0 ≤ sq D k * ((j : Rat) + 1) := Rat.mul_nonneg h1 (by grind); grind)
  have h7 : 0 ≤ ((D : Rat) - sq D k * sq D k) * (((j : Rat) + 1) * ((j : Rat) + 1)) := Rat.mul_nonneg (by grind) (Rat.mul_nonneg (by grind) (by grind))
  grind
theorem sq_isC (D : Nat) : IsC (sq D) := fun e he => by
  obtain ⟨N, p⟩ := small_ex he 1
  refine ⟨N, fun m n _ l => ?_⟩
  have h1 := sq_near D m n
  have h2 := p n l
  have h3 := kpos n
  refine Rat.not_le.mp fun q => ?_
  have := Rat.mul_nonneg (show 0 ≤ sq D m - sq D n - e by grind) (show 0 ≤ (n : Rat) + 1 by grind)
  have h4 : ((1 : Nat) : Rat) = 1 := rfl
  grind
noncomputable def sqrtN (D : Nat) : Rl := Quotient.mk st ⟨sq D, sq_isC D⟩
theorem sqrtN_nn (D : Nat) : (0 : Rl) ≤ sqrtN D := fun e he => ⟨0, fun n _ => by
  have := sq_nn D n
  show ((0 : Nat) : Rat) - sq D n < e
  have z : ((0 : Nat) : Rat) = 0 := rfl
  rw [z]
  grind⟩
theorem sq_lt (D k : Nat) : sq D k < (D : Rat) + 1 := by
  refine Rat.not_le.mp fun q => ?_
  have h0 : (0 : Rat) ≤ (D : Rat) := Rat.natCast_nonneg
  have h3 := sq_le D k
  have := Rat.mul_nonneg (show 0 ≤ sq D k - (D + 1) by grind) (show 0 ≤ sq D k + (D + 1) by grind)
  have := Rat.mul_nonneg h0 h0
  grind
theorem sqrtN_sq (D : Nat) : sqrtN D * sqrtN D = (D : Rl) := by
  refine Quotient.sound ⟨fun e he => ⟨0, fun n _ => ?_⟩, fun e he => ?_⟩
  · have := sq_le D n
    show sq D n * sq D n - (D : Rat) < e
    grind
  · obtain ⟨N, p⟩ := small_ex he (2 * D + 3)
    refine ⟨N, fun n l => ?_⟩
    show (D : Rat) - sq D n * sq D n < e
    have h1 := p n l
    have h2 := sq_gt D n
    have h3 := sq_lt D n
    have h4 := kpos n
    have h5 : (0 : Rat) ≤ (n : Rat) := Rat.natCast_nonneg
    rw [Rat.natCast_add, Rat.natCast_mul, show ((2 : Nat) : Rat) = 2 from rfl, show ((3 : Nat) : Rat) = 3 from rfl] at h1
    refine Rat.not_le.mp fun q => ?_
    have h6 := Rat.mul_nonneg (show 0 ≤ (D : Rat) - sq D n * sq D n - e by grind) (show 0 ≤ ((n : Rat) + 1) * ((n : Rat) + 1) from Rat.mul_nonneg (by grind) (by grind))
    have h7 := Rat.mul_pos (show 0 < e * ((n : Rat) + 1) - (2 * D + 3) by grind) h4
    have h8 := Rat.mul_pos (show 0 < D + 1 - sq D n by grind) h4
    grind
end RR
namespace RR
/-! ### signs -/
open Classical in
noncomputable def sgR (x : Rl) : Int := if 0 < x then 1 else if x < 0 then -1 else 0
theorem sg_pos {x : Rl} (h : 0 < x) : sgR x = 1 := by unfold sgR; rw [if_pos h]
theorem sg_neg {x : Rl} (h : x < 0) : sgR x = -1 := by
  unfold sgR
  rw [if_neg (by grind), if_pos h]
theorem sg_zero : sgR 0 = 0 := by
  unfold sgR
  rw [if_neg (by grind), if_neg (by grind)]
theorem tri (x : Rl) : 0 < x ∨ x < 0 ∨ x = 0 := by
  by_cases h : 0 < x
  · exact .inl h
  · by_cases k : x < 0
    · exact .inr (.inl k)
    · exact .inr (.inr (by grind))
theorem sg_pos_iff {x : Rl} : sgR x = 1 ↔ 0 < x := by
  constructor
  · intro h
    rcases tri x with q | q | q
    · exact q
    · rw [sg_neg q] at h; cases h
    · rw [q, sg_zero] at h; cases h
  · exact sg_pos
theorem sg_neg_iff {x : Rl} : sgR x = -1 ↔ x < 0 := by
  constructor
  · intro h
    rcases tri x with q | q | q
    · rw [sg_pos q] at h; cases h
    · exact q
    · rw [q, sg_zero] at h; cases h
  · exact sg_neg
theorem sg_zero_iff {x : Rl} : sgR x = 0 ↔ x = 0 := by
  constructor
  · intro h
    rcases tri x with q | q | q
    · rw [sg_pos q] at h; cases h
    · rw [sg_neg q] at h; cases h
    · exact q
  · rintro rfl; exact sg_zero
theorem mul_pos {x y : Rl} (h : 0 < x) (k : 0 < y) : 0 < x * y := mul_posR x y h k
theorem mul_nn {x y : Rl} (h : 0 ≤ x) (k : 0 ≤ y) : 0 ≤ x * y := by
  rcases tri x with q | q | q
  · rcases tri y with r | r | r
    · have := mul_pos q r; grind
    · grind
    · subst r; grind
  · grind
  · subst q; grind
theorem sg_mul_pos {x y : Rl} (h : 0 < y) : sgR (y * x) = sgR x := by
  rcases tri x with q | q | q
  · rw [sg_pos q, sg_pos (mul_pos h q)]
  · have := mul_pos h (show 0 < -x by grind)
    rw [sg_neg q, sg_neg (by grind)]
  · subst q; rw [show y * 0 = (0 : Rl) by grind]
theorem sg_neg' (x : Rl) : sgR (-x) = - sgR x := by
  rcases tri x with q | q | q
  · rw [sg_pos q, sg_neg (by grind)]
  · rw [sg_neg q, sg_pos (by grind)]; rfl
  · subst q; rw [show -(0 : Rl) = 0 by grind, sg_zero]; rfl
theorem cast_zero : ((0 : Int) : Rl) = 0 := rfl
theorem cast_one : ((1 : Int) : Rl) = 1 := rfl
theorem cast_pos {i : Int} (h : 0 < i) : (0 : Rl) < (i : Rl) := by rw [← cast_zero, cast_lt]; exact h
theorem cast_nn {i : Int} (h : 0 ≤ i) : (0 : Rl) ≤ (i : Rl) := by rw [← cast_zero, cast_le]; exact h
theorem cast_neg' {i : Int} (h : i < 0) : (i : Rl) < 0 := by rw [← cast_zero, cast_lt]; exact h
theorem sg_int (i : Int) : sgR (i : Rl) = i.sign := by
  rcases Int.lt_trichotomy i 0 with q | q | q
  · rw [sg_neg (cast_neg' q), Int.sign_eq_neg_one_of_neg q]
  · subst q; exact sg_zero
  · rw [sg_pos (cast_pos q), Int.sign_eq_one_of_pos q]
/-! ### the root of a whole number -/
noncomputable def rt (d : Int) : Rl := sqrtN d.toNat
theorem rt_nn (d : Int) : 0 ≤ rt d := sqrtN_nn _
theorem rt_sq {d : Int} (h : 0 ≤ d) : rt d * rt d = (d : Rl) := by
  unfold rt
  rw [sqrtN_sq]
  show of ((d.toNat : Nat) : Rat) = of ((d : Int) : Rat)
  rw [← Rat.intCast_natCast, Int.toNat_of_nonneg h]
theorem rt_pos {d : Int} (h : 0 < d) : 0 < rt d := by
  rcases tri (rt d) with q | q | q
  · exact q
  · have := rt_nn d; grind
  · have h1 := rt_sq (Int.le_of_lt h)
    have h2 := cast_pos h
    rw [q] at h1
    grind
theorem lt_of_sq {x y : Rl} (hy : 0 ≤ y) (h : x * x < y * y) : x < y := by
  refine Classical.byContradiction fun q => ?_
  have := mul_nn (show 0 ≤ x - y by grind) (show 0 ≤ x + y by grind)
  grind
theorem sq_lt_sq {x y : Rl} (hx : 0 ≤ x) (h : x < y) : x * x < y * y := by
  have := mul_pos (show 0 < y - x by grind) (show 0 < y + x by grind)
  grind
/-- the sign of a whole number and so many roots -/
def sgnS (p m d : Int) : Int := if 0 ≤ p.sign * m.sign then (p.sign + m.sign).sign else p.sign * (p * p - m * m * d).sign
theorem sgnS_eq {p m d : Int} (h : 0 < d) : sgnS p m d = sgR ((p : Rl) + (m : Rl) * rt d) := by
  have hs := rt_pos h
  have hq := rt_sq (Int.le_of_lt h)
  unfold sgnS
  rcases Int.lt_trichotomy p 0 with hp | hp | hp
  · rw [Int.sign_eq_neg_one_of_neg hp]
    have cp := cast_neg' hp
    rcases Int.lt_trichotomy m 0 with hm | hm | hm
    · rw [Int.sign_eq_neg_one_of_neg hm, if_pos (by decide)]
      have := mul_pos (show 0 < -(m : Rl) by have := cast_neg' hm; grind) hs
      rw [sg_neg (by grind)]; rfl
    · subst hm
      rw [cast_zero, if_pos (by decide), sg_neg (by grind)]; rfl
    · rw [Int.sign_eq_one_of_pos hm, if_neg (by decide), ← sg_int, cast_sub, cast_mul, cast_mul, cast_mul, ← hq]
      have cm := mul_pos (cast_pos hm) hs
      have := mul_pos (show 0 < (m : Rl) * rt d - p by grind) (show 0 < (m : Rl) * rt d - p by grind)
      have e : (p : Rl) * p - m * m * (rt d * rt d) = -(((m : Rl) * rt d - p) * ((p : Rl) + m * rt d)) := by grind
      rw [e, sg_neg', sg_mul_pos (by grind)]
      omega
  · subst hp
    rw [Int.sign_zero, Int.zero_mul, if_pos (Int.le_refl 0), cast_zero, show (0 : Rl) + m * rt d = rt d * m by grind, sg_mul_pos hs, sg_int, Int.zero_add, Int.sign_sign]
  · rw [Int.sign_eq_one_of_pos hp]
    have cp := cast_pos hp
    rcases Int.lt_trichotomy m 0 with hm | hm | hm
    · rw [Int.sign_eq_neg_one_of_neg hm, if_neg (by decide), ← sg_int, cast_sub, cast_mul, cast_mul, cast_mul, ← hq]
      have cm := mul_pos (show 0 < -(m : Rl) by have := cast_neg' hm; grind) hs
      have e : (p : Rl) * p - m * m * (rt d * rt d) = ((p : Rl) - m * rt d) * ((p : Rl) + m * rt d) := by grind
      rw [e, sg_mul_pos (by grind), Int.one_mul]
    · subst hm
      rw [cast_zero, if_pos (by decide), sg_pos (by grind)]; rfl
    · rw [Int.sign_eq_one_of_pos hm, if_pos (by decide)]
      have := mul_pos (cast_pos hm) hs
      rw [sg_pos (by grind)]; rfl
/-! ### parts of a number -/
noncomputable def inv (n : Int) : Rl := of (1 / (n : Rat))
theorem inv_mul {n : Int} (h : n ≠ 0) : (n : Rl) * inv n = 1 := by
  unfold inv
  rw [cast_eq, ← of_mul]
  have : (n : Rat) ≠ 0 := by
    intro z
    exact h (Rat.intCast_inj.mp (z.trans rfl))
  rw [show (n : Rat) * (1 / (n : Rat)) = 1 by grind]
  rfl
theorem inv_pos {n : Int} (h : 0 < n) : 0 < inv n := by
  rcases tri (inv n) with q | q | q
  · exact q
  · have h1 := inv_mul (show n ≠ 0 by omega)
    have := mul_pos (cast_pos h) (show 0 < - inv n by grind)
    grind
  · have h1 := inv_mul (show n ≠ 0 by omega)
    rw [q] at h1
    grind
/-! ### times -/
inductive Tm where
  | fr (p q : Int) | rt (c b a w : Int)
noncomputable def Tm.val : Tm → Rl
  | .fr p q => (p : Rl) * inv q
  | .rt c b a w => (-(b : Rl) + (2 * (w : Rl) - 1) * RR.rt (b * b - 4 * a * c)) * inv (2 * a)
/-- told as numbers are -/
def Tm.Nm : Tm → Prop
  | .fr p q => 0 < q ∧ Int.gcd p q = 1
  | .rt c b a w => 0 < a ∧ Int.gcd (Int.gcd c b) a = 1 ∧ 0 < b * b - 4 * a * c ∧ (∀ r : Int, r * r ≠ b * b - 4 * a * c) ∧ (w = 0 ∨ w = 1)
theorem val_fr {p q : Int} (h : 0 < q) : (q : Rl) * (Tm.fr p q).val = (p : Rl) := by
  have := inv_mul (show q ≠ 0 by omega)
  show (q : Rl) * ((p : Rl) * inv q) = p
  grind
theorem val_rt {c b a w : Int} (h : 0 < a) : 2 * (a : Rl) * (Tm.rt c b a w).val + (b : Rl) = (2 * (w : Rl) - 1) * RR.rt (b * b - 4 * a * c) := by
  have h1 := inv_mul (show 2 * a ≠ 0 by omega)
  rw [cast_mul, show ((2 : Int) : Rl) = 2 from rfl] at h1
  show 2 * (a : Rl) * ((-(b : Rl) + (2 * (w : Rl) - 1) * RR.rt (b * b - 4 * a * c)) * inv (2 * a)) + b = _
  grind
/-- a polynomial's worth -/
def pv (c b a : Int) (x : Rl) : Rl := (c : Rl) + (b : Rl) * x + (a : Rl) * x * x
theorem side_sq {w : Int} (h : w = 0 ∨ w = 1) : (2 * (w : Rl) - 1) * (2 * (w : Rl) - 1) = 1 := by
  rcases h with rfl | rfl
  · rw [cast_zero]; grind
  · rw [cast_one]; grind
theorem disc_cast (c b a : Int) : ((b * b - 4 * a * c : Int) : Rl) = (b : Rl) * b - 4 * a * c := by
  rw [cast_sub, cast_mul, cast_mul, cast_mul]; rfl
theorem pv_own {c b a w : Int} (h : (Tm.rt c b a w).Nm) : pv c b a (Tm.rt c b a w).val = 0 := by
  obtain ⟨h1, _, h3, _, h5⟩ := h
  have e1 := val_rt (c := c) (b := b) (w := w) h1
  have e2 := rt_sq (Int.le_of_lt h3)
  have e3 := side_sq h5
  rw [disc_cast] at e2
  have ha := cast_pos h1
  generalize (Tm.rt c b a w).val = x at e1 ⊢
  generalize RR.rt (b * b - 4 * a * c) = s at e1 e2
  generalize 2 * (w : Rl) - 1 = z at e1 e3
  have h4 : (4 * (a : Rl)) * pv c b a x = 0 := by
    unfold pv
    have e4 : (2 * (a : Rl) * x + b) * (2 * (a : Rl) * x + b) = z * z * (s * s) := by rw [e1]; grind
    rw [e3, e2] at e4
    grind
  rcases tri (pv c b a x) with q | q | q
  · have := mul_pos (show 0 < 4 * (a : Rl) by grind) q; grind
  · have := mul_pos (show 0 < 4 * (a : Rl) by grind) (show 0 < -pv c b a x by grind); grind
  · exact q
end RR
namespace RR
theorem sgn_fr {c b a p q : Int} (h : 0 < q) : ((a * p + b * q) * p + c * q * q).sign = sgR (pv c b a (Tm.fr p q).val) := by
  have hq := cast_pos h
  have e := val_fr (p := p) h
  rw [← sg_int, cast_add, cast_mul, cast_add, cast_mul, cast_mul, cast_mul, cast_mul]
  generalize (Tm.fr p q).val = x at e ⊢
  have : ((a : Rl) * p + b * q) * p + c * q * q = ((q : Rl) * q) * pv c b a x := by unfold pv; rw [← e]; grind
  rw [this, sg_mul_pos (mul_pos hq hq)]
theorem sgn_rt {p0 p1 p2 c b a w : Int} (h : (Tm.rt c b a w).Nm) :
    sgnS (2 * a * (p0 * a - p2 * c) - (p1 * a - p2 * b) * b) ((p1 * a - p2 * b) * (2 * w - 1)) (b * b - 4 * a * c) = sgR (pv p0 p1 p2 (Tm.rt c b a w).val) := by
  have ho := pv_own h
  obtain ⟨h1, _, h3, _, h5⟩ := h
  have e1 := val_rt (c := c) (b := b) (w := w) h1
  rw [sgnS_eq h3]
  have ha := cast_pos h1
  generalize (Tm.rt c b a w).val = x at e1 ho ⊢
  generalize RR.rt (b * b - 4 * a * c) = s at e1
  simp only [cast_sub, cast_mul, show ((2 : Int) : Rl) = 2 from rfl, show ((1 : Int) : Rl) = 1 from rfl]
  have : 2 * (a : Rl) * (p0 * a - p2 * c) - (p1 * a - p2 * b) * b + (p1 * a - p2 * b) * (2 * w - 1) * s = (2 * (a : Rl) * a) * pv p0 p1 p2 x := by
    unfold pv at ho ⊢
    have : (2 * (w : Rl) - 1) * s = 2 * a * x + b := e1.symm
    grind
  rw [this, sg_mul_pos (mul_pos (show 0 < 2 * (a : Rl) by grind) ha)]
def Tm.sg (c b a : Int) : Tm → Int
  | .fr p q => ((a * p + b * q) * p + c * q * q).sign
  | .rt c' b' a' w => sgnS (2 * a' * (c * a' - a * c') - (b * a' - a * b') * b') ((b * a' - a * b') * (2 * w - 1)) (b' * b' - 4 * a' * c')
theorem Tm.sg_eq {c b a : Int} {t : Tm} (h : t.Nm) : t.sg c b a = sgR (pv c b a t.val) := by
  cases t with
  | fr p q => exact sgn_fr h.1
  | rt c' b' a' w => exact sgn_rt h
/-- the one compared with a root -/
theorem cmp_root {c b a w : Int} {x : Rl} (h : (Tm.rt c b a w).Nm) :
    (if sgR (pv b (2 * a) 0 x) ≠ 2 * w - 1 then -(2 * w - 1) else (2 * w - 1) * sgR (pv c b a x)) = sgR (x - (Tm.rt c b a w).val) := by
  obtain ⟨h1, _, h3, _, h5⟩ := h
  have e1 := val_rt (c := c) (b := b) (w := w) h1
  have hs := rt_pos h3
  have hq := rt_sq (Int.le_of_lt h3)
  rw [disc_cast] at hq
  have ha := cast_pos h1
  generalize (Tm.rt c b a w).val = y at e1 ⊢
  generalize RR.rt (b * b - 4 * a * c) = s at *
  have e2 : pv b (2 * a) 0 x = 2 * (a : Rl) * x + b := by
    unfold pv
    rw [cast_mul, cast_zero, show ((2 : Int) : Rl) = 2 from rfl]; grind
  have e3 : (4 * (a : Rl)) * pv c b a x = (2 * a * x + b - s) * (2 * a * x + b + s) := by unfold pv; grind
  have p4 : 0 < 4 * (a : Rl) := by grind
  have p2 : 0 < 2 * (a : Rl) := by grind
  rw [e2, ← sg_mul_pos (x := pv c b a x) p4, e3, ← sg_mul_pos (x := x - y) p2]
  generalize hu : 2 * (a : Rl) * x + b = u
  have e4 : 2 * (a : Rl) * (x - y) = u - (2 * (w : Rl) - 1) * s := by rw [← hu, ← e1]; grind
  rw [e4]
  rcases h5 with rfl | rfl
  · rw [cast_zero]
    by_cases q : u < 0
    · rw [sg_neg q, if_neg (by decide)]
      have : (u - s) * (u + s) = -((s - u) * (u + s)) := by grind
      rw [this, sg_neg', sg_mul_pos (by grind), show u - (2 * 0 - 1) * s = u + s by grind]
      omega
    · rw [if_pos (show sgR u ≠ 2 * 0 - 1 from fun z => q (sg_neg_iff.mp z)), sg_pos (by grind)]; rfl
  · rw [cast_one]
    by_cases q : 0 < u
    · rw [sg_pos q, if_neg (by decide)]
      have : (u - s) * (u + s) = (u + s) * (u - s) := by grind
      rw [this, sg_mul_pos (by grind), show u - (2 * 1 - 1) * s = u - s by grind]
      omega
    · rw [if_pos (show sgR u ≠ 2 * 1 - 1 from fun z => q (sg_pos_iff.mp z)), sg_neg (by grind)]; rfl
theorem cmp_fr {p q : Int} {x : Rl} (h : 0 < q) : sgR (pv (0 - p) q 0 x) = sgR (x - (Tm.fr p q).val) := by
  have hq := cast_pos h
  have e := val_fr (p := p) h
  rw [← sg_mul_pos (x := x - (Tm.fr p q).val) hq]
  congr 1
  unfold pv
  rw [cast_sub, cast_zero]
  grind
/-! ### what is alike is told alike -/
theorem gcd_dvd_of {g x y : Int} (h : Int.gcd x y = 1) {k : Int} (hx : k ∣ x) (hy : k ∣ y) : k ∣ 1 := by
  have := Int.dvd_coe_gcd hx hy
  rw [h] at this
  exact this
theorem cop_dvd {k n m : Int} (h : Int.gcd k m = 1) (d : k ∣ n * m) : k ∣ n := by
  have := Int.dvd_mul_gcd_iff_dvd_mul.mpr d
  rw [h] at this
  simpa using this
theorem fr_inj {p q r s : Int} (h : (Tm.fr p q).Nm) (k : (Tm.fr r s).Nm) (e : p * s = r * q) : p = r ∧ q = s := by
  obtain ⟨h1, h2⟩ := h
  obtain ⟨k1, k2⟩ := k
  have d1 : q ∣ s := by
    have : q ∣ p * s := ⟨r, by rw [e]; grind⟩
    exact cop_dvd (m := p) (by rw [Int.gcd_comm]; exact h2) (by rw [Int.mul_comm]; exact this)
  have d2 : s ∣ q := by
    have : s ∣ r * q := ⟨p, by rw [← e]; grind⟩
    exact cop_dvd (m := r) (by rw [Int.gcd_comm]; exact k2) (by rw [Int.mul_comm]; exact this)
  have e2 : q = s := Int.dvd_antisymm (by omega) (by omega) d1 d2
  subst e2
  exact ⟨Int.eq_of_mul_eq_mul_right (by omega) e, rfl⟩
/-- a number that is no whole number's square has no fraction for a root -/
theorem no_root {d : Int} (hd : ∀ r : Int, r * r ≠ d) {m n : Int} (e : m * m = n * n * d) : n = 0 := by
  refine Classical.byContradiction fun hn => ?_
  have h1 : n * n ∣ m * m := ⟨d, e⟩
  have h2 : n ∣ m := by
    have : n ^ 2 ∣ m ^ 2 := by rw [Int.pow_succ, Int.pow_succ, Int.pow_zero, Int.pow_succ, Int.pow_succ, Int.pow_zero]; simpa using h1
    exact (Int.pow_dvd_pow_iff (by decide)).mp this
  obtain ⟨k, rfl⟩ := h2
  refine hd k ?_
  have : n * n * (k * k) = n * n * d := by rw [← e]; grind
  exact Int.eq_of_mul_eq_mul_left (Int.mul_ne_zero hn hn) this
end RR
namespace RR
/-! ### within bounds -/
def Ab (B x : Rl) : Prop := x ≤ B ∧ -x ≤ B
theorem Ab.nn {B x : Rl} (h : Ab B x) : 0 ≤ B := by obtain ⟨a, b⟩ := h; grind
theorem Ab.add {A B x y : Rl} (h : Ab A x) (k : Ab B y) : Ab (A + B) (x + y) := by
  obtain ⟨a, b⟩ := h
  obtain ⟨c, d⟩ := k
  constructor <;> grind
theorem Ab.neg {A x : Rl} (h : Ab A x) : Ab A (-x) := by
  obtain ⟨a, b⟩ := h
  constructor <;> grind
theorem Ab.sub {A B x y : Rl} (h : Ab A x) (k : Ab B y) : Ab (A + B) (x - y) := by
  obtain ⟨a, b⟩ := h
  obtain ⟨c, d⟩ := k
  constructor <;> grind
theorem Ab.mul {A B x y : Rl} (h : Ab A x) (k : Ab B y) : Ab (A * B) (x * y) := by
  have hA := h.nn
  have hB := k.nn
  obtain ⟨a, b⟩ := h
  obtain ⟨c, d⟩ := k
  have p1 := mul_nn (show 0 ≤ A - x by grind) (show 0 ≤ B + y by grind)
  have p2 := mul_nn (show 0 ≤ A + x by grind) (show 0 ≤ B - y by grind)
  have p3 := mul_nn (show 0 ≤ A - x by grind) (show 0 ≤ B - y by grind)
  have p4 := mul_nn (show 0 ≤ A + x by grind) (show 0 ≤ B + y by grind)
  constructor <;> grind
theorem Ab.mono {A B x : Rl} (h : Ab A x) (k : A ≤ B) : Ab B x := by
  obtain ⟨a, b⟩ := h
  constructor <;> grind
theorem Ab.of_int {N i : Int} (h : i.natAbs ≤ N) : Ab (N : Rl) (i : Rl) := by
  constructor
  · rw [cast_le]; omega
  · rw [← cast_neg, cast_le]; omega
theorem int_one {i : Int} {B : Rl} (h : i ≠ 0) (k : Ab B (i : Rl)) : 1 ≤ B := by
  obtain ⟨a, b⟩ := k
  rcases Int.lt_or_gt_of_ne h with q | q
  · have : ((1 : Int) : Rl) ≤ ((-i : Int) : Rl) := by rw [cast_le]; omega
    rw [cast_neg, cast_one] at this
    grind
  · have : ((1 : Int) : Rl) ≤ (i : Rl) := by rw [cast_le]; omega
    rw [cast_one] at this
    grind
theorem root_le {N : Rl} {c b a : Int} {y : Rl} (hN : 1 ≤ N) (ha : 0 < a) (hb : Ab N (b : Rl)) (hc : Ab N (c : Rl)) (h : pv c b a y = 0) : Ab (2 * N) y := by
  have a1 : (1 : Rl) ≤ a := by rw [← cast_one, cast_le]; omega
  unfold pv at h
  have key : ∀ z β : Rl, Ab N β → (c : Rl) + β * z + a * z * z = 0 → z ≤ 2 * N := fun z β hβ e => by
    refine Classical.byContradiction fun q => ?_
    obtain ⟨b1, b2⟩ := hβ
    obtain ⟨c1, c2⟩ := hc
    have p1 := mul_nn (show 0 ≤ (a : Rl) - 1 by grind) (show 0 ≤ z * z from mul_nn (by grind) (by grind))
    have p2 := mul_nn (show 0 ≤ N + β by grind) (show 0 ≤ z by grind)
    have p3 := mul_pos (show 0 < z - 2 * N by grind) (show 0 < z by grind)
    have p4 := mul_nn (show 0 ≤ N by grind) (show 0 ≤ z - 1 by grind)
    grind
  refine ⟨key y b hb h, ?_⟩
  exact key (-y) (-b) hb.neg (by grind)
/-- the numbers of a time are small -/
def Tm.In (N : Int) : Tm → Prop
  | .fr p q => p.natAbs ≤ N ∧ q.natAbs ≤ N
  | .rt c b a w => c.natAbs ≤ N ∧ b.natAbs ≤ N ∧ a.natAbs ≤ N
theorem one_le_of {N : Int} (h : 1 ≤ N) : (1 : Rl) ≤ (N : Rl) := by rw [← cast_one, cast_le]; exact h
theorem pow_up {N : Rl} (h : 1 ≤ N) : 1 ≤ N * N ∧ N ≤ N * N := by
  have := mul_nn (show 0 ≤ N - 1 by grind) (show 0 ≤ N by grind)
  constructor <;> grind
/-- N to the seventh, forty times -/
noncomputable def big (N : Rl) : Rl := 40 * (N * N * N * N * N * N * N)
theorem big_le {N e : Rl} (hN : 1 ≤ N) (he : 0 ≤ e) : N * N * e ≤ big N * e ∧ 4 * (N * N * N * N) * e ≤ big N * e ∧ N * e ≤ big N * e := by
  have h0 : 0 ≤ N := by grind
  obtain ⟨u1, u2⟩ := pow_up hN
  have n2 := mul_nn h0 h0
  have n4 := mul_nn n2 n2
  have s4 := mul_nn (show 0 ≤ N * N - 1 by grind) n2
  have s7 : N * N * N * N ≤ N * N * N * N * N * N * N := by
    have t1 := mul_nn (show 0 ≤ N * N - 1 by grind) n4
    have t2 := mul_nn (show 0 ≤ N - 1 by grind) (mul_nn n4 n2)
    grind
  have n7 : 0 ≤ N * N * N * N * N * N * N := by
    have := mul_nn (mul_nn n4 n2) h0
    grind
  have r1 := mul_nn (show 0 ≤ big N - N * N by unfold big; grind) he
  have r2 := mul_nn (show 0 ≤ big N - 4 * (N * N * N * N) by unfold big; grind) he
  have r3 := mul_nn (show 0 ≤ big N - N by unfold big; grind) he
  grind
theorem sep_ff {N : Int} {p q r s : Int} {e : Rl} (hN : 1 ≤ N) (h : (Tm.fr p q).Nm) (k : (Tm.fr r s).Nm) (hi : (Tm.fr p q).In N) (ki : (Tm.fr r s).In N) (he : Ab e ((Tm.fr p q).val - (Tm.fr r s).val)) :
    Tm.fr p q = Tm.fr r s ∨ 1 ≤ big N * e := by
  have e1 := val_fr (p := p) h.1
  have e2 := val_fr (p := r) k.1
  by_cases z : p * s = r * q
  · obtain ⟨rfl, rfl⟩ := fr_inj h k z
    exact .inl rfl
  · right
    have hz : p * s - r * q ≠ 0 := by omega
    have c1 : ((p * s - r * q : Int) : Rl) = (q : Rl) * s * ((Tm.fr p q).val - (Tm.fr r s).val) := by
      rw [cast_sub, cast_mul, cast_mul, ← e1, ← e2]; grind
    have hq := Ab.of_int hi.2
    have hs := Ab.of_int ki.2
    have := int_one hz (B := (N : Rl) * N * e) (by rw [c1]; exact (hq.mul hs).mul he)
    have := (big_le (one_le_of hN) he.nn).1
    grind
theorem fr_le {N p q : Int} (hN : 1 ≤ N) (h : (Tm.fr p q).Nm) (hi : (Tm.fr p q).In N) : Ab (N : Rl) (Tm.fr p q).val := by
  have e1 := val_fr (p := p) h.1
  have hp := Ab.of_int hi.1
  have q1 : (1 : Rl) ≤ q := by rw [← cast_one, cast_le]; have := h.1; omega
  have n1 := one_le_of hN
  obtain ⟨a, b⟩ := hp
  generalize (Tm.fr p q).val = x at e1 ⊢
  constructor
  · refine Classical.byContradiction fun z => ?_
    have := mul_nn (show 0 ≤ (q : Rl) - 1 by grind) (show 0 ≤ x by grind)
    grind
  · refine Classical.byContradiction fun z => ?_
    have := mul_nn (show 0 ≤ (q : Rl) - 1 by grind) (show 0 ≤ -x by grind)
    grind
theorem rt_le {N c b a w : Int} (hN : 1 ≤ N) (h : (Tm.rt c b a w).Nm) (hi : (Tm.rt c b a w).In N) : Ab (2 * (N : Rl)) (Tm.rt c b a w).val :=
  root_le (one_le_of hN) h.1 (Ab.of_int hi.2.1) (Ab.of_int hi.1) (pv_own h)
theorem pv_fr {c b a p q : Int} (h : 0 < q) : (((a * p + b * q) * p + c * q * q : Int) : Rl) = (q : Rl) * q * pv c b a (Tm.fr p q).val := by
  have e := val_fr (p := p) h
  rw [cast_add, cast_mul, cast_add, cast_mul, cast_mul, cast_mul, cast_mul]
  generalize (Tm.fr p q).val = x at e ⊢
  unfold pv; rw [← e]; grind
theorem sep_fr {N : Int} {p q c b a w : Int} {e : Rl} (hN : 1 ≤ N) (h : (Tm.fr p q).Nm) (k : (Tm.rt c b a w).Nm) (hi : (Tm.fr p q).In N) (ki : (Tm.rt c b a w).In N) (he : Ab e ((Tm.fr p q).val - (Tm.rt c b a w).val)) :
    1 ≤ big N * e := by
  have n1 := one_le_of hN
  have hx := fr_le hN h hi
  have hy := rt_le hN k ki
  have ho := pv_own k
  have hz : (a * p + b * q) * p + c * q * q ≠ 0 := fun z => by
    have := no_root k.2.2.2.1 (m := 2 * a * p + b * q) (n := q) (by grind)
    have := h.1
    omega
  have c1 := pv_fr (c := c) (b := b) (a := a) (p := p) h.1
  have hq := Ab.of_int hi.2
  have hb := Ab.of_int ki.2.1
  have ha := Ab.of_int ki.2.2
  generalize (Tm.fr p q).val = x at *
  generalize (Tm.rt c b a w).val = y at *
  have c2 : pv c b a x = (x - y) * (a * (x + y) + b) := by unfold pv at ho ⊢; grind
  rw [c2] at c1
  have := int_one hz (by rw [c1]; exact (hq.mul hq).mul (he.mul ((ha.mul (hx.add hy)).add hb)))
  have h4 : (N : Rl) * N * (e * (N * (N + 2 * N) + N)) ≤ 4 * (N * N * N * N) * e := by
    have := mul_nn (mul_nn (mul_nn (show (0 : Rl) ≤ N by grind) (show (0 : Rl) ≤ N by grind)) (mul_nn (show 0 ≤ (N : Rl) - 1 by grind) (show (0 : Rl) ≤ N by grind))) he.nn
    grind
  have := (big_le n1 he.nn).2.1
  grind
theorem sq_eq_zero {x : Int} (h : x * x = 0) : x = 0 := by
  rcases Int.mul_eq_zero.mp h with q | q <;> exact q
theorem prim_eq {c b a c' b' a' : Int} (h : 0 < a) (h' : 0 < a') (g : Int.gcd (Int.gcd c b) a = 1) (g' : Int.gcd (Int.gcd c' b') a' = 1) (e1 : c' * a = a' * c) (e2 : b' * a = a' * b) : c = c' ∧ b = b' ∧ a = a' := by
  have key : ∀ {c b a c' b' a' : Int}, Int.gcd (Int.gcd c b) a = 1 → c' * a = a' * c → b' * a = a' * b → a ∣ a' := fun {c b a c' b' a'} g e1 e2 => by
    have d1 : a ∣ a' * c := ⟨c', by rw [← e1]; grind⟩
    have d2 : a ∣ a' * b := ⟨b', by rw [← e2]; grind⟩
    have d3 : a ∣ a' * a := ⟨a', by grind⟩
    have d4 : a ∣ a' * (Int.gcd c b : Int) := by
      have := Int.dvd_coe_gcd d1 d2
      rw [Int.gcd_mul_left] at this
      have h2 : a ∣ (a'.natAbs : Int) * (Int.gcd c b : Int) := by rw [← Int.natCast_mul]; exact this
      rcases Int.natAbs_eq a' with q | q
      · rw [← q] at h2; exact h2
      · rw [q]
        obtain ⟨t, ht⟩ := h2
        exact ⟨-t, by grind⟩
    exact cop_dvd (m := (Int.gcd c b : Int)) (by rw [Int.gcd_comm]; exact g) d4
  have d1 := key g e1 e2
  have d2 := key g' (c' := c) (b' := b) (a' := a) (by grind) (by grind)
  have e3 : a = a' := Int.dvd_antisymm (by omega) (by omega) d1 d2
  subst e3
  refine ⟨?_, ?_, rfl⟩
  · exact Int.eq_of_mul_eq_mul_right (show a ≠ 0 by omega) (by grind)
  · exact Int.eq_of_mul_eq_mul_right (show a ≠ 0 by omega) (by grind)
theorem norm_id {p m a b c y : Rl} (h : c + b * y + a * y * y = 0) : a * p * p - p * m * b + m * m * c = (p + m * y) * (a * p - m * b - a * m * y) := by
  have : m * m * (c + b * y + a * y * y) = 0 := by rw [h]; grind
  grind
theorem sep_rr {N : Int} {c b a w c' b' a' w' : Int} {e : Rl} (hN : 1 ≤ N) (h : (Tm.rt c b a w).Nm) (k : (Tm.rt c' b' a' w').Nm) (hi : (Tm.rt c b a w).In N) (ki : (Tm.rt c' b' a' w').In N)
    (he : Ab e ((Tm.rt c b a w).val - (Tm.rt c' b' a' w').val)) : Tm.rt c b a w = Tm.rt c' b' a' w' ∨ 1 ≤ big N * e := by
  have n1 := one_le_of hN
  have n0 : (0 : Rl) ≤ N := by grind
  have en := he.nn
  have hy := rt_le hN h hi
  have hz := rt_le hN k ki
  have oy := pv_own h
  have oz := pv_own k
  have vy := val_rt (c := c) (b := b) (w := w) h.1
  have vz := val_rt (c := c') (b := b') (w := w') k.1
  have ia := Ab.of_int hi.2.2
  have ib := Ab.of_int hi.2.1
  have ic := Ab.of_int hi.1
  have ia' := Ab.of_int ki.2.2
  have ib' := Ab.of_int ki.2.1
  have ic' := Ab.of_int ki.1
  by_cases z : a * (c' * a - a' * c) * (c' * a - a' * c) - (c' * a - a' * c) * (b' * a - a' * b) * b + (b' * a - a' * b) * (b' * a - a' * b) * c = 0
  · have hm : b' * a - a' * b = 0 := no_root h.2.2.2.1 (m := 2 * a * (c' * a - a' * c) - b * (b' * a - a' * b)) (by grind)
    have hp : c' * a - a' * c = 0 := by
      rw [hm] at z
      have : a * ((c' * a - a' * c) * (c' * a - a' * c)) = 0 := by grind
      rcases Int.mul_eq_zero.mp this with q | q
      · have := h.1; omega
      · exact sq_eq_zero q
    obtain ⟨rfl, rfl, rfl⟩ := prim_eq h.1 k.1 h.2.1 k.2.1 (by omega) (by omega)
    by_cases hw : w = w'
    · subst hw; exact .inl rfl
    · right
      have sp := rt_sq (Int.le_of_lt h.2.2.1)
      have s0 := rt_nn (b * b - 4 * a * c)
      have s1 : (1 : Rl) ≤ RR.rt (b * b - 4 * a * c) := by
        refine Classical.byContradiction fun q => ?_
        have : ((1 : Int) : Rl) ≤ ((b * b - 4 * a * c : Int) : Rl) := by rw [cast_le]; have := h.2.2.1; omega
        rw [cast_one, ← sp] at this
        have := sq_lt_sq s0 (show RR.rt (b * b - 4 * a * c) < 1 by grind)
        grind
      generalize RR.rt (b * b - 4 * a * c) = s at *
      have am := ia.mul he
      generalize (Tm.rt c b a w).val = y at *
      generalize (Tm.rt c b a w').val = z at *
      have := (big_le n1 en).2.2
      obtain ⟨am1, am2⟩ := am
      rcases h.2.2.2.2 with rfl | rfl <;> rcases k.2.2.2.2 with rfl | rfl
      · exact absurd rfl hw
      · rw [cast_zero] at vy
        rw [cast_one] at vz
        grind
      · rw [cast_one] at vy
        rw [cast_zero] at vz
        grind
      · exact absurd rfl hw
  · right
    generalize (Tm.rt c b a w).val = y at *
    generalize (Tm.rt c' b' a' w').val = t at *
    have ip : Ab ((N : Rl) * N + N * N) (((c' * a - a' * c : Int)) : Rl) := by
      rw [cast_sub, cast_mul, cast_mul]; exact (ic'.mul ia).sub (ia'.mul ic)
    have im : Ab ((N : Rl) * N + N * N) (((b' * a - a' * b : Int)) : Rl) := by
      rw [cast_sub, cast_mul, cast_mul]; exact (ib'.mul ia).sub (ia'.mul ib)
    generalize hp : c' * a - a' * c = p at *
    generalize hm : b' * a - a' * b = m at *
    -- p + m y is a times the other quadratic at y
    have q1 : (p : Rl) + m * y = a * ((y - t) * (a' * (y + t) + b')) := by
      rw [← hp, ← hm, cast_sub, cast_mul, cast_mul, cast_sub, cast_mul, cast_mul]
      unfold pv at oy oz
      grind
    have q2 : ((a * p * p - p * m * b + m * m * c : Int) : Rl) = (p + m * y) * ((a : Rl) * p - m * b - a * m * y) := by
      rw [cast_add, cast_sub, cast_mul, cast_mul, cast_mul, cast_mul, cast_mul, cast_mul]
      exact norm_id oy
    have i1 := ia.mul (he.mul ((ia'.mul (hy.add hz)).add ib'))
    rw [← q1] at i1
    have i2 := ((ia.mul ip).sub (im.mul ib)).sub ((ia.mul im).mul hy)
    have := int_one z (by rw [q2]; exact i1.mul i2)
    -- N e (N 4 N + N) (2 N^3 + 2 N^3 + 4 N^4)
    have l1 : (N : Rl) * (N * (2 * N + 2 * N) + N) ≤ 5 * (N * N * N) := by
      have := mul_nn (mul_nn n0 n0) (show 0 ≤ (N : Rl) - 1 by grind)
      grind
    have l2 : (N : Rl) * (N * N + N * N) + (N * N + N * N) * N + N * (N * N + N * N) * (2 * N) ≤ 8 * (N * N * N * N) := by
      have := mul_nn (mul_nn (mul_nn n0 n0) n0) (show 0 ≤ (N : Rl) - 1 by grind)
      grind
    have b1 : 0 ≤ (N : Rl) * (N * (2 * N + 2 * N) + N) := by
      have := mul_nn n0 n0
      exact mul_nn n0 (by have := mul_nn n0 (show 0 ≤ 2 * (N : Rl) + 2 * N by grind); grind)
    have b2 : 0 ≤ 8 * ((N : Rl) * N * N * N) := by
      have := mul_nn (mul_nn (mul_nn n0 n0) n0) n0
      grind
    have l3 := mul_nn b1 (show 0 ≤ 8 * ((N : Rl) * N * N * N) - ((N : Rl) * (N * N + N * N) + (N * N + N * N) * N + N * (N * N + N * N) * (2 * N)) by grind)
    have l4 := mul_nn (show 0 ≤ 5 * ((N : Rl) * N * N) - (N : Rl) * (N * (2 * N + 2 * N) + N) by grind) b2
    have l5 : (N : Rl) * (N * (2 * N + 2 * N) + N) * (N * (N * N + N * N) + (N * N + N * N) * N + N * (N * N + N * N) * (2 * N)) ≤ 40 * (N * N * N * N * N * N * N) := by grind
    have l6 := mul_nn (show 0 ≤ 40 * ((N : Rl) * N * N * N * N * N * N) - (N : Rl) * (N * (2 * N + 2 * N) + N) * (N * (N * N + N * N) + (N * N + N * N) * N + N * (N * N + N * N) * (2 * N)) by grind) en
    unfold big
    grind
/-- two times that are this near are one -/
theorem sep {N : Int} {t u : Tm} {e : Rl} (hN : 1 ≤ N) (h : t.Nm) (k : u.Nm) (hi : t.In N) (ki : u.In N) (he : Ab e (t.val - u.val)) : t = u ∨ 1 ≤ big N * e := by
  cases t with
  | fr p q =>
    cases u with
    | fr r s => exact sep_ff hN h k hi ki he
    | rt c b a w => exact .inr (sep_fr hN h k hi ki he)
  | rt c b a w =>
    cases u with
    | fr r s => exact .inr (sep_fr hN k h ki hi (by have := he.neg; rw [show -((Tm.rt c b a w).val - (Tm.fr r s).val) = (Tm.fr r s).val - (Tm.rt c b a w).val by grind] at this; exact this))
    | rt c' b' a' w' => exact sep_rr hN h k hi ki he
theorem Tm.in_ex (t u : Tm) : ∃ N : Int, 1 ≤ N ∧ t.In N ∧ u.In N := by
  have key : ∀ t : Tm, ∃ N : Int, ∀ M : Int, N ≤ M → t.In M := fun t => by
    cases t with
    | fr p q => exact ⟨p.natAbs + q.natAbs, fun M h => ⟨by omega, by omega⟩⟩
    | rt c b a w => exact ⟨c.natAbs + b.natAbs + a.natAbs, fun M h => ⟨by omega, by omega, by omega⟩⟩
  obtain ⟨N, h⟩ := key t
  obtain ⟨M, k⟩ := key u
  exact ⟨max 1 (max N M), by omega, h _ (by omega), k _ (by omega)⟩
theorem val_inj {t u : Tm} (h : t.Nm) (k : u.Nm) (e : t.val = u.val) : t = u := by
  obtain ⟨N, h1, h2, h3⟩ := Tm.in_ex t u
  rcases sep h1 h k h2 h3 (e := 0) ⟨by rw [e]; grind, by rw [e]; grind⟩ with q | q
  · exact q
  · grind
end RR
namespace SL
open RR
/-! ### times as data -/
def TD : Tm → D
  | .fr p q => .tup [.int p, .int q]
  | .rt c b a w => .tup [.str "root", .tup [.int c, .int b, .int a], .int w]
theorem TD_fr {p q : Int} : TD (.fr p q) = .tup [.int p, .int q] := rfl
theorem TD_rt {c b a w : Int} : TD (.rt c b a w) = .tup [.str "root", .tup [.int c, .int b, .int a], .int w] := rfl
def TB (n : Nat) : Tm → Prop
  | .fr p q => Bd n p ∧ Bd n q
  | .rt c b a w => Bd n c ∧ Bd n b ∧ Bd n a
theorem TB.mono {n m : Nat} {t : Tm} (h : TB n t) (l : n ≤ m) : TB m t := by
  cases t with
  | fr p q => exact ⟨h.1.mono l, h.2.mono l⟩
  | rt c b a w => exact ⟨h.1.mono l, h.2.1.mono l, h.2.2.mono l⟩
theorem bd_w {w : Int} (h : w = 0 ∨ w = 1) : Bd 10 w := by
  rcases h with rfl | rfl <;> exact Bd.lit 10 rfl
theorem fr_ne_root {p q : Int} {h : Hs} : neG (.int p) (.str "root") h = some (.bl true, h) := rfl
theorem TD_eq (t u : Tm) (h : Hs) [Decidable (t = u)] : eqG (TD t) (TD u) h = some (.bl (decide (t = u)), h) := by
  cases t with
  | fr p q =>
    cases u with
    | fr r s =>
      show some (D.bl ((p == r) && ((q == s) && true)), h) = _
      congr 2
      congr 1
      rw [Bool.and_true, Bool.beq_eq_decide_eq, Bool.beq_eq_decide_eq]
      simp
    | rt c b a w =>
      show some (D.bl _, h) = _
      congr 2
      congr 1
      rw [decide_eq_false (fun z => nomatch z)]; rfl
  | rt c b a w =>
    cases u with
    | fr r s =>
      show some (D.bl _, h) = _
      congr 2
      congr 1
      rw [decide_eq_false (fun z => nomatch z)]; rfl
    | rt c' b' a' w' =>
      show some (D.bl (true && (((c == c') && ((b == b') && ((a == a') && true))) && ((w == w') && true))), h) = _
      congr 2
      congr 1
      simp only [Bool.and_true, Bool.true_and, Bool.beq_eq_decide_eq]
      simp [and_assoc, Bool.and_assoc]
end SL
namespace RR
/-! ### the greatest number whose square is no greater -/
def IsRt (n r : Int) : Prop := 0 ≤ r ∧ r * r ≤ n ∧ n < (r + 1) * (r + 1)
theorem le_of_sq {x y : Int} (hy : 0 ≤ y) (h : x * x < (y + 1) * (y + 1)) : x ≤ y := by
  refine Int.not_lt.mp fun q => ?_
  have : (y + 1) * (y + 1) ≤ x * x := Int.mul_le_mul (by omega) (by omega) (by omega) (by omega)
  omega
theorem isRt_ex {n : Int} (h : 0 ≤ n) : ∃ r, IsRt n r := by
  have key : ∀ k : Nat, ∃ r : Int, IsRt (k : Int) r := fun k => by
    induction k with
    | zero => exact ⟨0, by decide, by decide, by decide⟩
    | succ k ih =>
      obtain ⟨r, a, b, c⟩ := ih
      by_cases q : ((k + 1 : Nat) : Int) < (r + 1) * (r + 1)
      · exact ⟨r, a, by omega, q⟩
      · refine ⟨r + 1, by omega, by omega, ?_⟩
        have : (r + 1 + 1) * (r + 1 + 1) = (r + 1) * (r + 1) + 2 * r + 3 := by grind
        omega
  obtain ⟨k, rfl⟩ := Int.eq_ofNat_of_zero_le h
  exact key k
theorem IsRt.unique {n r s : Int} (h : IsRt n r) (k : IsRt n s) : r = s := by
  obtain ⟨a, b, c⟩ := h
  obtain ⟨d, e, f⟩ := k
  have := le_of_sq (x := r) d (by omega)
  have := le_of_sq (x := s) a (by omega)
  omega
theorem IsRt.sq_iff {n r : Int} (h : IsRt n r) : r * r = n ↔ ∃ x : Int, x * x = n := by
  constructor
  · exact fun e => ⟨r, e⟩
  · rintro ⟨x, e⟩
    have key : ∀ x : Int, 0 ≤ x → x * x = n → r * r = n := fun x hx e => by
      have : IsRt n x := ⟨hx, by omega, by have : (x + 1) * (x + 1) = x * x + 2 * x + 1 := by grind
                                           omega⟩
      rw [h.unique this]; exact e
    rcases Int.le_total 0 x with q | q
    · exact key x q e
    · exact key (-x) (by omega) (by rw [Int.neg_mul_neg]; exact e)
/-- one step nearer -/
theorem step_ge {n r h : Int} (hr : IsRt n r) (hh : 0 < h) : r ≤ (h + n.fdiv h).fdiv 2 := by
  obtain ⟨a, b, c⟩ := hr
  rw [Int.fdiv_eq_ediv_of_nonneg _ (by omega), Int.fdiv_eq_ediv_of_nonneg _ (by omega)]
  have h1 : h * (n / h) + n % h = n := Int.mul_ediv_add_emod n h
  have h2 := Int.emod_lt_of_pos n hh
  have h3 := Int.emod_nonneg n (show h ≠ 0 by omega)
  generalize n / h = q at *
  refine Int.not_lt.mp fun z => ?_
  have h4 : h + q ≤ 2 * r - 1 := by omega
  have h5 : h * q ≤ h * (2 * r - 1 - h) := Int.mul_le_mul_of_nonneg_left (by omega) (by omega)
  have h6 : h * (2 * r - 1 - h) + h = r * r - (h - r) * (h - r) := by grind
  have h7 : 0 ≤ (h - r) * (h - r) := by
    rcases Int.le_total 0 (h - r) with p | p
    · exact Int.mul_nonneg p p
    · rw [← Int.neg_mul_neg]; exact Int.mul_nonneg (by omega) (by omega)
  omega
theorem step_lt {n h : Int} (h0 : 0 ≤ n) (hh : 0 ≤ h) (q : n < h * h) : 0 < h ∧ (h + n.fdiv h).fdiv 2 < h ∧ 0 ≤ (h + n.fdiv h).fdiv 2 := by
  have hp : 0 < h := by
    rcases Int.lt_or_eq_of_le hh with z | z
    · exact z
    · subst z; omega
  rw [Int.fdiv_eq_ediv_of_nonneg _ (by omega), Int.fdiv_eq_ediv_of_nonneg _ (by omega)]
  have h1 : h * (n / h) + n % h = n := Int.mul_ediv_add_emod n h
  have h3 := Int.emod_nonneg n (show h ≠ 0 by omega)
  have h4 : 0 ≤ n / h := Int.ediv_nonneg h0 hh
  have h5 : n / h < h := by
    refine Int.not_le.mp fun z => ?_
    have : h * h ≤ h * (n / h) := Int.mul_le_mul_of_nonneg_left z hh
    omega
  omega
/-! ### Euclid -/
theorem gcd_step {a b : Int} (hb : 0 < b) : Int.gcd b (a.fmod b) = Int.gcd a b := by
  rw [Int.fmod_eq_emod_of_nonneg _ (by omega)]
  have h1 : a = a % b + b * (a / b) := by have := Int.mul_ediv_add_emod a b; omega
  have h2 := Int.gcd_add_mul_left_left b (a % b) (a / b)
  rw [← h1] at h2
  rw [h2, Int.gcd_comm]
end RR
namespace SL
open RR
/-! ### what a call leaves as it was -/
def Keep (P : Nat → Prop) (h h' : Hs) : Prop := h.length ≤ h'.length ∧ ∀ k, k < h.length → P k → h'[k]? = h[k]?
theorem Keep.refl {P : Nat → Prop} {h : Hs} : Keep P h h := ⟨Nat.le_refl _, fun _ _ _ => rfl⟩
theorem Keep.trans {P : Nat → Prop} {h h1 h2 : Hs} (a : Keep P h h1) (b : Keep P h1 h2) : Keep P h h2 :=
  ⟨Nat.le_trans a.1 b.1, fun k l p => (b.2 k (Nat.lt_of_lt_of_le l a.1) p).trans (a.2 k l p)⟩
theorem Keep.app {P : Nat → Prop} {h G : Hs} : Keep P h (h ++ G) := ⟨by simp, fun k l _ => List.getElem?_append_left l⟩
theorem Keep.set {P : Nat → Prop} {h : Hs} {n : Nat} {o : AO} (hp : ¬ P n) : Keep P h (h.set n o) := ⟨by simp, fun k _ p => by
  rw [List.getElem?_set_ne]
  rintro rfl
  exact hp p⟩
theorem Keep.weak {P Q : Nat → Prop} {h h' : Hs} (a : Keep P h h') (w : ∀ k, Q k → P k) : Keep Q h h' := ⟨a.1, fun k l q => a.2 k l (w k q)⟩
theorem Keep.get {P : Nat → Prop} {h h' : Hs} {k : Nat} {o : AO} (a : Keep P h h') (e : h[k]? = some o) (p : P k) : h'[k]? = some o := by
  rw [a.2 k (List.getElem?_eq_some_iff.mp e).1 p]; exact e
theorem Keep.getL {P : Nat → Prop} {h h' : Hs} {k : Nat} {ds : List D} (a : Keep P h h') (e : getL h k = some ds) (p : P k) : getL h' k = some ds := by
  have hk : k < h.length := by
    unfold SL.getL at e
    split at e
    · next e1 => exact (List.getElem?_eq_some_iff.mp e1).1
    · next e1 => exact (List.getElem?_eq_some_iff.mp e1).1
    · cases e
  unfold SL.getL at *
  rw [a.2 k hk p]; exact e
theorem getL_lst {h : Hs} {k : Nat} {ds : List D} (e : h[k]? = some (.lst ds)) : getL h k = some ds := by unfold getL; rw [e]
theorem getL_fz {h : Hs} {k : Nat} {ds : List D} (e : h[k]? = some (.fz ds)) : getL h k = some ds := by unfold getL; rw [e]
theorem get_last {h : Hs} {o : AO} : (h ++ [o])[h.length]? = some o := by simp
theorem getL_last {h : Hs} {ds : List D} : getL (h ++ [.lst ds]) h.length = some ds := getL_lst get_last
theorem ev_idx {h : Hs} {n : Nat} {ds : List D} {i : Int} {d : D} (e : getL h n = some ds) (a : L2.atI ds i = some d) : subG' (.ref n) (.int i) h = some (d, h) := by
  unfold getL at e
  show (match h[n]? with | some (.dct kvs) => _ | some (.lst ds) => _ | some (.fz ds) => _ | _ => none) = _
  split at e
  · next e1 => cases e; rw [e1]; simp only [a]
  · next e1 => cases e; rw [e1]; simp only [a]
  · cases e
theorem ev_last0 {h : Hs} {d : D} {ds : List D} : subG' (.ref h.length) (.int 0) (h ++ [.lst (d :: ds)]) = some (d, h ++ [.lst (d :: ds)]) := ev_idx getL_last (L2.atI_nat (j := 0) rfl)
theorem ev_last1 {h : Hs} {x d : D} {ds : List D} : subG' (.ref h.length) (.int 1) (h ++ [.lst (x :: d :: ds)]) = some (d, h ++ [.lst (x :: d :: ds)]) := ev_idx getL_last (L2.atI_nat (j := 1) rfl)
theorem PwOk.two {n : Nat} {i : Int} (a : Bd n i) (h : n * 2 ≤ 134217728) : PwOk i 2 := PwOk.of (k := 2) a h
theorem PwOk.lit {n k : Nat} {i j : Int} (a : Bd n i) (e : j = (k : Int)) (h : n * k ≤ 134217728) : PwOk i j := by subst e; exact PwOk.of a h
end SL
namespace RR
/-! ### lowest terms -/
theorem fdiv_mul {x y : Int} (h : y ≠ 0) : (y * x).fdiv y = x := by rw [Int.mul_comm]; exact Int.mul_fdiv_cancel x h
theorem natAbs_le_mul {x y : Int} (h : y ≠ 0) : x.natAbs ≤ (y * x).natAbs := by
  rw [Int.natAbs_mul]
  exact Nat.le_mul_of_pos_left _ (by omega)
theorem low_fr {a b s : Int} (hb : b ≠ 0) (hs : s = if b < 0 then -1 else 1) : ∃ p q, a.fdiv ((Int.gcd a b : Int) * s) = p ∧ b.fdiv ((Int.gcd a b : Int) * s) = q ∧ (Tm.fr p q).Nm ∧ p * b = a * q ∧ p.natAbs ≤ a.natAbs ∧ q.natAbs ≤ b.natAbs ∧ (Int.gcd a b : Int) * s ≠ 0 := by
  have hg : Int.gcd a b ≠ 0 := fun z => hb (Int.gcd_eq_zero_iff.mp z).2
  obtain ⟨x, hx⟩ := Int.gcd_dvd_left a b
  obtain ⟨y, hy⟩ := Int.gcd_dvd_right a b
  have hc : Int.gcd x y = 1 := by
    have e : Int.gcd a b = Int.gcd a b * Int.gcd x y := by
      have := Int.gcd_mul_left (Int.gcd a b : Int) x y
      rw [← hx, ← hy] at this
      simpa using this
    exact Nat.eq_of_mul_eq_mul_left (Nat.pos_of_ne_zero hg) (by rw [← e, Nat.mul_one])
  generalize hgg : (Int.gcd a b : Int) = g at *
  have hg0 : 0 < g := by omega
  have hs2 : s = 1 ∨ s = -1 := by subst hs; split <;> simp
  have hss : s * s = 1 := by rcases hs2 with rfl | rfl <;> rfl
  have hgs : g * s ≠ 0 := Int.mul_ne_zero (by omega) (by rcases hs2 with rfl | rfl <;> decide)
  have e1 : a = (g * s) * (s * x) := by rw [hx]; grind
  have e2 : b = (g * s) * (s * y) := by rw [hy]; grind
  refine ⟨s * x, s * y, by conv => lhs; rw [e1]
                           exact fdiv_mul hgs, by conv => lhs; rw [e2]
                                                  exact fdiv_mul hgs, ⟨?_, ?_⟩, by rw [hx, hy]; grind, by conv => rhs; rw [e1]
                                                                                                          exact natAbs_le_mul hgs, by conv => rhs; rw [e2]
                                                                                                                                      exact natAbs_le_mul hgs, hgs⟩
  · have hy0 : y ≠ 0 := fun z => hb (by rw [hy, z]; simp)
    by_cases q : b < 0
    · rw [if_pos q] at hs
      subst hs
      have : y < 0 := by
        refine Int.not_le.mp fun z => ?_
        have := Int.mul_nonneg (Int.le_of_lt hg0) z
        omega
      omega
    · rw [if_neg q] at hs
      subst hs
      have : 0 < y := by
        refine Int.not_le.mp fun z => ?_
        have := Int.mul_pos hg0 (show 0 < -y by omega)
        have e3 : g * -y = -(g * y) := by grind
        omega
      omega
  · rcases hs2 with rfl | rfl
    · simpa using hc
    · rw [show (-1 : Int) * x = -x by omega, show (-1 : Int) * y = -y by omega, Int.gcd_neg, Int.neg_gcd]; exact hc
/-! ### a quadratic told in the one way -/
theorem low_rt {c b a s : Int} (ha : a ≠ 0) (hs : s = if a < 0 then -1 else 1) : ∃ c' b' a', c.fdiv ((Int.gcd (Int.gcd c b) a : Int) * s) = c' ∧ b.fdiv ((Int.gcd (Int.gcd c b) a : Int) * s) = b' ∧ a.fdiv ((Int.gcd (Int.gcd c b) a : Int) * s) = a' ∧
    0 < a' ∧ Int.gcd (Int.gcd c' b') a' = 1 ∧ c' * a = c * a' ∧ b' * a = b * a' ∧ c'.natAbs ≤ c.natAbs ∧ b'.natAbs ≤ b.natAbs ∧ a'.natAbs ≤ a.natAbs ∧ (Int.gcd (Int.gcd c b) a : Int) * s ≠ 0 ∧ (∃ k, k ≠ 0 ∧ c = k * c' ∧ b = k * b' ∧ a = k * a') := by
  have hg : Int.gcd (Int.gcd c b) a ≠ 0 := fun z => ha (Int.gcd_eq_zero_iff.mp z).2
  have d0 := Int.gcd_dvd_left (Int.gcd c b : Int) a
  obtain ⟨x, hx⟩ := Int.dvd_trans d0 (Int.gcd_dvd_left c b)
  obtain ⟨y, hy⟩ := Int.dvd_trans d0 (Int.gcd_dvd_right c b)
  obtain ⟨z, hz⟩ := Int.gcd_dvd_right (Int.gcd c b : Int) a
  have hc : Int.gcd (Int.gcd x y) z = 1 := by
    have e0 : (Int.gcd c b : Int) = (Int.gcd (Int.gcd c b) a : Int) * (Int.gcd x y : Int) := by
      have := Int.gcd_mul_left (Int.gcd (Int.gcd c b) a : Int) x y
      rw [← hx, ← hy] at this
      have h2 : Int.gcd c b = Int.gcd (Int.gcd c b) a * Int.gcd x y := by simpa using this
      rw [← Int.natCast_mul]
      exact congrArg Int.ofNat h2
    have e : Int.gcd (Int.gcd c b) a = Int.gcd (Int.gcd c b) a * Int.gcd (Int.gcd x y) z := by
      have := Int.gcd_mul_left (Int.gcd (Int.gcd c b) a : Int) (Int.gcd x y : Int) z
      rw [← hz, ← e0] at this
      simpa using this
    exact Nat.eq_of_mul_eq_mul_left (Nat.pos_of_ne_zero hg) (by rw [← e, Nat.mul_one])
  generalize hgg : (Int.gcd (Int.gcd c b) a : Int) = g at *
  have hg0 : 0 < g := by omega
  have hs2 : s = 1 ∨ s = -1 := by subst hs; split <;> simp
  have hss : s * s = 1 := by rcases hs2 with rfl | rfl <;> rfl
  have hgs : g * s ≠ 0 := Int.mul_ne_zero (by omega) (by rcases hs2 with rfl | rfl <;> decide)
  have e1 : c = (g * s) * (s * x) := by rw [hx]; grind
  have e2 : b = (g * s) * (s * y) := by rw [hy]; grind
  have e3 : a = (g * s) * (s * z) := by rw [hz]; grind
  have f1 : c.fdiv (g * s) = s * x := by conv => lhs; rw [e1]
                                         exact fdiv_mul hgs
  have f2 : b.fdiv (g * s) = s * y := by conv => lhs; rw [e2]
                                         exact fdiv_mul hgs
  have f3 : a.fdiv (g * s) = s * z := by conv => lhs; rw [e3]
                                         exact fdiv_mul hgs
  refine ⟨s * x, s * y, s * z, f1, f2, f3, ?_, ?_, by rw [hx, hz]; grind, by rw [hy, hz]; grind, ?_, ?_, ?_, hgs, g * s, hgs, e1, e2, e3⟩
  · have hy0 : z ≠ 0 := fun w => ha (by rw [hz, w]; simp)
    by_cases q : a < 0
    · rw [if_pos q] at hs
      subst hs
      have : z < 0 := by
        refine Int.not_le.mp fun w => ?_
        have := Int.mul_nonneg (Int.le_of_lt hg0) w
        omega
      omega
    · rw [if_neg q] at hs
      subst hs
      have : 0 < z := by
        refine Int.not_le.mp fun w => ?_
        have := Int.mul_pos hg0 (show 0 < -z by omega)
        have e3 : g * -z = -(g * z) := by grind
        omega
      omega
  · rcases hs2 with rfl | rfl
    · simpa using hc
    · rw [show (-1 : Int) * x = -x by omega, show (-1 : Int) * y = -y by omega, show (-1 : Int) * z = -z by omega, Int.gcd_neg, Int.neg_gcd, Int.gcd_neg]; exact hc
  · conv => rhs; rw [e1]
    exact natAbs_le_mul hgs
  · conv => rhs; rw [e2]
    exact natAbs_le_mul hgs
  · conv => rhs; rw [e3]
    exact natAbs_le_mul hgs
end RR
namespace SL
open RR
/-! ### powers of ten, dictionaries of two, lists grown -/
section
variable {h h2 : Hs} {n : Nat} {d e v : D} {i j : Int} {ρ : Rho} {ds : List D}
theorem p10_3 : powG (.int 10) (.int 3) h = some (.int 1000, h) := rfl
theorem p10_6 : powG (.int 10) (.int 6) h = some (.int 1000000, h) := rfl
theorem p10_7 : powG (.int 10) (.int 7) h = some (.int 10000000, h) := rfl
theorem p10_8 : powG (.int 10) (.int 8) h = some (.int 100000000, h) := rfl
theorem p10_9 : powG (.int 10) (.int 9) h = some (.int 1000000000, h) := rfl
theorem p10_12 : powG (.int 10) (.int 12) h = some (.int 1000000000000, h) := rfl
theorem p10_15 : powG (.int 10) (.int 15) h = some (.int 1000000000000000, h) := rfl
theorem p10_18 : powG (.int 10) (.int 18) h = some (.int 1000000000000000000, h) := rfl
theorem p10_60 : powG (.int 10) (.int 60) h = some (.int 1000000000000000000000000000000000000000000000000000000000000, h) := rfl
/-- the state of the draw -/
def draw (d m : Int) : AO := .dct [(.inr "digits", .int d), (.inr "number", .int m)]
theorem dr_d {m k : Int} (a : h[n]? = some (draw m k)) : subG' (.ref n) (.str "digits") h = some (.int m, h) := by
  show (match h[n]? with | some (.dct kvs) => _ | some (.lst ds) => _ | some (.fz ds) => _ | _ => none) = _
  rw [a]; rfl
theorem dr_n {m k : Int} (a : h[n]? = some (draw m k)) : subG' (.ref n) (.str "number") h = some (.int k, h) := by
  show (match h[n]? with | some (.dct kvs) => _ | some (.lst ds) => _ | some (.fz ds) => _ | _ => none) = _
  rw [a]; rfl
theorem dr_sd {m k x : Int} (a : h[n]? = some (draw m k)) : setG (.ref n) (.str "digits") (.int x) h = some (h.set n (draw x k)) := by
  show (match h[n]? with | some (.lst ds) => _ | some (.dct kvs) => _ | _ => none) = _
  rw [a]; rfl
theorem dr_sn {m k x : Int} (a : h[n]? = some (draw m k)) : setG (.ref n) (.str "number") (.int x) h = some (h.set n (draw m x)) := by
  show (match h[n]? with | some (.lst ds) => _ | some (.dct kvs) => _ | _ => none) = _
  rw [a]; rfl
/-! dictionaries told out -/
def pK1 (mv : ME) (mr : MP) (ρ : Rho) (k : D) (h1 : Hs) : Option (List (L2.Key × D) × Hs) := bd (mv ρ h1) fun v h2 => bd (mr ρ h2) fun r h3 => match keyOf k with
  | some q => some ((q, v) :: r, h3)
  | none => none
def pK2 (mr : MP) (ρ : Rho) (k v : D) (h2 : Hs) : Option (List (L2.Key × D) × Hs) := bd (mr ρ h2) fun r h3 => match keyOf k with
  | some q => some ((q, v) :: r, h3)
  | none => none
def pK3 (k v : D) (r : List (L2.Key × D)) (h3 : Hs) : Option (List (L2.Key × D) × Hs) := match keyOf k with
  | some q => some ((q, v) :: r, h3)
  | none => none
theorem ev_pNil : pNil ρ h = some ([], h) := rfl
theorem ev_pCons {mk mv : ME} {mr : MP} : pCons mk mv mr ρ h = bd (mk ρ h) (pK1 mv mr ρ) := rfl
theorem ev_pK1 {mv : ME} {mr : MP} : pK1 mv mr ρ d h = bd (mv ρ h) (pK2 mr ρ d) := rfl
theorem ev_pK2 {mr : MP} : pK2 mr ρ d v h = bd (mr ρ h) (pK3 d v) := rfl
theorem ev_pK3s {z : PySem.Str} {r : List (L2.Key × D)} : pK3 (.str z) v r h = some ((.inr z, v) :: r, h) := rfl
theorem ev_pK3i {r : List (L2.Key × D)} : pK3 (.int i) v r h = some ((.inl i, v) :: r, h) := rfl
def dictK (kvs : List (L2.Key × D)) (h1 : Hs) : Option (D × Hs) := some (.ref h1.length, h1 ++ [.dct (mergeD [] kvs)])
theorem ev_dict {m : MP} : eDict m ρ h = bd (m ρ h) dictK := rfl
theorem ev_draw {m k : Int} : dictK [(.inr "digits", .int m), (.inr "number", .int k)] h = some (.ref h.length, h ++ [draw m k]) := rfl
theorem ev_lenL (e : getL h n = some ds) : lenG [.ref n] h = some (.int ds.length, h) := by
  show (match getL h n with | some ds => _ | none => _) = _
  rw [e]
theorem ev_app (a : h[n]? = some (.lst ds)) (c : ds.length < PySem.sizeLine) : appendG (.ref n) [v] h = some (.non, h.set n (.lst (ds ++ [v]))) := by
  show (match h[n]? with | some (.lst ds) => _ | _ => none) = _
  rw [a]
  exact if_pos c
theorem tyD_lst (a : h[n]? = some (.lst ds)) : tyD "list" h (.ref n) = true := by
  show (match h[n]? with | some (.lst _) => _ | some (.fz _) => _ | some (.dct _) => _ | _ => false) = _
  rw [a]; rfl
theorem set_at {o : AO} (l : n < h.length) : (h.set n o)[n]? = some o := by rw [List.getElem?_set_self l]
theorem get_lt {o : AO} (a : h[n]? = some o) : n < h.length := (List.getElem?_eq_some_iff.mp a).1
end
theorem TD_rt_or {mb : ME} {ρ : Rho} {h : Hs} {t : Tm} : eOrK mb ρ (TD t) h = some (TD t, h) := by cases t <;> rfl
theorem TD_isNot {t : Tm} : isNonD (TD t) = false := by cases t <;> rfl
theorem ev_pick2 {h : Hs} {n : Nat} {a b r : Int} (e : getL h n = some [.int a, .int b]) (h0 : 0 ≤ r) (h1 : r < 2) : ∃ x, (x = a ∨ x = b) ∧ subG' (.ref n) (.int r) h = some (.int x, h) := by
  have : r = 0 ∨ r = 1 := by omega
  rcases this with rfl | rfl
  · exact ⟨_, .inl rfl, ev_idx e (L2.atI_nat (j := 0) rfl)⟩
  · exact ⟨_, .inr rfl, ev_idx e (L2.atI_nat (j := 1) rfl)⟩
theorem ev_pick3 {h : Hs} {n : Nat} {a b c r : Int} (e : getL h n = some [.int a, .int b, .int c]) (h0 : 0 ≤ r) (h1 : r < 3) : ∃ x, (x = a ∨ x = b ∨ x = c) ∧ subG' (.ref n) (.int r) h = some (.int x, h) := by
  have : r = 0 ∨ r = 1 ∨ r = 2 := by omega
  rcases this with rfl | rfl | rfl
  · exact ⟨_, .inl rfl, ev_idx e (L2.atI_nat (j := 0) rfl)⟩
  · exact ⟨_, .inr (.inl rfl), ev_idx e (L2.atI_nat (j := 1) rfl)⟩
  · exact ⟨_, .inr (.inr rfl), ev_idx e (L2.atI_nat (j := 2) rfl)⟩
theorem ev_pick3D {h : Hs} {n : Nat} {a b c : D} {r : Int} (e : getL h n = some [a, b, c]) (h0 : 0 ≤ r) (h1 : r < 3) : ∃ x, (x = a ∨ x = b ∨ x = c) ∧ subG' (.ref n) (.int r) h = some (x, h) := by
  have : r = 0 ∨ r = 1 ∨ r = 2 := by omega
  rcases this with rfl | rfl | rfl
  · exact ⟨_, .inl rfl, ev_idx e (L2.atI_nat (j := 0) rfl)⟩
  · exact ⟨_, .inr (.inl rfl), ev_idx e (L2.atI_nat (j := 1) rfl)⟩
  · exact ⟨_, .inr (.inr rfl), ev_idx e (L2.atI_nat (j := 2) rfl)⟩
theorem ev_pick4 {h : Hs} {n : Nat} {a b c d r : Int} (e : getL h n = some [.int a, .int b, .int c, .int d]) (h0 : 0 ≤ r) (h1 : r < 4) : ∃ x, (x = a ∨ x = b ∨ x = c ∨ x = d) ∧ subG' (.ref n) (.int r) h = some (.int x, h) := by
  have : r = 0 ∨ r = 1 ∨ r = 2 ∨ r = 3 := by omega
  rcases this with rfl | rfl | rfl | rfl
  · exact ⟨_, .inl rfl, ev_idx e (L2.atI_nat (j := 0) rfl)⟩
  · exact ⟨_, .inr (.inl rfl), ev_idx e (L2.atI_nat (j := 1) rfl)⟩
  · exact ⟨_, .inr (.inr (.inl rfl)), ev_idx e (L2.atI_nat (j := 2) rfl)⟩
  · exact ⟨_, .inr (.inr (.inr rfl)), ev_idx e (L2.atI_nat (j := 3) rfl)⟩
/-- the state stands at n -/
def St (n : Nat) (h : Hs) : Prop := ∃ d m, h[n]? = some (draw d m) ∧ Bd 500 d ∧ Bd 200 m
/-- nothing but the state at n was touched -/
def Stp (n : Nat) (h h' : Hs) : Prop := Keep (· ≠ n) h h' ∧ St n h'
theorem Stp.trans {n : Nat} {h h1 h2 : Hs} (a : Stp n h h1) (b : Stp n h1 h2) : Stp n h h2 := ⟨a.1.trans b.1, b.2⟩
theorem St.lt {n : Nat} {h : Hs} (a : St n h) : n < h.length := by
  obtain ⟨d, m, e, _⟩ := a
  exact get_lt e
theorem St.app {n : Nat} {h G : Hs} (a : St n h) : St n (h ++ G) := by
  obtain ⟨d, m, e, b⟩ := a
  exact ⟨d, m, by rw [List.getElem?_append_left (get_lt e)]; exact e, b⟩
theorem Stp.app {n : Nat} {h G : Hs} (a : St n h) : Stp n h (h ++ G) := ⟨Keep.app, a.app⟩
theorem Stp.refl {n : Nat} {h : Hs} (a : St n h) : Stp n h h := ⟨Keep.refl, a⟩
end SL
namespace SL
open RR
/-! ### loops by what stays true -/
theorem fr_inv {src : Src} {g : GG} {m : MS} {n : Nat} {P : Nat → Rho → Hs → Prop}
    (hin : ∀ i, i < n → ∀ ρ h, P i ρ h → ∃ d ρ1 h1, src i h = some (some d) ∧ g d ρ h = some (ρ1, h1) ∧ ∃ ρ2 h2, m ρ1 h1 = some ((.nx, ρ2), h2) ∧ P (i + 1) ρ2 h2)
    (hout : ∀ ρ h, P n ρ h → src n h = some none) : ∀ {ρ h}, P 0 ρ h → ∃ ρ' h', frW src g m 0 ρ h = some ((.nx, ρ'), h') ∧ P n ρ' h' := by
  have key : ∀ (j i : Nat) ρ h, i + j = n → P i ρ h → ∃ ρ' h', frW src g m i ρ h = some ((.nx, ρ'), h') ∧ P n ρ' h' := by
    intro j
    induction j with
    | zero =>
      intro i ρ h hi p
      have : i = n := by omega
      subst this
      exact ⟨ρ, h, fr_end (hout _ _ p), p⟩
    | succ j ih =>
      intro i ρ h hi p
      obtain ⟨d, ρ1, h1, e1, e2, ρ2, h2, e3, p2⟩ := hin i (by omega) ρ h p
      obtain ⟨ρ', h', e4, p'⟩ := ih (i + 1) ρ2 h2 (by omega) p2
      refine ⟨ρ', h', ?_, p'⟩
      rw [fr_turn e1, e2]
      show bd (m ρ1 h1) _ = _
      rw [e3]
      exact e4
  intro ρ h p
  exact key n 0 ρ h (by omega) p
theorem ev_isiIB {i : Int} {h : Hs} : isiG [.int i, .ty "bool"] h = some (.bl false, h) := rfl
theorem ev_isiII {i : Int} {h : Hs} : isiG [.int i, .ty "int"] h = some (.bl true, h) := rfl
theorem ev_neB {a b : Bool} {h : Hs} : neG (.bl a) (.bl b) h = some (.bl (a != b), h) := by cases a <;> cases b <;> rfl
theorem mem3 {ds : List D} {a b c : D} (e : ds = [a, b, c]) {i : Nat} (h : i < 3) : ∃ d, ds[i]? = some d ∧ (d = a ∨ d = b ∨ d = c) := by
  subst e
  match i, h with
  | 0, _ => exact ⟨_, rfl, .inl rfl⟩
  | 1, _ => exact ⟨_, rfl, .inr (.inl rfl)⟩
  | 2, _ => exact ⟨_, rfl, .inr (.inr rfl)⟩
theorem St.set {n L : Nat} {h : Hs} {o : AO} (a : St n h) (ne : L ≠ n) : St n (h.set L o) := by
  obtain ⟨d, m, e, b⟩ := a
  exact ⟨d, m, by rw [List.getElem?_set_ne ne]; exact e, b⟩
theorem ev_i0 {h : Hs} {n : Nat} {a : D} {ds : List D} (e : h[n]? = some (.lst (a :: ds))) : subG' (.ref n) (.int 0) h = some (a, h) := ev_idx (getL_lst e) (L2.atI_nat (j := 0) rfl)
theorem ev_i1 {h : Hs} {n : Nat} {a b : D} {ds : List D} (e : h[n]? = some (.lst (a :: b :: ds))) : subG' (.ref n) (.int 1) h = some (b, h) := ev_idx (getL_lst e) (L2.atI_nat (j := 1) rfl)
theorem ev_i2 {h : Hs} {n : Nat} {a b c : D} {ds : List D} (e : h[n]? = some (.lst (a :: b :: c :: ds))) : subG' (.ref n) (.int 2) h = some (c, h) := ev_idx (getL_lst e) (L2.atI_nat (j := 2) rfl)
end SL
namespace SL
open RR
/-! ### more of evaluation, for all laws -/
theorem get_app {h : Hs} {n : Nat} {o : AO} (G : Hs) (e : h[n]? = some o) : (h ++ G)[n]? = some o := by rw [List.getElem?_append_left (get_lt e)]; exact e
theorem ev_g0 {h : Hs} {n : Nat} {x : D} {ds : List D} (e : getL h n = some (x :: ds)) : subG' (.ref n) (.int 0) h = some (x, h) := ev_idx e (L2.atI_nat (j := 0) rfl)
theorem ev_g1 {h : Hs} {n : Nat} {x y : D} {ds : List D} (e : getL h n = some (x :: y :: ds)) : subG' (.ref n) (.int 1) h = some (y, h) := ev_idx e (L2.atI_nat (j := 1) rfl)
theorem tb_in {n : Nat} {t : Tm} (h : TB n t) : t.In ((2 : Int) ^ n) := by
  have e : ∀ {x : Int}, Bd n x → (x.natAbs : Int) ≤ 2 ^ n := fun {x} hx => by
    have h1 : ((2 ^ n : Nat) : Int) = 2 ^ n := by rw [Int.natCast_pow]; rfl
    unfold Bd at hx
    omega
  cases t with
  | fr p q => exact ⟨e h.1, e h.2⟩
  | rt c b a w => exact ⟨e h.1, e h.2.1, e h.2.2⟩
theorem wipe_nil {ρ : Rho} : wipeR ρ [] = ρ := rfl
theorem wipe_cons {ρ : Rho} {v : Nat} {vs : List Nat} : wipeR ρ (v :: vs) = (wipeR ρ vs).set v none := rfl
theorem ev_tupLast {h : Hs} {ds : List D} : tupleG [.ref h.length] (h ++ [.lst ds]) = some (.tup ds, h ++ [.lst ds]) := by
  show (match getL (h ++ [.lst ds]) h.length with | some ds => some (D.tup ds, _) | none => none) = _
  rw [getL_last]
theorem ev_pick2D {h : Hs} {n : Nat} {a b : D} {r : Int} (e : getL h n = some [a, b]) (h0 : 0 ≤ r) (h1 : r < 2) : ∃ x, (x = a ∨ x = b) ∧ subG' (.ref n) (.int r) h = some (x, h) := by
  have : r = 0 ∨ r = 1 := by omega
  rcases this with rfl | rfl
  · exact ⟨_, .inl rfl, ev_idx e (L2.atI_nat (j := 0) rfl)⟩
  · exact ⟨_, .inr rfl, ev_idx e (L2.atI_nat (j := 1) rfl)⟩
theorem isT_ii : isT "int" "int" = true := by decide
theorem isi_ok {h : Hs} {d : D} {a : String} (e : tyN h d = some a) {T : String} (k : okT T = true) : isiG [d, .ty T] h = some (.bl (isT a T), h) := by
  show (match tyN h d with | some a => if okT T = true then some (D.bl (isT a T), h) else none | none => none) = _
  rw [e]
  exact if_pos k
theorem isi_tup {ds : List D} {h : Hs} : isiG [.tup ds, .ty "tuple"] h = some (.bl true, h) := rfl
theorem len_tup {ds : List D} {h : Hs} : lenG [.tup ds] h = some (.int ds.length, h) := rfl
theorem len1 {x : D} {h : Hs} : lenG [.tup [x]] h = some (.int 1, h) := rfl
theorem len2 {x y : D} {h : Hs} : lenG [.tup [x, y]] h = some (.int 2, h) := rfl
theorem len3 {x y z : D} {h : Hs} : lenG [.tup [x, y, z]] h = some (.int 3, h) := rfl
theorem all3 {h : Hs} {a b c : Bool} : allG [.ref h.length] (h ++ [.lst [.bl a, .bl b, .bl c]]) = some (.bl (a && (b && c)), h ++ [.lst [.bl a, .bl b, .bl c]]) := by
  show (match getL (h ++ [.lst [.bl a, .bl b, .bl c]]) h.length with | some ds => _ | none => none) = _
  rw [getL_last]
  cases a <;> cases b <;> cases c <;> rfl
theorem isi_str {z : PySem.Str} {h : Hs} : isiG [.str z, .ty "str"] h = some (.bl true, h) := rfl
theorem eq2b {h : Hs} {n m : Nat} {a b c d : Bool} (e1 : h[n]? = some (.lst [.bl a, .bl b])) (e2 : h[m]? = some (.lst [.bl c, .bl d])) : eqG (.ref n) (.ref m) h = some (.bl ((a == c) && (b == d)), h) := by
  have k1 : toP 32 h (.ref n) = toP 32 [.lst [.bl a, .bl b]] (.ref 0) := by
    unfold toP
    rw [getL_lst e1]
    rfl
  have k2 : toP 32 h (.ref m) = toP 32 [.lst [.bl c, .bl d]] (.ref 0) := by
    unfold toP
    rw [getL_lst e2]
    rfl
  unfold eqG eqB
  rw [k1, k2]
  cases a <;> cases b <;> cases c <;> cases d <;> rfl
theorem all2 {h : Hs} {a b : Bool} : allG [.ref h.length] (h ++ [.lst [.bl a, .bl b]]) = some (.bl (a && b), h ++ [.lst [.bl a, .bl b]]) := by
  show (match getL (h ++ [.lst [.bl a, .bl b]]) h.length with | some ds => _ | none => none) = _
  rw [getL_last]
  cases a <;> cases b <;> rfl
theorem isi_bb {b : Bool} {h : Hs} : isiG [.bl b, .ty "bool"] h = some (.bl true, h) := rfl
theorem ev_addL {h : Hs} {n m : Nat} {xs ys : List D} (e1 : h[n]? = some (.lst xs)) (e2 : h[m]? = some (.lst ys)) (l : xs.length + ys.length ≤ PySem.sizeLine) : addG (.ref n) (.ref m) h = some (.ref h.length, h ++ [.lst (xs ++ ys)]) := by
  show (match h[n]?, h[m]? with | some (.lst xs), some (.lst ys) => _ | _, _ => none) = _
  rw [e1, e2]
  exact if_pos l
theorem ev_mem {h : Hs} {n : Nat} {ds : List D} {i : Int} (e : getL h n = some ds) (h0 : 0 ≤ i) (h1 : i < ds.length) : ∃ d, d ∈ ds ∧ subG' (.ref n) (.int i) h = some (d, h) := by
  obtain ⟨j, rfl⟩ : ∃ j : Nat, i = (j : Int) := ⟨i.toNat, by omega⟩
  have lj : j < ds.length := by omega
  exact ⟨ds[j], List.getElem_mem lj, ev_idx e (L2.atI_nat (List.getElem?_eq_getElem lj))⟩
theorem ev_strI {i : Int} {h : Hs} (b : Bd 1000 i) : strG [.int i] h = some (.str (PySem.Str.ofString (toString i)), h) := by
  have : i.natAbs.log2 < 1920 := by
    by_cases z : i = 0
    · subst z; decide
    · have := b.log2 z; omega
  exact if_pos this
theorem eq0 {h : Hs} {n m : Nat} (e1 : h[n]? = some (.lst [])) (e2 : h[m]? = some (.lst [])) : eqG (.ref n) (.ref m) h = some (.bl true, h) := by
  have k1 : toP 32 h (.ref n) = toP 32 [.lst []] (.ref 0) := by
    unfold toP
    rw [getL_lst e1]
    rfl
  have k2 : toP 32 h (.ref m) = toP 32 [.lst []] (.ref 0) := by
    unfold toP
    rw [getL_lst e2]
    rfl
  unfold eqG eqB
  rw [k1, k2]
  rfl
theorem tyN_lst {h : Hs} {r : Nat} {ds : List D} (e : h[r]? = some (.lst ds)) (G : Hs) : tyN (h ++ G) (.ref r) = some "list" := by
  show (match (h ++ G)[r]? with | some (.lst _) => some "list" | some (.fz _) => some "list" | some (.dct _) => some "dict" | _ => none) = some "list"
  rw [get_app G e]
theorem tyN_dct {h : Hs} {r : Nat} {kvs : List (L2.Key × D)} (e : h[r]? = some (.dct kvs)) (G : Hs) : tyN (h ++ G) (.ref r) = some "dict" := by
  show (match (h ++ G)[r]? with | some (.lst _) => some "list" | some (.fz _) => some "list" | some (.dct _) => some "dict" | _ => none) = some "dict"
  rw [get_app G e]
end SL
namespace SL
open RR
/-- all that stood stands -/
abbrev KA (h h' : Hs) : Prop := Keep (fun _ => True) h h'
theorem KA.getL {h h' : Hs} {k : Nat} {ds : List D} (a : KA h h') (e : getL h k = some ds) : getL h' k = some ds := Keep.getL a e trivial
theorem srcL_get {h : Hs} {n : Nat} {ds : List D} (e : getL h n = some ds) (i : Nat) : srcL n i h = some ds[i]? := by unfold srcL; rw [e]
theorem srcT_get {h : Hs} {ds : List D} (i : Nat) : srcT ds i h = some ds[i]? := rfl
section
variable {src : Src} {g : GG} {tt : MT} {te : ME} {m : MS} {ds : List D}
/-- a list comprehension that keeps some -/
theorem lc_filter {ρ : Rho} {f : D → Bool} (h0 : Hs) (ln : ds.length < PySem.sizeLine) (hs : ∀ h, KA h0 h → ∀ i, src i h = some ds[i]?)
    (hb : ∀ d ∈ ds, ∀ h, KA h0 h → ∃ ρ1 h2, g d ρ h = some (ρ1, h) ∧ tt ρ1 h = some (f d, h2) ∧ KA h h2 ∧ (f d = true → te ρ1 h2 = some (d, h2))) :
    ∀ h, KA h0 h → ∃ h', lcW src g tt te ρ 0 [] h = some (ds.filter f, h') ∧ KA h0 h' := by
  have key : ∀ (j i : Nat) (acc : List D) (h : Hs), i + j = ds.length → acc.length ≤ i → KA h0 h → ∃ h', lcW src g tt te ρ i acc h = some (acc ++ (ds.drop i).filter f, h') ∧ KA h0 h' := by
    intro j
    induction j with
    | zero =>
      intro i acc h hi ha k
      refine ⟨h, ?_, k⟩
      rw [lc_end (by rw [hs h k i, List.getElem?_eq_none (by omega)]), List.drop_of_length_le (by omega)]
      simp
    | succ j ih =>
      intro i acc h hi ha k
      have hl : i < ds.length := by omega
      have ei := List.getElem?_eq_getElem hl
      obtain ⟨ρ1, h2, e1, e2, k2, e3⟩ := hb ds[i] (List.getElem_mem hl) h k
      rw [lc_turn (by rw [hs h k i, ei]), e1, bd_ok, ev_lc1, e2, bd_ok, List.drop_eq_getElem_cons hl]
      cases q : f ds[i] with
      | false =>
        rw [ev_lc2F]
        obtain ⟨h', e, k'⟩ := ih (i + 1) acc h2 (by omega) (by omega) (k.trans k2)
        refine ⟨h', ?_, k'⟩
        rw [e, List.filter_cons_of_neg (by simp [q])]
      | true =>
        rw [ev_lc2T, e3 q, bd_ok, ev_lc3 (by omega)]
        obtain ⟨h', e, k'⟩ := ih (i + 1) (acc ++ [ds[i]]) h2 (by omega) (by simp; omega) (k.trans k2)
        refine ⟨h', ?_, k'⟩
        rw [e, List.filter_cons_of_pos q]
        simp
  intro h k
  obtain ⟨h', e, k'⟩ := key ds.length 0 [] h (by omega) (by simp) k
  exact ⟨h', by simpa using e, k'⟩
/-- a loop that leaves at the first that is so -/
theorem fr_any {R : Rho → Prop} {P : D → Prop} {X : D} (h0 : Hs) (hs : ∀ h, KA h0 h → ∀ i, src i h = some ds[i]?)
    (hb : ∀ d ∈ ds, ∀ ρ h, R ρ → KA h0 h → ∃ ρ1 ρ2 h2, g d ρ h = some (ρ1, h) ∧ KA h h2 ∧ R ρ2 ∧ ((P d ∧ m ρ1 h = some ((.rt X, ρ2), h2)) ∨ (¬ P d ∧ m ρ1 h = some ((.nx, ρ2), h2)))) :
    ∀ ρ h, R ρ → KA h0 h → ∃ ρ' h', KA h0 h' ∧ R ρ' ∧ (((∃ d ∈ ds, P d) ∧ frW src g m 0 ρ h = some ((.rt X, ρ'), h')) ∨ ((∀ d ∈ ds, ¬ P d) ∧ frW src g m 0 ρ h = some ((.nx, ρ'), h'))) := by
  have key : ∀ (j i : Nat) (ρ : Rho) (h : Hs), i + j = ds.length → R ρ → KA h0 h → ∃ ρ' h', KA h0 h' ∧ R ρ' ∧ (((∃ d ∈ ds.drop i, P d) ∧ frW src g m i ρ h = some ((.rt X, ρ'), h')) ∨ ((∀ d ∈ ds.drop i, ¬ P d) ∧ frW src g m i ρ h = some ((.nx, ρ'), h'))) := by
    intro j
    induction j with
    | zero =>
      intro i ρ h hi r k
      refine ⟨ρ, h, k, r, .inr ⟨?_, fr_end (by rw [hs h k i, List.getElem?_eq_none (by omega)])⟩⟩
      rw [List.drop_of_length_le (by omega)]
      intro d hd
      cases hd
    | succ j ih =>
      intro i ρ h hi r k
      have hl : i < ds.length := by omega
      have ei := List.getElem?_eq_getElem hl
      obtain ⟨ρ1, ρ2, h2, e1, k2, r2, e3⟩ := hb ds[i] (List.getElem_mem hl) ρ h r k
      have et : frW src g m i ρ h = frK1 src g m i ρ1 h := by rw [fr_turn (by rw [hs h k i, ei]), e1]; rfl
      have e4 : frK1 src g m i ρ1 h = bd (m ρ1 h) (frK2 src g m i) := rfl
      rw [List.drop_eq_getElem_cons hl, et, e4]
      rcases e3 with ⟨p, e3⟩ | ⟨p, e3⟩
      · exact ⟨ρ2, h2, k.trans k2, r2, .inl ⟨⟨_, List.mem_cons_self, p⟩, by rw [e3]; rfl⟩⟩
      · obtain ⟨ρ', h', k', r', q⟩ := ih (i + 1) ρ2 h2 (by omega) r2 (k.trans k2)
        refine ⟨ρ', h', k', r', ?_⟩
        rw [e3]
        rcases q with ⟨⟨d, hd, pd⟩, e⟩ | ⟨q, e⟩
        · exact .inl ⟨⟨d, List.mem_cons_of_mem _ hd, pd⟩, e⟩
        · refine .inr ⟨fun d hd => ?_, e⟩
          rcases List.mem_cons.mp hd with rfl | hd
          · exact p
          · exact q d hd
  intro ρ h r k
  obtain ⟨ρ', h', k', r', q⟩ := key ds.length 0 ρ h (by omega) r k
  exact ⟨ρ', h', k', r', by simpa using q⟩
end
end SL
namespace SL
open RR
theorem lc_true {src : Src} {g : GG} {te : ME} {ρ : Rho} {n : Nat} (h0 : Hs) (ln : n < PySem.sizeLine)
    (hs : ∀ i, i < n → ∀ h, KA h0 h → ∃ d ρ1 h2, src i h = some (some d) ∧ g d ρ h = some (ρ1, h) ∧ te ρ1 h = some (.bl true, h2) ∧ KA h h2) (ho : ∀ h, KA h0 h → src n h = some none) :
    ∀ h, KA h0 h → ∃ h', lcW src g tYes1 te ρ 0 [] h = some (List.replicate n (.bl true), h') ∧ KA h0 h' := by
  have key : ∀ (j i : Nat) (h : Hs), i + j = n → KA h0 h → ∃ h', lcW src g tYes1 te ρ i (List.replicate i (.bl true)) h = some (List.replicate n (.bl true), h') ∧ KA h0 h' := by
    intro j
    induction j with
    | zero =>
      intro i h hi k
      have : i = n := by omega
      subst this
      exact ⟨h, lc_end (ho h k), k⟩
    | succ j ih =>
      intro i h hi k
      obtain ⟨d, ρ1, h2, e1, e2, e3, k2⟩ := hs i (by omega) h k
      rw [lc_turn e1, e2, bd_ok, ev_lc1, ev_yes, bd_ok, ev_lc2T, e3, bd_ok, ev_lc3 (by rw [List.length_replicate]; omega)]
      obtain ⟨h', e, k'⟩ := ih (i + 1) h2 (by omega) (k.trans k2)
      refine ⟨h', ?_, k'⟩
      rw [← e, List.replicate_succ']
  intro h k
  exact key n 0 h (by omega) k
theorem all_true {n : Nat} {h : Hs} : allG [.ref h.length] (h ++ [.lst (List.replicate n (.bl true))]) = some (.bl true, h ++ [.lst (List.replicate n (.bl true))]) := by
  show (match getL (h ++ [.lst (List.replicate n (.bl true))]) h.length with | some ds => _ | none => none) = _
  rw [getL_last]
  have e : ∀ n : Nat, blsD (List.replicate n (D.bl true)) = some (List.replicate n true) := fun n => by
    induction n with
    | zero => rfl
    | succ n ih =>
      show (match blsD (List.replicate n (D.bl true)) with | some ns => some (true :: ns) | none => none) = _
      rw [ih]
      rfl
  simp only [e]
  congr 3
  induction n with
  | zero => rfl
  | succ n ih => rw [List.replicate_succ, List.all_cons, ih]; rfl
/-- all([..]) where every turn says so -/
theorem all_lc {mi : MI} {src : Src} {g : GG} {te : ME} {ρ : Rho} {vs : List Nat} {n : Nat} {h h0 : Hs} (e : mi ρ h = some (src, h0)) (ln : n < PySem.sizeLine)
    (hs : ∀ i, i < n → ∀ h, KA h0 h → ∃ d ρ1 h2, src i h = some (some d) ∧ g d (wipeR ρ vs) h = some (ρ1, h) ∧ te ρ1 h = some (.bl true, h2) ∧ KA h h2) (ho : ∀ h, KA h0 h → src n h = some none) :
    ∃ h', eCall allG (aCons (eLc mi g tYes1 te vs) aNil) ρ h = some (.bl true, h') ∧ KA h0 h' := by
  obtain ⟨h1, e1, k1⟩ := lc_true h0 ln hs ho h0 Keep.refl
  refine ⟨h1 ++ [.lst (List.replicate n (.bl true))], ?_, k1.trans Keep.app⟩
  rw [ev_call, ev_cons, ev_lc, e, bd_ok, ev_lcK, e1, bd_ok]
  show allG [.ref h1.length] (h1 ++ [.lst (List.replicate n (.bl true))]) = _
  rw [all_true]
theorem ev_gTpL {gs : GGs} {n : Nat} {ρ : Rho} {h : Hs} {ds : List D} (e : getL h n = some ds) : gTp gs (.ref n) ρ h = gs ds ρ h := by
  show (match getL h n with | some ds => gs ds ρ h | none => none) = _
  rw [e]
end SL
namespace SL
open RR
/-! ### what is wanted behind -/
def WP {R : Type} (x : Option (R × Hs)) (Q : R → Hs → Prop) : Prop := ∃ r h', x = some (r, h') ∧ Q r h'
section
variable {R T : Type} {x : Option (R × Hs)} {f : R → Hs → Option (T × Hs)} {Q : T → Hs → Prop} {P : R → Hs → Prop} {a : R} {h : Hs}
def Kn (f : R → Hs → Option (T × Hs)) (Q : T → Hs → Prop) (a : R) (h : Hs) : Prop := WP (f a h) Q
theorem kn_eq : Kn f Q a h = WP (f a h) Q := rfl
theorem wp_ok {Q : R → Hs → Prop} : WP (some (a, h)) Q = Q a h := propext ⟨fun ⟨_, _, e, q⟩ => by cases e; exact q, fun q => ⟨_, _, rfl, q⟩⟩
theorem wp_bd (w : WP x (Kn f Q)) : WP (bd x f) Q := by
  obtain ⟨a, h1, e, b, h2, e2, q⟩ := w
  exact ⟨b, h2, by rw [e]; exact e2, q⟩
theorem wp_eq {y : Option (R × Hs)} {Q : R → Hs → Prop} (e : x = y) (w : WP y Q) : WP x Q := by rw [e]; exact w
theorem wp_is {Q : R → Hs → Prop} (e : x = some (a, h)) (q : Q a h) : WP x Q := ⟨a, h, e, q⟩
theorem wp_mono {Q Q' : R → Hs → Prop} (w : WP x Q) (i : ∀ a h, Q a h → Q' a h) : WP x Q' := by
  obtain ⟨a, h, e, q⟩ := w
  exact ⟨a, h, e, i a h q⟩
theorem wp_ite {c : Prop} [Decidable c] {y z : Option (R × Hs)} {Q : R → Hs → Prop} (p : c → WP y Q) (n : ¬ c → WP z Q) : WP (if c then y else z) Q := by
  by_cases q : c
  · rw [if_pos q]; exact p q
  · rw [if_neg q]; exact n q
end
/-- a def's end -/
def outQ (Q : D → Hs → Prop) (r : Out × Rho) (h : Hs) : Prop := match r with
  | (.nx, _) => Q .non h
  | (.rt d, _) => Q d h
  | _ => False
section
variable {Q : D → Hs → Prop} {d : D} {ρ : Rho} {h : Hs} {m : MS} {n N : Nat} {ds : List D}
theorem outQ_rt : outQ Q (.rt d, ρ) h = Q d h := rfl
theorem outQ_nx : outQ Q (.nx, ρ) h = Q .non h := rfl
theorem wp_out {x : Option ((Out × Rho) × Hs)} (w : WP x (outQ Q)) : WP (outB x) Q := by
  obtain ⟨⟨o, ρ⟩, h1, e, q⟩ := w
  subst e
  cases o with
  | nx => exact ⟨_, _, rfl, q⟩
  | rt d => exact ⟨_, _, rfl, q⟩
  | bk => exact q.elim
  | ct => exact q.elim
theorem wp_run (hl : ds.length = n) (w : WP (m (ds.map some ++ List.replicate (N - n) none) h) (outQ Q)) : WP (runB m n N ds h) Q := by
  rw [runB_ok hl]
  exact wp_out w
end
/-! loops -/
/-- behind one turn of a for -/
def turnQ (P : Nat → Rho → Hs → Prop) (Q : Out × Rho → Hs → Prop) (i : Nat) (r : Out × Rho) (h : Hs) : Prop := match r with
  | (.nx, ρ) => P (i + 1) ρ h
  | (.ct, ρ) => P (i + 1) ρ h
  | (.bk, ρ) => Q (.nx, ρ) h
  | (.rt d, ρ) => Q (.rt d, ρ) h
section
variable {P : Nat → Rho → Hs → Prop} {Q : Out × Rho → Hs → Prop} {i : Nat} {ρ : Rho} {h : Hs} {d : D}
theorem turnQ_nx : turnQ P Q i (.nx, ρ) h = P (i + 1) ρ h := rfl
theorem turnQ_ct : turnQ P Q i (.ct, ρ) h = P (i + 1) ρ h := rfl
theorem turnQ_bk : turnQ P Q i (.bk, ρ) h = Q (.nx, ρ) h := rfl
theorem turnQ_rt : turnQ P Q i (.rt d, ρ) h = Q (.rt d, ρ) h := rfl
theorem wp_fr {src : Src} {g : GG} {m : MS} (n : Nat) (P : Nat → Rho → Hs → Prop) (st : P 0 ρ h)
    (turn : ∀ i, i < n → ∀ ρ h, P i ρ h → ∃ d ρ1 h1, src i h = some (some d) ∧ g d ρ h = some (ρ1, h1) ∧ WP (m ρ1 h1) (turnQ P Q i))
    (fin : ∀ ρ h, P n ρ h → src n h = some none ∧ Q (.nx, ρ) h) : WP (frW src g m 0 ρ h) Q := by
  have key : ∀ (j i : Nat) ρ h, i + j = n → P i ρ h → WP (frW src g m i ρ h) Q := by
    intro j
    induction j with
    | zero =>
      intro i ρ h e p
      obtain rfl : i = n := by omega
      obtain ⟨e1, q⟩ := fin ρ h p
      exact ⟨_, _, fr_end e1, q⟩
    | succ j ih =>
      intro i ρ h e p
      obtain ⟨d, ρ1, h1, e1, e2, ⟨o, ρ2⟩, h2, e3, q⟩ := turn i (by omega) ρ h p
      have go : frW src g m i ρ h = frK2 src g m i (o, ρ2) h2 := by rw [fr_turn e1, e2]; show bd (m ρ1 h1) _ = _; rw [e3]; rfl
      rw [go]
      cases o with
      | nx => exact ih (i + 1) ρ2 h2 (by omega) q
      | ct => exact ih (i + 1) ρ2 h2 (by omega) q
      | bk => exact ⟨_, _, rfl, q⟩
      | rt d => exact ⟨_, _, rfl, q⟩
  exact key n 0 ρ h (by omega) st
/-- behind one turn of a while -/
def whQ (P : Nat → Rho → Hs → Prop) (Q : Out × Rho → Hs → Prop) (k : Nat) (r : Out × Rho) (h : Hs) : Prop := match r with
  | (.nx, ρ) => ∃ j, j < k ∧ P j ρ h
  | (.ct, ρ) => ∃ j, j < k ∧ P j ρ h
  | (.bk, ρ) => Q (.nx, ρ) h
  | (.rt d, ρ) => Q (.rt d, ρ) h
theorem whQ_nx {k : Nat} : whQ P Q k (.nx, ρ) h = ∃ j, j < k ∧ P j ρ h := rfl
theorem whQ_bk {k : Nat} : whQ P Q k (.bk, ρ) h = Q (.nx, ρ) h := rfl
theorem whQ_rt {k : Nat} : whQ P Q k (.rt d, ρ) h = Q (.rt d, ρ) h := rfl
def whT (m : MS) (ρ : Rho) (P : Nat → Rho → Hs → Prop) (Q : Out × Rho → Hs → Prop) (k : Nat) (b : Bool) (h : Hs) : Prop := if b = true then WP (m ρ h) (whQ P Q k) else Q (.nx, ρ) h
theorem whT_t {m : MS} {k : Nat} : whT m ρ P Q k true h = WP (m ρ h) (whQ P Q k) := rfl
theorem whT_f {m : MS} {k : Nat} : whT m ρ P Q k false h = Q (.nx, ρ) h := rfl
theorem whT_d {m : MS} {k : Nat} {c : Prop} [Decidable c] : whT m ρ P Q k (decide c) h = if c then WP (m ρ h) (whQ P Q k) else Q (.nx, ρ) h := by
  unfold whT; by_cases q : c <;> simp [q]
theorem wp_wh {t : MT} {m : MS} (P : Nat → Rho → Hs → Prop) (k : Nat) (st : P k ρ h) (turn : ∀ k ρ h, P k ρ h → WP (t ρ h) (whT m ρ P Q k)) : WP (sWh t m ρ h) Q := by
  induction k using Nat.strongRecOn generalizing ρ h with
  | ind k ih =>
    obtain ⟨b, h1, e1, q⟩ := turn k ρ h st
    rw [wh_eq, e1]
    cases b with
    | false => exact ⟨_, _, rfl, q⟩
    | true =>
      obtain ⟨⟨o, ρ2⟩, h2, e2, q⟩ := q
      show WP (bd (m ρ h1) (whK2 t m)) Q
      rw [e2]
      cases o with
      | nx => obtain ⟨j, l, p⟩ := q; exact ih j l p
      | ct => obtain ⟨j, l, p⟩ := q; exact ih j l p
      | bk => exact ⟨_, _, rfl, q⟩
      | rt d => exact ⟨_, _, rfl, q⟩
end
/-! comprehensions -/
/-- behind an item's test and the item -/
def lcT (te : ME) (ρ : Rho) (P : Nat → List D → Hs → Prop) (i : Nat) (acc : List D) (b : Bool) (h : Hs) : Prop := if b = true then WP (te ρ h) fun d h1 => P (i + 1) (acc ++ [d]) h1 else P (i + 1) acc h
section
variable {P : Nat → List D → Hs → Prop} {Q : D → Hs → Prop} {te : ME} {ρ : Rho} {i : Nat} {acc : List D} {h : Hs}
theorem lcT_t : lcT te ρ P i acc true h = WP (te ρ h) fun d h1 => P (i + 1) (acc ++ [d]) h1 := rfl
theorem lcT_f : lcT te ρ P i acc false h = P (i + 1) acc h := rfl
theorem lcT_d {c : Prop} [Decidable c] : lcT te ρ P i acc (decide c) h = if c then (WP (te ρ h) fun d h1 => P (i + 1) (acc ++ [d]) h1) else P (i + 1) acc h := by
  unfold lcT; by_cases q : c <;> simp [q]
theorem wp_lc {src : Src} {g : GG} {tt : MT} (n : Nat) (ln : n < PySem.sizeLine) (P : Nat → List D → Hs → Prop) (st : P 0 [] h)
    (turn : ∀ i, i < n → ∀ acc h, acc.length ≤ i → P i acc h → ∃ d ρ1 h1, src i h = some (some d) ∧ g d ρ h = some (ρ1, h1) ∧ WP (tt ρ1 h1) (lcT te ρ1 P i acc))
    (fin : ∀ acc h, acc.length ≤ n → P n acc h → src n h = some none ∧ Q (.ref h.length) (h ++ [.lst acc])) : WP (lcW src g tt te ρ 0 [] h) (Kn lstK Q) := by
  have key : ∀ (j i : Nat) acc h, i + j = n → acc.length ≤ i → P i acc h → ∃ acc' h', lcW src g tt te ρ i acc h = some (acc', h') ∧ acc'.length ≤ n ∧ P n acc' h' := by
    intro j
    induction j with
    | zero =>
      intro i acc h e l p
      obtain rfl : i = n := by omega
      obtain ⟨e1, _⟩ := fin acc h l p
      exact ⟨acc, h, lc_end e1, l, p⟩
    | succ j ih =>
      intro i acc h e l p
      obtain ⟨d, ρ1, h1, e1, e2, b, h2, e3, q⟩ := turn i (by omega) acc h l p
      rw [lc_turn e1, e2, bd_ok, ev_lc1, e3, bd_ok]
      cases b with
      | false =>
        rw [ev_lc2F]
        exact ih (i + 1) acc h2 (by omega) (by omega) q
      | true =>
        obtain ⟨y, h3, e4, q⟩ := q
        rw [ev_lc2T, e4, bd_ok, ev_lc3 (by omega)]
        exact ih (i + 1) _ h3 (by omega) (by simp; omega) q
  obtain ⟨acc, h1, e, l, p⟩ := key n 0 [] h (by omega) (Nat.le_refl _) st
  obtain ⟨_, q⟩ := fin acc h1 l p
  exact ⟨_, _, e, _, _, rfl, q⟩
end
end SL
namespace RR
/-! ### the greatest whole number no greater -/
def IsFl (x : Rl) (s : Int) : Prop := (s : Rl) ≤ x ∧ x < (s : Rl) + 1
theorem IsFl.lt_iff {x : Rl} {s n : Int} (h : IsFl x s) : x < (n : Rl) ↔ s < n := by
  obtain ⟨a, b⟩ := h
  constructor
  · intro q
    refine Int.not_le.mp fun z => ?_
    have := cast_le.mpr z
    grind
  · intro q
    have := cast_le.mpr (show s + 1 ≤ n by omega)
    rw [cast_add, cast_one] at this
    grind
theorem IsFl.unique {x : Rl} {s t : Int} (h : IsFl x s) (k : IsFl x t) : s = t := by
  have h1 := (h.lt_iff (n := t + 1)).mp (by rw [cast_add, cast_one]; exact k.2)
  have h2 := (k.lt_iff (n := s + 1)).mp (by rw [cast_add, cast_one]; exact h.2)
  omega
theorem fl_div {x y : Rl} {m n : Int} (hm : 0 < m) (e : (m : Rl) * x = y) (h : IsFl y n) : IsFl x (n.fdiv m) := by
  rw [Int.fdiv_eq_ediv_of_nonneg _ (Int.le_of_lt hm)]
  have h1 := Int.mul_ediv_add_emod n m
  have h2 := Int.emod_nonneg n (show m ≠ 0 by omega)
  have h3 := Int.emod_lt_of_pos n hm
  generalize n / m = s at *
  have hm' := cast_pos hm
  obtain ⟨a, b⟩ := h
  have c1 : ((m * s : Int) : Rl) ≤ (n : Rl) := by rw [cast_le]; omega
  have c2 : ((n + 1 : Int) : Rl) ≤ ((m * s + m : Int) : Rl) := by rw [cast_le]; omega
  rw [cast_mul] at c1
  rw [cast_add, cast_add, cast_mul, cast_one] at c2
  constructor
  · refine Classical.byContradiction fun q => ?_
    have := mul_pos hm' (show 0 < (s : Rl) - x by grind)
    grind
  · refine Classical.byContradiction fun q => ?_
    have := mul_nn (show 0 ≤ (m : Rl) by grind) (show 0 ≤ x - (s + 1) by grind)
    grind
theorem fl_fr {p q P : Int} (hq : 0 < q) : IsFl ((P : Rl) * (Tm.fr p q).val) ((p * P).fdiv q) := by
  have e := val_fr (p := p) hq
  refine fl_div (y := ((p * P : Int) : Rl)) hq (by rw [cast_mul]; grind) ⟨?_, ?_⟩
  · grind
  · grind
theorem fl_root {D P r : Int} (hD : 0 < D) (hP : 0 < P) (hr : IsRt (D * (P * P)) r) : IsFl ((P : Rl) * rt D) r := by
  obtain ⟨a, b, c⟩ := hr
  have sq := rt_sq (Int.le_of_lt hD)
  have s0 := rt_nn D
  have hP' := cast_pos hP
  have b' := cast_le.mpr b
  have c' := cast_lt.mpr c
  rw [cast_mul, cast_mul, cast_mul, ← sq] at b'
  rw [cast_mul, cast_mul, cast_mul, ← sq, cast_add, cast_one] at c'
  have ha := cast_nn a
  have hPs := mul_nn (show 0 ≤ (P : Rl) by grind) s0
  constructor
  · refine Classical.byContradiction fun q => ?_
    have := sq_lt_sq hPs (show (P : Rl) * rt D < r by grind)
    grind
  · refine lt_of_sq (by grind) ?_
    grind
theorem fl_rt1 {c b a P r : Int} (h : (Tm.rt c b a 1).Nm) (hP : 0 < P) (hr : IsRt ((b * b - 4 * a * c) * (P * P)) r) : IsFl ((P : Rl) * (Tm.rt c b a 1).val) (((0 - b) * P + r).fdiv (2 * a)) := by
  have e := val_rt (c := c) (b := b) (w := 1) h.1
  have f := fl_root h.2.2.1 hP hr
  rw [cast_one] at e
  have ha := h.1
  refine fl_div (y := -(b : Rl) * P + (P : Rl) * RR.rt (b * b - 4 * a * c)) (by omega) (by rw [cast_mul, show ((2 : Int) : Rl) = 2 from rfl]; grind) ?_
  obtain ⟨f1, f2⟩ := f
  constructor
  · rw [cast_add, cast_mul, cast_sub, cast_zero]; grind
  · rw [cast_add, cast_mul, cast_sub, cast_zero]; grind
theorem fl_rt0 {c b a P r : Int} (h : (Tm.rt c b a 0).Nm) (hP : 0 < P) (hr : IsRt ((b * b - 4 * a * c) * (P * P)) r) : IsFl ((P : Rl) * (Tm.rt c b a 0).val) (((0 - b) * P - r - 1).fdiv (2 * a)) := by
  have e := val_rt (c := c) (b := b) (w := 0) h.1
  have f := fl_root h.2.2.1 hP hr
  have sq := rt_sq (Int.le_of_lt h.2.2.1)
  rw [cast_zero] at e
  have ha := h.1
  have strict : (r : Rl) ≠ (P : Rl) * RR.rt (b * b - 4 * a * c) := fun z => by
    have : ((r * r : Int) : Rl) = ((P * P * (b * b - 4 * a * c) : Int) : Rl) := by
      rw [cast_mul, cast_mul, cast_mul, ← sq, z]; grind
    have := no_root h.2.2.2.1 (cast_inj this)
    omega
  refine fl_div (y := -(b : Rl) * P - (P : Rl) * RR.rt (b * b - 4 * a * c)) (by omega) (by rw [cast_mul, show ((2 : Int) : Rl) = 2 from rfl]; grind) ?_
  obtain ⟨f1, f2⟩ := f
  constructor
  · rw [cast_sub, cast_sub, cast_mul, cast_sub, cast_zero, cast_one]; grind
  · rw [cast_sub, cast_sub, cast_mul, cast_sub, cast_zero, cast_one]; grind
end RR
namespace RR
/-! ### the sign of a polynomial where it has no root -/
theorem four_pv {c b a : Int} {x : Rl} : (4 * (a : Rl)) * pv c b a x = (2 * a * x + b) * (2 * a * x + b) - ((b : Rl) * b - 4 * a * c) := by unfold pv; grind
theorem two_cast {a : Int} : ((2 * a : Int) : Rl) = 2 * (a : Rl) := by rw [cast_mul]; rfl
/-- the place at which a line takes a value -/
theorem solve {a : Int} (ha : a ≠ 0) (y : Rl) : ∃ z : Rl, (a : Rl) * z = y := ⟨inv a * y, by have := inv_mul ha; grind⟩
theorem mul_lt {a x y : Rl} (ha : 0 < a) : a * x < a * y ↔ x < y := by
  constructor
  · intro h
    refine Classical.byContradiction fun q => ?_
    have := mul_nn (show 0 ≤ a by grind) (show 0 ≤ x - y by grind)
    grind
  · intro h
    have := mul_pos ha (show 0 < y - x by grind)
    grind
theorem mul_lt_neg {a x y : Rl} (ha : a < 0) : a * x < a * y ↔ y < x := by
  have := mul_lt (a := -a) (x := y) (y := x) (by grind)
  rw [← this]
  constructor <;> intro h <;> grind
theorem sq_lt_abs {x s : Rl} (hs : 0 ≤ s) (h1 : x < s) (h2 : -s < x) : x * x < s * s := by
  have := mul_pos (show 0 < s - x by grind) (show 0 < s + x by grind)
  grind
theorem sg_mul_neg {x y : Rl} (h : y < 0) : sgR (y * x) = - sgR x := by
  have := sg_mul_pos (x := x) (y := -y) (by grind)
  rw [show y * x = -(-y * x) by grind, sg_neg', this]
theorem sg_same {u v : Rl} (h : 0 < u ∧ 0 < v ∨ u < 0 ∧ v < 0) : sgR u = sgR v := by
  rcases h with ⟨a, b⟩ | ⟨a, b⟩
  · rw [sg_pos a, sg_pos b]
  · rw [sg_neg a, sg_neg b]
theorem pv_between {c b a : Int} {x y : Rl} (hxy : x < y) (no : ∀ z, x ≤ z → z ≤ y → pv c b a z ≠ 0) : sgR (pv c b a x) = sgR (pv c b a y) := by
  have nx := no x (by grind) (by grind)
  have ny := no y (by grind) (by grind)
  by_cases ha : a = 0
  · subst ha
    have e : ∀ z, pv c b 0 z = c + b * z := fun z => by unfold pv; rw [cast_zero]; grind
    by_cases hb : b = 0
    · subst hb
      rw [e, e, cast_zero]; congr 1; grind
    · obtain ⟨z, hz⟩ := solve hb (-(c : Rl))
      rw [e] at nx ny
      rw [e, e]
      refine Classical.byContradiction fun q => ?_
      have key : x ≤ z ∧ z ≤ y := by
        have e1 : (b : Rl) * (x - z) = c + b * x := by grind
        have e2 : (b : Rl) * (y - z) = c + b * y := by grind
        rcases Int.lt_or_gt_of_ne hb with hb' | hb'
        · have hb' := cast_neg' hb'
          refine ⟨Classical.byContradiction fun w => ?_, Classical.byContradiction fun w => ?_⟩
          · exact q (sg_same (.inr (by
              have h1 := mul_pos (show 0 < -(b : Rl) by grind) (show 0 < x - z by grind)
              have h2 := mul_pos (show 0 < -(b : Rl) by grind) (show 0 < y - z by grind)
              constructor <;> grind)))
          · exact q (sg_same (.inl (by
              have h1 := mul_pos (show 0 < -(b : Rl) by grind) (show 0 < z - x by grind)
              have h2 := mul_pos (show 0 < -(b : Rl) by grind) (show 0 < z - y by grind)
              constructor <;> grind)))
        · have hb' := cast_pos hb'
          refine ⟨Classical.byContradiction fun w => ?_, Classical.byContradiction fun w => ?_⟩
          · exact q (sg_same (.inl (by
              have h1 := mul_pos hb' (show 0 < x - z by grind)
              have h2 := mul_pos hb' (show 0 < y - z by grind)
              constructor <;> grind)))
          · exact q (sg_same (.inr (by
              have h1 := mul_pos hb' (show 0 < z - x by grind)
              have h2 := mul_pos hb' (show 0 < z - y by grind)
              constructor <;> grind)))
      exact no z key.1 key.2 (by rw [e]; grind)
  · have key : ∀ u v s : Rl, 0 ≤ s → u < v → (∀ w, u ≤ w → w ≤ v → w * w ≠ s * s) → (0 < u * u - s * s ∧ 0 < v * v - s * s ∨ u * u - s * s < 0 ∧ v * v - s * s < 0) := by
      intro u v s hs huv hw
      by_cases h1 : v < -s
      · left
        have k1 := mul_pos (show 0 < s - u by grind) (show 0 < -s - u by grind)
        have k2 := mul_pos (show 0 < s - v by grind) (show 0 < -s - v by grind)
        constructor <;> grind
      · by_cases h2 : s < u
        · left
          have k1 := mul_pos (show 0 < u - s by grind) (show 0 < u + s by grind)
          have k2 := mul_pos (show 0 < v - s by grind) (show 0 < v + s by grind)
          constructor <;> grind
        · have h3 : ¬ u ≤ -s := fun q => hw (-s) q (by grind) (by grind)
          have h4 : ¬ s ≤ v := fun q => hw s (by grind) q rfl
          right
          have k1 := sq_lt_abs hs (x := u) (by grind) (by grind)
          have k2 := sq_lt_abs hs (x := v) (by grind) (by grind)
          constructor <;> grind
    have main : sgR ((4 * (a : Rl)) * pv c b a x) = sgR ((4 * (a : Rl)) * pv c b a y) := by
      rw [four_pv, four_pv]
      by_cases hD : 0 ≤ b * b - 4 * a * c
      · have e := rt_sq hD
        have s0 := rt_nn (b * b - 4 * a * c)
        rw [disc_cast] at e
        generalize RR.rt (b * b - 4 * a * c) = s at e s0
        rw [← e]
        have hz : ∀ w : Rl, w * w = s * s → ∀ z, (2 * (a : Rl)) * z = w - b → pv c b a z = 0 := fun w hw z ez => by
          have h4 : (4 * (a : Rl)) * pv c b a z = 0 := by
            rw [four_pv, show 2 * (a : Rl) * z + b = w by grind, hw, e]; grind
          have := inv_mul (show 4 * a ≠ 0 by omega)
          rw [cast_mul, show ((4 : Int) : Rl) = 4 from rfl] at this
          have h5 : inv (4 * a) * ((4 * (a : Rl)) * pv c b a z) = 0 := by rw [h4]; grind
          grind
        rcases Int.lt_or_gt_of_ne ha with ha' | ha'
        · have ha2 : 2 * (a : Rl) < 0 := by have := cast_neg' ha'; grind
          have k := key (2 * (a : Rl) * y + b) (2 * a * x + b) s s0 (by have := (mul_lt_neg ha2 (x := y) (y := x)).mpr hxy; grind) (fun w w1 w2 ew => by
            obtain ⟨z, ez⟩ := solve (show 2 * a ≠ 0 by omega) (w - b)
            rw [two_cast] at ez
            refine no z ?_ ?_ (hz w ew z ez)
            · refine Classical.byContradiction fun q => ?_
              have := (mul_lt_neg ha2 (x := x) (y := z)).mpr (by grind)
              grind
            · refine Classical.byContradiction fun q => ?_
              have := (mul_lt_neg ha2 (x := z) (y := y)).mpr (by grind)
              grind)
          exact (sg_same k).symm
        · have ha2 : 0 < 2 * (a : Rl) := by have := cast_pos ha'; grind
          have k := key (2 * (a : Rl) * x + b) (2 * a * y + b) s s0 (by have := (mul_lt ha2 (x := x) (y := y)).mpr hxy; grind) (fun w w1 w2 ew => by
            obtain ⟨z, ez⟩ := solve (show 2 * a ≠ 0 by omega) (w - b)
            rw [two_cast] at ez
            refine no z ?_ ?_ (hz w ew z ez)
            · refine Classical.byContradiction fun q => ?_
              have := (mul_lt ha2 (x := z) (y := x)).mpr (by grind)
              grind
            · refine Classical.byContradiction fun q => ?_
              have := (mul_lt ha2 (x := y) (y := z)).mpr (by grind)
              grind)
          exact sg_same k
      · have hD' := cast_neg' (show b * b - 4 * a * c < 0 by omega)
        rw [disc_cast] at hD'
        have sqn : ∀ u : Rl, 0 ≤ u * u := fun u => by
          rcases tri u with q | q | q
          · have := mul_pos q q; grind
          · have := mul_pos (show 0 < -u by grind) (show 0 < -u by grind); grind
          · rw [q]; grind
        have k1 := sqn (2 * a * x + b)
        have k2 := sqn (2 * a * y + b)
        exact sg_same (.inl (by constructor <;> grind))
    rcases Int.lt_or_gt_of_ne ha with ha' | ha'
    · have ha2 : 4 * (a : Rl) < 0 := by have := cast_neg' ha'; grind
      rw [sg_mul_neg ha2, sg_mul_neg ha2] at main
      omega
    · have ha2 : 0 < 4 * (a : Rl) := by have := cast_pos ha'; grind
      rwa [sg_mul_pos ha2, sg_mul_pos ha2] at main
end RR
namespace RR
/-! ### fractions between two times -/
theorem fr_lt_iff {p q r s : Int} (hq : 0 < q) (hs : 0 < s) : (Tm.fr p q).val < (Tm.fr r s).val ↔ p * s < r * q := by
  have e1 := val_fr (p := p) hq
  have e2 := val_fr (p := r) hs
  have h := mul_pos (cast_pos hq) (cast_pos hs)
  rw [← mul_lt h, ← cast_lt, cast_mul, cast_mul]
  rw [show (q : Rl) * s * (Tm.fr p q).val = p * s by rw [← e1]; grind, show (q : Rl) * s * (Tm.fr r s).val = r * q by rw [← e2]; grind]
theorem fr_le_iff {p q r s : Int} (hq : 0 < q) (hs : 0 < s) : (Tm.fr p q).val ≤ (Tm.fr r s).val ↔ p * s ≤ r * q := by
  have := fr_lt_iff (p := r) (q := s) (r := p) (s := q) hs hq
  constructor
  · intro h
    refine Int.not_lt.mp fun z => ?_
    have := this.mpr z; grind
  · intro h
    refine Classical.byContradiction fun z => ?_
    have := this.mp (by grind)
    omega
theorem spot_gt {P s : Int} {x : Rl} (hP : 0 < P) (h : IsFl ((P : Rl) * x) s) : x < (Tm.fr (s + 1) P).val ∧ (P : Rl) * (Tm.fr (s + 1) P).val ≤ (P : Rl) * x + 1 := by
  have e := val_fr (p := s + 1) hP
  rw [cast_add, cast_one] at e
  obtain ⟨h1, h2⟩ := h
  have hP' := cast_pos hP
  rw [← mul_lt hP', e]
  constructor <;> grind
theorem gap {N : Int} {t u : Tm} (hN : 1 ≤ N) (ht : t.Nm) (hu : u.Nm) (ti : t.In N) (ui : u.In N) (lt : t.val < u.val) : 1 ≤ big N * (u.val - t.val) := by
  rcases sep hN ht hu ti ui (e := u.val - t.val) ⟨by grind, by grind⟩ with q | q
  · subst q; grind
  · exact q
theorem spot_mid {N P s : Int} {t u : Tm} (hN : 1 ≤ N) (ht : t.Nm) (hu : u.Nm) (ti : t.In N) (ui : u.In N) (lt : t.val < u.val) (hP : 0 < P) (hb : big N < (P : Rl)) (h : IsFl ((P : Rl) * t.val) s) :
    t.val < (Tm.fr (s + 1) P).val ∧ (Tm.fr (s + 1) P).val < u.val := by
  obtain ⟨a, b⟩ := spot_gt hP h
  have g := gap hN ht hu ti ui lt
  refine ⟨a, ?_⟩
  have hP' := cast_pos hP
  rw [← mul_lt hP']
  have := mul_pos (show 0 < (P : Rl) - big N by grind) (show 0 < u.val - t.val by grind)
  grind
/-- a fraction apart from a time -/
theorem sep2 {M K N p q : Int} {u : Tm} {e : Rl} (hM : 1 ≤ M) (hK : 1 ≤ K) (hN : 1 ≤ N) (h : (Tm.fr p q).Nm) (hx : Ab (M : Rl) (Tm.fr p q).val) (hq : q ≤ K) (hu : u.Nm) (ui : u.In N) (he : Ab e ((Tm.fr p q).val - u.val)) :
    Tm.fr p q = u ∨ 1 ≤ (K : Rl) * K * (N * (M + 2 * N) + N) * e := by
  have en := he.nn
  have m1 := one_le_of hM
  have k1 := one_le_of hK
  have n1 := one_le_of hN
  have e1 := val_fr (p := p) h.1
  have q0 := cast_pos h.1
  have qk : (q : Rl) ≤ K := cast_le.mpr hq
  have aq : Ab (K : Rl) (q : Rl) := ⟨by grind, by grind⟩
  have kk := pow_up k1
  have x1 := mul_nn (show 0 ≤ (N : Rl) - 1 by grind) (show 0 ≤ (M : Rl) + 2 * N by grind)
  cases u with
  | fr r s =>
    by_cases z : p * s = r * q
    · left
      obtain ⟨rfl, rfl⟩ := fr_inj h hu z
      rfl
    · right
      have e2 := val_fr (p := r) hu.1
      have as : Ab (N : Rl) (s : Rl) := Ab.of_int ui.2
      have k := (aq.mul as).mul he
      have e3 : ((p * s - r * q : Int) : Rl) = (q : Rl) * s * ((Tm.fr p q).val - (Tm.fr r s).val) := by
        rw [cast_sub, cast_mul, cast_mul, ← e1, ← e2]; grind
      rw [← e3] at k
      have l := int_one (by omega) k
      have p1 := mul_nn (mul_nn (show 0 ≤ (K : Rl) * K - K by grind) (show 0 ≤ (N : Rl) by grind)) en
      have p2 := mul_nn (mul_nn (show 0 ≤ (K : Rl) * K by grind) (show 0 ≤ (N : Rl) * (M + 2 * N) by grind)) en
      grind
  | rt c b a w =>
    right
    have y1 := rt_le hN hu ui
    have own := pv_own hu
    have id := pv_fr (c := c) (b := b) (a := a) (p := p) h.1
    have ne : (a * p + b * q) * p + c * q * q ≠ 0 := by
      intro z
      have e2 : (2 * a * p + b * q) * (2 * a * p + b * q) = q * q * (b * b - 4 * a * c) := by grind
      have := no_root hu.2.2.2.1 e2
      have := h.1
      omega
    have ab : Ab (N : Rl) (b : Rl) := Ab.of_int ui.2.1
    have aa : Ab (N : Rl) (a : Rl) := Ab.of_int ui.2.2
    have f : pv c b a (Tm.fr p q).val = (a * ((Tm.fr p q).val + (Tm.rt c b a w).val) + b) * ((Tm.fr p q).val - (Tm.rt c b a w).val) := by
      unfold pv at own ⊢
      grind
    have k := (aq.mul aq).mul (((aa.mul (hx.add y1)).add ab).mul he)
    rw [← f, ← id] at k
    have l := int_one ne k
    grind
/-! ### steps between two ends -/
def SB (X Y l0 l1 r0 r1 α β : Int) : Prop := 0 ≤ l0 ∧ 0 < l1 ∧ 0 < r0 ∧ 0 ≤ r1 ∧ r0 * l1 - l0 * r1 = 1 ∧ 1 ≤ α ∧ 1 ≤ β ∧ X = α * l0 + β * r0 ∧ Y = α * l1 + β * r1
theorem gcd_of {x y u v : Int} (e : u * x + v * y = 1) : Int.gcd x y = 1 := by
  have h1 : (Int.gcd x y : Int) ∣ x := Int.gcd_dvd_left x y
  have h2 : (Int.gcd x y : Int) ∣ y := Int.gcd_dvd_right x y
  have h3 : (Int.gcd x y : Int) ∣ 1 := by
    rw [← e]
    exact Int.dvd_add (Int.dvd_mul_of_dvd_right h1) (Int.dvd_mul_of_dvd_right h2)
  have := Int.eq_one_of_dvd_one (by omega) h3
  omega
variable {X Y l0 l1 r0 r1 α β m : Int}
theorem SB.nl (h : SB X Y l0 l1 r0 r1 α β) (hm : 1 ≤ m) : (Tm.fr (l0 * m + r0) (l1 * m + r1)).Nm := by
  obtain ⟨a, b, c, d, e, _⟩ := h
  refine ⟨?_, gcd_of (u := l1) (v := - l0) (by grind)⟩
  have := Int.mul_pos b (show 0 < m by omega)
  omega
theorem SB.nr (h : SB X Y l0 l1 r0 r1 α β) (hm : 1 ≤ m) : (Tm.fr (r0 * m + l0) (r1 * m + l1)).Nm := by
  obtain ⟨a, b, c, d, e, _⟩ := h
  refine ⟨?_, gcd_of (u := - r1) (v := r0) (by grind)⟩
  have := Int.mul_nonneg d (show 0 ≤ m by omega)
  omega
theorem SB.pos (h : SB X Y l0 l1 r0 r1 α β) : 0 < X ∧ 0 < Y := by
  obtain ⟨a, b, c, d, e, f, g, x, y⟩ := h
  have h1 := Int.mul_nonneg (show 0 ≤ α by omega) a
  have h2 := Int.mul_pos (show 0 < α by omega) b
  have h3 := Int.mul_pos (show 0 < β by omega) c
  have h4 := Int.mul_nonneg (show 0 ≤ β by omega) d
  omega
theorem SB.le (h : SB X Y l0 l1 r0 r1 α β) : l0 + r0 ≤ X ∧ l1 + r1 ≤ Y ∧ α ≤ Y ∧ β ≤ X := by
  obtain ⟨a, b, c, d, e, f, g, x, y⟩ := h
  have h1 := Int.mul_nonneg (show 0 ≤ α - 1 by omega) a
  have h2 := Int.mul_nonneg (show 0 ≤ α - 1 by omega) (show 0 ≤ l1 by omega)
  have h3 := Int.mul_nonneg (show 0 ≤ β - 1 by omega) (show 0 ≤ r0 by omega)
  have h4 := Int.mul_nonneg (show 0 ≤ β - 1 by omega) d
  have h5 := Int.mul_nonneg (show 0 ≤ α by omega) (show 0 ≤ l1 - 1 by omega)
  have h6 := Int.mul_nonneg (show 0 ≤ β by omega) (show 0 ≤ r0 - 1 by omega)
  have h7 := Int.mul_nonneg (show 0 ≤ β by omega) d
  have h8 := Int.mul_nonneg (show 0 ≤ α by omega) a
  rw [Int.sub_mul] at h1 h2 h3 h4
  rw [Int.mul_sub] at h5 h6
  omega
theorem SB.left (h : SB X Y l0 l1 r0 r1 α β) (hm : 1 ≤ m) (lt : X * (l1 * m + r1) < (l0 * m + r0) * Y) : m < α ∧ SB X Y l0 l1 (l0 * m + r0) (l1 * m + r1) (α - m * β) β := by
  obtain ⟨a, b, c, d, e, f, g, x, y⟩ := h
  have k : m * β < α := by
    have e1 : (l0 * m + r0) * Y - X * (l1 * m + r1) = (r0 * l1 - l0 * r1) * (α - m * β) := by rw [x, y]; grind
    rw [e, Int.one_mul] at e1
    omega
  have h1 := Int.mul_nonneg (show 0 ≤ m by omega) (show 0 ≤ β - 1 by omega)
  rw [Int.mul_sub] at h1
  have h2 := Int.mul_nonneg a (show 0 ≤ m by omega)
  have h3 := Int.mul_nonneg (show 0 ≤ l1 by omega) (show 0 ≤ m by omega)
  refine ⟨by omega, a, b, by omega, by omega, ?_, by omega, g, ?_, ?_⟩
  · rw [← e]; grind
  · rw [x]; grind
  · rw [y]; grind
theorem SB.right (h : SB X Y l0 l1 r0 r1 α β) (hm : 1 ≤ m) (lt : (r0 * m + l0) * Y < X * (r1 * m + l1)) : m < β ∧ SB X Y (r0 * m + l0) (r1 * m + l1) r0 r1 α (β - m * α) := by
  obtain ⟨a, b, c, d, e, f, g, x, y⟩ := h
  have k : m * α < β := by
    have e1 : X * (r1 * m + l1) - (r0 * m + l0) * Y = (r0 * l1 - l0 * r1) * (β - m * α) := by rw [x, y]; grind
    rw [e, Int.one_mul] at e1
    omega
  have h1 := Int.mul_nonneg (show 0 ≤ m by omega) (show 0 ≤ α - 1 by omega)
  rw [Int.mul_sub] at h1
  have h2 := Int.mul_nonneg (show 0 ≤ r0 by omega) (show 0 ≤ m by omega)
  have h3 := Int.mul_nonneg d (show 0 ≤ m by omega)
  refine ⟨by omega, by omega, by omega, c, d, ?_, f, by omega, ?_, ?_⟩
  · rw [← e]; grind
  · rw [x]; grind
  · rw [y]; grind
theorem SB.start {low : Int} (hl : 0 ≤ low) (hY : 0 < Y) (h : low * Y < X) : SB X Y low 1 1 0 Y (X - low * Y) :=
  ⟨hl, by omega, by omega, by omega, by omega, by omega, by omega, by grind, by grind⟩
end RR
namespace RR
/-! ### where a polynomial is nought -/
theorem cancel {n : Int} (hn : n ≠ 0) {x y : Rl} (e : (n : Rl) * x = n * y) : x = y := by
  have := inv_mul hn
  have h : inv n * ((n : Rl) * x) = inv n * ((n : Rl) * y) := by rw [e]
  grind
theorem zero_of {n : Int} (hn : n ≠ 0) {x : Rl} (e : (n : Rl) * x = 0) : x = 0 := cancel hn (by rw [e]; grind)
theorem mul_zero {x y : Rl} (h : x * y = 0) : x = 0 ∨ y = 0 := by
  rcases tri x with p | p | p
  · right
    rcases tri y with q | q | q
    · have := mul_pos p q; grind
    · have := mul_pos p (show 0 < -y by grind); grind
    · exact q
  · right
    rcases tri y with q | q | q
    · have := mul_pos (show 0 < -x by grind) q; grind
    · have := mul_pos (show 0 < -x by grind) (show 0 < -y by grind); grind
    · exact q
  · exact .inl p
theorem sqrt_or {y s : Rl} (h : y * y = s * s) : y = s ∨ y = -s := by
  rcases mul_zero (x := y - s) (y := y + s) (by grind) with q | q
  · left; grind
  · right; grind
theorem sq_nn' (u : Rl) : 0 ≤ u * u := by
  rcases tri u with q | q | q
  · have := mul_pos q q; grind
  · have := mul_pos (show 0 < -u by grind) (show 0 < -u by grind); grind
  · rw [q]; grind
theorem pv_scale {c b a c' b' a' k : Int} {x : Rl} (e1 : c = k * c') (e2 : b = k * b') (e3 : a = k * a') : pv c b a x = (k : Rl) * pv c' b' a' x := by
  subst e1 e2 e3
  unfold pv
  rw [cast_mul, cast_mul, cast_mul]; grind
theorem root_sides {c b a : Int} {x : Rl} (h : pv c b a x = 0) : 0 ≤ b * b - 4 * a * c ∧ (2 * (a : Rl) * x + b = RR.rt (b * b - 4 * a * c) ∨ 2 * (a : Rl) * x + b = - RR.rt (b * b - 4 * a * c)) := by
  have e := four_pv (c := c) (b := b) (a := a) (x := x)
  rw [h] at e
  have hd : 0 ≤ b * b - 4 * a * c := by
    rw [← cast_le, disc_cast]
    have := sq_nn' (2 * (a : Rl) * x + b)
    rw [cast_zero]
    grind
  refine ⟨hd, sqrt_or ?_⟩
  rw [rt_sq hd, disc_cast]
  grind
theorem rt_of_sq {r D : Int} (h0 : 0 ≤ r) (e : r * r = D) : RR.rt D = (r : Rl) := by
  have hD : 0 ≤ D := by rw [← e]; exact Int.mul_nonneg h0 h0
  have e1 := rt_sq hD
  have e2 := rt_nn D
  have e3 := cast_nn h0
  rw [← e, cast_mul] at e1
  rw [← e]
  rw [← e] at e2
  rcases sqrt_or e1 with q | q <;> grind
theorem val_by {p q m n : Int} (hq : 0 < q) (e : p * n = m * q) : (n : Rl) * (Tm.fr p q).val = m := by
  have e1 := val_fr (p := p) hq
  refine cancel (n := q) (by omega) ?_
  have e2 : (p : Rl) * n = m * q := by rw [← cast_mul, ← cast_mul, e]
  grind
theorem pv_lin {c b : Int} {x : Rl} : pv c b 0 x = 0 ↔ (b : Rl) * x = ((0 - c : Int) : Rl) := by
  unfold pv
  rw [cast_zero, cast_sub, cast_zero]
  constructor <;> intro h <;> grind
theorem pv_sides {c b a : Int} {x : Rl} (ha : a ≠ 0) (hd : 0 ≤ b * b - 4 * a * c) (h : 2 * (a : Rl) * x + b = RR.rt (b * b - 4 * a * c) ∨ 2 * (a : Rl) * x + b = - RR.rt (b * b - 4 * a * c)) : pv c b a x = 0 := by
  have e := four_pv (c := c) (b := b) (a := a) (x := x)
  have e1 := rt_sq hd
  rw [disc_cast] at e1
  have : ((4 * a : Int) : Rl) * pv c b a x = 0 := by
    rw [cast_mul, show ((4 : Int) : Rl) = 4 from rfl, e]
    rcases h with q | q <;> rw [q] <;> grind
  exact zero_of (by omega) this
/-- all real places where it is nought, told as times are -/
def RAll (c b a : Int) (ts : List Tm) : Prop := (∀ t ∈ ts, t.Nm ∧ pv c b a t.val = 0) ∧ ∀ x, pv c b a x = 0 → ∃ t ∈ ts, t.val = x
/-- those not below nought -/
def RPos (c b a : Int) (ts : List Tm) : Prop := (∀ t ∈ ts, t.Nm ∧ pv c b a t.val = 0 ∧ 0 ≤ t.val) ∧ ∀ x, 0 ≤ x → pv c b a x = 0 → ∃ t ∈ ts, t.val = x
theorem RAll.pos {c b a : Int} {ts : List Tm} (h : RAll c b a ts) {f : Tm → Bool} (hf : ∀ t ∈ ts, f t = true ↔ 0 ≤ t.val) : RPos c b a (ts.filter f) := by
  constructor
  · intro t ht
    rw [List.mem_filter] at ht
    exact ⟨(h.1 t ht.1).1, (h.1 t ht.1).2, (hf t ht.1).mp ht.2⟩
  · intro x hx e
    obtain ⟨t, ht, rfl⟩ := h.2 x e
    exact ⟨t, List.mem_filter.mpr ⟨ht, (hf t ht).mpr hx⟩, rfl⟩
theorem all_const {c : Int} (hc : c ≠ 0) : RAll c 0 0 [] := ⟨fun t ht => (by cases ht), fun x e => by
  rw [pv_lin, cast_zero] at e
  have : ((0 - c : Int) : Rl) = ((0 : Int) : Rl) := by rw [← e, cast_zero]; grind
  have := cast_inj this
  omega⟩
theorem all_lin {c b p q : Int} (hb : b ≠ 0) (nm : (Tm.fr p q).Nm) (e : p * b = (0 - c) * q) : RAll c b 0 [.fr p q] := by
  have v := val_by nm.1 e
  constructor
  · intro t ht
    cases List.mem_singleton.mp ht
    exact ⟨nm, pv_lin.mpr v⟩
  · intro x hx
    rw [pv_lin] at hx
    exact ⟨_, List.mem_singleton.mpr rfl, cancel hb (v.trans hx.symm)⟩
theorem all_none {c b a : Int} (hd : b * b - 4 * a * c < 0) : RAll c b a [] := ⟨fun t ht => (by cases ht), fun x e => by
  have := (root_sides e).1
  omega⟩
theorem all_sq {c b a r p q p' q' : Int} (ha : a ≠ 0) (h0 : 0 ≤ r) (hr : r * r = b * b - 4 * a * c) (nm : (Tm.fr p q).Nm) (nm' : (Tm.fr p' q').Nm) (e : p * (2 * a) = (0 - b - r) * q) (e' : p' * (2 * a) = (r - b) * q') : RAll c b a [.fr p q, .fr p' q'] := by
  have v := val_by nm.1 e
  have v' := val_by nm'.1 e'
  have hd : 0 ≤ b * b - 4 * a * c := by rw [← hr]; exact Int.mul_nonneg h0 h0
  have s := rt_of_sq h0 hr
  rw [cast_sub, cast_sub, cast_zero, two_cast] at v
  rw [cast_sub, two_cast] at v'
  constructor
  · intro t ht
    rcases List.mem_cons.mp ht with rfl | ht
    · exact ⟨nm, pv_sides ha hd (.inr (by rw [s, v]; grind))⟩
    · cases List.mem_singleton.mp ht
      exact ⟨nm', pv_sides ha hd (.inl (by rw [s, v']; grind))⟩
  · intro x hx
    have k := (root_sides hx).2
    rw [s] at k
    rcases k with k | k
    · refine ⟨.fr p' q', by simp, cancel (n := 2 * a) (by omega) ?_⟩
      rw [two_cast, v']; grind
    · refine ⟨.fr p q, by simp, cancel (n := 2 * a) (by omega) ?_⟩
      rw [two_cast, v]; grind
theorem all_one {c b a p q : Int} (ha : a ≠ 0) (hr : 0 = b * b - 4 * a * c) (nm : (Tm.fr p q).Nm) (e : p * (2 * a) = (0 - b - 0) * q) : RAll c b a [.fr p q] := by
  have h := all_sq ha (Int.le_refl 0) (by rw [← hr]; rfl) nm nm e (by rw [e]; grind)
  refine ⟨fun t ht => h.1 t (by simp at ht ⊢; exact ht), fun x hx => ?_⟩
  obtain ⟨t, ht, ex⟩ := h.2 x hx
  exact ⟨t, by simp at ht ⊢; exact ht, ex⟩
theorem all_rt {c b a c' b' a' k : Int} (hk : k ≠ 0) (e1 : c = k * c') (e2 : b = k * b') (e3 : a = k * a') (nm : ∀ w : Int, w = 0 ∨ w = 1 → (Tm.rt c' b' a' w).Nm) : RAll c b a [.rt c' b' a' 0, .rt c' b' a' 1] := by
  have n0 := nm 0 (.inl rfl)
  have n1 := nm 1 (.inr rfl)
  constructor
  · intro t ht
    rcases List.mem_cons.mp ht with rfl | ht
    · exact ⟨n0, by rw [pv_scale e1 e2 e3, pv_own n0]; grind⟩
    · cases List.mem_singleton.mp ht
      exact ⟨n1, by rw [pv_scale e1 e2 e3, pv_own n1]; grind⟩
  · intro x hx
    rw [pv_scale e1 e2 e3] at hx
    have hx := zero_of hk hx
    have ha := n0.1
    have v0 := val_rt (c := c') (b := b') (w := 0) ha
    have v1 := val_rt (c := c') (b := b') (w := 1) ha
    rw [cast_zero] at v0
    rw [cast_one] at v1
    rcases (root_sides hx).2 with k | k
    · refine ⟨_, List.mem_cons_of_mem _ (List.mem_singleton.mpr rfl), cancel (n := 2 * a') (by omega) ?_⟩
      rw [two_cast]; grind
    · refine ⟨_, List.mem_cons_self, cancel (n := 2 * a') (by omega) ?_⟩
      rw [two_cast]; grind
theorem disc_scale {c b a c' b' a' k : Int} (e1 : c = k * c') (e2 : b = k * b') (e3 : a = k * a') : b * b - 4 * a * c = k * k * (b' * b' - 4 * a' * c') := by subst e1 e2 e3; grind
/-! ### the sign between two times -/
def Zb (c b a : Int) (t : Tm) (u : Option Tm) : Prop := ∃ x, pv c b a x = 0 ∧ t.val < x ∧ ∀ v, u = some v → x < v.val
theorem zb_iff {c b a : Int} {t : Tm} {u : Option Tm} {ts : List Tm} (h : RPos c b a ts) (ht : 0 ≤ t.val) : Zb c b a t u ↔ ∃ s ∈ ts, t.val < s.val ∧ ∀ v, u = some v → s.val < v.val := by
  constructor
  · rintro ⟨x, e, lt, k⟩
    obtain ⟨s, hs, rfl⟩ := h.2 x (by grind) e
    exact ⟨s, hs, lt, k⟩
  · rintro ⟨s, hs, lt, k⟩
    exact ⟨s.val, (h.1 s hs).2.1, lt, k⟩
/-- two points between have the same sign -/
theorem sg_between {c b a : Int} {t : Tm} {u : Option Tm} {x y : Rl} (h : ¬ Zb c b a t u) (hx : t.val < x) (hx2 : ∀ v, u = some v → x < v.val) (hy : t.val < y) (hy2 : ∀ v, u = some v → y < v.val) : sgR (pv c b a x) = sgR (pv c b a y) := by
  rcases tri (y - x) with q | q | q
  · refine pv_between (by grind) fun z z1 z2 e => h ⟨z, e, by grind, fun v hv => ?_⟩
    have := hy2 v hv; grind
  · refine (pv_between (by grind) fun z z1 z2 e => h ⟨z, e, by grind, fun v hv => ?_⟩).symm
    have := hx2 v hv; grind
  · rw [show x = y by grind]
end RR
namespace RR
/-! ### a line at a root: never near to nought but nought -/
theorem int_scaled {i : Int} {B Z : Rl} (h : i ≠ 0) (hz : 0 < Z) (k : Ab B (Z * (i : Rl))) : Z ≤ B := by
  obtain ⟨a, b⟩ := k
  rcases Int.lt_or_gt_of_ne h with q | q
  · have : ((1 : Int) : Rl) ≤ ((-i : Int) : Rl) := by rw [cast_le]; omega
    rw [cast_neg, cast_one] at this
    have := mul_nn (show 0 ≤ Z by grind) (show 0 ≤ -(i : Rl) - 1 by grind)
    grind
  · have : ((1 : Int) : Rl) ≤ (i : Rl) := by rw [cast_le]; omega
    rw [cast_one] at this
    have := mul_nn (show 0 ≤ Z by grind) (show 0 ≤ (i : Rl) - 1 by grind)
    grind
theorem line_norm {c b a l m : Int} (ha : 0 < a) (hd : ∀ r : Int, r * r ≠ b * b - 4 * a * c) (hne : ¬ (l = 0 ∧ m = 0)) : a * l * l - b * l * m + c * m * m ≠ 0 := by
  intro z
  have e : (2 * a * l - b * m) * (2 * a * l - b * m) = m * m * (b * b - 4 * a * c) := by grind
  have hm := no_root hd e
  subst hm
  have : a * (l * l) = 0 := by grind
  rcases Int.mul_eq_zero.mp this with q | q
  · omega
  · exact hne ⟨by rcases Int.mul_eq_zero.mp q with q | q <;> exact q, rfl⟩
theorem line_low {N M : Int} {c b a w l m : Int} {Z E : Rl} (hN : 1 ≤ N) (h : (Tm.rt c b a w).Nm) (hi : (Tm.rt c b a w).In N) (hl : l.natAbs ≤ M) (hm : m.natAbs ≤ M) (hne : ¬ (l = 0 ∧ m = 0)) (hZ : 0 < Z)
    (he : Ab E (Z * ((l : Rl) + m * (Tm.rt c b a w).val))) : Z ≤ N * (E * (M + M * (2 * N))) := by
  obtain ⟨h1, h2, h3, h4, h5⟩ := id h
  have h' : (Tm.rt c b a (1 - w)).Nm := ⟨h1, h2, h3, h4, by omega⟩
  have e1 := val_rt (c := c) (b := b) (w := w) h1
  have e2 := val_rt (c := c) (b := b) (w := 1 - w) h1
  have o1 := pv_own h
  have ha := cast_pos h1
  have ab := rt_le hN h' hi
  have aM := Ab.of_int hl
  have bM := Ab.of_int hm
  have aN : Ab (N : Rl) (a : Rl) := Ab.of_int hi.2.2
  rw [cast_sub, cast_one] at e2
  generalize (Tm.rt c b a w).val = x at *
  generalize (Tm.rt c b a (1 - w)).val = y at *
  have s1 : (a : Rl) * (x + y) = -(b : Rl) := by grind
  unfold pv at o1
  have s2 : (a : Rl) * (x * y) = c := by grind
  have k := int_scaled (B := N * (E * (M + M * (2 * N)))) (line_norm h1 h4 hne) hZ
  refine k ?_
  have := aN.mul (he.mul (aM.add (bM.mul ab)))
  have e3 : Z * ((a * l * l - b * l * m + c * m * m : Int) : Rl) = (a : Rl) * (Z * ((l : Rl) + m * x) * (l + m * y)) := by
    rw [cast_add, cast_sub, cast_mul, cast_mul, cast_mul, cast_mul, cast_mul, cast_mul]
    grind
  rw [e3]
  exact this
theorem pv_line {c b a c' b' a' : Int} {x : Rl} (h : pv c' b' a' x = 0) : (a' : Rl) * pv c b a x = ((c * a' - a * c' : Int) : Rl) + ((b * a' - a * b' : Int) : Rl) * x := by
  unfold pv at *
  rw [cast_sub, cast_sub, cast_mul, cast_mul, cast_mul, cast_mul]
  grind
/-! ### between two whole numbers -/
def lowE (c b a P s : Int) : Int := c * (P * P) + b * (s + if b < 0 then 1 else 0) * P + a * ((s + if a < 0 then 1 else 0) * (s + if a < 0 then 1 else 0))
def topE (c b a P s : Int) : Int := c * (P * P) + b * (s + if 0 < b then 1 else 0) * P + a * ((s + if 0 < a then 1 else 0) * (s + if 0 < a then 1 else 0))
theorem lin_low {b s : Int} {x : Rl} (h : IsFl x s) : ((b * (s + if b < 0 then 1 else 0) : Int) : Rl) ≤ b * x := by
  obtain ⟨h1, h2⟩ := h
  rw [cast_mul, cast_add]
  split
  · next q =>
    have := mul_nn (show 0 ≤ -(b : Rl) by have := cast_neg' q; grind) (show 0 ≤ (s : Rl) + 1 - x by grind)
    rw [cast_one]; grind
  · next q =>
    have := mul_nn (cast_nn (show 0 ≤ b by omega)) (show 0 ≤ x - (s : Rl) by grind)
    rw [cast_zero]; grind
theorem lin_top {b s : Int} {x : Rl} (h : IsFl x s) : (b : Rl) * x ≤ ((b * (s + if 0 < b then 1 else 0) : Int) : Rl) := by
  have := lin_low (b := -b) h
  rw [show (if -b < 0 then (1 : Int) else 0) = if 0 < b then 1 else 0 by congr 1; exact propext ⟨fun q => by omega, fun q => by omega⟩, Int.neg_mul, cast_neg, cast_neg] at this
  grind
theorem sq_low {a s : Int} {x : Rl} (h : IsFl x s) (hs : 0 ≤ s) : ((a * ((s + if a < 0 then 1 else 0) * (s + if a < 0 then 1 else 0)) : Int) : Rl) ≤ a * (x * x) := by
  obtain ⟨h1, h2⟩ := h
  have s0 := cast_nn hs
  rw [cast_mul, cast_mul, cast_add]
  split
  · next q =>
    have k := mul_nn (show 0 ≤ (s : Rl) + 1 - x by grind) (show 0 ≤ (s : Rl) + 1 + x by grind)
    have := mul_nn (show 0 ≤ -(a : Rl) by have := cast_neg' q; grind) k
    rw [cast_one]; grind
  · next q =>
    have k := mul_nn (show 0 ≤ x - (s : Rl) by grind) (show 0 ≤ x + (s : Rl) by grind)
    have := mul_nn (cast_nn (show 0 ≤ a by omega)) k
    rw [cast_zero]; grind
theorem sq_top {a s : Int} {x : Rl} (h : IsFl x s) (hs : 0 ≤ s) : (a : Rl) * (x * x) ≤ ((a * ((s + if 0 < a then 1 else 0) * (s + if 0 < a then 1 else 0)) : Int) : Rl) := by
  have := sq_low (a := -a) h hs
  rw [show (if -a < 0 then (1 : Int) else 0) = if 0 < a then 1 else 0 by congr 1; exact propext ⟨fun q => by omega, fun q => by omega⟩, Int.neg_mul, cast_neg, cast_neg] at this
  grind
theorem fl_nn {x : Rl} {s : Int} (h : IsFl x s) (hx : 0 ≤ x) : 0 ≤ s := by
  refine Int.not_lt.mp fun q => ?_
  have := (h.lt_iff (n := 0)).mpr q
  rw [cast_zero] at this
  grind
theorem lowE_le {c b a P s : Int} {x : Rl} (hP : 0 < P) (h : IsFl ((P : Rl) * x) s) (hx : 0 ≤ x) : ((lowE c b a P s : Int) : Rl) ≤ (P : Rl) * P * pv c b a x := by
  have hP' := cast_pos hP
  have k1 := lin_low (b := b) h
  have k2 := sq_low (a := a) h (fl_nn h (mul_nn (by grind) hx))
  unfold lowE pv
  rw [cast_add, cast_add, cast_mul (b * _), cast_mul c, cast_mul P P]
  have := mul_nn (show 0 ≤ (P : Rl) by grind) (show 0 ≤ (b : Rl) * ((P : Rl) * x) - ((b * (s + if b < 0 then 1 else 0) : Int) : Rl) by grind)
  grind
theorem topE_ge {c b a P s : Int} {x : Rl} (hP : 0 < P) (h : IsFl ((P : Rl) * x) s) (hx : 0 ≤ x) : (P : Rl) * P * pv c b a x ≤ ((topE c b a P s : Int) : Rl) := by
  have hP' := cast_pos hP
  have k1 := lin_top (b := b) h
  have k2 := sq_top (a := a) h (fl_nn h (mul_nn (by grind) hx))
  unfold topE pv
  rw [cast_add, cast_add, cast_mul (b * _), cast_mul c, cast_mul P P]
  have := mul_nn (show 0 ≤ (P : Rl) by grind) (show 0 ≤ ((b * (s + if 0 < b then 1 else 0) : Int) : Rl) - (b : Rl) * ((P : Rl) * x) by grind)
  grind
theorem one_way (b : Int) : ∃ u v : Int, (if 0 < b then (1 : Int) else 0) = u ∧ (if b < 0 then (1 : Int) else 0) = v ∧ b * u - b * v = (b.natAbs : Int) ∧ (b * (u * u) - b * (v * v) = (b.natAbs : Int)) := by
  refine ⟨_, _, rfl, rfl, ?_⟩
  rcases Int.lt_trichotomy b 0 with q | q | q
  · rw [if_neg (by omega), if_pos q]; omega
  · subst q; simp
  · rw [if_pos q, if_neg (by omega)]; omega
theorem wide_E {c b a P s : Int} : topE c b a P s - lowE c b a P s = (b.natAbs : Int) * P + (a.natAbs : Int) * (2 * s + 1) := by
  unfold topE lowE
  obtain ⟨u, v, e1, e2, e3, e4⟩ := one_way b
  obtain ⟨u', v', f1, f2, f3, f4⟩ := one_way a
  rw [e1, e2, f1, f2]
  grind
end RR
namespace RR
open SL
theorem fl_ex {t : Tm} (nm : t.Nm) {P : Int} (hP : 0 < P) : ∃ s, IsFl ((P : Rl) * t.val) s := by
  cases t with
  | fr p q => exact ⟨_, fl_fr nm.1⟩
  | rt c b a w =>
    have h0 : 0 ≤ (b * b - 4 * a * c) * (P * P) := Int.mul_nonneg (Int.le_of_lt nm.2.2.1) (Int.mul_nonneg (Int.le_of_lt hP) (Int.le_of_lt hP))
    obtain ⟨r, hr⟩ := isRt_ex h0
    rcases nm.2.2.2.2 with rfl | rfl
    · exact ⟨_, fl_rt0 nm hP hr⟩
    · exact ⟨_, fl_rt1 nm hP hr⟩
theorem val_le {N : Int} {t : Tm} (hN : 1 ≤ N) (nm : t.Nm) (hi : t.In N) : t.val ≤ 2 * (N : Rl) := by
  have n1 := one_le_of hN
  cases t with
  | fr p q => have := (fr_le hN nm hi).1; grind
  | rt c b a w => exact (rt_le hN nm hi).1
theorem big_cast {N P : Int} (h : 40 * (N * N * N * N * N * N * N) < P) : big (N : Rl) < (P : Rl) := by
  have lt' := cast_lt.mpr h
  unfold big
  rw [cast_mul, cast_mul, cast_mul, cast_mul, cast_mul, cast_mul, cast_mul] at lt'
  have e40 : ((40 : Int) : Rl) = 40 := rfl
  grind
theorem bd_pow2 {n k : Nat} (h : k < n) : Bd n ((2 : Int) ^ k) := by
  unfold Bd
  rw [Int.natAbs_pow]
  exact Nat.pow_lt_pow_right (by decide) h
theorem mid_ex {t u : Tm} (ht : t.Nm) (hu : u.Nm) (tb : TB 200 t) (ub : TB 200 u) (t0 : 0 ≤ t.val) (lt : t.val < u.val) : ∃ X Y : Int, 0 < Y ∧ t.val < (Tm.fr X Y).val ∧ (Tm.fr X Y).val < u.val ∧ Bd 2000 X ∧ Bd 2000 Y := by
  have hP : (0 : Int) < 2 ^ 1500 := Int.pow_pos (by decide)
  have hN : (1 : Int) ≤ 2 ^ 200 := Int.pow_pos (by decide)
  obtain ⟨s, hs⟩ := fl_ex ht hP
  have vl := val_le hN ht (tb_in tb)
  have lb : (40 : Int) * ((2 ^ 200) * (2 ^ 200) * (2 ^ 200) * (2 ^ 200) * (2 ^ 200) * (2 ^ 200) * (2 ^ 200)) < 2 ^ 1500 := by decide +kernel
  obtain ⟨a, b⟩ := spot_mid hN ht hu (tb_in tb) (tb_in ub) lt hP (big_cast lb) hs
  refine ⟨s + 1, 2 ^ 1500, hP, a, b, ?_, bd_pow2 (by decide)⟩
  have s0 := fl_nn hs (mul_nn (cast_nn (Int.le_of_lt hP)) t0)
  have bP : Bd 1501 ((2 : Int) ^ 1500) := bd_pow2 (by decide)
  have bN : Bd 201 ((2 : Int) ^ 200) := bd_pow2 (by decide)
  generalize (2 : Int) ^ 1500 = P at *
  generalize (2 : Int) ^ 200 = N at *
  have sle : s ≤ P * (2 * N) := by
    rw [← cast_le, cast_mul, cast_mul, show ((2 : Int) : Rl) = 2 from rfl]
    have := mul_nn (cast_nn (Int.le_of_lt hP)) (show 0 ≤ 2 * (N : Rl) - t.val by grind)
    obtain ⟨h1, _⟩ := hs
    grind
  exact Bd.of_le (j := P * (2 * N) + 1) (Bd.mono (Bd.add (Bd.mul bP (Bd.mul (Bd.lit 64 (i := 2) rfl) bN)) (Bd.lit 64 (i := 1) rfl)) (by decide)) (by omega) (by omega)
theorem sg_ge {x : Rl} : 0 ≤ sgR x ↔ 0 ≤ x := by
  rcases tri x with q | q | q
  · rw [sg_pos q]; exact ⟨fun _ => by grind, fun _ => by decide⟩
  · rw [sg_neg q]; exact ⟨fun h => absurd h (by decide), fun h => by grind⟩
  · rw [q, sg_zero]; exact ⟨fun _ => by grind, fun _ => by decide⟩
theorem sg_le {x : Rl} : sgR x ≤ 0 ↔ x ≤ 0 := by
  rcases tri x with q | q | q
  · rw [sg_pos q]; exact ⟨fun h => absurd h (by decide), fun h => by grind⟩
  · rw [sg_neg q]; exact ⟨fun _ => by grind, fun _ => by decide⟩
  · rw [q, sg_zero]; exact ⟨fun _ => by grind, fun _ => by decide⟩
theorem sg_lt {x : Rl} : sgR x < 0 ↔ x < 0 := by
  rcases tri x with q | q | q
  · rw [sg_pos q]; exact ⟨fun h => absurd h (by decide), fun h => by grind⟩
  · rw [sg_neg q]; exact ⟨fun _ => by grind, fun _ => by decide⟩
  · rw [q, sg_zero]; exact ⟨fun h => absurd h (by decide), fun h => by grind⟩
theorem sg_gt {x : Rl} : 0 < sgR x ↔ 0 < x := by
  rcases tri x with q | q | q
  · rw [sg_pos q]; exact ⟨fun _ => q, fun _ => by decide⟩
  · rw [sg_neg q]; exact ⟨fun h => absurd h (by decide), fun h => by grind⟩
  · rw [q, sg_zero]; exact ⟨fun h => absurd h (by decide), fun h => by grind⟩
end RR
namespace RR
open SL
theorem fl_near {x y : Rl} {P s : Int} (hP : 0 < P) (h1 : IsFl ((P : Rl) * x) s) (h2 : IsFl ((P : Rl) * y) s) : ∃ e : Rl, (P : Rl) * e = 1 ∧ 0 < e ∧ Ab e (x - y) := by
  obtain ⟨a1, a2⟩ := h1
  obtain ⟨b1, b2⟩ := h2
  have hP' := cast_pos hP
  refine ⟨inv P, inv_mul (by omega), inv_pos hP, ?_⟩
  have he := inv_mul (show P ≠ 0 by omega)
  constructor
  · refine Classical.byContradiction fun q => ?_
    have := mul_pos hP' (show 0 < x - y - inv P by grind)
    grind
  · refine Classical.byContradiction fun q => ?_
    have := mul_pos hP' (show 0 < -(x - y) - inv P by grind)
    grind
theorem spot_ap {t u : Tm} {p q : Int} {k : Nat} {s1 s2 : Int} (ht : t.Nm) (hu : u.Nm) (tb : TB 200 t) (ub : TB 200 u) (t0 : 0 ≤ t.val) (lt : t.val < u.val) (nm : (Tm.fr p q).Nm) (l1 : t.val < (Tm.fr p q).val) (l2 : ((2 ^ k : Int) : Rl) * (Tm.fr p q).val ≤ ((2 ^ k : Int) : Rl) * t.val + 1)
    (hq : q ≤ 2 ^ k) (hk : k ≤ 700 ∨ k = 4000) (h1 : IsFl (((2 ^ 3000 : Int) : Rl) * (Tm.fr p q).val) s1) (h2 : IsFl (((2 ^ 3000 : Int) : Rl) * u.val) s2) (ne : Tm.fr p q ≠ u) : s1 ≠ s2 := by
  intro z
  subst z
  obtain ⟨e, pe, e0, ab⟩ := fl_near (Int.pow_pos (by decide)) h1 h2
  have hN : (1 : Int) ≤ 2 ^ 200 := Int.pow_pos (by decide)
  have vl := val_le hN ht (tb_in tb)
  rcases hk with hk | rfl
  · have hK : (2 : Int) ^ k ≤ 2 ^ 700 := by have h := Nat.pow_le_pow_right (show 0 < 2 by decide) hk; have h1 : ((2 ^ k : Nat) : Int) = 2 ^ k := Int.natCast_pow 2 k; have h2 : ((2 ^ 700 : Nat) : Int) = 2 ^ 700 := Int.natCast_pow 2 700; rw [← h1, ← h2]; exact Int.ofNat_le.mpr h
    have hM : (1 : Int) ≤ 2 ^ 202 := Int.pow_pos (by decide)
    have k1 : (1 : Int) ≤ 2 ^ k := Int.pow_pos (by decide)
    have x1 : (Tm.fr p q).val ≤ ((2 ^ 202 : Int) : Rl) := by
      have c1 : ((2 ^ 202 : Int) : Rl) = 4 * ((2 ^ 200 : Int) : Rl) := by
        rw [show (2 : Int) ^ 202 = 4 * 2 ^ 200 by decide +kernel, cast_mul]; rfl
      have k1' := cast_le.mpr k1
      have n1 := cast_le.mpr hN
      rw [cast_one] at k1' n1
      refine Classical.byContradiction fun y => ?_
      have := mul_pos (show 0 < ((2 ^ k : Int) : Rl) by grind) (show 0 < (Tm.fr p q).val - t.val - 1 by grind)
      grind
    have x2 : Ab ((2 ^ 202 : Int) : Rl) (Tm.fr p q).val := ⟨x1, by grind⟩
    rcases sep2 hM (K := 2 ^ 700) (Int.pow_pos (by decide)) hN nm x2 (Int.le_trans hq hK) hu (tb_in ub) ab with w | w
    · exact ne w
    · have lb : (2 : Int) ^ 700 * 2 ^ 700 * (2 ^ 200 * (2 ^ 202 + 2 * 2 ^ 200) + 2 ^ 200) < 2 ^ 3000 := by decide +kernel
      have lb := cast_lt.mpr lb
      generalize (2 : Int) ^ 3000 = P at *
      generalize (2 : Int) ^ 700 = K at *
      generalize (2 : Int) ^ 202 = M at *
      generalize (2 : Int) ^ 200 = N at *
      rw [cast_mul, cast_mul, cast_add, cast_mul, cast_add, cast_mul, show ((2 : Int) : Rl) = 2 from rfl] at lb
      have := mul_pos (show 0 < (P : Rl) - K * K * (N * (M + 2 * N) + N) by grind) e0
      grind
  · have g := gap hN ht hu (tb_in tb) (tb_in ub) lt
    have lb : (40 : Int) * ((2 ^ 200) * (2 ^ 200) * (2 ^ 200) * (2 ^ 200) * (2 ^ 200) * (2 ^ 200) * (2 ^ 200)) < 2 ^ 1500 := by decide +kernel
    have lb := big_cast lb
    have lb2 : (2 : Int) * 2 ^ 1500 < 2 ^ 3000 := by decide +kernel
    have lb3 : (2 : Int) ^ 3000 ≤ 2 ^ 4000 := by decide +kernel
    have p0 : (0 : Int) < 2 ^ 3000 := Int.pow_pos (by decide)
    have lb2 := cast_lt.mpr lb2
    have lb3 := cast_le.mpr lb3
    have p0 := cast_pos p0
    rw [cast_mul, show ((2 : Int) : Rl) = 2 from rfl] at lb2
    generalize (2 : Int) ^ 4000 = P4 at *
    generalize (2 : Int) ^ 3000 = P at *
    generalize (2 : Int) ^ 1500 = P1 at *
    generalize (2 : Int) ^ 200 = N at *
    have d1 : (P : Rl) * ((Tm.fr p q).val - t.val) ≤ 1 := by
      have := mul_nn (show 0 ≤ (P4 : Rl) - P by grind) (show 0 ≤ (Tm.fr p q).val - t.val by grind)
      grind
    have d2 : (P : Rl) * (u.val - (Tm.fr p q).val) ≤ 1 := by
      have := mul_nn (show 0 ≤ (P : Rl) by grind) (show 0 ≤ e - (u.val - (Tm.fr p q).val) by have := ab.2; grind)
      grind
    have d3 : (P : Rl) * (u.val - t.val) ≤ 2 := by grind
    have d4 := mul_pos (show 0 < (P1 : Rl) - big N by grind) (show 0 < u.val - t.val by grind)
    have d5 := mul_pos (show 0 < (P : Rl) - 2 * P1 by grind) (show 0 < u.val - t.val by grind)
    grind
end RR
namespace RR
open SL
/-! ### the least fraction between two times -/
theorem mid_ex2 {t u : Tm} (ht : t.Nm) (hu : u.Nm) (tb : TB 180 t) (ub : TB 180 u) (t0 : 0 ≤ t.val) (lt : t.val < u.val) : ∃ X Y : Int, 0 < Y ∧ t.val < (Tm.fr X Y).val ∧ (Tm.fr X Y).val < u.val ∧ Bd 4000 X ∧ Bd 4000 Y ∧ Y ≤ 2 ^ 1266 := by
  have hP : (0 : Int) < 2 ^ 1266 := Int.pow_pos (by decide)
  have hN : (1 : Int) ≤ 2 ^ 180 := Int.pow_pos (by decide)
  obtain ⟨s, hs⟩ := fl_ex ht hP
  have vl := val_le hN ht (tb_in tb)
  have lb : (40 : Int) * ((2 ^ 180) * (2 ^ 180) * (2 ^ 180) * (2 ^ 180) * (2 ^ 180) * (2 ^ 180) * (2 ^ 180)) < 2 ^ 1266 := by decide +kernel
  obtain ⟨a, b⟩ := spot_mid hN ht hu (tb_in tb) (tb_in ub) lt hP (big_cast lb) hs
  refine ⟨s + 1, 2 ^ 1266, hP, a, b, ?_, bd_pow2 (by decide), Int.le_refl _⟩
  have s0 := fl_nn hs (mul_nn (cast_nn (Int.le_of_lt hP)) t0)
  have bP : Bd 1267 ((2 : Int) ^ 1266) := bd_pow2 (by decide)
  have bN : Bd 181 ((2 : Int) ^ 180) := bd_pow2 (by decide)
  generalize (2 : Int) ^ 1266 = P at *
  generalize (2 : Int) ^ 180 = N at *
  have sle : s ≤ P * (2 * N) := by
    rw [← cast_le, cast_mul, cast_mul, show ((2 : Int) : Rl) = 2 from rfl]
    have := mul_nn (cast_nn (Int.le_of_lt hP)) (show 0 ≤ 2 * (N : Rl) - t.val by grind)
    obtain ⟨h1, _⟩ := hs
    grind
  exact Bd.of_le (j := P * (2 * N) + 1) (Bd.mono (Bd.add (Bd.mul bP (Bd.mul (Bd.lit 64 (i := 2) rfl) bN)) (Bd.lit 64 (i := 1) rfl)) (by decide)) (by omega) (by omega)
theorem fr_ap {u : Tm} {p q : Int} {s1 s2 : Int} (hu : u.Nm) (ub : TB 180 u) (nm : (Tm.fr p q).Nm) (v0 : 0 ≤ (Tm.fr p q).val) (v1 : (Tm.fr p q).val ≤ 2 * ((2 ^ 180 : Int) : Rl) + 1)
    (hq : q ≤ 2 ^ 1266) (h1 : IsFl (((2 ^ 3000 : Int) : Rl) * (Tm.fr p q).val) s1) (h2 : IsFl (((2 ^ 3000 : Int) : Rl) * u.val) s2) (ne : Tm.fr p q ≠ u) : s1 ≠ s2 := by
  intro z
  subst z
  obtain ⟨e, pe, e0, ab⟩ := fl_near (Int.pow_pos (by decide)) h1 h2
  have hN : (1 : Int) ≤ 2 ^ 180 := Int.pow_pos (by decide)
  have hM : (1 : Int) ≤ 2 * 2 ^ 180 + 1 := by omega
  have x2 : Ab ((2 * 2 ^ 180 + 1 : Int) : Rl) (Tm.fr p q).val := by
    rw [cast_add, cast_mul, cast_one, show ((2 : Int) : Rl) = 2 from rfl]
    exact ⟨v1, by grind⟩
  rcases sep2 hM (K := 2 ^ 1266) (Int.pow_pos (by decide)) hN nm x2 hq hu (tb_in ub) ab with w | w
  · exact ne w
  · have lb : (2 : Int) ^ 1266 * 2 ^ 1266 * (2 ^ 180 * ((2 * 2 ^ 180 + 1) + 2 * 2 ^ 180) + 2 ^ 180) < 2 ^ 3000 := by decide +kernel
    have lb := cast_lt.mpr lb
    generalize hm : (2 : Int) * 2 ^ 180 + 1 = M at *
    generalize (2 : Int) ^ 3000 = P at *
    generalize (2 : Int) ^ 1266 = K at *
    generalize (2 : Int) ^ 180 = N at *
    rw [cast_mul, cast_mul, cast_add, cast_mul, cast_add, cast_mul, show ((2 : Int) : Rl) = 2 from rfl] at lb
    have := mul_pos (show 0 < (P : Rl) - K * K * (N * (M + 2 * N) + N) by grind) e0
    grind
theorem right_le {l0 l1 r0 r1 : Int} (h1 : 0 < l1) (h2 : 0 < r1) (d : r0 * l1 - l0 * r1 = 1) : (Tm.fr r0 r1).val ≤ (Tm.fr l0 l1).val + 1 := by
  have e1 := val_fr (p := l0) h1
  have e2 := val_fr (p := r0) h2
  have p := cast_pos h1
  have q := cast_pos h2
  have dd : (r0 : Rl) * l1 - l0 * r1 = 1 := by rw [← cast_mul, ← cast_mul, ← cast_sub, d, cast_one]
  have k : (l1 : Rl) * r1 * ((Tm.fr r0 r1).val - (Tm.fr l0 l1).val) = 1 := by rw [← e1, ← e2] at dd; grind
  have l1' : (1 : Rl) ≤ l1 := by rw [← cast_one, cast_le]; omega
  have r1' : (1 : Rl) ≤ r1 := by rw [← cast_one, cast_le]; omega
  refine Classical.byContradiction fun z => ?_
  have m1 := mul_nn (show 0 ≤ (l1 : Rl) - 1 by grind) (show 0 ≤ (r1 : Rl) by grind)
  have m2 := mul_pos (show 0 < (l1 : Rl) * r1 by have := mul_pos p q; grind) (show 0 < (Tm.fr r0 r1).val - (Tm.fr l0 l1).val - 1 by grind)
  grind
theorem atI_m1 {pre : List D} {x y : D} : L2.atI (pre ++ [x, y]) (-1) = some y := by
  rw [show pre ++ [x, y] = (pre ++ [x]) ++ [y] by simp]
  exact L2.atI_last _ _
theorem atI_m2 {pre : List D} {x y : D} : L2.atI (pre ++ [x, y]) (-2) = some x := by
  unfold L2.atI L2.ixN
  rw [if_neg (by decide)]
  have : (pre ++ [x, y]).length = pre.length + 2 := by simp
  rw [this]
  first
    | (rw [if_pos (by omega)])
    | skip
  have e : ((-2 : Int) + ((pre.length + 2 : Nat) : Int)).toNat = pre.length := by omega
  show (pre ++ [x, y])[((-2 : Int) + ((pre.length + 2 : Nat) : Int)).toNat]? = some x
  rw [e]
  simp
/-- what is left of a division is less than half of the product -/
theorem mod_half {one other : Int} (h1 : 1 ≤ other) (h2 : other < one) {k : Nat} (h : one * other < 2 ^ (k + 1)) : other * (one % other) < 2 ^ k := by
  have e := Int.mul_ediv_add_emod one other
  have r0 := Int.emod_nonneg one (show other ≠ 0 by omega)
  have r1 := Int.emod_lt_of_pos one (show 0 < other by omega)
  have q1 : 1 ≤ one / other := Int.le_ediv_of_mul_le (by omega) (by omega)
  generalize one % other = r at *
  generalize one / other = c at *
  have h3 : other + r ≤ one := by
    have := Int.mul_le_mul_of_nonneg_left q1 (show 0 ≤ other by omega)
    omega
  have h4 : 2 * (other * r) ≤ one * other := by
    have := Int.mul_le_mul_of_nonneg_right (show 2 * r ≤ one by omega) (show 0 ≤ other by omega)
    rw [Int.mul_comm other r, ← Int.mul_assoc]
    exact this
  rw [Int.pow_succ] at h
  omega
end RR
namespace RR
open SL
/-! ### two rising lists as one -/
def Up (ts : List Tm) : Prop := ts.Pairwise fun x y => x.val < y.val
structure MI (ls rs : List Tm) (a i : Nat) (fs : List Tm) : Prop where
  ha : a ≤ ls.length
  up : Up fs
  lo : ∀ x ∈ fs, ∀ l ∈ ls.drop a, x.val < l.val
  ro : ∀ x ∈ fs, ∀ r ∈ rs.drop i, x.val < r.val
  mem : ∀ x, x ∈ fs ↔ x ∈ ls.take a ∨ (x ∈ rs.take i ∧ x ∉ ls)
variable {ls rs fs : List Tm} {a i : Nat}
theorem MI.zero : MI ls rs 0 0 [] := ⟨Nat.zero_le _, List.Pairwise.nil, fun x h => (by cases h), fun x h => (by cases h), fun x => by simp⟩
theorem up_snoc {t : Tm} (h : Up fs) (k : ∀ x ∈ fs, x.val < t.val) : Up (fs ++ [t]) := by
  unfold Up at *
  rw [List.pairwise_append]
  exact ⟨h, List.pairwise_singleton _ _, fun x hx y hy => by cases List.mem_singleton.mp hy; exact k x hx⟩
theorem up_drop (h : Up ls) (l : a < ls.length) : ∀ x ∈ ls.drop (a + 1), ls[a].val < x.val := by
  have e := List.drop_eq_getElem_cons l
  have : Up (ls.drop a) := List.Pairwise.sublist (List.drop_sublist _ _) h
  rw [e] at this
  exact (List.pairwise_cons.mp this).1
theorem mem_drop_lt (l : a < ls.length) : ls[a] ∈ ls.drop a := by rw [List.drop_eq_getElem_cons l]; exact List.mem_cons_self
theorem MI.left (h : MI ls rs a i fs) (ul : Up ls) (ur : Up rs) (l : a < ls.length) (l2 : i < rs.length) (lt : ls[a].val < rs[i].val) : MI ls rs (a + 1) i (fs ++ [ls[a]]) := by
  refine ⟨l, up_snoc h.up fun x hx => h.lo x hx _ (mem_drop_lt l), fun x hx y hy => ?_, fun x hx y hy => ?_, fun x => ?_⟩
  · rcases List.mem_append.mp hx with hx | hx
    · exact h.lo x hx y (by rw [List.drop_eq_getElem_cons l]; exact List.mem_cons_of_mem _ hy)
    · cases List.mem_singleton.mp hx
      exact up_drop ul l y hy
  · rcases List.mem_append.mp hx with hx | hx
    · exact h.ro x hx y hy
    · cases List.mem_singleton.mp hx
      rw [List.drop_eq_getElem_cons l2] at hy
      rcases List.mem_cons.mp hy with rfl | hy
      · exact lt
      · have := up_drop ur l2 y hy
        grind
  · rw [List.mem_append, h.mem, List.mem_singleton, List.take_succ_eq_append_getElem l, List.mem_append, List.mem_singleton]
    constructor
    · rintro ((q | q) | q)
      · exact .inl (.inl q)
      · exact .inr q
      · exact .inl (.inr q)
    · rintro ((q | q) | q)
      · exact .inl (.inl q)
      · exact .inr q
      · exact .inl (.inr q)
theorem MI.skip (h : MI ls rs a i fs) (l : a < ls.length) (l2 : i < rs.length) (e : ls[a] = rs[i]) : MI ls rs a (i + 1) fs := by
  refine ⟨h.ha, h.up, h.lo, fun x hx y hy => h.ro x hx y (by rw [List.drop_eq_getElem_cons l2]; exact List.mem_cons_of_mem _ hy), fun x => ?_⟩
  rw [h.mem, List.take_succ_eq_append_getElem l2, List.mem_append, List.mem_singleton]
  constructor
  · rintro (q | ⟨q, k⟩)
    · exact .inl q
    · exact .inr ⟨.inl q, k⟩
  · rintro (q | ⟨q | q, k⟩)
    · exact .inl q
    · exact .inr ⟨q, k⟩
    · subst q
      exact absurd (by rw [← e]; exact List.getElem_mem l) k
theorem MI.right (h : MI ls rs a i fs) (ul : Up ls) (ur : Up rs) (l2 : i < rs.length) (gt : ∀ x ∈ ls.drop a, rs[i].val < x.val) : MI ls rs a (i + 1) (fs ++ [rs[i]]) := by
  have lt : ∀ x ∈ fs, x.val < rs[i].val := fun x hx => h.ro x hx _ (mem_drop_lt l2)
  have nin : rs[i] ∉ ls := fun z => by
    rw [← List.take_append_drop a ls] at z
    rcases List.mem_append.mp z with z | z
    · have := lt _ ((h.mem _).mpr (.inl z)); grind
    · have := gt _ z; grind
  refine ⟨h.ha, up_snoc h.up lt, fun x hx y hy => ?_, fun x hx y hy => ?_, fun x => ?_⟩
  · rcases List.mem_append.mp hx with hx | hx
    · exact h.lo x hx y hy
    · cases List.mem_singleton.mp hx
      exact gt y hy
  · rcases List.mem_append.mp hx with hx | hx
    · exact h.ro x hx y (by rw [List.drop_eq_getElem_cons l2]; exact List.mem_cons_of_mem _ hy)
    · cases List.mem_singleton.mp hx
      exact up_drop ur l2 y hy
  · rw [List.mem_append, h.mem, List.mem_singleton, List.take_succ_eq_append_getElem l2, List.mem_append, List.mem_singleton]
    constructor
    · rintro ((q | ⟨q, k⟩) | rfl)
      · exact .inl q
      · exact .inr ⟨.inl q, k⟩
      · exact .inr ⟨.inr rfl, nin⟩
    · rintro (q | ⟨q | q, k⟩)
      · exact .inl (.inl q)
      · exact .inl (.inr ⟨q, k⟩)
      · exact .inr q
theorem MI.done (h : MI ls rs a rs.length fs) (ul : Up ls) : Up (fs ++ ls.drop a) ∧ ∀ x, x ∈ fs ++ ls.drop a ↔ x ∈ ls ∨ x ∈ rs := by
  constructor
  · unfold Up
    rw [List.pairwise_append]
    exact ⟨h.up, List.Pairwise.sublist (List.drop_sublist _ _) ul, h.lo⟩
  · intro x
    rw [List.mem_append, h.mem, List.take_length]
    have : x ∈ ls ↔ x ∈ ls.take a ∨ x ∈ ls.drop a := by rw [← List.mem_append, List.take_append_drop]
    constructor
    · rintro ((q | ⟨q, _⟩) | q)
      · exact .inl (this.mpr (.inl q))
      · exact .inr q
      · exact .inl (this.mpr (.inr q))
    · rintro (q | q)
      · rcases this.mp q with q | q
        · exact .inl (.inl q)
        · exact .inr q
      · by_cases z : x ∈ ls
        · rcases this.mp z with q | q
          · exact .inl (.inl q)
          · exact .inr q
        · exact .inl (.inr ⟨q, z⟩)
/-- two rising lists of the same are the same -/
theorem up_ext : ∀ {ls rs : List Tm}, Up ls → Up rs → (∀ x, x ∈ ls ↔ x ∈ rs) → ls = rs
  | [], [], _, _, _ => rfl
  | [], r :: rs, _, _, h => absurd ((h r).mpr List.mem_cons_self) (by simp)
  | l :: ls, [], _, _, h => absurd ((h l).mp List.mem_cons_self) (by simp)
  | l :: ls, r :: rs, hl, hr, h => by
    have hl' := List.pairwise_cons.mp hl
    have hr' := List.pairwise_cons.mp hr
    have e : l = r := by
      rcases List.mem_cons.mp ((h l).mp List.mem_cons_self) with q | q
      · exact q
      · rcases List.mem_cons.mp ((h r).mpr List.mem_cons_self) with k | k
        · exact k.symm
        · have := hr'.1 l q
          have := hl'.1 r k
          grind
    subst e
    congr 1
    refine up_ext hl'.2 hr'.2 fun x => ⟨fun q => ?_, fun q => ?_⟩
    · rcases List.mem_cons.mp ((h x).mp (List.mem_cons_of_mem _ q)) with k | k
      · subst k; have := hl'.1 x q; grind
      · exact k
    · rcases List.mem_cons.mp ((h x).mpr (List.mem_cons_of_mem _ q)) with k | k
      · subst k; have := hr'.1 x q; grind
      · exact k
end RR
namespace SL
open RR
/-- a comprehension over all places, told by what holds of each -/
theorem lc_build {src : Src} {g : GG} {te : ME} {ρ : Rho} {n : Nat} {Q : Nat → D → Hs → Prop} (mono : ∀ j d h h', Q j d h → KA h h' → Q j d h') (h0 : Hs) (ln : n < PySem.sizeLine)
    (hs : ∀ i, i < n → ∀ h, KA h0 h → ∃ d ρ1 d' h2, src i h = some (some d) ∧ g d ρ h = some (ρ1, h) ∧ te ρ1 h = some (d', h2) ∧ KA h h2 ∧ Q i d' h2) (ho : ∀ h, KA h0 h → src n h = some none) :
    ∀ h, KA h0 h → ∃ ds h', lcW src g tYes1 te ρ 0 [] h = some (ds, h') ∧ KA h0 h' ∧ ds.length = n ∧ ∀ j, j < n → ∃ d, ds[j]? = some d ∧ Q j d h' := by
  have key : ∀ (k i : Nat) (acc : List D) (h : Hs), i + k = n → acc.length = i → (∀ j, j < i → ∃ d, acc[j]? = some d ∧ Q j d h) → KA h0 h → ∃ ds h', lcW src g tYes1 te ρ i acc h = some (ds, h') ∧ KA h0 h' ∧ ds.length = n ∧ ∀ j, j < n → ∃ d, ds[j]? = some d ∧ Q j d h' := by
    intro k
    induction k with
    | zero =>
      intro i acc h hi la q ka
      have : i = n := by omega
      subst this
      exact ⟨acc, h, lc_end (ho h ka), ka, la, q⟩
    | succ k ih =>
      intro i acc h hi la q ka
      obtain ⟨d, ρ1, d', h2, e1, e2, e3, k2, q2⟩ := hs i (by omega) h ka
      rw [lc_turn e1, e2, bd_ok, ev_lc1, ev_yes, bd_ok, ev_lc2T, e3, bd_ok, ev_lc3 (by omega)]
      refine ih (i + 1) (acc ++ [d']) h2 (by omega) (by simp; omega) (fun j hj => ?_) (ka.trans k2)
      by_cases z : j < i
      · obtain ⟨x, ex, qx⟩ := q j z
        exact ⟨x, by rw [List.getElem?_append_left (by omega)]; exact ex, mono _ _ _ _ qx k2⟩
      · have : j = i := by omega
        subst this
        exact ⟨d', by rw [List.getElem?_append_right (by omega), la]; simp, q2⟩
  intro h k
  exact key n 0 [] h (by omega) rfl (fun j hj => absurd hj (Nat.not_lt_zero _)) k
theorem pick_all {α : Type} {R : Nat → α → Prop} : ∀ {n : Nat}, (∀ j, j < n → ∃ x, R j x) → ∃ l : List α, l.length = n ∧ ∀ j (h : j < l.length), R j l[j]
  | 0, _ => ⟨[], rfl, fun j h => absurd h (Nat.not_lt_zero _)⟩
  | n + 1, h => by
    obtain ⟨l, e, q⟩ := pick_all (n := n) fun j hj => h j (by omega)
    obtain ⟨x, hx⟩ := h n (by omega)
    refine ⟨l ++ [x], by simp [e], fun j hj => ?_⟩
    by_cases z : j < l.length
    · rw [List.getElem_append_left z]; exact q j z
    · have : j = l.length := by simp at hj; omega
      subst this
      simpa [e] using hx
theorem len_sub : ∀ {ms us : List Tm}, Up ms → (∀ x ∈ ms, x ∈ us) → ms.length ≤ us.length := by
  classical
  intro ms
  induction ms with
  | nil => intro us _ _; exact Nat.zero_le _
  | cons m ms ih =>
    intro us hu h
    have hu' := List.pairwise_cons.mp hu
    have hm := h m List.mem_cons_self
    have := ih (us := us.erase m) hu'.2 fun x hx => by
      have ne : x ≠ m := fun z => by subst z; have := hu'.1 x hx; grind
      exact (List.mem_erase_of_ne ne).mpr (h x (List.mem_cons_of_mem _ hx))
    rw [List.length_erase_of_mem hm] at this
    have : 0 < us.length := List.length_pos_of_mem hm
    simp only [List.length_cons]
    omega
def pTD : Tm → PySem.PyData
  | .fr p q => .tuple [.int p, .int q]
  | .rt c b a w => .tuple [.str "root", .tuple [.int c, .int b, .int a], .int w]
theorem toP_TD (k : Nat) (hk : k = 31 ∨ k = 30) (h : Hs) (t : Tm) : toP k h (TD t) = some (pTD t) := by rcases hk with rfl | rfl <;> cases t <;> rfl
theorem mapO_TD (k : Nat) (hk : k = 31 ∨ k = 30) (h : Hs) : ∀ ts : List Tm, mapO (toP k h) (ts.map TD) = some (ts.map pTD)
  | [] => rfl
  | t :: ts => by
    rw [List.map_cons, List.map_cons]
    unfold mapO
    rw [toP_TD k hk, mapO_TD k hk h ts]
theorem toP_list {h : Hs} {n : Nat} {ts : List Tm} (e : getL h n = some (ts.map TD)) : toP 32 h (.ref n) = some (.list (ts.map pTD)) := by
  show (match getL h n with | some ds => (match mapO (toP 31 h) ds with | some ps => some (PySem.PyData.list ps) | none => none) | none => none) = _
  rw [e]
  simp only [mapO_TD 31 (.inl rfl)]
theorem toP_list1 {h : Hs} {n : Nat} {ts : List Tm} (e : getL h n = some (ts.map TD)) : toP 31 h (.ref n) = some (.list (ts.map pTD)) := by
  show (match getL h n with | some ds => (match mapO (toP 30 h) ds with | some ps => some (PySem.PyData.list ps) | none => none) | none => none) = _
  rw [e]
  simp only [mapO_TD 30 (.inr rfl)]
theorem toP_empty {h : Hs} {n : Nat} (e : getL h n = some []) : toP 32 h (.ref n) = some (.list []) := by
  show (match getL h n with | some ds => (match mapO (toP 31 h) ds with | some ps => some (PySem.PyData.list ps) | none => none) | none => none) = _
  rw [e]
  rfl
theorem ev_range3 {j : Int} {h : Hs} (h0 : 0 ≤ j) (h1 : j < 2 ^ 20) : rangeK [.int 0, .int j, .int 2] h = some (srcC 0 2 ((j + 1) / 2).toNat, h) := by
  have e : PySem.Builtin.Range.rangeSize 0 j 2 = (j + 1) / 2 := by
    unfold PySem.Builtin.Range.rangeSize
    rw [if_pos (by decide)]
    split <;> omega
  show (if (2 : Int) ≠ 0 ∧ (2 : Int).natAbs < 1073741824 ∧ PySem.Builtin.Range.small 0 j 2 = true ∧ 0 ≤ PySem.Builtin.Range.rangeSize 0 j 2 then _ else _) = _
  rw [if_pos ⟨by decide, by decide, by unfold PySem.Builtin.Range.small PySem.Builtin.Range.rangeFitsLong; rw [e]; simp; omega, by rw [e]; omega⟩, e]
end SL
namespace SL
open RR
open PySem (PyData)
theorem eqvAll_map {α : Type} (f : α → PyData) (hf : ∀ x, PyData.eqv (f x) (f x) = true) : ∀ xs : List α, PyData.eqvAll (xs.map f) (xs.map f) = true
  | [] => rfl
  | x :: xs => by
    show (PyData.eqv (f x) (f x) && PyData.eqvAll (xs.map f) (xs.map f)) = true
    rw [hf, eqvAll_map f hf xs]
    rfl
theorem eqv_list {xs ys : List PyData} : PyData.eqv (.list xs) (.list ys) = PyData.eqvAll xs ys := rfl
theorem eqv_int (i j : Int) : PyData.eqv (.int i) (.int j) = (i == j) := rfl
theorem eqv_pTD (s t : Tm) [Decidable (s = t)] : PyData.eqv (pTD s) (pTD t) = decide (s = t) := by
  cases s with
  | fr p q =>
    cases t with
    | fr r s =>
      show ((p == r) && ((q == s) && true)) = _
      rw [Bool.and_true, Bool.beq_eq_decide_eq, Bool.beq_eq_decide_eq]
      simp
    | rt c b a w =>
      show _ = _
      rw [decide_eq_false (fun z => nomatch z)]; rfl
  | rt c b a w =>
    cases t with
    | fr r s =>
      show _ = _
      rw [decide_eq_false (fun z => nomatch z)]; rfl
    | rt c' b' a' w' =>
      show (true && (((c == c') && ((b == b') && ((a == a') && true))) && ((w == w') && true))) = _
      simp only [Bool.and_true, Bool.true_and, Bool.beq_eq_decide_eq]
      simp [Bool.and_assoc]
theorem any_pTD [DecidableEq Tm] (t : Tm) : ∀ ms : List Tm, ((ms.map pTD).any fun y => PyData.eqv y (pTD t)) = decide (t ∈ ms)
  | [] => rfl
  | m :: ms => by
    rw [List.map_cons, List.any_cons, any_pTD t ms, eqv_pTD]
    by_cases z : m = t
    · subst z; simp
    · by_cases y : t ∈ ms
      · simp [z, y]
      · simp [z, y, Ne.symm z]
theorem toP32_TD (h : Hs) (t : Tm) : toP 32 h (TD t) = some (pTD t) := by cases t <;> rfl
theorem mapO32_TD (h : Hs) : ∀ ts : List Tm, mapO (toP 32 h) (ts.map TD) = some (ts.map pTD)
  | [] => rfl
  | t :: ts => by
    rw [List.map_cons, List.map_cons]
    unfold mapO
    rw [toP32_TD, mapO32_TD h ts]
theorem mem_TDs [DecidableEq Tm] (t : Tm) (h : Hs) (ms : List Tm) : memB h (TD t) (ms.map TD) = some (decide (t ∈ ms)) := by
  unfold memB
  rw [toP32_TD, mapO32_TD]
  exact congrArg some (any_pTD t ms)
theorem in_TD [DecidableEq Tm] {t : Tm} {h : Hs} {n : Nat} {ms : List Tm} (e : h[n]? = some (.lst (ms.map TD))) : inB (TD t) (.ref n) h = some (decide (t ∈ ms)) := by
  have k : inB (TD t) (.ref n) h = (match h[n]? with | some (.dct kvs) => (match keyOf (TD t) with | some k => some (valD kvs k).isSome | none => none) | some (.lst ds) => memB h (TD t) ds | some (.fz ds) => memB h (TD t) ds | _ => none) := by cases t <;> rfl
  rw [k, e]
  exact mem_TDs t h ms
theorem ev_in [DecidableEq Tm] {t : Tm} {h : Hs} {n : Nat} {ms : List Tm} (e : h[n]? = some (.lst (ms.map TD))) : inG (TD t) (.ref n) h = some (.bl (decide (t ∈ ms)), h) := by
  unfold inG
  rw [in_TD e]
theorem ev_notIn [DecidableEq Tm] {t : Tm} {h : Hs} {n : Nat} {ms : List Tm} (e : h[n]? = some (.lst (ms.map TD))) : notInG (TD t) (.ref n) h = some (.bl (!decide (t ∈ ms)), h) := by
  unfold notInG
  rw [in_TD e]
theorem mapO_int (h : Hs) : ∀ xs : List Int, mapO (toP 31 h) (xs.map D.int) = some (xs.map PyData.int)
  | [] => rfl
  | x :: xs => by
    rw [List.map_cons, List.map_cons]
    unfold mapO
    rw [show toP 31 h (.int x) = some (.int x) from rfl, mapO_int h xs]
theorem toP_ints {h : Hs} {n : Nat} {xs : List Int} (e : getL h n = some (xs.map D.int)) : toP 32 h (.ref n) = some (.list (xs.map PyData.int)) := by
  show (match getL h n with | some ds => (match mapO (toP 31 h) ds with | some ps => some (PySem.PyData.list ps) | none => none) | none => none) = _
  rw [e]
  simp only [mapO_int]
theorem eq_ints {h : Hs} {n m : Nat} {xs : List Int} (e1 : getL h n = some (xs.map D.int)) (e2 : getL h m = some (xs.map D.int)) : eqB h (.ref n) (.ref m) = some true := by
  unfold eqB
  rw [toP_ints e1, toP_ints e2]
  show some (PyData.eqvAll (xs.map PyData.int) (xs.map PyData.int)) = _
  rw [eqvAll_map PyData.int (fun x => by rw [eqv_int]; simp)]
theorem ne_ints {h : Hs} {n m : Nat} {xs : List Int} (e1 : getL h n = some (xs.map D.int)) (e2 : getL h m = some (xs.map D.int)) : neG (.ref n) (.ref m) h = some (.bl false, h) := by
  unfold neG
  rw [eq_ints e1 e2]
  rfl
theorem eq_intsG {h : Hs} {n m : Nat} {xs : List Int} (e1 : getL h n = some (xs.map D.int)) (e2 : getL h m = some (xs.map D.int)) : eqG (.ref n) (.ref m) h = some (.bl true, h) := by
  unfold eqG
  rw [eq_ints e1 e2]
theorem ne_TDs {h : Hs} {n m : Nat} {ms : List Tm} (e1 : getL h n = some (ms.map TD)) (e2 : getL h m = some (ms.map TD)) : neG (.ref n) (.ref m) h = some (.bl false, h) := by
  classical
  unfold neG eqB
  rw [toP_list e1, toP_list e2]
  show some (D.bl (!(PyData.eqvAll (ms.map pTD) (ms.map pTD))), h) = _
  rw [eqvAll_map pTD (fun x => by rw [eqv_pTD]; simp)]
  rfl
end SL
namespace SL
open RR PySem
/-! ### worlds as they are drawn: the state of the draw, things, rows -/
abbrev NR (n r : Nat) : Nat → Prop := fun i => i ≠ n ∧ i ≠ r
/-- the state stands at n, what is left of the cells at r, the script at s; at most k draws were made -/
structure Wm (s r n k : Nat) (h : Hs) : Prop where
  ex : ∃ (ns ms : List Int) (k0 : Nat), k0 ≤ k ∧ h[n]? = some (.dct [(.inr "script", .ref s), (.inr "at", .int k0), (.inr "rest", .ref r)]) ∧ h[r]? = some (.lst (ms.map D.int)) ∧ getL h s = some (ns.map D.int) ∧ ms.length = ns.length ∧ ns.length ≤ 63
  sr : s ≠ r
  sn : s ≠ n
theorem Wm.lt {s r n k : Nat} {h : Hs} (a : Wm s r n k h) : n < h.length := by
  obtain ⟨_, _, _, _, e, _⟩ := a.ex
  exact get_lt e
theorem Wm.keep {s r n k : Nat} {h h' : Hs} (a : Wm s r n k h) (kp : KA h h') : Wm s r n k h' := by
  obtain ⟨ns, ms, k0, lk, e1, e2, e3, l1, l2⟩ := a.ex
  exact ⟨⟨ns, ms, k0, lk, kp.get e1 trivial, kp.get e2 trivial, KA.getL kp e3, l1, l2⟩, a.sr, a.sn⟩
theorem Wm.app {s r n k : Nat} {h G : Hs} (a : Wm s r n k h) : Wm s r n k (h ++ G) := a.keep Keep.app
theorem Wm.set {s r n k L : Nat} {h : Hs} {o : AO} (a : Wm s r n k h) (h1 : L ≠ n) (h2 : L ≠ r) (h3 : L ≠ s) : Wm s r n k (h.set L o) := by
  obtain ⟨ns, ms, k0, lk, e1, e2, e3, l1, l2⟩ := a.ex
  refine ⟨⟨ns, ms, k0, lk, by rw [List.getElem?_set_ne h1]; exact e1, by rw [List.getElem?_set_ne h2]; exact e2, ?_, l1, l2⟩, a.sr, a.sn⟩
  unfold getL at e3 ⊢
  rw [List.getElem?_set_ne h3]; exact e3
theorem Wm.up {s r n k k' : Nat} {h : Hs} (a : Wm s r n k h) (l : k ≤ k') : Wm s r n k' h := by
  obtain ⟨ns, ms, k0, lk, e⟩ := a.ex
  exact ⟨⟨ns, ms, k0, Nat.le_trans lk l, e⟩, a.sr, a.sn⟩
theorem ka_nr {n r : Nat} {h h' : Hs} (k : KA h h') : Keep (NR n r) h h' := k.weak fun _ _ => trivial
theorem Bd.fm {i j : Int} (h : (decide (j ≠ 0) && decide (j.natAbs < 2 ^ 64)) = true) : Bd 64 (i.fmod j) := by
  rw [Bool.and_eq_true] at h
  exact Bd.fmod' (show j.natAbs < 2 ^ 64 from of_decide_eq_true h.2) (of_decide_eq_true h.1)
theorem small_line {n : Nat} (h : n < 4000) : n < sizeLine := Nat.lt_of_lt_of_le h (Nat.le_of_ble_eq_true rfl)
theorem ev_dget {h : Hs} {n : Nat} {kvs : List (L2.Key × D)} {z : Str} {d : D} (e : h[n]? = some (.dct kvs)) (v : valD kvs (.inr z) = some d) : subG' (.ref n) (.str z) h = some (d, h) := by
  show (match h[n]? with | some (.dct kvs) => _ | some (.lst ds) => _ | some (.fz ds) => _ | _ => none) = _
  rw [e]
  show (match valD kvs (.inr z) with | some d => some (d, h) | none => none) = _
  rw [v]
theorem ev_dset {h : Hs} {n : Nat} {kvs : List (L2.Key × D)} {z : Str} {d : D} (e : h[n]? = some (.dct kvs)) (l : kvs.length < sizeLine) : setG (.ref n) (.str z) d h = some (h.set n (.dct (putD kvs (.inr z) d))) := by
  show (match h[n]? with | some (.lst ds) => _ | some (.dct kvs) => _ | _ => none) = _
  rw [e]
  exact if_pos l
/-- a row of a way; a thing -/
structure Row where
  t : Int
  u : Int
  v : Int
  deriving DecidableEq
structure Th where
  nm : Str
  x : Int
  y : Int
  rs : List Row
def Row.D (r : Row) : D := .tup [.int r.t, .int r.u, .int r.v]
def rowsD (rs : List Row) : SL.D := .tup (rs.map Row.D)
def Th.D (a : Th) : SL.D := .tup [.str a.nm, .int a.x, .int a.y, rowsD a.rs]
def Row.P (r : Row) : PyData := .tuple [.int r.t, .int r.u, .int r.v]
def Th.P (a : Th) : PyData := .tuple [.str a.nm, .int a.x, .int a.y, .tuple (a.rs.map Row.P)]
/-- rising rows -/
def Rising : Int → List Row → Prop
  | _, [] => True
  | lo, r :: rs => lo ≤ r.t ∧ Rising (r.t + 1) rs
structure RowOk (r : Row) : Prop where
  t : r.t < 2 ^ 30
  u : -1000 ≤ r.u ∧ r.u ≤ 1000
  v : -1000 ≤ r.v ∧ r.v ≤ 1000
def names12 : List Str := ["gull", "ox", "arc", "ar", "root", "f", "gu", "oxen", "wall", "el", "thing", "th"]
structure ThOk (a : Th) : Prop where
  x : -1000000 ≤ a.x ∧ a.x ≤ 1000000
  y : -1000000 ≤ a.y ∧ a.y ≤ 1000000
  up : Rising 0 a.rs
  ok : ∀ r ∈ a.rs, RowOk r
  few : a.rs.length ≤ 12
  nm : a.nm ∈ names12
theorem Rising.mono : ∀ {rs : List Row} {a b : Int}, b ≤ a → Rising a rs → Rising b rs
  | [], _, _, _, _ => trivial
  | r :: rs, a, b, l, ⟨h1, h2⟩ => ⟨Int.le_trans l h1, h2⟩
theorem Rising.snoc : ∀ {rs : List Row} {a : Int} {r : Row}, Rising a rs → (∀ q ∈ rs, q.t < r.t) → a ≤ r.t → Rising a (rs ++ [r])
  | [], a, r, _, _, l => ⟨l, trivial⟩
  | q :: rs, a, r, ⟨h1, h2⟩, h, l => ⟨h1, h2.snoc (fun z hz => h z (List.mem_cons_of_mem _ hz)) (h q List.mem_cons_self)⟩
theorem Rising.ge : ∀ {rs : List Row} {a : Int}, Rising a rs → ∀ q ∈ rs, a ≤ q.t
  | [], _, _, q, hq => nomatch hq
  | r :: rs, a, ⟨h1, h2⟩, q, hq => by
    rcases List.mem_cons.mp hq with rfl | hq
    · exact h1
    · have := h2.ge q hq; omega
end SL
namespace SL
/-! ### ways, row by row -/
/-- a piece of a way: from, to, the lines of x and y -/
structure Pc where
  a : Int
  b : Option Int
  x : Int
  u : Int
  y : Int
  v : Int
def oD : Option Int → D
  | none => .non
  | some i => .int i
def lnD (x u : Int) : D := .tup [.int x, .int u, .int 0]
def Pc.pl (p : Pc) : D := .tup [lnD p.x p.u, lnD p.y p.v]
def Pc.D3 (p : Pc) : D := .tup [.int p.a, oD p.b, p.pl]
def Pc.D4 (p : Pc) : D := .tup [.int p.a, oD p.b, lnD p.x p.u, lnD p.y p.v]
/-- the program's walk -/
def wayF : Int → Int → Int → Int → Int → List Row → List Pc
  | x, y, s, u, v, [] => [⟨s, none, x - u * s, u, y - v * s, v⟩]
  | x, y, s, u, v, r :: rs => (if s < r.t then [⟨s, some r.t, x - u * s, u, y - v * s, v⟩] else []) ++ wayF (x + u * (r.t - s)) (y + v * (r.t - s)) r.t r.u r.v rs
def wayT (a : Th) : List Pc := wayF a.x a.y 0 0 0 a.rs
/-- where it is, and its speed, by looking for the row that holds -/
def posF (f : Row → Int) : Int → Int → Int → List Row → Int → Int
  | x, s, u, [], T => x + u * (T - s)
  | x, s, u, r :: rs, T => if T < r.t then x + u * (T - s) else posF f (x + u * (r.t - s)) r.t (f r) rs T
def spF (f : Row → Int) : Int → List Row → Int → Int
  | u, [], _ => u
  | u, r :: rs, T => if T < r.t then u else spF f (f r) rs T
/-- the law's walk -/
def goneF (s T : Int) (rs : List Row) : Int :=
  let e := match rs with
    | [] => T
    | q :: _ => q.t
  let z := (if T < e then T else e) - s
  if z > 0 then z else 0
def lawX (f : Row → Int) : Int → List Row → Int → Int
  | x, [], _ => x
  | x, r :: rs, T => lawX f (x + f r * goneF r.t T rs) rs T
theorem lawX_still (f : Row → Int) : ∀ {rs : List Row} {lo x T : Int}, Rising lo rs → T ≤ lo → lawX f x rs T = x
  | [], _, _, _, _, _ => rfl
  | r :: rs, lo, x, T, ⟨h1, h2⟩, l => by
    have e : goneF r.t T rs = 0 := by
      unfold goneF
      cases rs with
      | nil => simp only; split <;> split <;> omega
      | cons q rs => simp only; split <;> split <;> omega
    show lawX f (x + f r * goneF r.t T rs) rs T = x
    rw [e, Int.mul_zero, Int.add_zero]
    exact lawX_still f h2 (by omega)
theorem lawX_pos (f : Row → Int) : ∀ {rs : List Row} {x s u T : Int}, Rising s rs → s ≤ T → lawX f (x + u * goneF s T rs) rs T = posF f x s u rs T
  | [], x, s, u, T, _, l => by
    have e : goneF s T [] = T - s := by unfold goneF; simp only; split <;> split <;> omega
    rw [e]; rfl
  | r :: rs, x, s, u, T, ⟨h1, h2⟩, l => by
    unfold posF
    by_cases q : T < r.t
    · have e : goneF s T (r :: rs) = T - s := by unfold goneF; simp only; split <;> split <;> omega
      rw [if_pos q, e]
      exact lawX_still f (lo := r.t) ⟨Int.le_refl _, h2⟩ (by omega)
    · have e : goneF s T (r :: rs) = r.t - s := by unfold goneF; simp only; split <;> split <;> omega
      rw [if_neg q, e]
      exact lawX_pos f (h2.mono (by omega)) (by omega)
theorem lawX_at (f : Row → Int) {rs : List Row} {x T : Int} (h : Rising 0 rs) (l : 0 ≤ T) : lawX f x rs T = posF f x 0 0 rs T := by
  rw [← lawX_pos f h l, Int.zero_mul, Int.add_zero]
/-- the last row that isn't behind -/
def lastR (d : Row) (rs : List Row) (T : Int) : Row := (d :: rs.filter fun r => decide (r.t ≤ T)).getLast (by simp)
theorem lastR_cons (d r : Row) (rs : List Row) (T : Int) : lastR d (r :: rs) T = if r.t ≤ T then lastR r rs T else lastR d rs T := by
  unfold lastR
  by_cases q : r.t ≤ T
  · simp only [List.filter_cons, q, decide_true, if_true]
    rw [List.getLast_cons (by simp)]
  · simp only [List.filter_cons, q, decide_false, if_false]
    simp
theorem lastR_still {d : Row} : ∀ {rs : List Row} {lo T : Int}, Rising lo rs → T < lo → lastR d rs T = d
  | [], _, _, _, _ => rfl
  | r :: rs, lo, T, ⟨h1, h2⟩, l => by
    rw [lastR_cons, if_neg (by omega)]
    exact lastR_still h2 (by omega)
theorem lastR_sp (f : Row → Int) : ∀ {rs : List Row} {d : Row} {lo T : Int}, Rising lo rs → f (lastR d rs T) = spF f (f d) rs T
  | [], _, _, _, _ => rfl
  | r :: rs, d, lo, T, ⟨h1, h2⟩ => by
    rw [lastR_cons]
    unfold spF
    by_cases q : r.t ≤ T
    · rw [if_pos q, if_neg (by omega)]
      exact lastR_sp f h2
    · rw [if_neg q, if_pos (by omega), lastR_still h2 (by omega)]
/-- the lines that hold at a time -/
def pcAt (x y s u v : Int) (rs : List Row) (b : Int) (e : Option Int) : Pc :=
  ⟨b, e, posF (·.u) x s u rs b - spF (·.u) u rs b * b, spF (·.u) u rs b, posF (·.v) y s v rs b - spF (·.v) v rs b * b, spF (·.v) v rs b⟩
/-- each with the next one -/
def zipU : List Int → List (Int × Option Int)
  | [] => []
  | [a] => [(a, none)]
  | a :: b :: r => (a, some b) :: zipU (b :: r)
theorem zipU_cons (a : Int) {bs : List Int} {b : Int} {r : List Int} (e : bs = b :: r) : zipU (a :: bs) = (a, some b) :: zipU bs := by subst e; rfl
theorem way_strict : ∀ {rs : List Row} {x y s u v : Int}, Rising (s + 1) rs → wayF x y s u v rs = (zipU (s :: rs.map (·.t))).map fun p => pcAt x y s u v rs p.1 p.2
  | [], x, y, s, u, v, _ => by
    show [_] = [_]
    congr 1
    show Pc.mk _ _ _ _ _ _ = Pc.mk _ _ _ _ _ _
    simp only [posF, spF, Int.sub_self, Int.mul_zero, Int.add_zero]
  | r :: rs, x, y, s, u, v, ⟨h1, h2⟩ => by
    have ih := way_strict (x := x + u * (r.t - s)) (y := y + v * (r.t - s)) (u := r.u) (v := r.v) h2
    unfold wayF
    rw [if_pos (by omega), ih, List.map_cons, zipU_cons s rfl, List.map_cons]
    show _ :: _ = _ :: _
    congr 1
    · show Pc.mk _ _ _ _ _ _ = Pc.mk _ _ _ _ _ _
      have c : s < r.t := by omega
      simp only [posF, spF, if_pos c, Int.sub_self, Int.mul_zero, Int.add_zero]
    · refine List.map_congr_left fun p hp => ?_
      have ge : r.t ≤ p.1 := by
        have mem : p.1 ∈ r.t :: rs.map (·.t) := by
          have : ∀ (l : List Int) (p : Int × Option Int), p ∈ zipU l → p.1 ∈ l := fun l => by
            induction l with
            | nil => intro p h; cases h
            | cons a l ih =>
              intro p h
              cases l with
              | nil => rw [show zipU [a] = [(a, none)] from rfl] at h; rw [List.mem_singleton.mp h]; exact List.mem_cons_self
              | cons b l =>
                rw [zipU_cons a rfl] at h
                rcases List.mem_cons.mp h with h | h
                · rw [h]; exact List.mem_cons_self
                · exact List.mem_cons_of_mem _ (ih p h)
          exact this _ p hp
        rcases List.mem_cons.mp mem with q | q
        · omega
        · obtain ⟨z, hz, e⟩ := List.mem_map.mp q
          have := h2.ge z hz
          omega
      have c : ¬ p.1 < r.t := by omega
      unfold pcAt
      simp only [posF, spF, if_neg c]
/-- where the pieces begin -/
def begT (rs : List Row) : List Int := match rs with
  | [] => [0]
  | r :: rs => if 0 < r.t then 0 :: r.t :: rs.map (·.t) else r.t :: rs.map (·.t)
def pcT (a : Th) (b : Int) (e : Option Int) : Pc := pcAt a.x a.y 0 0 0 a.rs b e
theorem way_pcs (a : Th) (h : Rising 0 a.rs) : wayT a = (zipU (begT a.rs)).map fun p => pcT a p.1 p.2 := by
  unfold wayT pcT begT
  cases e : a.rs with
  | nil => exact way_strict (rs := []) trivial
  | cons r rs =>
    rw [e] at h
    obtain ⟨h1, h2⟩ := h
    simp only
    by_cases q : 0 < r.t
    · rw [if_pos q]
      exact way_strict (rs := r :: rs) ⟨by omega, h2⟩
    · have z : r.t = 0 := by omega
      rw [if_neg q]
      unfold wayF
      rw [if_neg q, List.nil_append, z]
      rw [z] at h2
      have ih := way_strict (x := a.x + 0 * (0 - 0)) (y := a.y + 0 * (0 - 0)) (u := r.u) (v := r.v) h2
      rw [ih]
      refine List.map_congr_left fun p hp => ?_
      have ge : 0 ≤ p.1 := by
        have mem : p.1 ∈ (0 : Int) :: rs.map (·.t) := by
          have : ∀ (l : List Int) (p : Int × Option Int), p ∈ zipU l → p.1 ∈ l := fun l => by
            induction l with
            | nil => intro p h; cases h
            | cons a l ih =>
              intro p h
              cases l with
              | nil => rw [show zipU [a] = [(a, none)] from rfl] at h; rw [List.mem_singleton.mp h]; exact List.mem_cons_self
              | cons b l =>
                rw [zipU_cons a rfl] at h
                rcases List.mem_cons.mp h with h | h
                · rw [h]; exact List.mem_cons_self
                · exact List.mem_cons_of_mem _ (ih p h)
          exact this _ p hp
        rcases List.mem_cons.mp mem with q | q
        · omega
        · obtain ⟨z, hz, e⟩ := List.mem_map.mp q
          have := h2.ge z hz
          omega
      have c : ¬ p.1 < 0 := by omega
      unfold pcAt
      simp only [posF, spF, z, if_neg c]
theorem Rising.lt : ∀ {rs : List Row} {a : Int}, Rising a rs → (rs.map (·.t)).Pairwise (· < ·)
  | [], _, _ => .nil
  | r :: rs, a, ⟨_, h2⟩ => by
    rw [List.map_cons]
    refine List.pairwise_cons.mpr ⟨fun z hz => ?_, h2.lt⟩
    obtain ⟨q, hq, e⟩ := List.mem_map.mp hz
    have := h2.ge q hq
    omega
theorem beg_ssI {rs : List Row} (h : Rising 0 rs) : ssI (0 :: rs.map (·.t)) = begT rs := by
  refine up_one (fun z => ?_) (ssI_up _) ?_
  · rw [ssI_mem]
    unfold begT
    cases rs with
    | nil => simp
    | cons r rs =>
      simp only
      split
      · simp
      · next q =>
        have e : r.t = 0 := by have := h.1; omega
        simp [e]
  · unfold begT
    cases rs with
    | nil => simp
    | cons r rs =>
      simp only
      have := h.lt
      rw [List.map_cons] at this
      split
      · next q =>
        refine List.pairwise_cons.mpr ⟨fun z hz => ?_, this⟩
        rcases List.mem_cons.mp hz with rfl | hz
        · exact q
        · have := (List.pairwise_cons.mp this).1 z hz
          omega
      · exact this
theorem begT_ge {rs : List Row} (h : Rising 0 rs) : ∀ b ∈ begT rs, 0 ≤ b := fun b hb => by
  rw [← beg_ssI h, ssI_mem] at hb
  rcases List.mem_cons.mp hb with rfl | hb
  · exact Int.le_refl _
  · obtain ⟨q, hq, rfl⟩ := List.mem_map.mp hb
    exact h.ge q hq
/-- the lines at any time from 0 on are those of the last piece that has begun -/
theorem pcAt_line : ∀ {rs : List Row} {x y s u v b c : Int}, Rising s rs → s ≤ b → b ≤ c → (∀ r ∈ rs, r.t ≤ c → r.t ≤ b) → ∀ e e', (pcAt x y s u v rs b e).pl = (pcAt x y s u v rs c e').pl
  | [], x, y, s, u, v, b, c, _, _, _, _, e, e' => by
    unfold pcAt Pc.pl
    simp only [posF, spF]
    have : ∀ x u : Int, x + u * (b - s) - u * b = x + u * (c - s) - u * c := fun x u => by rw [Int.mul_sub, Int.mul_sub]; omega
    rw [this, this y v]
  | r :: rs, x, y, s, u, v, b, c, ⟨h1, h2⟩, l1, l2, h, e, e' => by
    by_cases q : b < r.t
    · have q2 : c < r.t := by
        rcases Int.lt_or_le c r.t with z | z
        · exact z
        · have := h r List.mem_cons_self z; omega
      unfold pcAt Pc.pl
      simp only [posF, spF, if_pos q, if_pos q2]
      have : ∀ x u : Int, x + u * (b - s) - u * b = x + u * (c - s) - u * c := fun x u => by rw [Int.mul_sub, Int.mul_sub]; omega
      rw [this, this y v]
    · have q2 : ¬ c < r.t := by omega
      have ih := pcAt_line (s := r.t) (x := x + u * (r.t - s)) (y := y + v * (r.t - s)) (u := r.u) (v := r.v) (b := b) (c := c) (h2.mono (by omega)) (by omega) l2 (fun z hz => h z (List.mem_cons_of_mem _ hz)) e e'
      unfold pcAt Pc.pl at ih ⊢
      simp only [posF, spF, if_neg q, if_neg q2] at ih ⊢
      exact ih
end SL
namespace SL
open RR PySem
/-! ### instances, step by step -/
section
variable {nm f x : Str} {g : GC} {mo mv : ME} {m : MA} {ρ : Rho} {h h1 : Hs} {d v : D} {ds : List D} {fs : List (Str × D)} {n : Nat} {Q : D → Hs → Prop}
def makeK (nm : Str) (g : GC) (ds : List D) (h1 : Hs) : Option (D × Hs) := match g (.ref h1.length :: ds) (h1 ++ [.ins nm []]) with
  | some (.non, h2) => some (.ref h1.length, h2)
  | _ => none
theorem ev_make : eMake nm g m ρ h = bd (m ρ h) (makeK nm g) := rfl
theorem wp_make (w : WP (g (.ref h.length :: ds) (h ++ [.ins nm []])) fun v h2 => v = .non ∧ Q (.ref h.length) h2) : WP (makeK nm g ds h) Q := by
  obtain ⟨v, h2, e, rfl, q⟩ := w
  refine ⟨.ref h.length, h2, ?_, q⟩
  unfold makeK
  rw [e]
def fsK2 (nm f : Str) (v : D) (ρ : Rho) (d : D) (h2 : Hs) : Option ((Out × Rho) × Hs) := match fldSet nm f v d h2 with
  | some h3 => some ((.nx, ρ), h3)
  | none => none
def fsK1 (nm f : Str) (mo : ME) (ρ : Rho) (v : D) (h1 : Hs) : Option ((Out × Rho) × Hs) := bd (mo ρ h1) (fsK2 nm f v ρ)
theorem ev_fldSet : sFldSet nm f mo mv ρ h = bd (mv ρ h) (fsK1 nm f mo ρ) := rfl
theorem ev_fsK1 : fsK1 nm f mo ρ v h = bd (mo ρ h) (fsK2 nm f v ρ) := rfl
theorem ev_fsK2 (e : h[n]? = some (.ins nm fs)) (l : fs.length < 1000) : fsK2 nm f v ρ (.ref n) h = some ((.nx, ρ), h.set n (.ins nm (putFD f v fs))) := by
  have : fldSet nm f v (.ref n) h = some (h.set n (.ins nm (putFD f v fs))) := by
    show (match h[n]? with | some (.ins nm' fs) => _ | _ => none) = _
    rw [e]
    exact if_pos ⟨rfl, l⟩
  unfold fsK2
  rw [this]
theorem ev_fld (e : h[n]? = some (.ins nm fs)) (l : fs.lookup f = some d) : fldG nm f (.ref n) h = some (d, h) := by
  show (match h[n]? with | some (.ins nm' fs) => _ | _ => none) = _
  rw [e]
  show (if nm = nm then match fs.lookup f with | some d => some (d, h) | none => none else none) = _
  rw [if_pos rfl, l]
def omK2 (g : GC) (d : D) (ds : List D) (h : Hs) : Option (D × Hs) := g (d :: ds) h
def omK (nm x : Str) (g : GC) (m : MA) (ρ : Rho) (d : D) (h1 : Hs) : Option (D × Hs) := if recv nm x d h1 = true then bd (m ρ h1) (omK2 g d) else none
theorem ev_om : eOM nm x g mo m ρ h = bd (mo ρ h) (omK nm x g m ρ) := rfl
theorem ev_omK (e : recv nm x d h = true) : omK nm x g m ρ d h = bd (m ρ h) (omK2 g d) := if_pos e
theorem ev_omK2 : omK2 g d ds h = g (d :: ds) h := rfl
theorem recv_is (e : h[n]? = some (.ins nm fs)) (l : fs.lookup x = none) : recv nm x (.ref n) h = true := by
  unfold recv
  simp only [e, l]
  simp
/-! more -/
theorem ev_tupL (e : getL h n = some ds) : tupleG [.ref n] h = some (.tup ds, h) := by
  show (match getL h n with | some ds => some (D.tup ds, h) | none => none) = _
  rw [e]
theorem ev_listL (e : getL h n = some ds) : listG [.ref n] h = some (.ref h.length, h ++ [.lst ds]) := by
  show (match getL h n with | some ds => some (D.ref h.length, h ++ [AO.lst ds]) | none => none) = _
  rw [e]
theorem ev_mulL {j : Int} (e : h[n]? = some (.lst ds)) (l : ds.length * j.toNat < 4000) (l0 : -1000 ≤ j) (l1 : j < 4000) : mulG (.ref n) (.int j) h = some (.ref h.length, h ++ [.lst (List.replicate j.toNat ds).flatten]) := by
  show (match h[n]? with | some (.lst xs) => _ | _ => none) = _
  rw [e]
  exact if_pos ⟨Nat.le_of_lt (Nat.lt_of_lt_of_le l (Nat.le_of_ble_eq_true rfl)), by omega, by omega⟩
theorem Keep.new {P : Nat → Prop} {h h2 : Hs} {L : Nat} {o : AO} (a : Keep P h h2) (l : h.length ≤ L) : Keep P h (h2.set L o) := ⟨by simpa using a.1, fun k lk p => by
  rw [List.getElem?_set_ne (by omega)]; exact a.2 k lk p⟩
theorem ev_pop0 {j : Nat} {y : D} (e : h[n]? = some (.lst ds)) (a : ds[j]? = some y) (l : ds.length < 4000) : popG (.ref n) [.int (j : Int)] h = some (y, h.set n (.lst (ds.eraseIdx j))) := by
  have lj : j < ds.length := (List.getElem?_eq_some_iff.mp a).1
  show (match h[n]? with | some (.lst ds) => _ | _ => none) = _
  rw [e]
  show (if -(2 ^ 63) ≤ (j : Int) ∧ (j : Int) < 2 ^ 63 then match seqIndex? (j : Int) ds.length with | some k => (match ds[k]? with | some y => some (y, h.set n (.lst (ds.eraseIdx k))) | none => none) | none => none else none) = _
  have : seqIndex? (j : Int) ds.length = some j := by
    unfold seqIndex?
    have z : ¬ ((j : Int) < 0) := by omega
    simp only [if_neg z]
    rw [if_pos (by simp [lj]), Int.toNat_natCast]
  rw [if_pos ⟨by omega, by omega⟩, this]
  simp only [a]
theorem mapO_map {α β : Type} {f : D → Option β} {F : α → D} {G : α → β} : ∀ xs : List α, (∀ x ∈ xs, f (F x) = some (G x)) → mapO f (xs.map F) = some (xs.map G)
  | [], _ => rfl
  | x :: xs, h => by
    show (match f (F x), mapO f (xs.map F) with | some b, some bs => some (b :: bs) | _, _ => none) = _
    rw [h x List.mem_cons_self, mapO_map xs fun y hy => h y (List.mem_cons_of_mem _ hy)]
    rfl
theorem ne_nil {m : Nat} {ps : List PyData} (e1 : getL h n = some ds) (t : mapO (toP 31 h) ds = some ps) (e2 : getL h m = some []) : neG (.ref n) (.ref m) h = some (.bl (!ds.isEmpty), h) := by
  have t1 : toP 32 h (.ref n) = some (.list ps) := by unfold toP; rw [e1]; simp only [t]
  have t2 : toP 32 h (.ref m) = some (.list []) := by unfold toP; rw [e2]; rfl
  unfold neG eqB
  rw [t1, t2]
  have : ds.isEmpty = ps.isEmpty := by
    cases ds with
    | nil => cases t; rfl
    | cons d ds =>
      cases ps with
      | nil => unfold mapO at t; split at t <;> cases t
      | cons p ps => rfl
  rw [this]
  cases ps <;> rfl
end
/-! comprehensions that leave all as it was -/
theorem wp_lcmap {src : Src} {g : GG} {te : ME} {ρ : Rho} {ds : List D} {h0 : Hs} {Q : D → Hs → Prop} (F : D → D) (ln : ds.length < sizeLine) (hs : ∀ h, KA h0 h → ∀ i, src i h = some ds[i]?)
    (turn : ∀ d ∈ ds, ∀ h, KA h0 h → ∃ ρ1, g d ρ h = some (ρ1, h) ∧ WP (te ρ1 h) fun y h1 => y = F d ∧ KA h h1) (fin : ∀ h, KA h0 h → Q (.ref h.length) (h ++ [.lst (ds.map F)])) : WP (lcW src g tYes1 te ρ 0 [] h0) (Kn lstK Q) := by
  refine wp_lc ds.length ln (fun i acc h => acc = (ds.take i).map F ∧ KA h0 h) ⟨rfl, Keep.refl⟩ (fun i hi acc h _ p => ?_) (fun acc h _ p => ?_)
  · obtain ⟨rfl, k⟩ := p
    obtain ⟨ρ1, e1, w⟩ := turn ds[i] (List.getElem_mem hi) h k
    refine ⟨ds[i], ρ1, h, by rw [hs h k i, List.getElem?_eq_getElem hi], e1, true, h, rfl, ?_⟩
    refine wp_mono w fun y h1 ⟨ey, k1⟩ => ⟨?_, k.trans k1⟩
    rw [ey, List.take_add_one, List.getElem?_eq_getElem hi, List.map_append]
    rfl
  · obtain ⟨rfl, k⟩ := p
    refine ⟨by rw [hs h k, List.getElem?_eq_none (Nat.le_refl _)], ?_⟩
    rw [List.take_length]
    exact fin h k
theorem wp_lcmapT {α : Type} {src : Src} {g : GG} {te : ME} {ρ : Rho} {h0 : Hs} {Q : D → Hs → Prop} (xs : List α) (enc F : α → D) (ln : xs.length < sizeLine) (hs : ∀ h, KA h0 h → ∀ i, src i h = some (xs.map enc)[i]?)
    (turn : ∀ x ∈ xs, ∀ h, KA h0 h → ∃ ρ1, g (enc x) ρ h = some (ρ1, h) ∧ WP (te ρ1 h) fun y h1 => y = F x ∧ KA h h1) (fin : ∀ h, KA h0 h → Q (.ref h.length) (h ++ [.lst (xs.map F)])) : WP (lcW src g tYes1 te ρ 0 [] h0) (Kn lstK Q) := by
  refine wp_lc xs.length ln (fun i acc h => acc = (xs.take i).map F ∧ KA h0 h) ⟨rfl, Keep.refl⟩ (fun i hi acc h _ p => ?_) (fun acc h _ p => ?_)
  · obtain ⟨rfl, k⟩ := p
    obtain ⟨ρ1, e1, w⟩ := turn xs[i] (List.getElem_mem hi) h k
    refine ⟨enc xs[i], ρ1, h, by rw [hs h k i, List.getElem?_map, List.getElem?_eq_getElem hi]; rfl, e1, true, h, rfl, ?_⟩
    refine wp_mono w fun y h1 ⟨ey, k1⟩ => ⟨?_, k.trans k1⟩
    rw [ey, List.take_add_one, List.getElem?_eq_getElem hi, List.map_append]
    rfl
  · obtain ⟨rfl, k⟩ := p
    refine ⟨by rw [hs h k, List.getElem?_eq_none (by simp)], ?_⟩
    rw [List.take_length]
    exact fin h k
section
variable {m : ME} {l u : MO} {ρ : Rho} {h : Hs} {d a b c e : D} {lo hi : Option Int} {i : Int} {ds : List D}
def slK3 (d : D) (lo hi : Option Int) (h : Hs) : Option (D × Hs) := slG d lo hi h
def slK2 (d : D) (u : MO) (ρ : Rho) (lo : Option Int) (h : Hs) : Option (D × Hs) := bd (u ρ h) (slK3 d lo)
def slK1 (l u : MO) (ρ : Rho) (d : D) (h : Hs) : Option (D × Hs) := bd (l ρ h) (slK2 d u ρ)
theorem ev_sl : eSl m l u ρ h = bd (m ρ h) (slK1 l u ρ) := rfl
theorem ev_slK1 : slK1 l u ρ d h = bd (l ρ h) (slK2 d u ρ) := rfl
theorem ev_slK2 : slK2 d u ρ lo h = bd (u ρ h) (slK3 d lo) := rfl
theorem ev_slK3 : slK3 d lo hi h = slG d lo hi h := rfl
def oSomeK (d : D) (h : Hs) : Option (Option Int × Hs) := match d with
  | .int i => some (some i, h)
  | _ => none
theorem ev_oSome : oSome m ρ h = bd (m ρ h) oSomeK := by
  unfold oSome
  cases m ρ h with
  | none => rfl
  | some p => obtain ⟨d, h1⟩ := p; cases d <;> rfl
theorem ev_oSomeK : oSomeK (.int i) h = some (some i, h) := rfl
theorem ev_oNone : oNone ρ h = some (none, h) := rfl
theorem slT4 : slG (.tup [a, b, c, d]) (some 1) none h = some (.tup [b, c, d], h) := rfl
theorem slT3 : slG (.tup [a, b, c]) (some 1) none h = some (.tup [b, c], h) := rfl
theorem slL {n : Nat} (g : getL h n = some ds) : slG (.ref n) lo hi h = some (.ref h.length, h ++ [.lst (cutD ds lo hi)]) := by
  show (match getL h n with | some ds => some (D.ref h.length, h ++ [AO.lst (cutD ds lo hi)]) | none => none) = _
  rw [g]
theorem cut_tail {x : D} : cutD (x :: ds) (some 1) none = ds := by
  unfold cutD
  have e : HT.sIx (x :: ds).length 0 (some 1) = 1 := by
    have := HT.sIx_nat (x :: ds).length 0 1
    rw [List.length_cons] at this ⊢
    exact this.trans (by omega)
  have e2 : HT.sIx (x :: ds).length (x :: ds).length none = ds.length + 1 := rfl
  rw [e, e2]
  simp
theorem eq_tup0 {ps : List PyData} (t : mapO (toP 31 h) ds = some ps) : eqG (.tup ds) (.tup []) h = some (.bl ds.isEmpty, h) := by
  have t1 : toP 32 h (.tup ds) = some (.tuple ps) := by unfold toP; simp only [t]
  have t2 : toP 32 h (.tup []) = some (.tuple []) := rfl
  unfold eqG eqB
  rw [t1, t2]
  have : ds.isEmpty = ps.isEmpty := by
    cases ds with
    | nil => cases t; rfl
    | cons d ds =>
      cases ps with
      | nil => unfold mapO at t; split at t <;> cases t
      | cons p ps => rfl
  rw [this]
  cases ps <;> rfl
end
end SL
namespace SL
open RR PySem
/-! ### worlds on the heap -/
def arcD : D := .tup [.str "arc", .int 0, .int 0, .int 3, .int 4]
/-- the world at W tells things and walls -/
structure Wl (W : Nat) (ts ws : List D) (h : Hs) : Prop where
  ex : ∃ A B, h[W]? = some (.ins "World" [("told_things", .ref A), ("told_walls", .ref B)]) ∧ h[A]? = some (.lst ts) ∧ h[B]? = some (.lst ws) ∧ W ≤ A ∧ W ≤ B
theorem Wl.keep {W : Nat} {ts ws : List D} {h h' : Hs} (a : Wl W ts ws h) (k : KA h h') : Wl W ts ws h' := by
  obtain ⟨A, B, e1, e2, e3, l⟩ := a.ex
  exact ⟨A, B, k.get e1 trivial, k.get e2 trivial, k.get e3 trivial, l⟩
theorem Wl.keepR {W n r : Nat} {ts ws : List D} {h h' : Hs} (a : Wl W ts ws h) (k : Keep (NR n r) h h') (ln : n < W) (lr : r < W) : Wl W ts ws h' := by
  obtain ⟨A, B, e1, e2, e3, l1, l2⟩ := a.ex
  exact ⟨A, B, k.get e1 ⟨by omega, by omega⟩, k.get e2 ⟨by omega, by omega⟩, k.get e3 ⟨by omega, by omega⟩, l1, l2⟩
theorem Wl.lt {W : Nat} {ts ws : List D} {h : Hs} (a : Wl W ts ws h) : W < h.length := by
  obtain ⟨A, B, e1, _⟩ := a.ex
  exact get_lt e1
theorem KA.new {h h2 : Hs} {L : Nat} {o : AO} (a : KA h h2) (l : h.length ≤ L) : KA h (h2.set L o) := Keep.new a l
theorem ka_app {h G : Hs} : KA h (h ++ G) := Keep.app
theorem KA.nr {n r : Nat} {h h' : Hs} (k : KA h h') : Keep (NR n r) h h' := ka_nr k
/-- turns of a loop that leave the heap as it was -/
theorem rep_arc {j : Int} (h0 : 0 ≤ j) (h1 : j < 2) : ∃ nw : Nat, nw ≤ 1 ∧ (List.replicate j.toNat [arcD]).flatten = List.replicate nw arcD := by
  have : j = 0 ∨ j = 1 := by omega
  rcases this with rfl | rfl
  · exact ⟨0, by omega, rfl⟩
  · exact ⟨1, by omega, rfl⟩
theorem ev_addT {xs ys : List D} {h : Hs} (l : xs.length + ys.length ≤ sizeLine) : addG (.tup xs) (.tup ys) h = some (.tup (xs ++ ys), h) := if_pos l
/-- places gone on stay within bounds -/
theorem adv_bd {x u s t : Int} (hx : -(1000000 + 1000 * s) ≤ x ∧ x ≤ 1000000 + 1000 * s) (hu : -1000 ≤ u ∧ u ≤ 1000) (l : s ≤ t) : -(1000000 + 1000 * t) ≤ x + u * (t - s) ∧ x + u * (t - s) ≤ 1000000 + 1000 * t := by
  have a := Int.mul_le_mul_of_nonneg_right hu.2 (show 0 ≤ t - s by omega)
  have b := Int.mul_le_mul_of_nonneg_right hu.1 (show 0 ≤ t - s by omega)
  omega
theorem bd_of {x s : Int} {n : Nat} (hx : -(1000000 + 1000 * s) ≤ x ∧ x ≤ 1000000 + 1000 * s) (hs : 1000000 + 1000 * s < (2 ^ n : Nat)) : Bd n x := Bd.of_range (by omega) (by omega)
theorem Row.bd {r : Row} (h : RowOk r) : Bd 10 r.u ∧ Bd 10 r.v := ⟨Bd.of_range (by have := h.u; omega) (by have := h.u; omega), Bd.of_range (by have := h.v; omega) (by have := h.v; omega)⟩
theorem isi_lst {h : Hs} {n : Nat} {ds : List D} (e : h[n]? = some (.lst ds)) : isiG [.ref n, .ty "list"] h = some (.bl true, h) := by
  refine isi_ok (a := "list") ?_ rfl
  show (match h[n]? with | some (.lst _) => some "list" | some (.fz _) => some "list" | some (.dct _) => some "dict" | _ => none) = some "list"
  rw [e]
end SL
namespace SL
open RR PySem
/-! ### loops over what is told by a list -/
theorem wp_lcfilterT {α : Type} {src : Src} {g : GG} {tt : MT} {te : ME} {ρ : Rho} {h0 : Hs} {Q : D → Hs → Prop} (xs : List α) (enc F : α → D) (p : α → Bool) (ln : xs.length < sizeLine) (hs : ∀ h, KA h0 h → ∀ i, src i h = some (xs.map enc)[i]?)
    (turn : ∀ x ∈ xs, ∀ h, KA h0 h → ∃ ρ1, g (enc x) ρ h = some (ρ1, h) ∧ WP (tt ρ1 h) fun b h1 => b = p x ∧ KA h h1 ∧ (p x = true → WP (te ρ1 h1) fun y h2 => y = F x ∧ KA h1 h2))
    (fin : ∀ h, KA h0 h → Q (.ref h.length) (h ++ [.lst ((xs.filter p).map F)])) : WP (lcW src g tt te ρ 0 [] h0) (Kn lstK Q) := by
  refine wp_lc xs.length ln (fun i acc h => acc = ((xs.take i).filter p).map F ∧ KA h0 h) ⟨rfl, Keep.refl⟩ (fun i hi acc h _ q => ?_) (fun acc h _ q => ?_)
  · obtain ⟨rfl, k⟩ := q
    obtain ⟨ρ1, e1, w⟩ := turn xs[i] (List.getElem_mem hi) h k
    refine ⟨enc xs[i], ρ1, h, by rw [hs h k i, List.getElem?_map, List.getElem?_eq_getElem hi]; rfl, e1, ?_⟩
    refine wp_mono w fun b h1 ⟨eb, k1, w2⟩ => ?_
    have et : (xs.take (i + 1)).filter p = (xs.take i).filter p ++ if p xs[i] = true then [xs[i]] else [] := by
      rw [List.take_add_one, List.getElem?_eq_getElem hi, List.filter_append]
      cases z : p xs[i] <;> simp [z]
    cases z : p xs[i] with
    | false =>
      rw [z] at eb
      subst eb
      rw [lcT_f, et, z]
      exact ⟨by simp, k.trans k1⟩
    | true =>
      rw [z] at eb
      subst eb
      rw [lcT_t]
      refine wp_mono (w2 z) fun y h2 ⟨ey, k2⟩ => ⟨?_, (k.trans k1).trans k2⟩
      rw [ey, et, z]
      simp
  · obtain ⟨rfl, k⟩ := q
    refine ⟨by rw [hs h k, List.getElem?_eq_none (by simp)], ?_⟩
    rw [List.take_length]
    exact fin h k
theorem wp_frT {α : Type} {src : Src} {g : GG} {m : MS} {ρ : Rho} {h : Hs} {Q : Out × Rho → Hs → Prop} (xs : List α) (enc : α → D) (P : Nat → Rho → Hs → Prop) (hs : ∀ i ρ h, P i ρ h → src i h = some (xs.map enc)[i]?) (st : P 0 ρ h)
    (turn : ∀ i (hi : i < xs.length) ρ h, P i ρ h → ∃ ρ1, g (enc xs[i]) ρ h = some (ρ1, h) ∧ WP (m ρ1 h) (turnQ P Q i)) (fin : ∀ ρ h, P xs.length ρ h → Q (.nx, ρ) h) : WP (frW src g m 0 ρ h) Q :=
  wp_fr xs.length P st (fun i hi ρ h p => by
    obtain ⟨ρ1, e, w⟩ := turn i hi ρ h p
    exact ⟨enc xs[i], ρ1, h, by rw [hs i ρ h p, List.getElem?_map, List.getElem?_eq_getElem hi]; rfl, e, w⟩) fun ρ h p => ⟨by rw [hs _ ρ h p, List.getElem?_eq_none (by simp)], fin ρ h p⟩
theorem wayF_len : ∀ {rs : List Row} {x y s u v : Int}, (wayF x y s u v rs).length ≤ rs.length + 1
  | [], _, _, _, _, _ => Nat.le_refl _
  | r :: rs, x, y, s, u, v => by
    unfold wayF
    rw [List.length_append, List.length_cons]
    have := wayF_len (rs := rs) (x := x + u * (r.t - s)) (y := y + v * (r.t - s)) (s := r.t) (u := r.u) (v := r.v)
    split <;> simp <;> omega
theorem wayT_len {a : Th} (h : ThOk a) : (wayT a).length ≤ 13 := Nat.le_trans wayF_len (by have := h.few; omega)
theorem ev_last {h : Hs} {n : Nat} {ds : List D} {d : D} (e : getL h n = some (ds ++ [d])) : subG' (.ref n) (.int (-1)) h = some (d, h) := by
  exact ev_idx e (L2.atI_last ds d)
theorem ev_get3 {a b c d : D} {ds : List D} {h : Hs} : subG' (.tup (a :: b :: c :: d :: ds)) (.int 3) h = some (d, h) := ev_opTup (L2.atI_nat (j := 3) rfl)
theorem ev_get4 {a b c d e : D} {ds : List D} {h : Hs} : subG' (.tup (a :: b :: c :: d :: e :: ds)) (.int 4) h = some (e, h) := ev_opTup (L2.atI_nat (j := 4) rfl)
theorem th_rows {a : Th} {h : Hs} : subG' a.D (.int 3) h = some (.tup (a.rs.map Row.D), h) := ev_get3
theorem th_nm {a : Th} {h : Hs} : subG' a.D (.int 0) h = some (.str a.nm, h) := ev_get0
theorem getLast_snoc {α : Type} {l : List α} (h : l ≠ []) : l.dropLast ++ [l.getLast h] = l := List.dropLast_concat_getLast h
theorem ev_sset {h : Hs} {n : Nat} {ns : List Int} (e : getL h n = some (ns.map D.int)) (l : ns.length < 4000) : ssetG (.ref n) h = some (.ref h.length, h ++ [.lst ((ssI ns).map D.int)]) := by
  show (match getL h n with | some ds => _ | none => none) = _
  rw [e]
  simp only [intsD_map]
  exact if_pos l
theorem srcZ_get {h : Hs} {n m : Nat} {ds es : List D} (e1 : getL h n = some ds) (e2 : getL h m = some es) (i : Nat) : srcZ n m i h = some ((ds.zip es).map fun p => D.tup [p.1, p.2])[i]? := by
  unfold srcZ
  rw [e1, e2]
  simp only [List.getElem?_map]
  congr 1
  rcases Nat.lt_or_ge i ds.length with l1 | l1
  · rcases Nat.lt_or_ge i es.length with l2 | l2
    · have l3 : i < (ds.zip es).length := by rw [List.length_zip]; omega
      rw [List.getElem?_eq_getElem l1, List.getElem?_eq_getElem l2, List.getElem?_eq_getElem l3, List.getElem_zip]
      rfl
    · have l3 : (ds.zip es).length ≤ i := by rw [List.length_zip]; omega
      rw [List.getElem?_eq_getElem l1, List.getElem?_eq_none l2, List.getElem?_eq_none l3]
      rfl
  · have l3 : (ds.zip es).length ≤ i := by rw [List.length_zip]; omega
    rw [List.getElem?_eq_none l1, List.getElem?_eq_none l3]
    rfl
theorem ev_zipLL {h : Hs} {n m : Nat} {ds es : List D} (e1 : getL h n = some ds) (e2 : getL h m = some es) : zipK [.ref n, .ref m] h = some (srcZ n m, h) := by
  show (match getL h n, getL h m with | some _, some _ => some (srcZ n m, h) | _, _ => none) = _
  rw [e1, e2]
theorem zipU_mem : ∀ {l : List Int} {p : Int × Option Int}, p ∈ zipU l → p.1 ∈ l
  | [], p, h => nomatch h
  | [a], p, h => by rw [show zipU [a] = [(a, none)] from rfl] at h; rw [List.mem_singleton.mp h]; exact List.mem_cons_self
  | a :: b :: l, p, h => by
    rw [zipU_cons a rfl] at h
    rcases List.mem_cons.mp h with h | h
    · rw [h]; exact List.mem_cons_self
    · exact List.mem_cons_of_mem _ (zipU_mem h)
theorem zipU_len : ∀ l : List Int, (zipU l).length = l.length
  | [] => rfl
  | [a] => rfl
  | a :: b :: l => by rw [zipU_cons a rfl, List.length_cons, zipU_len (b :: l), List.length_cons (a := a)]
theorem cut_1 {ds : List D} : cutD ds (some 1) none = ds.drop 1 := by
  cases ds with
  | nil => rfl
  | cons d ds => exact cut_tail
theorem begT_lt {rs : List Row} (h : Rising 0 rs) (ok : ∀ r ∈ rs, RowOk r) : ∀ b ∈ begT rs, b < 2 ^ 30 := fun b hb => by
  rw [← beg_ssI h, ssI_mem] at hb
  rcases List.mem_cons.mp hb with rfl | hb
  · decide
  · obtain ⟨q, hq, rfl⟩ := List.mem_map.mp hb
    exact (ok q hq).t
theorem begT_len {rs : List Row} : (begT rs).length ≤ rs.length + 1 := by
  unfold begT
  cases rs with
  | nil => simp
  | cons r rs => simp only; split <;> simp
theorem zipU_zip : ∀ bs : List Int, (bs.map D.int).zip ((bs.drop 1).map D.int ++ [D.non]) = (zipU bs).map fun p => (D.int p.1, oD p.2)
  | [] => rfl
  | [a] => rfl
  | a :: b :: r => by
    have ih := zipU_zip (b :: r)
    rw [zipU_cons a rfl, List.map_cons (l := zipU (b :: r)), ← ih]
    rfl
/-- a list, each with the next one -/
theorem zip_src {h : Hs} {n m : Nat} {bs : List Int} (e1 : getL h n = some (bs.map D.int)) (e2 : getL h m = some ((bs.drop 1).map D.int ++ [D.non])) (i : Nat) : srcZ n m i h = some ((zipU bs).map fun p => D.tup [.int p.1, oD p.2])[i]? := by
  rw [srcZ_get e1 e2, zipU_zip, List.map_map]
  rfl
/-- the times of rows -/
def tms (ths : List Th) : List Int := (ths.map fun a => a.rs.map (·.t)).flatten
theorem tms_len {ths : List Th} (ok : ∀ a ∈ ths, ThOk a) : (tms ths).length ≤ 12 * ths.length := by
  unfold tms
  induction ths with
  | nil => simp
  | cons a ths ih =>
    rw [List.map_cons, List.flatten_cons, List.length_append, List.length_map, List.length_cons]
    have := ih fun b hb => ok b (List.mem_cons_of_mem _ hb)
    have := (ok a List.mem_cons_self).few
    omega
end SL
namespace SL
open RR PySem
/-! ### what repr tells is no longer than .. -/
structure RpOk (n : Nat) (p : PyData) : Prop where
  sh : p.showable = true
  nd : p.hasDict = false
  le : p.shown.length ≤ n
structure RpsOk (n : Nat) (ps : List PyData) : Prop where
  sh : PyData.showableAll ps = true
  nd : PyData.hasDictAll ps = false
  le : PySem.piled (PyData.shownAll ps) ≤ n
theorem RpOk.mono {n m : Nat} {p : PyData} (h : RpOk n p) (l : n ≤ m) : RpOk m p := ⟨h.sh, h.nd, Nat.le_trans h.le l⟩
theorem RpsOk.mono {n m : Nat} {p : List PyData} (h : RpsOk n p) (l : n ≤ m) : RpsOk m p := ⟨h.sh, h.nd, Nat.le_trans h.le l⟩
theorem RpOk.int {i : Int} {k : Nat} (b : Bd k i) (hk : k ≤ 1900) : RpOk (k + 2) (.int i) := by
  have l : i.natAbs.log2 < 1920 := by
    by_cases z : i = 0
    · subst z; decide
    · have := b.log2 z; omega
  have l2 : i.natAbs.log2 < k + 1 := by
    by_cases z : i = 0
    · subst z
      show Nat.log2 0 < k + 1
      rw [show Nat.log2 0 = 0 by decide]
      omega
    · have := b.log2 z; omega
  refine ⟨by unfold PyData.showable; exact decide_eq_true l, rfl, ?_⟩
  show (PySem.Str.ofString (toString i)).length ≤ k + 2
  rw [PySem.ofString_length]
  exact PySem.int_text_length_le (k := k + 1) (by omega) l2
theorem RpOk.non : RpOk 4 .none := ⟨rfl, rfl, by decide⟩
theorem RpOk.bool {b : Bool} : RpOk 5 (.bool b) := ⟨rfl, rfl, by cases b <;> decide⟩
theorem RpOk.str {x : Str} {n : Nat} (h : (reprText x).length ≤ n) : RpOk n (.str x) := ⟨rfl, rfl, h⟩
theorem RpsOk.nil : RpsOk 0 [] := ⟨rfl, rfl, Nat.le_refl _⟩
theorem RpsOk.cons {n m : Nat} {p : PyData} {ps : List PyData} (a : RpOk n p) (b : RpsOk m ps) : RpsOk (n + m + 2) (p :: ps) := by
  refine ⟨?_, ?_, ?_⟩
  · unfold PyData.showableAll; rw [a.sh, b.sh]; rfl
  · unfold PyData.hasDictAll; rw [a.nd, b.nd]; rfl
  · unfold PyData.shownAll
    rw [PySem.piled_cons]
    have := a.le
    have := b.le
    omega
theorem RpsOk.all {k : Nat} : ∀ {ps : List PyData}, (∀ p ∈ ps, RpOk k p) → RpsOk (ps.length * (k + 2)) ps
  | [], _ => by simpa using RpsOk.nil
  | p :: ps, h => by
    have := RpsOk.cons (h p List.mem_cons_self) (RpsOk.all fun q hq => h q (List.mem_cons_of_mem _ hq))
    refine this.mono ?_
    rw [List.length_cons, Nat.succ_mul]
    omega
theorem RpsOk.map {α : Type} {k m : Nat} {f : α → PyData} {xs : List α} (h : ∀ x ∈ xs, RpOk k (f x)) (l : xs.length ≤ m) : RpsOk (m * (k + 2)) (xs.map f) := by
  have := RpsOk.all (ps := xs.map f) (k := k) fun p hp => by
    obtain ⟨x, hx, rfl⟩ := List.mem_map.mp hp
    exact h x hx
  refine this.mono ?_
  rw [List.length_map]
  exact Nat.mul_le_mul_right _ l
theorem RpOk.list {n : Nat} {ps : List PyData} (a : RpsOk n ps) : RpOk (n + 2) (.list ps) := by
  refine ⟨by unfold PyData.showable; exact a.sh, by unfold PyData.hasDict; exact a.nd, ?_⟩
  unfold PyData.shown
  have key : (listText (PyData.shownAll ps)).length ≤ piled (PyData.shownAll ps) + 2 := by
    unfold listText
    rw [strLen_append]
    cases PyData.shownAll ps with
    | nil => exact Nat.le_refl _
    | cons t ts =>
      show (textFrom 1 (_ ++ _ ++ t) ts).length + 1 ≤ _
      rw [textFrom_length_pos _ _ _ (by decide), strLen_append, strLen_append, piled_cons]
      have e1 : ("[" : Str).length = 1 := rfl
      have e2 : ((if 0 > 0 then ", " else "" : String) : Str).length = 0 := rfl
      rw [e1, e2]
      omega
  have := a.le
  omega
theorem RpOk.tup {n : Nat} {ps : List PyData} (a : RpsOk n ps) : RpOk (n + 5) (.tuple ps) := by
  refine ⟨by unfold PyData.showable; exact a.sh, by unfold PyData.hasDict; exact a.nd, ?_⟩
  unfold PyData.shown
  have key : (tupleText (PyData.shownAll ps)).length ≤ piled (PyData.shownAll ps) + 5 := by
    unfold tupleText
    rw [strLen_append, strLen_append]
    have e1 : (("(" : String) : Str).length = 1 := rfl
    have e3 : (((if (PyData.shownAll ps).length == 1 then ",)" else ")" : String) : Str)).length ≤ 2 := by split <;> decide
    rw [e1]
    by_cases h : PyData.shownAll ps = []
    · rw [h]; decide
    · have := join_length_add _ h
      omega
  have := a.le
  omega
theorem reprG_ref {h : Hs} {n k : Nat} {p : PyData} (e : toP 32 h (.ref n) = some p) (a : RpOk k p) (l : k ≤ 16000000) : reprG [.ref n] h = some (.str p.shown, h) := by
  show (match toP 32 h (.ref n) with | some p => if p.showable = true ∧ p.hasDict = false ∧ p.shown.length ≤ PySem.sizeLine then some (D.str p.shown, h) else none | none => none) = _
  rw [e]
  exact if_pos ⟨a.sh, a.nd, Nat.le_trans a.le (Nat.le_trans l (Nat.le_of_ble_eq_true rfl))⟩
theorem reprG_tup {h : Hs} {ds : List D} {k : Nat} {p : PyData} (e : toP 32 h (.tup ds) = some p) (a : RpOk k p) (l : k ≤ 16000000) : reprG [.tup ds] h = some (.str p.shown, h) := by
  show (match toP 32 h (.tup ds) with | some p => if p.showable = true ∧ p.hasDict = false ∧ p.shown.length ≤ PySem.sizeLine then some (D.str p.shown, h) else none | none => none) = _
  rw [e]
  exact if_pos ⟨a.sh, a.nd, Nat.le_trans a.le (Nat.le_trans l (Nat.le_of_ble_eq_true rfl))⟩
/-! things, pieces of ways -/
theorem names_rp : ∀ nm ∈ names12, (reprText nm).length ≤ 20 := by decide +kernel
theorem Row.rp {r : Row} (h : RowOk r) (t0 : 0 ≤ r.t) : RpOk 100 r.P := by
  have tb := h.t
  obtain ⟨bu, bv⟩ := Row.bd h
  exact (RpOk.tup (.cons (.int (k := 40) (Bd.of_range (by omega) (by omega)) (by decide)) (.cons (.int bu (by decide)) (.cons (.int bv (by decide)) .nil)))).mono (by decide)
theorem Th.rp {a : Th} (h : ThOk a) : RpOk 1400 a.P := by
  have hx := h.x
  have hy := h.y
  exact (RpOk.tup (.cons (.str (names_rp _ h.nm)) (.cons (.int (k := 40) (Bd.of_range (by omega) (by omega)) (by decide)) (.cons (.int (k := 40) (Bd.of_range (by omega) (by omega)) (by decide)) (.cons (RpOk.tup (RpsOk.map (f := Row.P) (fun r hr => Row.rp (h.ok r hr) (h.up.ge r hr)) h.few)) .nil))))).mono (by decide)
structure PcOk (p : Pc) : Prop where
  a : 0 ≤ p.a ∧ p.a < 2 ^ 31
  b : ∀ e, p.b = some e → 0 ≤ e ∧ e < 2 ^ 31
  x : Bd 45 p.x
  y : Bd 45 p.y
  u : -1000 ≤ p.u ∧ p.u ≤ 1000
  v : -1000 ≤ p.v ∧ p.v ≤ 1000
theorem line_bd {x u s : Int} (s0 : 0 ≤ s) (s1 : s ≤ 2 ^ 30) (bx : -(1000000 + 1000 * s) ≤ x ∧ x ≤ 1000000 + 1000 * s) (bu : -1000 ≤ u ∧ u ≤ 1000) : Bd 45 (x - u * s) := by
  have a := Int.mul_le_mul_of_nonneg_right bu.2 s0
  have b := Int.mul_le_mul_of_nonneg_right bu.1 s0
  exact Bd.of_range (by omega) (by omega)
theorem wayF_ok : ∀ {rs : List Row} {x y s u v : Int}, (∀ r ∈ rs, RowOk r) → Rising s rs → 0 ≤ s → s ≤ 2 ^ 30 → (-(1000000 + 1000 * s) ≤ x ∧ x ≤ 1000000 + 1000 * s) → (-(1000000 + 1000 * s) ≤ y ∧ y ≤ 1000000 + 1000 * s) → (-1000 ≤ u ∧ u ≤ 1000) → (-1000 ≤ v ∧ v ≤ 1000) → ∀ p ∈ wayF x y s u v rs, PcOk p
  | [], x, y, s, u, v, _, _, s0, s1, bx, by', bu, bv, p, hp => by
    rw [List.mem_singleton.mp hp]
    exact ⟨⟨s0, by show s < 2 ^ 31; omega⟩, (fun e z => nomatch z), line_bd s0 s1 bx bu, line_bd s0 s1 by' bv, bu, bv⟩
  | r :: rs, x, y, s, u, v, ok, up, s0, s1, bx, by', bu, bv, p, hp => by
    have okr := ok r List.mem_cons_self
    have tb := okr.t
    obtain ⟨r1, r2⟩ := up
    unfold wayF at hp
    rcases List.mem_append.mp hp with hp | hp
    · split at hp
      · rw [List.mem_singleton.mp hp]
        exact ⟨⟨s0, by show s < 2 ^ 31; omega⟩, (fun e z => by cases z; exact ⟨by omega, by omega⟩), line_bd s0 s1 bx bu, line_bd s0 s1 by' bv, bu, bv⟩
      · cases hp
    · exact wayF_ok (fun q hq => ok q (List.mem_cons_of_mem _ hq)) (r2.mono (by omega)) (by omega) (by omega) (adv_bd bx bu r1) (adv_bd by' bv r1) okr.u okr.v p hp
theorem wayT_ok {a : Th} (h : ThOk a) : ∀ p ∈ wayT a, PcOk p := by
  have hx := h.x
  have hy := h.y
  exact wayF_ok h.ok h.up (Int.le_refl _) (by decide) (by omega) (by omega) (by decide) (by decide)
def oP : Option Int → PyData
  | none => .none
  | some i => .int i
def lnP (x u : Int) : PyData := .tuple [.int x, .int u, .int 0]
def Pc.P4 (p : Pc) : PyData := .tuple [.int p.a, oP p.b, lnP p.x p.u, lnP p.y p.v]
theorem Pc.toP4 (p : Pc) (h : Hs) : toP 31 h p.D4 = some p.P4 := by
  obtain ⟨a, b, x, u, y, v⟩ := p
  cases b <;> rfl
theorem lnP_rp {x u : Int} (bx : Bd 45 x) (bu : -1000 ≤ u ∧ u ≤ 1000) : RpOk 150 (lnP x u) :=
  (RpOk.tup (.cons (.int bx (by decide)) (.cons (.int (k := 20) (Bd.of_range (by omega) (by omega)) (by decide)) (.cons (.int (k := 20) (i := 0) (Bd.lit 20 rfl) (by decide)) .nil)))).mono (by decide)
theorem oP_rp {b : Option Int} (h : ∀ e, b = some e → 0 ≤ e ∧ e < 2 ^ 31) : RpOk 40 (oP b) := by
  cases b with
  | none => exact RpOk.non.mono (by decide)
  | some e =>
    have := h e rfl
    exact RpOk.mono (.int (k := 32) (Bd.of_range (by omega) (by omega)) (by decide)) (by decide)
theorem Pc.rp4 {p : Pc} (h : PcOk p) : RpOk 500 p.P4 := by
  have ha := h.a
  exact (RpOk.tup (.cons (.int (k := 32) (Bd.of_range (by omega) (by omega)) (by decide)) (.cons (oP_rp h.b) (.cons (lnP_rp h.x h.u) (.cons (lnP_rp h.y h.v) .nil))))).mono (by decide)
theorem repr_pcs {h : Hs} {n : Nat} {ps : List Pc} (e : getL h n = some (ps.map Pc.D4)) (ok : ∀ p ∈ ps, PcOk p) (l : ps.length ≤ 100) : reprG [.ref n] h = some (.str (PyData.list (ps.map Pc.P4)).shown, h) := by
  refine reprG_ref (k := 50202) ?_ (RpOk.list (RpsOk.map (f := Pc.P4) (fun p hp => Pc.rp4 (ok p hp)) l)) (by decide)
  show (match getL h n with | some ds => (match mapO (toP 31 h) ds with | some ps => some (PySem.PyData.list ps) | none => none) | none => none) = _
  rw [e]
  simp only [mapO_map (f := toP 31 h) (F := Pc.D4) (G := Pc.P4) ps fun p _ => Pc.toP4 p h]
/-! the told world -/
theorem repr_told {h : Hs} {A B nw : Nat} {ths : List Th} (e1 : getL h A = some (ths.map Th.D)) (e2 : getL h B = some (List.replicate nw arcD)) (ok : ∀ a ∈ ths, ThOk a) (l : ths.length ≤ 12) (lw : nw ≤ 1) :
    reprG [.tup [.ref A, .ref B]] h = some (.str (PyData.tuple [.list (ths.map Th.P), .list (List.replicate nw (.tuple [.str "arc", .int 0, .int 0, .int 3, .int 4]))]).shown, h) := by
  have w2 : RpsOk 400 (List.replicate nw (PyData.tuple [.str "arc", .int 0, .int 0, .int 3, .int 4])) := by
    have := RpsOk.all (k := 300) (ps := List.replicate nw (PyData.tuple [.str "arc", .int 0, .int 0, .int 3, .int 4])) fun p hp => by
      rw [(List.mem_replicate.mp hp).2]
      exact (RpOk.tup (.cons (.str (n := 20) (by decide +kernel)) (.cons (.int (k := 20) (i := 0) (Bd.lit 20 rfl) (by decide)) (.cons (.int (k := 20) (i := 0) (Bd.lit 20 rfl) (by decide)) (.cons (.int (k := 20) (i := 3) (Bd.lit 20 rfl) (by decide)) (.cons (.int (k := 20) (i := 4) (Bd.lit 20 rfl) (by decide)) .nil)))))).mono (by decide)
    refine this.mono ?_
    rw [List.length_replicate]
    omega
  refine reprG_tup (k := 18000) ?_ ((RpOk.tup (.cons (RpOk.list (RpsOk.map (f := Th.P) (fun a ha => Th.rp (ok a ha)) l)) (.cons (RpOk.list w2) .nil))).mono (by decide)) (by decide)
  have t1 : toP 31 h (.ref A) = some (.list (ths.map Th.P)) := by
    show (match getL h A with | some ds => (match mapO (toP 30 h) ds with | some ps => some (PySem.PyData.list ps) | none => none) | none => none) = _
    rw [e1]
    simp only [mapO_map (f := toP 30 h) (F := Th.D) (G := Th.P) ths fun a _ => by
      have e : toP 29 h (rowsD a.rs) = some (.tuple (a.rs.map Row.P)) := by
        show (match mapO (toP 28 h) (a.rs.map Row.D) with | some ps => some (PySem.PyData.tuple ps) | none => none) = _
        rw [mapO_map (G := Row.P) a.rs fun r _ => rfl]
      show (match mapO (toP 29 h) [D.str a.nm, D.int a.x, D.int a.y, rowsD a.rs] with | some ps => some (PySem.PyData.tuple ps) | none => none) = _
      simp only [mapO, e, show toP 29 h (D.str a.nm) = some (.str a.nm) from rfl, show toP 29 h (D.int a.x) = some (.int a.x) from rfl, show toP 29 h (D.int a.y) = some (.int a.y) from rfl]
      rfl]
  have t2 : toP 31 h (.ref B) = some (.list (List.replicate nw (.tuple [.str "arc", .int 0, .int 0, .int 3, .int 4]))) := by
    show (match getL h B with | some ds => (match mapO (toP 30 h) ds with | some ps => some (PySem.PyData.list ps) | none => none) | none => none) = _
    rw [e2]
    have : ∀ n, mapO (toP 30 h) (List.replicate n arcD) = some (List.replicate n (.tuple [.str "arc", .int 0, .int 0, .int 3, .int 4])) := fun n => by
      induction n with
      | zero => rfl
      | succ n ih =>
        rw [List.replicate_succ, List.replicate_succ]
        unfold mapO
        rw [ih]
        rfl
    simp only [this]
  show (match mapO (toP 31 h) [D.ref A, D.ref B] with | some ps => some (PySem.PyData.tuple ps) | none => none) = _
  simp only [mapO, t1, t2]
/-! ### data without lists -/
mutual
def pd : D → PyData
  | .non => .none
  | .bl b => .bool b
  | .int i => .int i
  | .str s => .str s
  | .ty _ => .none
  | .tup ds => .tuple (pds ds)
  | .ref _ => .none
def pds : List D → List PyData
  | [] => []
  | d :: ds => pd d :: pds ds
end
mutual
/-- no list within, and no deeper than so -/
def dep : Nat → D → Bool
  | _, .non => true
  | _, .bl _ => true
  | _, .int _ => true
  | _, .str _ => true
  | _, .ty _ => false
  | 0, .tup _ => false
  | n + 1, .tup ds => deps n ds
  | _, .ref _ => false
def deps : Nat → List D → Bool
  | _, [] => true
  | n, d :: ds => dep n d && deps n ds
end
mutual
theorem toP_pd (h : Hs) : ∀ (d : D) (n : Nat), dep n d = true → toP n h d = some (pd d)
  | .non, n, _ => by cases n <;> rfl
  | .bl _, n, _ => by cases n <;> rfl
  | .int _, n, _ => by cases n <;> rfl
  | .str _, n, _ => by cases n <;> rfl
  | .ty _, n, e => by cases n <;> cases e
  | .tup ds, 0, e => by cases e
  | .tup ds, n + 1, e => by
    show (match mapO (toP n h) ds with | some ps => some (PyData.tuple ps) | none => none) = _
    rw [mapO_pds h ds n e]
    rfl
  | .ref _, n, e => by cases n <;> cases e
theorem mapO_pds (h : Hs) : ∀ (ds : List D) (n : Nat), deps n ds = true → mapO (toP n h) ds = some (pds ds)
  | [], n, _ => rfl
  | d :: ds, n, e => by
    unfold deps at e
    rw [Bool.and_eq_true] at e
    unfold mapO
    rw [toP_pd h d n e.1, mapO_pds h ds n e.2]
    rfl
end
mutual
theorem dep_mono : ∀ (d : D) (n m : Nat), dep n d = true → n ≤ m → dep m d = true
  | .non, _, m, _, _ => by cases m <;> rfl
  | .bl _, _, m, _, _ => by cases m <;> rfl
  | .int _, _, m, _, _ => by cases m <;> rfl
  | .str _, _, m, _, _ => by cases m <;> rfl
  | .ty _, n, _, e, _ => by cases n <;> cases e
  | .tup ds, 0, _, e, _ => by cases e
  | .tup ds, n + 1, 0, _, l => absurd l (by omega)
  | .tup ds, n + 1, m + 1, e, l => deps_mono ds n m e (by omega)
  | .ref _, n, _, e, _ => by cases n <;> cases e
theorem deps_mono : ∀ (ds : List D) (n m : Nat), deps n ds = true → n ≤ m → deps m ds = true
  | [], _, m, _, _ => by cases m <;> rfl
  | d :: ds, n, m, e, l => by
    unfold deps at e ⊢
    rw [Bool.and_eq_true] at e ⊢
    exact ⟨dep_mono d n m e.1 l, deps_mono ds n m e.2 l⟩
end
theorem deps_map {α : Type} {n : Nat} {f : α → D} : ∀ {xs : List α}, (∀ x ∈ xs, dep n (f x) = true) → deps n (xs.map f) = true
  | [], _ => by cases n <;> rfl
  | x :: xs, h => by
    rw [List.map_cons]
    unfold deps
    rw [h x List.mem_cons_self, deps_map fun y hy => h y (List.mem_cons_of_mem _ hy)]
    rfl
theorem pds_map {α : Type} {f : α → D} : ∀ xs : List α, pds (xs.map f) = xs.map fun x => pd (f x)
  | [] => rfl
  | x :: xs => by
    rw [List.map_cons, List.map_cons, ← pds_map xs]
    rfl
mutual
theorem eqv_pd : ∀ d : D, PyData.eqv (pd d) (pd d) = true
  | .non => rfl
  | .bl b => by cases b <;> rfl
  | .int i => by show (i == i) = true; simp
  | .str s => by show (s == s) = true; simp
  | .ty _ => rfl
  | .tup ds => eqv_pds ds
  | .ref _ => rfl
theorem eqv_pds : ∀ ds : List D, PyData.eqvAll (pds ds) (pds ds) = true
  | [] => rfl
  | d :: ds => by
    show (PyData.eqv (pd d) (pd d) && PyData.eqvAll (pds ds) (pds ds)) = true
    rw [eqv_pd d, eqv_pds ds]
    rfl
end
theorem repr_list {h : Hs} {n k : Nat} {ds : List D} (e : getL h n = some ds) (dp : deps 31 ds = true) (r : RpsOk k (pds ds)) (l : k ≤ 15000000) : reprG [.ref n] h = some (.str (PyData.list (pds ds)).shown, h) := by
  refine reprG_ref (k := k + 2) ?_ (RpOk.list r) (by omega)
  show (match getL h n with | some ds => (match mapO (toP 31 h) ds with | some ps => some (PySem.PyData.list ps) | none => none) | none => none) = _
  rw [e]
  simp only [mapO_pds h ds 31 dp]
theorem repr_tupD {h : Hs} {k : Nat} {ds : List D} (dp : deps 31 ds = true) (r : RpsOk k (pds ds)) (l : k ≤ 15000000) : reprG [.tup ds] h = some (.str (PyData.tuple (pds ds)).shown, h) := by
  refine reprG_tup (k := k + 5) (toP_pd h (.tup ds) 32 dp) (RpOk.tup r) (by omega)
/-! equal lists -/
theorem eqB_list {h : Hs} {n m : Nat} {ds : List D} (e1 : getL h n = some ds) (e2 : getL h m = some ds) (dp : deps 31 ds = true) : eqB h (.ref n) (.ref m) = some true := by
  have t : ∀ j, getL h j = some ds → toP 32 h (.ref j) = some (.list (pds ds)) := fun j e => by
    show (match getL h j with | some ds => (match mapO (toP 31 h) ds with | some ps => some (PySem.PyData.list ps) | none => none) | none => none) = _
    rw [e]
    simp only [mapO_pds h ds 31 dp]
  unfold eqB
  rw [t n e1, t m e2]
  exact congrArg some (eqv_pds ds)
theorem eq_list {h : Hs} {n m : Nat} {ds : List D} (e1 : getL h n = some ds) (e2 : getL h m = some ds) (dp : deps 31 ds = true) : eqG (.ref n) (.ref m) h = some (.bl true, h) := by
  unfold eqG
  rw [eqB_list e1 e2 dp]
theorem ne_list {h : Hs} {n m : Nat} {ds : List D} (e1 : getL h n = some ds) (e2 : getL h m = some ds) (dp : deps 31 ds = true) : neG (.ref n) (.ref m) h = some (.bl false, h) := by
  unfold neG
  rw [eqB_list e1 e2 dp]
  rfl
theorem eq_nilL {h : Hs} {n m : Nat} {ds : List D} (e1 : getL h n = some ds) (e2 : getL h m = some []) (dp : deps 31 ds = true) : eqG (.ref n) (.ref m) h = some (.bl ds.isEmpty, h) := by
  have t1 : toP 32 h (.ref n) = some (.list (pds ds)) := by
    show (match getL h n with | some ds => (match mapO (toP 31 h) ds with | some ps => some (PySem.PyData.list ps) | none => none) | none => none) = _
    rw [e1]
    simp only [mapO_pds h ds 31 dp]
  have t2 : toP 32 h (.ref m) = some (.list []) := by unfold toP; rw [e2]; rfl
  unfold eqG eqB
  rw [t1, t2]
  cases ds <;> rfl
theorem eq_tupD {h : Hs} {a : D} (dp : dep 32 a = true) (t : ∃ ds, a = .tup ds) : eqG a a h = some (.bl true, h) := by
  obtain ⟨ds, rfl⟩ := t
  have : eqB h (.tup ds) (.tup ds) = some true := by
    unfold eqB
    rw [toP_pd h _ 32 dp]
    exact congrArg some (eqv_pd (.tup ds))
  unfold eqG
  rw [this]
theorem memB_pd {h : Hs} {a : D} {ds : List D} (da : dep 32 a = true) (dp : deps 32 ds = true) : memB h a ds = some ((pds ds).any fun y => PyData.eqv y (pd a)) := by
  unfold memB
  rw [toP_pd h a 32 da, mapO_pds h ds 32 dp]
end SL
namespace K22
open SL RR
local macro_rules | `(tactic| walk_at "bd") => `(tactic| (first
  | assumption
  | (with_reducible apply Bd.add <;> walk_at "bd")
  | (with_reducible apply Bd.sub <;> walk_at "bd")
  | (with_reducible apply Bd.mul <;> walk_at "bd")
  | (with_reducible apply Bd.neg <;> walk_at "bd")
  | (with_reducible apply Bd.fdiv <;> walk_at "bd")
  | (with_reducible apply Bd.ite <;> walk_at "bd")
  | (with_reducible apply Bd.sign)
  | exact Bd.lit 64 rfl
  | exact Bd.lit 250 rfl))
local macro_rules | `(tactic| walk_at "dis") => `(tactic| (first
  | assumption
  | (with_reducible apply MOk.of <;> first | (walk_at "bd"; done) | exact Nat.le_of_ble_eq_true rfl)
  | (with_reducible apply Bd.mono <;> first | (walk_at "bd"; done) | exact Nat.le_of_ble_eq_true rfl)
  | (with_reducible apply DOk.of <;> first | (walk_at "bd"; done) | omega | exact Nat.le_of_ble_eq_true rfl)
  | omega))
local macro_rules | `(tactic| walk_at "ev") => `(tactic| simp (disch := walk_at "dis") only [ev_var0, ev_varS, ev_c, ev_op, ev_opK, ev_un, ev_call, ev_nil, ev_cons, ev_acK, ev_consK, ev_tup, ev_tupK, ev_lst, ev_lstK, ev_ifE, ev_ifS, ev_ifKT, ev_ifKF, ev_ifK, ev_ifKN,
  ev_tV, ev_tvK, ev_tTru, ev_truB, ev_truN, ev_truI, ev_and, ev_or, ev_not, ev_notK, ev_andT, ev_andF, ev_orT, ev_orF, ev_andK, ev_andKN, ev_orK, ev_orKN, ev_eAnd, ev_eOr, ev_eNot, ev_eNotB, ev_eAndT, ev_eAndF, ev_eAndB, ev_eAndBN, ev_eOrT, ev_eOrF, ev_eOrN, ev_eOrB, ev_eOrBN,
  ev_chain, ev_chK1, ev_chK2, ev_chK3, ev_chK3T, ev_chK3F, ev_seq, ev_thn, ev_thnR, ev_thnB, ev_thnC, ev_next, ev_break, ev_cont, ev_ret, ev_retK, ev_retN, ev_expr, ev_exprK, ev_asg, ev_asgK, ev_nxK, ev_gNm, ev_gTp, ev_gsNil, ev_gsCons, ev_gsK, ev_gSb, ev_gSbK1, ev_par, ev_parK2, ev_parK3, ev_mt,
  ev_add, ev_sub, ev_mul, ev_fdiv, ev_mod, ev_pow, ev_shl, ev_neg, ev_lt, ev_le, ev_gt, ev_ge, ev_eqI, ev_neI, ev_abs, ev_intB, ev_intI, ev_minI, ev_maxI, ev_bits, ev_get0, ev_get1, ev_get2, bd_ok, bd_none, ev_whT, ev_whF, ev_whD, ev_wh2, ev_wh2c, ev_wh2r, ev_wh2b, ev_for, ev_forK, ev_fr1, ev_fr2, ev_fr2c, ev_fr2r, ev_fr2b, ev_lc, ev_lcK, ev_lc1, ev_lc2T, ev_lc2F, ev_lc2D, ev_yes, ev_iSeq, ev_seqT, ev_seqS, ev_iRange, ev_iEnum, ev_iZip,
  ev_neIS, ev_eqIS, ev_neSS, ev_eqSS, ev_isN, ev_isNot, isNon_t, isNon_n, isNon_i, isNon_r, decide_true, decide_false, decide_eq_true_eq, eq_self, if_true, if_false,
  out_rt, out_nx, List.map_cons, List.map_nil, List.cons_append, List.nil_append, List.replicate, List.set_cons_zero, List.set_cons_succ, Nat.reduceSub, Int.reduceEq, Int.reduceLT, Int.reduceLE, Int.reduceMul, Int.reduceAdd, Int.reduceSub, Bool.not_true, Bool.not_false])
local macro_rules | `(tactic| walk_at "go") => `(tactic| repeat (first | walk_at "ev" | walk_at "fs"))
noncomputable def q__law_beside_I2t : MS := (sRet (eTup (aCons (eVar 1) (aCons (eCall f__law_brought (aCons (eOp addG (eVar 4) (eOp mulG (eC (.int 3)) (eOp fdivG (eVar 3) (eC (.int 5))))) (aCons (eOp powG (eC (.int 10)) (eC (.int 6))) aNil))) (aCons (eCall f__law_brought (aCons (eOp subG (eVar 5) (eOp mulG (eC (.int 4)) (eOp fdivG (eVar 3) (eC (.int 5))))) (aCons (eOp powG (eC (.int 10)) (eC (.int 6))) aNil))) (aCons (eVar 6) aNil))))))
theorem m__law_beside_q : m__law_beside = (sSeq (sAsg (eSl (eVar 2) (oSome (eC (.int 1))) oNone) (gTp (gsCons (gNm 4) (gsCons (gNm 5) (gsCons (gNm 6) gsNil))))) (sSeq (sAsg (eCall f__law_draw (aCons (eVar 0) (aCons (eC (.int 5)) aNil))) (gNm 7)) (sSeq (sIf (tV (eOp eqG (eVar 7) (eC (.int 0)))) (sRet (eTup (aCons (eVar 1) (aCons (eCall f__law_brought (aCons (eOp addG (eVar 4) (eVar 3)) (aCons (eOp powG (eC (.int 10)) (eC (.int 6))) aNil))) (aCons (eVar 5) (aCons (eVar 6) aNil)))))) sNext) (sSeq (sIf (tV (eOp eqG (eVar 7) (eC (.int 1)))) q__law_beside_I2t sNext) (sSeq (sIf (tV (eOp eqG (eVar 7) (eC (.int 2)))) (sRet (eTup (aCons (eVar 1) (aCons (eVar 4) (aCons (eVar 5) (aCons (eVar 6) aNil)))))) sNext) (sSeq (sAsg (eOp addG (eC (.int 1)) (eCall f__law_draw (aCons (eVar 0) (aCons (eC (.int 9)) aNil)))) (gNm 8)) (sSeq (sAsg (eCall tupleG (aCons (eLc (iSeq (eVar 6)) (gTp (gsCons (gNm 10) (gsCons (gNm 11) (gsCons (gNm 12) gsNil)))) tYes1 (eTup (aCons (eVar 10) (aCons (eCall f__law_brought (aCons (eOp addG (eVar 11) (eVar 8)) (aCons (eC (.int 1000)) aNil))) (aCons (eVar 12) aNil)))) [10, 11, 12]) aNil)) (gNm 9)) (sSeq (sIf (tV (eOp eqG (eVar 9) (eTup aNil))) (sAsg (eTup (aCons (eTup (aCons (eCall f__law_draw (aCons (eVar 0) (aCons (eC (.int 4)) aNil))) (aCons (eVar 8) (aCons (eC (.int 0)) aNil)))) aNil)) (gNm 9)) sNext) (sRet (eTup (aCons (eVar 1) (aCons (eCall f__law_brought (aCons (eOp subG (eVar 4) (eOp mulG (eVar 8) (eCall f__law_draw (aCons (eVar 0) (aCons (eC (.int 40)) aNil))))) (aCons (eOp powG (eC (.int 10)) (eC (.int 6))) aNil))) (aCons (eCall f__law_brought (aCons (eOp addG (eVar 5) (eVar 3)) (aCons (eOp powG (eC (.int 10)) (eC (.int 6))) aNil))) (aCons (eVar 9) aNil)))))))))))))) := rfl
noncomputable def q__law_rows_L1 : MS := (sSeq (sAsg (eOp addG (eOp addG (eVar 3) (eCall f__law_draw (aCons (eVar 0) (aCons (eVar 1) aNil)))) (eCall intG (aCons (eOp gtG (eVar 5) (eC (.int 0))) aNil))) (gNm 3)) (sExpr (eMt "list" appendG (eVar 4) (aCons (eTup (aCons (eVar 3) (aCons (eOp subG (eCall f__law_draw (aCons (eVar 0) (aCons (eOp addG (eOp mulG (eC (.int 2)) (eVar 2)) (eC (.int 1))) aNil))) (eVar 2)) (aCons (eOp subG (eCall f__law_draw (aCons (eVar 0) (aCons (eOp addG (eOp mulG (eC (.int 2)) (eVar 2)) (eC (.int 1))) aNil))) (eVar 2)) aNil)))) aNil))))
theorem m__law_rows_q : m__law_rows = (sSeq (sAsg (eCall f__law_of (aCons (eVar 0) (aCons (eLst (aCons (eTup (aCons (eC (.int 3)) (aCons (eC (.int 3)) aNil))) (aCons (eTup (aCons (eC (.int 6)) (aCons (eC (.int 9)) aNil))) (aCons (eTup (aCons (eC (.int 9)) (aCons (eC (.int 2)) aNil))) (aCons (eTup (aCons (eC (.int 1000)) (aCons (eC (.int 1000)) aNil))) (aCons (eTup (aCons (eC (.int 80000)) (aCons (eC (.int 300)) aNil))) aNil)))))) aNil))) (gTp (gsCons (gNm 1) (gsCons (gNm 2) gsNil)))) (sSeq (sAsg (eC (.int 0)) (gNm 3)) (sSeq (sAsg (eLst aNil) (gNm 4)) (sSeq (sFor (iRange (aCons (eCall f__law_draw (aCons (eVar 0) (aCons (eCall f__law_of (aCons (eVar 0) (aCons (eLst (aCons (eC (.int 4)) (aCons (eC (.int 4)) (aCons (eC (.int 4)) (aCons (eC (.int 13)) aNil))))) aNil))) aNil))) aNil)) (gNm 5) q__law_rows_L1) (sRet (eCall tupleG (aCons (eVar 4) aNil))))))) := rfl
noncomputable def q__law_things_I1t : MS := (sExpr (eMt "list" appendG (eVar 4) (aCons (eCall f__law_beside (aCons (eVar 0) (aCons (eVar 6) (aCons (eCall f__law_of (aCons (eVar 0) (aCons (eVar 4) aNil))) (aCons (eOp addG (eVar 2) (eCall f__law_of (aCons (eVar 0) (aCons (eLst (aCons (eC (.int 0)) (aCons (eC (.int 0)) (aCons (eC (.int 0)) (aCons (eC (.int 1)) (aCons (eUn negG (eC (.int 1))) aNil)))))) aNil)))) aNil))))) aNil)))
noncomputable def q__law_things_I1e : MS := (sSeq (sAsg (eCall f__law_of (aCons (eVar 0) (aCons (eLst (aCons (eC (.int 5)) (aCons (eC (.int 12)) (aCons (eC (.int 12)) (aCons (eC (.int 60)) (aCons (eC (.int 1000)) (aCons (eOp powG (eC (.int 10)) (eC (.int 6))) aNil))))))) aNil))) (gNm 7)) (sSeq (sPar [8, 9] (aCons (eOp subG (eCall f__law_draw (aCons (eVar 0) (aCons (eOp addG (eOp mulG (eC (.int 2)) (eVar 7)) (eC (.int 1))) aNil))) (eVar 7)) (aCons (eOp subG (eCall f__law_draw (aCons (eVar 0) (aCons (eOp addG (eOp mulG (eC (.int 2)) (eVar 7)) (eC (.int 1))) aNil))) (eVar 7)) aNil))) (sExpr (eMt "list" appendG (eVar 4) (aCons (eTup (aCons (eVar 6) (aCons (eVar 8) (aCons (eVar 9) (aCons (eCall f__law_rows (aCons (eVar 0) aNil)) aNil))))) aNil)))))
noncomputable def q__law_things_L1 : MS := (sSeq (sAsg (eMt "list" popG (eVar 3) (aCons (eCall f__law_draw (aCons (eVar 0) (aCons (eCall lenG (aCons (eVar 3) aNil)) aNil))) aNil)) (gNm 6)) (sIf (tAnd2 (tV (eOp neG (eVar 4) (eLst aNil))) (tV (eOp eqG (eCall f__law_draw (aCons (eVar 0) (aCons (eC (.int 2)) aNil))) (eC (.int 1))))) q__law_things_I1t q__law_things_I1e))
theorem m__law_things_q : m__law_things = (sSeq (sAsg (eLst (aCons (eC (.str "gull")) (aCons (eC (.str "ox")) (aCons (eC (.str "arc")) (aCons (eC (.str "ar")) (aCons (eC (.str "root")) (aCons (eC (.str "f")) (aCons (eC (.str "gu")) (aCons (eC (.str "oxen")) (aCons (eC (.str "wall")) (aCons (eC (.str "el")) (aCons (eC (.str "thing")) (aCons (eC (.str "th")) aNil))))))))))))) (gNm 3)) (sSeq (sAsg (eLst aNil) (gNm 4)) (sSeq (sFor (iRange (aCons (eVar 1) aNil)) (gNm 5) q__law_things_L1) (sRet (eVar 4))))) := rfl
noncomputable def q__law_begins_L1 : MS := (sAsg (eOp addG (eVar 1) (eLc (iSeq (eOp subG' (eVar 2) (eC (.int 3)))) (gNm 3) tYes1 (eOp subG' (eVar 3) (eC (.int 0))) [3])) (gNm 1))
theorem m__law_begins_q : m__law_begins = (sSeq (sAsg (eLst (aCons (eC (.int 0)) aNil)) (gNm 1)) (sSeq (sFor (iSeq (eVar 0)) (gNm 2) q__law_begins_L1) (sRet (eUn ssetG (eVar 1))))) := rfl
noncomputable def q__law_common_L2 : MS := (sPar [3, 4] (aCons (eVar 4) (aCons (eOp modG (eVar 3) (eVar 4)) aNil)))
noncomputable def q__law_common_L1 : MS := (sSeq (sPar [3, 4] (aCons (eVar 1) (aCons (eCall absG (aCons (eVar 2) aNil)) aNil))) (sSeq (sWh (tV (eOp gtG (eVar 4) (eC (.int 0)))) q__law_common_L2) (sAsg (eVar 3) (gNm 1))))
theorem m__law_common_q : m__law_common = (sSeq (sAsg (eC (.int 0)) (gNm 1)) (sSeq (sFor (iSeq (eVar 0)) (gNm 2) q__law_common_L1) (sRet (eVar 1)))) := rfl
noncomputable def q__law_is_square_L1 : MS := (sSeq (sAsg (eVar 2) (gNm 1)) (sAsg (eOp fdivG (eOp addG (eVar 1) (eOp fdivG (eVar 0) (eVar 1))) (eC (.int 2))) (gNm 2)))
theorem m__law_is_square_q : m__law_is_square = (sSeq (sAsg (eVar 0) (gNm 1)) (sSeq (sAsg (eOp addG (eOp fdivG (eVar 0) (eC (.int 2))) (eC (.int 1))) (gNm 2)) (sSeq (sWh (tV (eOp ltG (eVar 2) (eVar 1))) q__law_is_square_L1) (sRet (eOp eqG (eOp mulG (eVar 1) (eVar 1)) (eVar 0)))))) := rfl
noncomputable def q__law_sign_I1t : MS := (sSeq (sAsg (eVar 1) (gTp (gsCons (gNm 5) (gsCons (gNm 6) gsNil)))) (sSeq (sAsg (eOp addG (eOp mulG (eOp mulG (eVar 2) (eVar 6)) (eVar 6)) (eOp mulG (eVar 5) (eOp addG (eOp mulG (eVar 3) (eVar 6)) (eOp mulG (eVar 4) (eVar 5))))) (gNm 7)) (sRet (eOp subG (eCall intG (aCons (eOp gtG (eVar 7) (eC (.int 0))) aNil)) (eCall intG (aCons (eOp ltG (eVar 7) (eC (.int 0))) aNil))))))
theorem m__law_sign_q : m__law_sign = (sSeq (sAsg (eVar 0) (gTp (gsCons (gNm 2) (gsCons (gNm 3) (gsCons (gNm 4) gsNil))))) (sSeq (sIf (tV (eOp neG (eOp subG' (eVar 1) (eC (.int 0))) (eC (.str "root")))) q__law_sign_I1t sNext) (sSeq (sAsg (eOp subG' (eVar 1) (eC (.int 1))) (gTp (gsCons (gNm 8) (gsCons (gNm 9) (gsCons (gNm 10) gsNil))))) (sSeq (sAsg (eOp subG (eOp mulG (eC (.int 2)) (eOp subG' (eVar 1) (eC (.int 2)))) (eC (.int 1))) (gNm 11)) (sSeq (sAsg (eOp subG (eOp mulG (eVar 9) (eVar 9)) (eOp mulG (eOp mulG (eC (.int 4)) (eVar 8)) (eVar 10))) (gNm 12)) (sSeq (sAsg (eOp subG (eOp mulG (eOp mulG (eOp mulG (eC (.int 4)) (eVar 10)) (eVar 10)) (eVar 2)) (eOp mulG (eOp mulG (eOp mulG (eC (.int 2)) (eVar 10)) (eVar 9)) (eVar 3))) (gNm 13)) (sSeq (sAsg (eOp addG (eVar 13) (eOp mulG (eVar 4) (eOp addG (eOp mulG (eVar 9) (eVar 9)) (eVar 12)))) (gNm 13)) (sSeq (sAsg (eOp mulG (eVar 11) (eOp subG (eOp mulG (eOp mulG (eC (.int 2)) (eVar 10)) (eVar 3)) (eOp mulG (eOp mulG (eC (.int 2)) (eVar 9)) (eVar 4)))) (gNm 14)) (sSeq (sIf (tV (eOp eqG (eVar 14) (eC (.int 0)))) (sRet (eOp subG (eCall intG (aCons (eOp gtG (eVar 13) (eC (.int 0))) aNil)) (eCall intG (aCons (eOp ltG (eVar 13) (eC (.int 0))) aNil)))) sNext) (sRet (eCall f__law_sum_sign (aCons (eVar 13) (aCons (eVar 14) (aCons (eVar 12) aNil)))))))))))))) := rfl
noncomputable def q__law_is_time_I2t : MS := (sSeq (sAsg (eAnd2 (eCall allG (aCons (eLc (iSeq (eVar 0)) (gNm 3) tYes1 (eCall f__law_whole (aCons (eVar 3) aNil)) [3]) aNil)) (eAnd2 (eOp gtG (eOp subG' (eVar 0) (eC (.int 1))) (eC (.int 0))) (eOp geG (eOp subG' (eVar 0) (eC (.int 0))) (eC (.int 0))))) (gNm 1)) (sRet (eAnd2 (eVar 1) (eOp eqG (eCall f__law_common (aCons (eVar 0) aNil)) (eC (.int 1))))))
theorem m__law_is_time_q : m__law_is_time = (sSeq (sIf (tOr2 (tNot1 (tTru (eCall isiG (aCons (eVar 0) (aCons (eC (.ty "tuple")) aNil))))) (tV (eOp notInG (eCall lenG (aCons (eVar 0) aNil)) (eTup (aCons (eC (.int 2)) (aCons (eC (.int 3)) aNil)))))) (sRet (eC (.bl false))) sNext) (sSeq (sIf (tV (eOp eqG (eCall lenG (aCons (eVar 0) aNil)) (eC (.int 2)))) q__law_is_time_I2t sNext) (sSeq (sIf (tOr2 (tV (eOp neG (eOp subG' (eVar 0) (eC (.int 0))) (eC (.str "root")))) (tOr2 (tNot1 (tTru (eCall isiG (aCons (eOp subG' (eVar 0) (eC (.int 1))) (aCons (eC (.ty "tuple")) aNil))))) (tOr2 (tV (eOp neG (eCall lenG (aCons (eOp subG' (eVar 0) (eC (.int 1))) aNil)) (eC (.int 3)))) (tV (eOp notInG (eOp subG' (eVar 0) (eC (.int 2))) (eTup (aCons (eC (.int 0)) (aCons (eC (.int 1)) aNil)))))))) (sRet (eC (.bl false))) sNext) (sSeq (sIf (tOr2 (tNot1 (tTru (eCall allG (aCons (eLc (iSeq (eOp addG (eOp subG' (eVar 0) (eC (.int 1))) (eSl (eVar 0) (oSome (eC (.int 2))) oNone))) (gNm 3) tYes1 (eCall f__law_whole (aCons (eVar 3) aNil)) [3]) aNil)))) (tOr2 (tV (eOp ltG (eOp subG' (eOp subG' (eVar 0) (eC (.int 1))) (eC (.int 2))) (eC (.int 1)))) (tV (eOp neG (eCall f__law_common (aCons (eOp subG' (eVar 0) (eC (.int 1))) aNil)) (eC (.int 1)))))) (sRet (eC (.bl false))) sNext) (sSeq (sAsg (eOp subG (eOp mulG (eOp subG' (eOp subG' (eVar 0) (eC (.int 1))) (eC (.int 1))) (eOp subG' (eOp subG' (eVar 0) (eC (.int 1))) (eC (.int 1)))) (eOp mulG (eOp mulG (eC (.int 4)) (eOp subG' (eOp subG' (eVar 0) (eC (.int 1))) (eC (.int 0)))) (eOp subG' (eOp subG' (eVar 0) (eC (.int 1))) (eC (.int 2))))) (gNm 2)) (sRet (eAnd2 (eOp gtG (eVar 2) (eC (.int 0))) (eAnd2 (eNot1 (eCall f__law_is_square (aCons (eVar 2) aNil))) (eOp geG (eCall f__law_sign (aCons (eTup (aCons (eC (.int 0)) (aCons (eC (.int 1)) (aCons (eC (.int 0)) aNil)))) (aCons (eVar 0) aNil))) (eC (.int 0))))))))))) := rfl
noncomputable def q__law_a_time_L1 : MS := (sSeq (sAsg (eCall f__law_common (aCons (eVar 8) aNil)) (gNm 3)) (sSeq (sAsg (eTup (aCons (eC (.str "root")) (aCons (eCall tupleG (aCons (eLc (iSeq (eVar 8)) (gNm 10) tYes1 (eOp fdivG (eVar 10) (eVar 3)) [10]) aNil)) (aCons (eVar 7) aNil)))) (gNm 9)) (sAsg (eOp addG (eVar 4) (eOp mulG (eLst (aCons (eVar 9) (aCons (eVar 9) aNil))) (eCall intG (aCons (eCall f__law_is_time (aCons (eVar 9) aNil)) aNil)))) (gNm 4))))
theorem m__law_a_time_q : m__law_a_time = (sSeq (sPar [1, 2] (aCons (eCall f__law_draw (aCons (eVar 0) (aCons (eC (.int 400)) aNil))) (aCons (eOp addG (eC (.int 1)) (eCall f__law_draw (aCons (eVar 0) (aCons (eC (.int 30)) aNil)))) aNil))) (sSeq (sAsg (eCall f__law_common (aCons (eTup (aCons (eVar 1) (aCons (eVar 2) aNil))) aNil)) (gNm 3)) (sSeq (sAsg (eLst (aCons (eTup (aCons (eCall f__law_draw (aCons (eVar 0) (aCons (eC (.int 30)) aNil))) (aCons (eC (.int 1)) aNil))) (aCons (eTup (aCons (eCall f__law_draw (aCons (eVar 0) (aCons (eOp powG (eC (.int 10)) (eC (.int 6))) aNil))) (aCons (eC (.int 1)) aNil))) (aCons (eTup (aCons (eOp fdivG (eVar 1) (eVar 3)) (aCons (eOp fdivG (eVar 2) (eVar 3)) aNil))) aNil)))) (gNm 4)) (sSeq (sAsg (eTup (aCons (eOp subG (eC (.int 0)) (eCall f__law_draw (aCons (eVar 0) (aCons (eC (.int 2000)) aNil)))) (aCons (eOp subG (eCall f__law_draw (aCons (eVar 0) (aCons (eC (.int 41)) aNil))) (eC (.int 20))) (aCons (eOp addG (eC (.int 1)) (eCall f__law_draw (aCons (eVar 0) (aCons (eC (.int 9)) aNil)))) aNil)))) (gNm 5)) (sSeq (sAsg (eTup (aCons (eOp addG (eC (.int 1)) (eCall f__law_draw (aCons (eVar 0) (aCons (eC (.int 900)) aNil)))) (aCons (eOp subG (eC (.int 0)) (eCall f__law_draw (aCons (eVar 0) (aCons (eC (.int 200)) aNil)))) (aCons (eOp addG (eC (.int 1)) (eCall f__law_draw (aCons (eVar 0) (aCons (eC (.int 4)) aNil)))) aNil)))) (gNm 6)) (sSeq (sFor (iEnumV (aCons (eLst (aCons (eVar 6) (aCons (eVar 5) aNil))) aNil)) (gTp (gsCons (gNm 7) (gsCons (gNm 8) gsNil))) q__law_a_time_L1) (sRet (eCall f__law_of (aCons (eVar 0) (aCons (eVar 4) aNil)))))))))) := rfl
noncomputable def q_thing_of_L1 : MS := (sIf (tAnd2 (tTru (eCall isiG (aCons (eVar 1) (aCons (eC (.ty "str")) aNil)))) (tV (eOp eqG (eOp subG' (eVar 2) (eC (.int 0))) (eVar 1)))) (sRet (eVar 2)) sNext)
theorem m_thing_of_q : m_thing_of = (sSeq (sFor (iSeq (eOp subG' (eOM "World" "told" f_World_told (eVar 0) aNil) (eC (.int 0)))) (gNm 2) q_thing_of_L1) sStuck) := rfl
noncomputable def q_common_divisor_L1 : MS := (sPar [0, 1] (aCons (eVar 1) (aCons (eOp modG (eVar 0) (eVar 1)) aNil)))
theorem m_common_divisor_q : m_common_divisor = (sSeq (sPar [0, 1] (aCons (eCall absG (aCons (eVar 0) aNil)) (aCons (eCall absG (aCons (eVar 1) aNil)) aNil))) (sSeq (sWh (tV (eOp gtG (eVar 1) (eC (.int 0)))) q_common_divisor_L1) (sRet (eVar 0)))) := rfl
noncomputable def q_whole_root_L1 : MS := (sAsg (eOp mulG (eVar 2) (eC (.int 2))) (gNm 2))
noncomputable def q_whole_root_L2 : MS := (sSeq (sAsg (eOp fdivG (eOp addG (eVar 1) (eVar 2)) (eC (.int 2))) (gNm 3)) (sIf (tV (eOp leG (eOp mulG (eVar 3) (eVar 3)) (eVar 0))) (sAsg (eVar 3) (gNm 1)) (sAsg (eVar 3) (gNm 2))))
theorem m_whole_root_q : m_whole_root = (sSeq (sAsg (eC (.int 0)) (gNm 1)) (sSeq (sAsg (eC (.int 1)) (gNm 2)) (sSeq (sWh (tV (eOp leG (eOp mulG (eVar 2) (eVar 2)) (eVar 0))) q_whole_root_L1) (sSeq (sWh (tV (eOp gtG (eOp subG (eVar 2) (eVar 1)) (eC (.int 1)))) q_whole_root_L2) (sRet (eVar 1)))))) := rfl
noncomputable def q_way_of_I1t : MS := (sSeq (sAsg (eTup (aCons (eTup (aCons (eOp subG (eVar 2) (eOp mulG (eOp subG' (eVar 7) (eC (.int 0))) (eVar 6))) (aCons (eOp subG' (eVar 7) (eC (.int 0))) (aCons (eC (.int 0)) aNil)))) (aCons (eTup (aCons (eOp subG (eVar 3) (eOp mulG (eOp subG' (eVar 7) (eC (.int 1))) (eVar 6))) (aCons (eOp subG' (eVar 7) (eC (.int 1))) (aCons (eC (.int 0)) aNil)))) aNil))) (gNm 11)) (sExpr (eMt "list" appendG (eVar 5) (aCons (eTup (aCons (eVar 6) (aCons (eVar 8) (aCons (eVar 11) aNil)))) aNil))))
noncomputable def q_way_of_I2t : MS := (sSeq (sAsg (eOp addG (eVar 2) (eOp mulG (eOp subG' (eVar 7) (eC (.int 0))) (eOp subG (eVar 8) (eVar 6)))) (gNm 2)) (sSeq (sAsg (eOp addG (eVar 3) (eOp mulG (eOp subG' (eVar 7) (eC (.int 1))) (eOp subG (eVar 8) (eVar 6)))) (gNm 3)) (sAsg (eVar 8) (gNm 6))))
noncomputable def q_way_of_L1 : MS := (sSeq (sIf (tOr2 (tV (eOp isG (eVar 8) (eC .non))) (tV (eOp gtG (eVar 8) (eVar 6)))) q_way_of_I1t sNext) (sSeq (sIf (tV (eOp isNotG (eVar 8) (eC .non))) q_way_of_I2t sNext) (sAsg (eTup (aCons (eVar 9) (aCons (eVar 10) aNil))) (gNm 7))))
theorem m_way_of_q : m_way_of = (sSeq (sAsg (eVar 0) (gTp (gsCons (gNm 1) (gsCons (gNm 2) (gsCons (gNm 3) (gsCons (gNm 4) gsNil)))))) (sSeq (sAsg (eLst aNil) (gNm 5)) (sSeq (sAsg (eC (.int 0)) (gNm 6)) (sSeq (sAsg (eTup (aCons (eC (.int 0)) (aCons (eC (.int 0)) aNil))) (gNm 7)) (sSeq (sFor (iSeq (eOp addG (eVar 4) (eTup (aCons (eTup (aCons (eC .non) (aCons (eC (.int 0)) (aCons (eC (.int 0)) aNil)))) aNil)))) (gTp (gsCons (gNm 8) (gsCons (gNm 9) (gsCons (gNm 10) gsNil)))) q_way_of_L1) (sRet (eVar 5))))))) := rfl
noncomputable def q_sign_at_I1t : MS := (sSeq (sAsg (eVar 1) (gTp (gsCons (gNm 2) (gsCons (gNm 3) gsNil)))) (sRet (eCall f_sign_of (aCons (eOp addG (eOp mulG (eOp addG (eOp mulG (eOp subG' (eVar 0) (eC (.int 2))) (eVar 2)) (eOp mulG (eOp subG' (eVar 0) (eC (.int 1))) (eVar 3))) (eVar 2)) (eOp mulG (eOp mulG (eOp subG' (eVar 0) (eC (.int 0))) (eVar 3)) (eVar 3))) aNil))))
theorem m_sign_at_q : m_sign_at = (sSeq (sIf (tV (eOp neG (eOp subG' (eVar 1) (eC (.int 0))) (eC (.str "root")))) q_sign_at_I1t sNext) (sSeq (sAsg (eVar 1) (gTp (gsCons (gNm 4) (gsCons (gNm 5) (gsCons (gNm 6) gsNil))))) (sSeq (sAsg (eVar 5) (gTp (gsCons (gNm 7) (gsCons (gNm 8) (gsCons (gNm 9) gsNil))))) (sSeq (sAsg (eOp subG (eOp mulG (eOp subG' (eVar 0) (eC (.int 0))) (eVar 9)) (eOp mulG (eOp subG' (eVar 0) (eC (.int 2))) (eVar 7))) (gNm 10)) (sSeq (sAsg (eOp subG (eOp mulG (eOp subG' (eVar 0) (eC (.int 1))) (eVar 9)) (eOp mulG (eOp subG' (eVar 0) (eC (.int 2))) (eVar 8))) (gNm 11)) (sRet (eCall f_sign_of_sum (aCons (eOp subG (eOp mulG (eOp mulG (eC (.int 2)) (eVar 9)) (eVar 10)) (eOp mulG (eVar 11) (eVar 8))) (aCons (eOp mulG (eVar 11) (eOp subG (eOp mulG (eC (.int 2)) (eVar 6)) (eC (.int 1)))) (aCons (eCall f_inner (aCons (eVar 5) aNil)) aNil)))))))))) := rfl
noncomputable def q_place_in_L1 : MS := (sIf (tOr2 (tV (eOp isG (eVar 2) (eC .non))) (tV (eOp geG (eCall f_compare (aCons (eVar 1) (aCons (eTup (aCons (eVar 3) (aCons (eC (.int 1)) aNil))) aNil))) (eC (.int 0))))) (sAsg (eVar 5) (gNm 2)) sNext)
theorem m_place_in_q : m_place_in = (sSeq (sAsg (eC .non) (gNm 2)) (sSeq (sFor (iSeq (eCall f_way_of (aCons (eVar 0) aNil))) (gTp (gsCons (gNm 3) (gsCons (gNm 4) (gsCons (gNm 5) gsNil)))) q_place_in_L1) (sRet (eVar 2)))) := rfl
noncomputable def q__law_place_L1 : MS := (sSeq (sAsg (eIf (tV (eOp ltG (eOp addG (eVar 5) (eC (.int 1))) (eCall lenG (aCons (eVar 4) aNil)))) (eOp subG' (eOp subG' (eVar 4) (eOp addG (eVar 5) (eC (.int 1)))) (eC (.int 0))) (eVar 1)) (gNm 9)) (sSeq (sAsg (eCall maxG (aCons (eC (.int 0)) (aCons (eOp subG (eCall minG (aCons (eVar 9) (aCons (eVar 1) aNil))) (eVar 6)) aNil))) (gNm 10)) (sSeq (sAsg (eOp addG (eVar 2) (eOp mulG (eVar 7) (eVar 10))) (gNm 2)) (sAsg (eOp addG (eVar 3) (eOp mulG (eVar 8) (eVar 10))) (gNm 3)))))
theorem m__law_place_q : m__law_place = (sSeq (sAsg (eSl (eVar 0) (oSome (eC (.int 1))) oNone) (gTp (gsCons (gNm 2) (gsCons (gNm 3) (gsCons (gNm 4) gsNil))))) (sSeq (sFor (iEnumV (aCons (eVar 4) aNil)) (gTp (gsCons (gNm 5) (gsCons (gTp (gsCons (gNm 6) (gsCons (gNm 7) (gsCons (gNm 8) gsNil)))) gsNil))) q__law_place_L1) (sRet (eTup (aCons (eVar 2) (aCons (eVar 3) aNil)))))) := rfl
noncomputable def q__law_where_I1t : MS := (sSeq (sAsg (eOp subG' (eLc (iSeq (eCall f__law_begins (aCons (eLst (aCons (eVar 0) aNil)) aNil))) (gNm 7) (tV (eOp ltG (eCall f__law_order (aCons (eTup (aCons (eVar 7) (aCons (eC (.int 1)) aNil))) (aCons (eVar 1) aNil))) (eC (.int 0)))) (eVar 7) [7]) (eUn negG (eC (.int 1)))) (gNm 2)) (sRet (eCall f__law_lines (aCons (eVar 0) (aCons (eVar 2) aNil)))))
theorem m__law_where_q : m__law_where = (sSeq (sIf (tV (eOp eqG (eOp subG' (eVar 1) (eC (.int 0))) (eC (.str "root")))) q__law_where_I1t sNext) (sSeq (sAsg (eVar 1) (gTp (gsCons (gNm 3) (gsCons (gNm 4) gsNil)))) (sSeq (sAsg (eOp fdivG (eVar 3) (eVar 4)) (gNm 5)) (sSeq (sAsg (eCall f__law_lines (aCons (eVar 0) (aCons (eVar 5) aNil))) (gNm 6)) (sRet (eCall tupleG (aCons (eLc (iSeq (eVar 6)) (gNm 8) tYes1 (eCall f__law_lowest (aCons (eOp addG (eOp mulG (eOp subG' (eVar 8) (eC (.int 0))) (eVar 4)) (eOp mulG (eOp subG' (eVar 8) (eC (.int 1))) (eVar 3))) (aCons (eVar 4) aNil))) [8]) aNil))))))) := rfl
noncomputable def q_law_L3 : MS := (sIf (tV (eOp neG (eCall reprG (aCons (eCall f_place_at (aCons (eVar 3) (aCons (eOp subG' (eVar 8) (eC (.int 0))) (aCons (eVar 7) aNil)))) aNil)) (eCall reprG (aCons (eCall f__law_where (aCons (eVar 8) (aCons (eVar 7) aNil))) aNil)))) (sRet (eC (.bl false))) sNext)
noncomputable def q_law_L2 : MS := (sFor (iRange (aCons (eC (.int 2)) aNil)) (gNm 9) q_law_L3)
noncomputable def q_law_L1 : MS := (sFor (iSeq (eVar 2)) (gNm 8) q_law_L2)
theorem m_law_q : m_law = (sSeq (sAsg (eCall f__law_started (aCons (eVar 0) aNil)) (gNm 1)) (sSeq (sAsg (eCall f__law_worlds (aCons (eVar 1) (aCons (eC (.int 4)) aNil))) (gTp (gsCons (gNm 2) (gsCons (gNm 3) (gsCons (gNm 4) gsNil))))) (sSeq (sAsg (eCall f__law_begins (aCons (eVar 2) aNil)) (gNm 5)) (sSeq (sAsg (eLc (iRange (aCons (eC (.int 6)) aNil)) (gNm 10) tYes1 (eCall f__law_a_time (aCons (eVar 1) aNil)) [10]) (gNm 6)) (sSeq (sAsg (eOp addG (eOp addG (eVar 6) (eLc (iSeq (eSl (eVar 5) oNone (oSome (eC (.int 5))))) (gNm 11) tYes1 (eTup (aCons (eVar 11) (aCons (eC (.int 1)) aNil))) [11])) (eLc (iSeq (eSl (eVar 5) oNone (oSome (eC (.int 5))))) (gNm 11) tYes1 (eTup (aCons (eOp addG (eOp mulG (eC (.int 2)) (eVar 11)) (eC (.int 1))) (aCons (eC (.int 2)) aNil))) [11])) (gNm 6)) (sSeq (sFor (iSeq (eVar 6)) (gNm 7) q_law_L1) (sRet (eC (.bl true))))))))) := rfl
end K22
namespace SL
open RR PySem
/-! ### several ways together -/
def jt (ths : List Th) (p : Int × Option Int) : D := .tup [.int p.1, oD p.2, .tup (ths.map fun a => (pcT a p.1 none).pl)]
def jts (ths : List Th) : List (Int × Option Int) := zipU (ssI (0 :: tms ths))
def JD (ths : List Th) : List D := (jts ths).map (jt ths)
theorem rel_last {α : Type} {R : α → α → Prop} : ∀ {l : List α} (h : l ≠ []), l.Pairwise R → ∀ q ∈ l, q = l.getLast h ∨ R q (l.getLast h)
  | [a], _, _, q, hq => .inl (List.mem_singleton.mp hq)
  | a :: b :: l, _, p, q, hq => by
    obtain ⟨p1, p2⟩ := List.pairwise_cons.mp p
    have e : (a :: b :: l).getLast (by simp) = (b :: l).getLast (by simp) := List.getLast_cons (by simp)
    rw [e]
    rcases List.mem_cons.mp hq with rfl | hq
    · exact .inr (p1 _ (List.getLast_mem _))
    · exact rel_last (by simp) p2 q hq
theorem zipU_up : ∀ {bs : List Int}, bs.Pairwise (· < ·) → (zipU bs).Pairwise fun p q => p.1 < q.1
  | [], _ => .nil
  | [a], _ => by rw [show zipU [a] = [(a, none)] from rfl]; simp
  | a :: b :: l, h => by
    obtain ⟨h1, h2⟩ := List.pairwise_cons.mp h
    rw [zipU_cons a rfl]
    exact List.pairwise_cons.mpr ⟨fun p hp => h1 _ (zipU_mem hp), zipU_up h2⟩
theorem mem_zipU : ∀ {bs : List Int} {c : Int}, c ∈ bs → ∃ e, (c, e) ∈ zipU bs
  | [a], c, h => ⟨none, by rw [List.mem_singleton.mp h]; exact List.mem_cons_self⟩
  | a :: b :: l, c, h => by
    rw [zipU_cons a rfl]
    rcases List.mem_cons.mp h with rfl | h
    · exact ⟨_, List.mem_cons_self⟩
    · obtain ⟨e, he⟩ := mem_zipU h
      exact ⟨e, List.mem_cons_of_mem _ he⟩
theorem zipU_fst : ∀ bs : List Int, (zipU bs).map (·.1) = bs
  | [] => rfl
  | [a] => rfl
  | a :: b :: l => by rw [zipU_cons a rfl, List.map_cons, zipU_fst (b :: l)]
theorem begT_up {rs : List Row} (h : Rising 0 rs) : (begT rs).Pairwise (· < ·) := by
  rw [← beg_ssI h]; exact ssI_up _
theorem begT_mem {rs : List Row} (h : Rising 0 rs) (z : Int) : z ∈ begT rs ↔ z = 0 ∨ z ∈ rs.map (·.t) := by
  rw [← beg_ssI h, ssI_mem, List.mem_cons]
theorem way_a (a : Th) (h : Rising 0 a.rs) : (wayT a).map (·.a) = begT a.rs := by
  rw [way_pcs a h, List.map_map]
  exact zipU_fst _
/-- the last piece that has begun tells the lines that hold -/
theorem last_piece {a : Th} (oa : ThOk a) {b : Int} (b0 : 0 ≤ b) : ∃ (l : List Pc) (p : Pc), (wayT a).filter (fun p => decide (p.a ≤ b)) = l ++ [p] ∧ p ∈ wayT a ∧ p.pl = (pcT a b none).pl := by
  have up := oa.up
  have e : (wayT a).filter (fun p => decide (p.a ≤ b)) = ((zipU (begT a.rs)).filter fun p => decide (p.1 ≤ b)).map fun p => pcT a p.1 p.2 := by
    rw [way_pcs a up, List.filter_map]
    rfl
  generalize hF : ((zipU (begT a.rs)).filter fun p => decide (p.1 ≤ b)) = F at e
  have ne : F ≠ [] := by
    obtain ⟨e0, h0⟩ := mem_zipU ((begT_mem up 0).mpr (.inl rfl))
    have : ((0 : Int), e0) ∈ F := by rw [← hF]; exact List.mem_filter.mpr ⟨h0, by simpa using b0⟩
    exact List.ne_nil_of_mem this
  have pw : F.Pairwise fun p q => p.1 < q.1 := by rw [← hF]; exact (zipU_up (begT_up up)).filter _
  have hm : F.getLast ne ∈ F := List.getLast_mem _
  generalize hL : F.getLast ne = L at *
  have hm2 : L ∈ zipU (begT a.rs) ∧ L.1 ≤ b := by
    rw [← hF] at hm
    have := List.mem_filter.mp hm
    exact ⟨this.1, by simpa using this.2⟩
  refine ⟨F.dropLast.map fun p => pcT a p.1 p.2, pcT a L.1 L.2, ?_, ?_, ?_⟩
  · rw [e]
    conv => lhs; rw [← getLast_snoc ne, hL]
    rw [List.map_append]
    rfl
  · rw [way_pcs a up]
    exact List.mem_map.mpr ⟨L, hm2.1, rfl⟩
  · refine pcAt_line up (begT_ge up _ (zipU_mem hm2.1)) hm2.2 (fun r hr l => ?_) _ _
    obtain ⟨e1, h1⟩ := mem_zipU ((begT_mem up r.t).mpr (.inr (List.mem_map.mpr ⟨r, hr, rfl⟩)))
    have hf : (r.t, e1) ∈ F := by rw [← hF]; exact List.mem_filter.mpr ⟨h1, by simpa using l⟩
    rcases rel_last ne pw _ hf with q | q
    · rw [hL] at q
      rw [← q]
      exact Int.le_refl _
    · rw [hL] at q
      exact Int.le_of_lt q
theorem pl_inj {p q : Pc} (h : p.pl = q.pl) : p.x = q.x ∧ p.u = q.u ∧ p.y = q.y ∧ p.v = q.v := by
  unfold Pc.pl lnD at h
  simpa [and_assoc] using h
theorem pcT_ok {a : Th} (oa : ThOk a) {b : Int} (b0 : 0 ≤ b) (b1 : b < 2 ^ 31) : PcOk (pcT a b none) := by
  obtain ⟨l, p, _, hp, e⟩ := last_piece oa b0
  have ok := wayT_ok oa p hp
  obtain ⟨e1, e2, e3, e4⟩ := pl_inj e
  exact ⟨⟨b0, b1⟩, (fun e z => nomatch z), e1 ▸ ok.x, e3 ▸ ok.y, e2 ▸ ok.u, e4 ▸ ok.v⟩
theorem jts_ok {ths : List Th} (ok : ∀ a ∈ ths, ThOk a) : ∀ b ∈ ssI (0 :: tms ths), 0 ≤ b ∧ b < 2 ^ 30 := fun b hb => by
  rw [ssI_mem] at hb
  rcases List.mem_cons.mp hb with rfl | hb
  · decide
  · unfold tms at hb
    obtain ⟨l, hl, hb⟩ := List.mem_flatten.mp hb
    obtain ⟨a, ha, rfl⟩ := List.mem_map.mp hl
    obtain ⟨r, hr, rfl⟩ := List.mem_map.mp hb
    exact ⟨(ok a ha).up.ge r hr, ((ok a ha).ok r hr).t⟩
theorem insU_len (x : Int) : ∀ l : List Int, (insU x l).length ≤ l.length + 1
  | [] => by simp [insU]
  | y :: r => by
    unfold insU
    split
    · simp
    · split
      · simp
      · have := insU_len x r; simp only [List.length_cons]; omega
theorem ssI_len : ∀ ns : List Int, (ssI ns).length ≤ ns.length
  | [] => Nat.le_refl _
  | n :: ns => by
    have := ssI_len ns
    have h := insU_len n (ssI ns)
    show (insU n (ssI ns)).length ≤ _
    rw [List.length_cons]
    omega
theorem jts_len {ths : List Th} (ok : ∀ a ∈ ths, ThOk a) (few : ths.length ≤ 12) : (jts ths).length ≤ 145 := by
  unfold jts
  rw [zipU_len]
  have := ssI_len (0 :: tms ths)
  have := tms_len ok
  simp only [List.length_cons] at *
  omega
theorem zipU_snd : ∀ {bs : List Int} {p : Int × Option Int}, p ∈ zipU bs → ∀ e, p.2 = some e → e ∈ bs
  | [a], p, h, e, q => by rw [show zipU [a] = [(a, none)] from rfl] at h; rw [List.mem_singleton.mp h] at q; cases q
  | a :: b :: l, p, h, e, q => by
    rw [zipU_cons a rfl] at h
    rcases List.mem_cons.mp h with h | h
    · rw [h] at q; cases q; exact List.mem_cons_of_mem _ List.mem_cons_self
    · exact List.mem_cons_of_mem _ (zipU_snd h e q)
theorem dep_oD {b : Option Int} {n : Nat} : dep n (oD b) = true := by cases b <;> cases n <;> rfl
theorem dep_pl {p : Pc} : dep 2 p.pl = true := rfl
theorem jt_dep {ths : List Th} {p : Int × Option Int} : dep 4 (jt ths p) = true := by
  show (dep 3 (D.int p.1) && (dep 3 (oD p.2) && (deps 2 (ths.map fun a => (pcT a p.1 none).pl) && true))) = true
  rw [dep_oD, deps_map fun a _ => dep_pl]
  rfl
theorem JD_dep {ths : List Th} : deps 31 (JD ths) = true := deps_map fun p _ => dep_mono _ 4 31 jt_dep (by decide)
theorem pl_rp {p : Pc} (h : PcOk p) : RpOk 320 (pd p.pl) := (RpOk.tup (.cons (lnP_rp h.x h.u) (.cons (lnP_rp h.y h.v) .nil))).mono (by decide)
theorem pd_oD {b : Option Int} : pd (oD b) = oP b := by cases b <;> rfl
theorem JD_rp {ths : List Th} (ok : ∀ a ∈ ths, ThOk a) (few : ths.length ≤ 12) : RpsOk 600000 (pds (JD ths)) := by
  unfold JD
  rw [pds_map]
  refine (RpsOk.map (k := 4100) (m := 145) (fun p hp => ?_) (jts_len ok few)).mono (by decide)
  have hp1 := jts_ok ok _ (zipU_mem hp)
  have e : pd (jt ths p) = .tuple [.int p.1, oP p.2, .tuple (ths.map fun a => pd (pcT a p.1 none).pl)] := by
    show PyData.tuple [.int p.1, pd (oD p.2), .tuple (pds (ths.map fun a => (pcT a p.1 none).pl))] = _
    rw [pd_oD, pds_map]
  rw [e]
  refine (RpOk.tup (.cons (.int (k := 32) (Bd.of_range (by omega) (by omega)) (by decide)) (.cons (oP_rp fun e he => ?_) (.cons (RpOk.tup (RpsOk.map (k := 320) (m := 12) (fun a ha => pl_rp (pcT_ok (ok a ha) hp1.1 (by omega))) few)) .nil)))).mono (by decide)
  have := jts_ok ok e (zipU_snd hp e he)
  omega
theorem repr_JD {h : Hs} {n : Nat} {ths : List Th} (e : getL h n = some (JD ths)) (ok : ∀ a ∈ ths, ThOk a) (few : ths.length ≤ 12) : reprG [.ref n] h = some (.str (PyData.list (pds (JD ths))).shown, h) := repr_list e JD_dep (JD_rp ok few) (by decide)
/-! things among things -/
theorem th_dep {a : Th} : dep 3 a.D = true := by
  show (true && (true && (true && (deps 1 (a.rs.map Row.D) && true)))) = true
  rw [deps_map fun r _ => rfl]
  rfl
theorem in_ths {h : Hs} {L : Nat} {a : Th} {ths : List Th} (e : h[L]? = some (.lst (ths.map Th.D))) (ni : a.nm ∉ ths.map Th.nm) : inG a.D (.ref L) h = some (.bl false, h) := by
  have k : inB a.D (.ref L) h = memB h a.D (ths.map Th.D) := by
    have : inB a.D (.ref L) h = (match h[L]? with | some (.dct kvs) => (match keyOf a.D with | some k => some (valD kvs k).isSome | none => none) | some (.lst ds) => memB h a.D ds | some (.fz ds) => memB h a.D ds | _ => none) := rfl
    rw [this, e]
  unfold inG
  rw [k, memB_pd (dep_mono _ 3 32 th_dep (by decide)) (deps_map fun b _ => dep_mono _ 3 32 th_dep (by decide)), pds_map]
  have : ∀ xs : List Th, a.nm ∉ xs.map Th.nm → ((xs.map fun b => pd b.D).any fun y => PyData.eqv y (pd a.D)) = false := fun xs => by
    induction xs with
    | nil => intro _; rfl
    | cons b xs ih =>
      intro ni
      rw [List.map_cons, List.any_cons, ih fun z => ni (by rw [List.map_cons]; exact List.mem_cons_of_mem _ z)]
      have ne : ¬ b.nm = a.nm := fun z => ni (by rw [List.map_cons, z]; exact List.mem_cons_self)
      have : PyData.eqv (pd b.D) (pd a.D) = false := by
        show ((b.nm == a.nm) && _) = false
        rw [beq_eq_false_iff_ne.mpr ne]
        rfl
      rw [this]
      rfl
  rw [this ths ni]
/-! the keys of a dict -/
theorem put_keys {kvs : List (L2.Key × D)} {is : List Int} {i : Int} {d : D} (e : keysI kvs = some is) : ∃ is', keysI (putD kvs (.inl i) d) = some is' ∧ (∀ z, z ∈ is' ↔ z ∈ is ∨ z = i) ∧ (is.Nodup → is'.Nodup) ∧ is'.length ≤ is.length + 1 := by
  have mk : ∀ (kvs : List (L2.Key × D)) (is : List Int), kvs.map (·.1) = is.map Sum.inl → keysI kvs = some is := fun kvs => by
    induction kvs with
    | nil => intro is h; cases is with
      | nil => rfl
      | cons _ _ => cases h
    | cons p kvs ih =>
      intro is h
      cases is with
      | nil => cases h
      | cons i is =>
        simp only [List.map_cons, List.cons.injEq] at h
        obtain ⟨k, d⟩ := p
        obtain ⟨h1, h2⟩ := h
        have h1 : k = .inl i := h1
        subst h1
        show (match keysI kvs with | some is => some (i :: is) | none => none) = _
        rw [ih is h2]
  have ek := keysI_eq e
  unfold putD
  by_cases q : (kvs.any fun kv => decide (kv.1 = .inl i)) = true
  · rw [if_pos q]
    have hi : i ∈ is := by
      obtain ⟨kv, h1, h2⟩ := List.any_eq_true.mp q
      have h2 : kv.1 = .inl i := by simpa using h2
      have : (Sum.inl i : L2.Key) ∈ kvs.map (·.1) := List.mem_map.mpr ⟨kv, h1, h2⟩
      rw [ek] at this
      obtain ⟨j, hj, ej⟩ := List.mem_map.mp this
      cases ej
      exact hj
    refine ⟨is, mk _ _ ?_, fun z => ⟨.inl, fun h => ?_⟩, id, Nat.le_succ _⟩
    · rw [List.map_map, ← ek]
      refine List.map_congr_left fun kv _ => ?_
      show (if kv.1 = .inl i then (kv.1, d) else kv).1 = kv.1
      split <;> rfl
    · rcases h with h | rfl
      · exact h
      · exact hi
  · rw [if_neg q]
    have hi : i ∉ is := fun h => q (by
      have : (Sum.inl i : L2.Key) ∈ kvs.map (·.1) := by rw [ek]; exact List.mem_map.mpr ⟨i, h, rfl⟩
      obtain ⟨kv, h1, h2⟩ := List.mem_map.mp this
      exact List.any_eq_true.mpr ⟨kv, h1, by simpa using h2⟩)
    refine ⟨is ++ [i], mk _ _ (by rw [List.map_append, List.map_append, ek]; rfl), fun z => by simp, fun h => ?_, by simp⟩
    exact List.nodup_append.mpr ⟨h, by simp, fun x hx y hy => by rw [List.mem_singleton.mp hy]; exact fun z => hi (z ▸ hx)⟩
theorem merge_keys : ∀ {more : List (L2.Key × D)} {ms : List Int} {kvs : List (L2.Key × D)} {is : List Int}, keysI kvs = some is → keysI more = some ms → ∃ is', keysI (mergeD kvs more) = some is' ∧ (∀ z, z ∈ is' ↔ z ∈ is ∨ z ∈ ms) ∧ (is.Nodup → is'.Nodup) ∧ is'.length ≤ is.length + ms.length
  | [], ms, kvs, is, e, e2 => by
    cases e2
    exact ⟨is, e, by simp, id, Nat.le_refl _⟩
  | (.inl i, d) :: more, ms, kvs, is, e, e2 => by
    unfold keysI at e2
    split at e2
    · next ms' e3 =>
      cases e2
      obtain ⟨is1, a1, a2, a3, a4⟩ := put_keys (i := i) (d := d) e
      obtain ⟨is2, b1, b2, b3, b4⟩ := merge_keys a1 e3
      refine ⟨is2, b1, fun z => ?_, fun h => b3 (a3 h), by simp only [List.length_cons]; omega⟩
      rw [b2, a2, List.mem_cons, or_assoc]
    · cases e2
  | (.inr x, d) :: more, ms, kvs, is, e, e2 => by cases e2
theorem soI_ssI {is ns : List Int} (nd : is.Nodup) (m : ∀ z, z ∈ is ↔ z ∈ ns) : soI is = ssI ns := by
  have pw : (soI is).Pairwise (· < ·) := by
    have h1 := soI_up is
    have h2 : (soI is).Nodup := (soI_perm is).nodup_iff.mpr nd
    exact (h1.and h2).imp fun {a b} h => by have := h.1; have := h.2; omega
  exact up_one (fun z => by rw [(soI_perm is).mem_iff, ssI_mem, m]) pw (ssI_up _)
theorem sorted_dct {h : Hs} {n : Nat} {kvs : List (L2.Key × D)} {is : List Int} (e : h[n]? = some (.dct kvs)) (k : keysI kvs = some is) (l : is.length < 4096) : sortedG [.ref n] h = some (.ref h.length, h ++ [.lst ((soI is).map D.int)]) := by
  have g : getL h n = none := by unfold getL; rw [e]
  show (match getL h n with | some ds => _ | none => match h[n]? with | some (.dct kvs) => _ | _ => none) = _
  rw [g, e]
  simp only [k]
  exact if_pos l
theorem pairs_true : ∀ (xs : List Pc), ∃ kvs, pairsD (xs.map fun p => D.tup [.int p.a, .bl true]) = some kvs ∧ keysI kvs = some (xs.map (·.a)) ∧ kvs.length = xs.length
  | [] => ⟨[], rfl, rfl, rfl⟩
  | p :: xs => by
    obtain ⟨kvs, e1, e2, e3⟩ := pairs_true xs
    refine ⟨(.inl p.a, .bl true) :: kvs, ?_, ?_, by simp [e3]⟩
    · show (match keyOf (.int p.a), pairsD (xs.map fun p => D.tup [.int p.a, .bl true]) with | some q, some rs => some ((q, D.bl true) :: rs) | _, _ => none) = _
      rw [e1]
      rfl
    · show (match keysI kvs with | some is => some (p.a :: is) | none => none) = _
      rw [e2]
      rfl
theorem ev_update {h : Hs} {n m : Nat} {kvs more : List (L2.Key × D)} {ds : List D} (e1 : h[n]? = some (.dct kvs)) (e2 : getL h m = some ds) (e3 : pairsD ds = some more) (l : kvs.length + more.length ≤ sizeLine) : updateG (.ref n) [.ref m] h = some (.non, h.set n (.dct (mergeD kvs more))) := by
  show (match h[n]?, getL h m with | some (.dct kvs), some ds => _ | _, _ => none) = _
  rw [e1, e2]
  simp only [e3]
  exact if_pos l
theorem tyD_dct {h : Hs} {n : Nat} {kvs : List (L2.Key × D)} (a : h[n]? = some (.dct kvs)) : tyD "dict" h (.ref n) = true := by
  show (match h[n]? with | some (.lst _) => _ | some (.fz _) => _ | some (.dct _) => _ | _ => false) = _
  rw [a]; rfl
/-! a comprehension told by places -/
theorem wp_lcmapI {src : Src} {g : GG} {te : ME} {ρ : Rho} {h0 : Hs} {Q : D → Hs → Prop} (n : Nat) (F : Nat → D) (ln : n < sizeLine)
    (turn : ∀ i, i < n → ∀ h, KA h0 h → ∃ d ρ1, src i h = some (some d) ∧ g d ρ h = some (ρ1, h) ∧ WP (te ρ1 h) fun y h1 => y = F i ∧ KA h h1) (out : ∀ h, KA h0 h → src n h = some none) (fin : ∀ h, KA h0 h → Q (.ref h.length) (h ++ [.lst ((List.range n).map F)])) : WP (lcW src g tYes1 te ρ 0 [] h0) (Kn lstK Q) := by
  refine wp_lc n ln (fun i acc h => acc = (List.range i).map F ∧ KA h0 h) ⟨rfl, Keep.refl⟩ (fun i hi acc h _ p => ?_) (fun acc h _ p => ?_)
  · obtain ⟨rfl, k⟩ := p
    obtain ⟨d, ρ1, e1, e2, w⟩ := turn i hi h k
    refine ⟨d, ρ1, h, e1, e2, true, h, rfl, ?_⟩
    refine wp_mono w fun y h1 ⟨ey, k1⟩ => ⟨?_, k.trans k1⟩
    rw [ey, List.range_succ, List.map_append]
    rfl
  · obtain ⟨rfl, k⟩ := p
    exact ⟨out h k, fin h k⟩
theorem cut_last {ds : List D} {d : D} : cutD (ds ++ [d]) none (some (-1)) = ds := by
  unfold cutD
  have e1 : HT.sIx (ds ++ [d]).length 0 none = 0 := rfl
  have e2 : HT.sIx (ds ++ [d]).length (ds ++ [d]).length (some (-1)) = ds.length := by
    unfold HT.sIx
    simp
    try omega
  rw [e1, e2]
  simp
end SL
namespace SL
open RR PySem
/-! ### squared distances, turns: polys on the pieces -/
def pyD (p : Int × Int × Int) : D := .tup [.int p.1, .int p.2.1, .int p.2.2]
/-- the squared distance of two lines' places -/
def apF (p q : Pc) : Int × Int × Int := ((q.x - p.x) * (q.x - p.x) + (q.y - p.y) * (q.y - p.y), 2 * (q.u - p.u) * (q.x - p.x) + 2 * (q.v - p.v) * (q.y - p.y), (q.u - p.u) * (q.u - p.u) + (q.v - p.v) * (q.v - p.v))
/-- the turn from a place to two others -/
def tuF (p q r : Pc) : Int × Int × Int := ((q.x - p.x) * (r.y - p.y) - (q.y - p.y) * (r.x - p.x), (q.x - p.x) * (r.v - p.v) - (q.y - p.y) * (r.u - p.u) + (q.u - p.u) * (r.y - p.y) - (q.v - p.v) * (r.x - p.x), (q.u - p.u) * (r.v - p.v) - (q.v - p.v) * (r.u - p.u))
/-- rows with a poly each -/
def PD (ths : List Th) (f : Int → Int × Int × Int) : List D := (jts ths).map fun p => .tup [.int p.1, oD p.2, pyD (f p.1)]
def pcN (a : Th) (b : Int) : Pc := pcT a b none
structure PyOk (p : Int × Int × Int) : Prop where
  c : Bd 200 p.1
  b : Bd 200 p.2.1
  a : Bd 200 p.2.2
theorem PcOk.bu {p : Pc} (h : PcOk p) : Bd 10 p.u ∧ Bd 10 p.v := ⟨Bd.of_range (by have := h.u; omega) (by have := h.u; omega), Bd.of_range (by have := h.v; omega) (by have := h.v; omega)⟩
theorem apF_ok {p q : Pc} (h1 : PcOk p) (h2 : PcOk q) : PyOk (apF p q) := by
  obtain ⟨a1, a2⟩ := h1.bu
  obtain ⟨b1, b2⟩ := h2.bu
  have dx := Bd.sub h2.x h1.x
  have dy := Bd.sub h2.y h1.y
  have du := Bd.sub b1 a1
  have dv := Bd.sub b2 a2
  have two : Bd 2 (2 : Int) := Bd.lit 2 rfl
  exact ⟨(Bd.add (Bd.mul dx dx) (Bd.mul dy dy)).mono (by decide), (Bd.add (Bd.mul (Bd.mul two du) dx) (Bd.mul (Bd.mul two dv) dy)).mono (by decide), (Bd.add (Bd.mul du du) (Bd.mul dv dv)).mono (by decide)⟩
theorem tuF_ok {p q r : Pc} (h1 : PcOk p) (h2 : PcOk q) (h3 : PcOk r) : PyOk (tuF p q r) := by
  obtain ⟨a1, a2⟩ := h1.bu
  obtain ⟨b1, b2⟩ := h2.bu
  obtain ⟨c1, c2⟩ := h3.bu
  have dx := Bd.sub h2.x h1.x
  have dy := Bd.sub h2.y h1.y
  have du := Bd.sub b1 a1
  have dv := Bd.sub b2 a2
  have ex := Bd.sub h3.x h1.x
  have ey := Bd.sub h3.y h1.y
  have eu := Bd.sub c1 a1
  have ev := Bd.sub c2 a2
  exact ⟨(Bd.sub (Bd.mul dx ey) (Bd.mul dy ex)).mono (by decide), (Bd.sub (Bd.add (Bd.sub (Bd.mul dx ev) (Bd.mul dy eu)) (Bd.mul du ey)) (Bd.mul dv ex)).mono (by decide), (Bd.sub (Bd.mul du ev) (Bd.mul dv eu)).mono (by decide)⟩
theorem PD_dep {ths : List Th} {f : Int → Int × Int × Int} : deps 31 (PD ths f) = true := deps_map fun p _ => by
  show (dep 30 (D.int p.1) && (dep 30 (oD p.2) && true)) = true
  rw [dep_oD]
  rfl
theorem pyD_rp {p : Int × Int × Int} (h : PyOk p) : RpOk 650 (pd (pyD p)) := (RpOk.tup (.cons (.int h.c (by decide)) (.cons (.int h.b (by decide)) (.cons (.int h.a (by decide)) .nil)))).mono (by decide)
theorem PD_rp {ths : List Th} {f : Int → Int × Int × Int} (ok : ∀ a ∈ ths, ThOk a) (few : ths.length ≤ 12) (hf : ∀ b, 0 ≤ b → b < 2 ^ 31 → PyOk (f b)) : RpsOk 600000 (pds (PD ths f)) := by
  unfold PD
  rw [pds_map]
  refine (RpsOk.map (k := 800) (m := 145) (fun p hp => ?_) (jts_len ok few)).mono (by decide)
  have hp1 := jts_ok ok _ (zipU_mem hp)
  have e : pd (D.tup [.int p.1, oD p.2, pyD (f p.1)]) = .tuple [.int p.1, oP p.2, pd (pyD (f p.1))] := by
    show PyData.tuple [.int p.1, pd (oD p.2), _] = _
    rw [pd_oD]
  rw [e]
  refine (RpOk.tup (.cons (.int (k := 32) (Bd.of_range (by omega) (by omega)) (by decide)) (.cons (oP_rp fun e he => ?_) (.cons (pyD_rp (hf _ hp1.1 (by omega))) .nil)))).mono (by decide)
  have := jts_ok ok e (zipU_snd hp e he)
  omega
theorem repr_PD {h : Hs} {n : Nat} {ths : List Th} {f : Int → Int × Int × Int} (e : getL h n = some (PD ths f)) (ok : ∀ a ∈ ths, ThOk a) (few : ths.length ≤ 12) (hf : ∀ b, 0 ≤ b → b < 2 ^ 31 → PyOk (f b)) : reprG [.ref n] h = some (.str (PyData.list (pds (PD ths f))).shown, h) := repr_list e PD_dep (PD_rp ok few hf) (by decide)
end SL
namespace RR
/-! ### signs and orders by whole numbers -/
def isgn (n : Int) : Int := (if 0 < n then 1 else 0) - (if n < 0 then 1 else 0)
theorem isgn_eq (n : Int) : isgn n = n.sign := by
  unfold isgn
  rcases Int.lt_trichotomy n 0 with q | q | q
  · rw [Int.sign_eq_neg_one_of_neg q, if_neg (by omega), if_pos q]; rfl
  · subst q; rfl
  · rw [Int.sign_eq_one_of_pos q, if_pos q, if_neg (by omega)]; rfl
def lawS (p m d : Int) : Int := if m * m * d < p * p then (if 0 < p then 1 else -1) else isgn m
theorem lawS_eq {p m d : Int} (hd : 0 < d) (ns : ∀ r : Int, r * r ≠ d) (hm : m ≠ 0) : lawS p m d = sgR ((p : Rl) + (m : Rl) * rt d) := by
  rw [← sgnS_eq hd]
  have ne : p * p ≠ m * m * d := fun e => hm (no_root ns e)
  unfold lawS sgnS
  rw [isgn_eq]
  have md : 0 ≤ m * m * d := Int.mul_nonneg (by rw [← Int.natAbs_mul_self]; omega) (by omega)
  by_cases q : m * m * d < p * p
  · rw [if_pos q]
    have p0 : p ≠ 0 := fun z => by subst z; simp at q; omega
    have s1 : (p * p - m * m * d).sign = 1 := Int.sign_eq_one_of_pos (by omega)
    rcases Int.lt_or_gt_of_ne p0 with hp | hp
    · rw [Int.sign_eq_neg_one_of_neg hp, if_neg (by omega), s1]
      rcases Int.lt_or_gt_of_ne hm with h | h
      · rw [Int.sign_eq_neg_one_of_neg h]; decide
      · rw [Int.sign_eq_one_of_pos h]; decide
    · rw [Int.sign_eq_one_of_pos hp, if_pos hp, s1]
      rcases Int.lt_or_gt_of_ne hm with h | h
      · rw [Int.sign_eq_neg_one_of_neg h]; decide
      · rw [Int.sign_eq_one_of_pos h]; decide
  · rw [if_neg q]
    have s1 : (p * p - m * m * d).sign = -1 := Int.sign_eq_neg_one_of_neg (by omega)
    rw [s1]
    rcases Int.lt_trichotomy p 0 with hp | hp | hp
    · rw [Int.sign_eq_neg_one_of_neg hp]
      rcases Int.lt_or_gt_of_ne hm with h | h
      · rw [Int.sign_eq_neg_one_of_neg h]; decide
      · rw [Int.sign_eq_one_of_pos h]; decide
    · subst hp
      rcases Int.lt_or_gt_of_ne hm with h | h
      · rw [Int.sign_eq_neg_one_of_neg h]; decide
      · rw [Int.sign_eq_one_of_pos h]; decide
    · rw [Int.sign_eq_one_of_pos hp]
      rcases Int.lt_or_gt_of_ne hm with h | h
      · rw [Int.sign_eq_neg_one_of_neg h]; decide
      · rw [Int.sign_eq_one_of_pos h]; decide
/-- the law's sign at a root -/
def lawP (c b a low mid top : Int) : Int := 4 * top * top * c - 2 * top * mid * b + a * (mid * mid + (mid * mid - 4 * low * top))
def lawM (b a mid top w : Int) : Int := (2 * w - 1) * (2 * top * b - 2 * mid * a)
theorem disc_comm (low mid top : Int) : mid * mid - 4 * low * top = mid * mid - 4 * top * low := by
  rw [Int.mul_assoc, Int.mul_comm low top, ← Int.mul_assoc]
theorem lawP_eq {c b a low mid top w : Int} (h : (Tm.rt low mid top w).Nm) : ((lawP c b a low mid top : Int) : Rl) + (lawM b a mid top w : Int) * rt (mid * mid - 4 * low * top) = (4 * (top : Rl) * top) * pv c b a (Tm.rt low mid top w).val := by
  obtain ⟨h1, _, h3, _, h5⟩ := h
  have e1 := val_rt (c := low) (b := mid) (w := w) h1
  have hq := rt_sq (Int.le_of_lt h3)
  rw [disc_comm low mid top]
  rw [disc_cast] at hq
  generalize (Tm.rt low mid top w).val = x at *
  generalize RR.rt (mid * mid - 4 * top * low) = s at *
  have ss := side_sq h5
  have hS : (2 * (w : Rl) - 1) * s = 2 * top * x + mid := e1.symm
  have hSS : (2 * (top : Rl) * x + mid) * (2 * top * x + mid) = (mid : Rl) * mid - 4 * top * low := by
    rw [← hS, ← hq]
    have : (2 * (w : Rl) - 1) * s * ((2 * w - 1) * s) = ((2 * (w : Rl) - 1) * (2 * w - 1)) * (s * s) := by grind
    rw [this, ss]; grind
  unfold lawP lawM pv
  simp only [cast_sub, cast_mul, cast_add, show ((2 : Int) : Rl) = 2 from rfl, show ((1 : Int) : Rl) = 1 from rfl, show ((4 : Int) : Rl) = 4 from rfl]
  have e : (2 * (w : Rl) - 1) * (2 * top * b - 2 * mid * a) * s = ((2 * (w : Rl) - 1) * s) * (2 * top * b - 2 * mid * a) := by grind
  rw [e, hS]
  grind
def lawG (c b a low mid top w : Int) : Int := if lawM b a mid top w = 0 then isgn (lawP c b a low mid top) else lawS (lawP c b a low mid top) (lawM b a mid top w) (mid * mid - 4 * low * top)
theorem lawG_eq {c b a low mid top w : Int} (h : (Tm.rt low mid top w).Nm) : lawG c b a low mid top w = sgR (pv c b a (Tm.rt low mid top w).val) := by
  have e := lawP_eq (c := c) (b := b) (a := a) h
  obtain ⟨h1, _, h3, h4, h5⟩ := h
  have tp := cast_pos h1
  have p4 : 0 < 4 * (top : Rl) * top := by
    have := mul_pos tp tp
    grind
  rw [← sg_mul_pos (x := pv c b a (Tm.rt low mid top w).val) p4, ← e]
  rw [← disc_comm low mid top] at h3 h4
  unfold lawG
  by_cases q : lawM b a mid top w = 0
  · rw [if_pos q, q, isgn_eq, ← sg_int]
    congr 1
    rw [cast_zero]; grind
  · rw [if_neg q]
    exact lawS_eq h3 h4 q
/-- two roots -/
theorem sg_cmp {x y : Rl} (h : sgR x ≠ sgR y) : sgR (x - y) = (if sgR y < sgR x then 1 else 0) - (if sgR x < sgR y then 1 else 0) := by
  rcases tri x with a | a | a <;> rcases tri y with b | b | b
  · rw [sg_pos a, sg_pos b] at h; exact absurd rfl h
  · rw [sg_pos a, sg_neg b, sg_pos (by grind)]; rfl
  · rw [sg_pos a, b, sg_zero, sg_pos (by grind)]; rfl
  · rw [sg_neg a, sg_pos b, sg_neg (by grind)]; rfl
  · rw [sg_neg a, sg_neg b] at h; exact absurd rfl h
  · rw [sg_neg a, b, sg_zero, sg_neg (by grind)]; rfl
  · rw [a, sg_zero, sg_pos b, sg_neg (by grind)]; rfl
  · rw [a, sg_zero, sg_neg b, sg_pos (by grind)]; rfl
  · rw [a, b] at h; exact absurd rfl h
theorem sg_alike {x y : Rl} (h : sgR x = sgR y) : sgR (x - y) = sgR x * sgR (x * x - y * y) := by
  have e : x * x - y * y = (x + y) * (x - y) := by grind
  rcases tri x with a | a | a
  · rw [sg_pos a] at h
    have b := sg_pos_iff.mp h.symm
    rw [sg_pos a, e, sg_mul_pos (by grind)]; omega
  · rw [sg_neg a] at h
    have b := sg_neg_iff.mp h.symm
    have e2 : x * x - y * y = -((-(x + y)) * (x - y)) := by grind
    rw [sg_neg a, e2, sg_neg', sg_mul_pos (by grind)]; omega
  · rw [a, sg_zero] at h
    have b := sg_zero_iff.mp h.symm
    rw [a, b]
    have : (0 : Rl) - 0 = 0 := by grind
    rw [this, sg_zero, Int.zero_mul]
def ordP (mid top middle most : Int) : Int := middle * top - mid * most
def ordR (low mid top w least middle most w' : Int) : Int := ordP mid top middle most * ordP mid top middle most + (2 * w - 1) * most * ((2 * w - 1) * most) * (mid * mid - 4 * low * top) - (2 * w' - 1) * top * ((2 * w' - 1) * top) * (middle * middle - 4 * least * most)
def ordF (low mid top w least middle most w' : Int) : Int :=
  if lawS (ordP mid top middle most) ((2 * w - 1) * most) (mid * mid - 4 * low * top) ≠ isgn ((2 * w' - 1) * top) then
    (if isgn ((2 * w' - 1) * top) < lawS (ordP mid top middle most) ((2 * w - 1) * most) (mid * mid - 4 * low * top) then 1 else 0) - (if lawS (ordP mid top middle most) ((2 * w - 1) * most) (mid * mid - 4 * low * top) < isgn ((2 * w' - 1) * top) then 1 else 0)
  else if ordP mid top middle most = 0 then lawS (ordP mid top middle most) ((2 * w - 1) * most) (mid * mid - 4 * low * top) * isgn (ordR low mid top w least middle most w')
  else lawS (ordP mid top middle most) ((2 * w - 1) * most) (mid * mid - 4 * low * top) * lawS (ordR low mid top w least middle most w') (2 * ordP mid top middle most * ((2 * w - 1) * most)) (mid * mid - 4 * low * top)
theorem side_ne {w : Int} (h : w = 0 ∨ w = 1) : 2 * w - 1 ≠ 0 := by rcases h with rfl | rfl <;> decide
theorem ordF_eq {low mid top w least middle most w' : Int} (h : (Tm.rt low mid top w).Nm) (k : (Tm.rt least middle most w').Nm) : ordF low mid top w least middle most w' = sgR ((Tm.rt low mid top w).val - (Tm.rt least middle most w').val) := by
  obtain ⟨h1, _, h3, h4, h5⟩ := h
  obtain ⟨k1, _, k3, k4, k5⟩ := k
  have e1 := val_rt (c := low) (b := mid) (w := w) h1
  have e2 := val_rt (c := least) (b := middle) (w := w') k1
  have q1 := rt_sq (Int.le_of_lt h3)
  have q2 := rt_sq (Int.le_of_lt k3)
  have s2 := rt_pos k3
  rw [← disc_comm low mid top] at h3 h4 e1 q1
  rw [← disc_comm least middle most] at e2 q2 k3 k4 s2
  have tp := cast_pos h1
  have mp := cast_pos k1
  have m0 : (2 * w - 1) * most ≠ 0 := Int.mul_ne_zero (side_ne h5) (by omega)
  have L := lawS_eq (p := ordP mid top middle most) h3 h4 m0
  have R : isgn ((2 * w' - 1) * top) = sgR (((2 * w' - 1) * top : Int) * rt (middle * middle - 4 * least * most)) := by
    rw [isgn_eq, show ((((2 * w' - 1) * top : Int) : Rl) * rt (middle * middle - 4 * least * most)) = rt (middle * middle - 4 * least * most) * ((((2 * w' - 1) * top : Int)) : Rl) by grind, sg_mul_pos s2, sg_int]
  have D : (2 * (top : Rl) * most) * ((Tm.rt low mid top w).val - (Tm.rt least middle most w').val) = ((ordP mid top middle most : Int) : Rl) + (((2 * w - 1) * most : Int) : Rl) * rt (mid * mid - 4 * low * top) - (((2 * w' - 1) * top : Int) : Rl) * rt (middle * middle - 4 * least * most) := by
    unfold ordP
    simp only [cast_sub, cast_mul, show ((2 : Int) : Rl) = 2 from rfl, show ((1 : Int) : Rl) = 1 from rfl]
    generalize (Tm.rt low mid top w).val = x at *
    generalize (Tm.rt least middle most w').val = y at *
    generalize RR.rt (mid * mid - 4 * low * top) = r1 at *
    generalize RR.rt (middle * middle - 4 * least * most) = r2 at *
    have f1 : (2 * (w : Rl) - 1) * most * r1 = most * ((2 * w - 1) * r1) := by grind
    have f2 : (2 * (w' : Rl) - 1) * top * r2 = top * ((2 * w' - 1) * r2) := by grind
    rw [f1, f2, ← e1, ← e2]
    grind
  have p2 : 0 < 2 * (top : Rl) * most := by
    have := mul_pos tp mp
    grind
  rw [← sg_mul_pos (x := (Tm.rt low mid top w).val - (Tm.rt least middle most w').val) p2, D]
  unfold ordF
  rw [L, R]
  generalize hu : ((ordP mid top middle most : Int) : Rl) + (((2 * w - 1) * most : Int) : Rl) * rt (mid * mid - 4 * low * top) = u at *
  generalize hv : (((2 * w' - 1) * top : Int) : Rl) * rt (middle * middle - 4 * least * most) = v at *
  by_cases q : sgR u = sgR v
  · rw [if_neg (by simpa using q), sg_alike q]
    have sq : u * u - v * v = ((ordR low mid top w least middle most w' : Int) : Rl) + ((2 * ordP mid top middle most * ((2 * w - 1) * most) : Int) : Rl) * rt (mid * mid - 4 * low * top) := by
      rw [← hu, ← hv]
      unfold ordR
      simp only [cast_sub, cast_mul, cast_add, show ((2 : Int) : Rl) = 2 from rfl, show ((1 : Int) : Rl) = 1 from rfl, show ((4 : Int) : Rl) = 4 from rfl] at q1 q2 ⊢
      generalize RR.rt (mid * mid - 4 * low * top) = r1 at *
      generalize RR.rt (middle * middle - 4 * least * most) = r2 at *
      generalize ((ordP mid top middle most : Int) : Rl) = P
      rw [← q1, ← q2]
      grind
    by_cases z : ordP mid top middle most = 0
    · rw [if_pos z, sq, z, isgn_eq, ← sg_int]
      congr 2
      rw [Int.mul_zero, Int.zero_mul, cast_zero]
      grind
    · rw [if_neg z, sq]
      congr 1
      exact lawS_eq h3 h4 (Int.mul_ne_zero (Int.mul_ne_zero (by decide) z) m0)
  · rw [if_pos q, sg_cmp q]
end RR
namespace K22
open SL RR
local macro_rules | `(tactic| walk_at "bd") => `(tactic| (first
  | assumption
  | (with_reducible apply Bd.add <;> walk_at "bd")
  | (with_reducible apply Bd.sub <;> walk_at "bd")
  | (with_reducible apply Bd.mul <;> walk_at "bd")
  | (with_reducible apply Bd.neg <;> walk_at "bd")
  | (with_reducible apply Bd.fdiv <;> walk_at "bd")
  | (with_reducible apply Bd.ite <;> walk_at "bd")
  | (with_reducible apply Bd.sign)
  | exact Bd.lit 64 rfl
  | exact Bd.lit 250 rfl))
local macro_rules | `(tactic| walk_at "dis") => `(tactic| (first
  | assumption
  | (with_reducible apply MOk.of <;> first | (walk_at "bd"; done) | exact Nat.le_of_ble_eq_true rfl)
  | (with_reducible apply Bd.mono <;> first | (walk_at "bd"; done) | exact Nat.le_of_ble_eq_true rfl)
  | (with_reducible apply DOk.of <;> first | (walk_at "bd"; done) | omega | exact Nat.le_of_ble_eq_true rfl)
  | omega))
local macro_rules | `(tactic| walk_at "ev") => `(tactic| simp (disch := walk_at "dis") only [ev_var0, ev_varS, ev_c, ev_op, ev_opK, ev_un, ev_call, ev_nil, ev_cons, ev_acK, ev_consK, ev_tup, ev_tupK, ev_lst, ev_lstK, ev_ifE, ev_ifS, ev_ifKT, ev_ifKF, ev_ifK, ev_ifKN,
  ev_tV, ev_tvK, ev_tTru, ev_truB, ev_truN, ev_truI, ev_and, ev_or, ev_not, ev_notK, ev_andT, ev_andF, ev_orT, ev_orF, ev_andK, ev_andKN, ev_orK, ev_orKN, ev_eAnd, ev_eOr, ev_eNot, ev_eNotB, ev_eAndT, ev_eAndF, ev_eAndB, ev_eAndBN, ev_eOrT, ev_eOrF, ev_eOrN, ev_eOrB, ev_eOrBN,
  ev_chain, ev_chK1, ev_chK2, ev_chK3, ev_chK3T, ev_chK3F, ev_seq, ev_thn, ev_thnR, ev_thnB, ev_thnC, ev_next, ev_break, ev_cont, ev_ret, ev_retK, ev_retN, ev_expr, ev_exprK, ev_asg, ev_asgK, ev_nxK, ev_gNm, ev_gTp, ev_gsNil, ev_gsCons, ev_gsK, ev_gSb, ev_gSbK1, ev_par, ev_parK2, ev_parK3, ev_mt,
  ev_add, ev_sub, ev_mul, ev_fdiv, ev_mod, ev_pow, ev_shl, ev_neg, ev_lt, ev_le, ev_gt, ev_ge, ev_eqI, ev_neI, ev_abs, ev_intB, ev_intI, ev_minI, ev_maxI, ev_bits, ev_get0, ev_get1, ev_get2, bd_ok, bd_none, ev_whT, ev_whF, ev_whD, ev_wh2, ev_wh2c, ev_wh2r, ev_wh2b, ev_for, ev_forK, ev_fr1, ev_fr2, ev_fr2c, ev_fr2r, ev_fr2b, ev_lc, ev_lcK, ev_lc1, ev_lc2T, ev_lc2F, ev_lc2D, ev_yes, ev_iSeq, ev_seqT, ev_seqS, ev_iRange, ev_iEnum, ev_iZip,
  ev_neIS, ev_eqIS, ev_neSS, ev_eqSS, ev_isN, ev_isNot, isNon_t, isNon_n, isNon_i, isNon_r, decide_true, decide_false, decide_eq_true_eq, eq_self, if_true, if_false,
  out_rt, out_nx, List.map_cons, List.map_nil, List.cons_append, List.nil_append, List.replicate, List.set_cons_zero, List.set_cons_succ, Nat.reduceSub, Int.reduceEq, Int.reduceLT, Int.reduceLE, Int.reduceMul, Int.reduceAdd, Int.reduceSub, Bool.not_true, Bool.not_false])
local macro_rules | `(tactic| walk_at "go") => `(tactic| repeat (first | walk_at "ev" | walk_at "fs"))
noncomputable abbrev m__law_beside_I2t : MS := (sRet (eTup (aCons (eVar 1) (aCons (eCall f__law_brought (aCons (eOp addG (eVar 4) (eOp mulG (eC (.int 3)) (eOp fdivG (eVar 3) (eC (.int 5))))) (aCons (eOp powG (eC (.int 10)) (eC (.int 6))) aNil))) (aCons (eCall f__law_brought (aCons (eOp subG (eVar 5) (eOp mulG (eC (.int 4)) (eOp fdivG (eVar 3) (eC (.int 5))))) (aCons (eOp powG (eC (.int 10)) (eC (.int 6))) aNil))) (aCons (eVar 6) aNil))))))
noncomputable abbrev m__law_rows_L1 : MS := (sSeq (sAsg (eOp addG (eOp addG (eVar 3) (eCall f__law_draw (aCons (eVar 0) (aCons (eVar 1) aNil)))) (eCall intG (aCons (eOp gtG (eVar 5) (eC (.int 0))) aNil))) (gNm 3)) (sExpr (eMt "list" appendG (eVar 4) (aCons (eTup (aCons (eVar 3) (aCons (eOp subG (eCall f__law_draw (aCons (eVar 0) (aCons (eOp addG (eOp mulG (eC (.int 2)) (eVar 2)) (eC (.int 1))) aNil))) (eVar 2)) (aCons (eOp subG (eCall f__law_draw (aCons (eVar 0) (aCons (eOp addG (eOp mulG (eC (.int 2)) (eVar 2)) (eC (.int 1))) aNil))) (eVar 2)) aNil)))) aNil))))
noncomputable abbrev m__law_things_L1 : MS := (sSeq (sAsg (eMt "list" popG (eVar 3) (aCons (eCall f__law_draw (aCons (eVar 0) (aCons (eCall lenG (aCons (eVar 3) aNil)) aNil))) aNil)) (gNm 6)) (sIf (tAnd2 (tV (eOp neG (eVar 4) (eLst aNil))) (tV (eOp eqG (eCall f__law_draw (aCons (eVar 0) (aCons (eC (.int 2)) aNil))) (eC (.int 1))))) (sExpr (eMt "list" appendG (eVar 4) (aCons (eCall f__law_beside (aCons (eVar 0) (aCons (eVar 6) (aCons (eCall f__law_of (aCons (eVar 0) (aCons (eVar 4) aNil))) (aCons (eOp addG (eVar 2) (eCall f__law_of (aCons (eVar 0) (aCons (eLst (aCons (eC (.int 0)) (aCons (eC (.int 0)) (aCons (eC (.int 0)) (aCons (eC (.int 1)) (aCons (eUn negG (eC (.int 1))) aNil)))))) aNil)))) aNil))))) aNil))) (sSeq (sAsg (eCall f__law_of (aCons (eVar 0) (aCons (eLst (aCons (eC (.int 5)) (aCons (eC (.int 12)) (aCons (eC (.int 12)) (aCons (eC (.int 60)) (aCons (eC (.int 1000)) (aCons (eOp powG (eC (.int 10)) (eC (.int 6))) aNil))))))) aNil))) (gNm 7)) (sSeq (sPar [8, 9] (aCons (eOp subG (eCall f__law_draw (aCons (eVar 0) (aCons (eOp addG (eOp mulG (eC (.int 2)) (eVar 7)) (eC (.int 1))) aNil))) (eVar 7)) (aCons (eOp subG (eCall f__law_draw (aCons (eVar 0) (aCons (eOp addG (eOp mulG (eC (.int 2)) (eVar 7)) (eC (.int 1))) aNil))) (eVar 7)) aNil))) (sExpr (eMt "list" appendG (eVar 4) (aCons (eTup (aCons (eVar 6) (aCons (eVar 8) (aCons (eVar 9) (aCons (eCall f__law_rows (aCons (eVar 0) aNil)) aNil))))) aNil)))))))
noncomputable abbrev m__law_things_I1t : MS := (sExpr (eMt "list" appendG (eVar 4) (aCons (eCall f__law_beside (aCons (eVar 0) (aCons (eVar 6) (aCons (eCall f__law_of (aCons (eVar 0) (aCons (eVar 4) aNil))) (aCons (eOp addG (eVar 2) (eCall f__law_of (aCons (eVar 0) (aCons (eLst (aCons (eC (.int 0)) (aCons (eC (.int 0)) (aCons (eC (.int 0)) (aCons (eC (.int 1)) (aCons (eUn negG (eC (.int 1))) aNil)))))) aNil)))) aNil))))) aNil)))
noncomputable abbrev m__law_things_I1e : MS := (sSeq (sAsg (eCall f__law_of (aCons (eVar 0) (aCons (eLst (aCons (eC (.int 5)) (aCons (eC (.int 12)) (aCons (eC (.int 12)) (aCons (eC (.int 60)) (aCons (eC (.int 1000)) (aCons (eOp powG (eC (.int 10)) (eC (.int 6))) aNil))))))) aNil))) (gNm 7)) (sSeq (sPar [8, 9] (aCons (eOp subG (eCall f__law_draw (aCons (eVar 0) (aCons (eOp addG (eOp mulG (eC (.int 2)) (eVar 7)) (eC (.int 1))) aNil))) (eVar 7)) (aCons (eOp subG (eCall f__law_draw (aCons (eVar 0) (aCons (eOp addG (eOp mulG (eC (.int 2)) (eVar 7)) (eC (.int 1))) aNil))) (eVar 7)) aNil))) (sExpr (eMt "list" appendG (eVar 4) (aCons (eTup (aCons (eVar 6) (aCons (eVar 8) (aCons (eVar 9) (aCons (eCall f__law_rows (aCons (eVar 0) aNil)) aNil))))) aNil)))))
noncomputable abbrev m__law_begins_L1 : MS := (sAsg (eOp addG (eVar 1) (eLc (iSeq (eOp subG' (eVar 2) (eC (.int 3)))) (gNm 3) tYes1 (eOp subG' (eVar 3) (eC (.int 0))) [3])) (gNm 1))
noncomputable abbrev m__law_common_L1 : MS := (sSeq (sPar [3, 4] (aCons (eVar 1) (aCons (eCall absG (aCons (eVar 2) aNil)) aNil))) (sSeq (sWh (tV (eOp gtG (eVar 4) (eC (.int 0)))) (sPar [3, 4] (aCons (eVar 4) (aCons (eOp modG (eVar 3) (eVar 4)) aNil)))) (sAsg (eVar 3) (gNm 1))))
noncomputable abbrev m__law_common_L2 : MS := (sPar [3, 4] (aCons (eVar 4) (aCons (eOp modG (eVar 3) (eVar 4)) aNil)))
noncomputable abbrev m__law_is_square_L1 : MS := (sSeq (sAsg (eVar 2) (gNm 1)) (sAsg (eOp fdivG (eOp addG (eVar 1) (eOp fdivG (eVar 0) (eVar 1))) (eC (.int 2))) (gNm 2)))
noncomputable abbrev m__law_sign_I1t : MS := (sSeq (sAsg (eVar 1) (gTp (gsCons (gNm 5) (gsCons (gNm 6) gsNil)))) (sSeq (sAsg (eOp addG (eOp mulG (eOp mulG (eVar 2) (eVar 6)) (eVar 6)) (eOp mulG (eVar 5) (eOp addG (eOp mulG (eVar 3) (eVar 6)) (eOp mulG (eVar 4) (eVar 5))))) (gNm 7)) (sRet (eOp subG (eCall intG (aCons (eOp gtG (eVar 7) (eC (.int 0))) aNil)) (eCall intG (aCons (eOp ltG (eVar 7) (eC (.int 0))) aNil))))))
noncomputable abbrev m__law_is_time_I2t : MS := (sSeq (sAsg (eAnd2 (eCall allG (aCons (eLc (iSeq (eVar 0)) (gNm 3) tYes1 (eCall f__law_whole (aCons (eVar 3) aNil)) [3]) aNil)) (eAnd2 (eOp gtG (eOp subG' (eVar 0) (eC (.int 1))) (eC (.int 0))) (eOp geG (eOp subG' (eVar 0) (eC (.int 0))) (eC (.int 0))))) (gNm 1)) (sRet (eAnd2 (eVar 1) (eOp eqG (eCall f__law_common (aCons (eVar 0) aNil)) (eC (.int 1))))))
noncomputable abbrev m__law_a_time_L1 : MS := (sSeq (sAsg (eCall f__law_common (aCons (eVar 8) aNil)) (gNm 3)) (sSeq (sAsg (eTup (aCons (eC (.str "root")) (aCons (eCall tupleG (aCons (eLc (iSeq (eVar 8)) (gNm 10) tYes1 (eOp fdivG (eVar 10) (eVar 3)) [10]) aNil)) (aCons (eVar 7) aNil)))) (gNm 9)) (sAsg (eOp addG (eVar 4) (eOp mulG (eLst (aCons (eVar 9) (aCons (eVar 9) aNil))) (eCall intG (aCons (eCall f__law_is_time (aCons (eVar 9) aNil)) aNil)))) (gNm 4))))
noncomputable abbrev m_thing_of_L1 : MS := (sIf (tAnd2 (tTru (eCall isiG (aCons (eVar 1) (aCons (eC (.ty "str")) aNil)))) (tV (eOp eqG (eOp subG' (eVar 2) (eC (.int 0))) (eVar 1)))) (sRet (eVar 2)) sNext)
noncomputable abbrev m_common_divisor_L1 : MS := (sPar [0, 1] (aCons (eVar 1) (aCons (eOp modG (eVar 0) (eVar 1)) aNil)))
noncomputable abbrev m_whole_root_L1 : MS := (sAsg (eOp mulG (eVar 2) (eC (.int 2))) (gNm 2))
noncomputable abbrev m_whole_root_L2 : MS := (sSeq (sAsg (eOp fdivG (eOp addG (eVar 1) (eVar 2)) (eC (.int 2))) (gNm 3)) (sIf (tV (eOp leG (eOp mulG (eVar 3) (eVar 3)) (eVar 0))) (sAsg (eVar 3) (gNm 1)) (sAsg (eVar 3) (gNm 2))))
noncomputable abbrev m_way_of_L1 : MS := (sSeq (sIf (tOr2 (tV (eOp isG (eVar 8) (eC .non))) (tV (eOp gtG (eVar 8) (eVar 6)))) (sSeq (sAsg (eTup (aCons (eTup (aCons (eOp subG (eVar 2) (eOp mulG (eOp subG' (eVar 7) (eC (.int 0))) (eVar 6))) (aCons (eOp subG' (eVar 7) (eC (.int 0))) (aCons (eC (.int 0)) aNil)))) (aCons (eTup (aCons (eOp subG (eVar 3) (eOp mulG (eOp subG' (eVar 7) (eC (.int 1))) (eVar 6))) (aCons (eOp subG' (eVar 7) (eC (.int 1))) (aCons (eC (.int 0)) aNil)))) aNil))) (gNm 11)) (sExpr (eMt "list" appendG (eVar 5) (aCons (eTup (aCons (eVar 6) (aCons (eVar 8) (aCons (eVar 11) aNil)))) aNil)))) sNext) (sSeq (sIf (tV (eOp isNotG (eVar 8) (eC .non))) (sSeq (sAsg (eOp addG (eVar 2) (eOp mulG (eOp subG' (eVar 7) (eC (.int 0))) (eOp subG (eVar 8) (eVar 6)))) (gNm 2)) (sSeq (sAsg (eOp addG (eVar 3) (eOp mulG (eOp subG' (eVar 7) (eC (.int 1))) (eOp subG (eVar 8) (eVar 6)))) (gNm 3)) (sAsg (eVar 8) (gNm 6)))) sNext) (sAsg (eTup (aCons (eVar 9) (aCons (eVar 10) aNil))) (gNm 7))))
noncomputable abbrev m_way_of_I1t : MS := (sSeq (sAsg (eTup (aCons (eTup (aCons (eOp subG (eVar 2) (eOp mulG (eOp subG' (eVar 7) (eC (.int 0))) (eVar 6))) (aCons (eOp subG' (eVar 7) (eC (.int 0))) (aCons (eC (.int 0)) aNil)))) (aCons (eTup (aCons (eOp subG (eVar 3) (eOp mulG (eOp subG' (eVar 7) (eC (.int 1))) (eVar 6))) (aCons (eOp subG' (eVar 7) (eC (.int 1))) (aCons (eC (.int 0)) aNil)))) aNil))) (gNm 11)) (sExpr (eMt "list" appendG (eVar 5) (aCons (eTup (aCons (eVar 6) (aCons (eVar 8) (aCons (eVar 11) aNil)))) aNil))))
noncomputable abbrev m_sign_at_I1t : MS := (sSeq (sAsg (eVar 1) (gTp (gsCons (gNm 2) (gsCons (gNm 3) gsNil)))) (sRet (eCall f_sign_of (aCons (eOp addG (eOp mulG (eOp addG (eOp mulG (eOp subG' (eVar 0) (eC (.int 2))) (eVar 2)) (eOp mulG (eOp subG' (eVar 0) (eC (.int 1))) (eVar 3))) (eVar 2)) (eOp mulG (eOp mulG (eOp subG' (eVar 0) (eC (.int 0))) (eVar 3)) (eVar 3))) aNil))))
noncomputable abbrev m_place_in_L1 : MS := (sIf (tOr2 (tV (eOp isG (eVar 2) (eC .non))) (tV (eOp geG (eCall f_compare (aCons (eVar 1) (aCons (eTup (aCons (eVar 3) (aCons (eC (.int 1)) aNil))) aNil))) (eC (.int 0))))) (sAsg (eVar 5) (gNm 2)) sNext)
noncomputable abbrev m__law_place_L1 : MS := (sSeq (sAsg (eIf (tV (eOp ltG (eOp addG (eVar 5) (eC (.int 1))) (eCall lenG (aCons (eVar 4) aNil)))) (eOp subG' (eOp subG' (eVar 4) (eOp addG (eVar 5) (eC (.int 1)))) (eC (.int 0))) (eVar 1)) (gNm 9)) (sSeq (sAsg (eCall maxG (aCons (eC (.int 0)) (aCons (eOp subG (eCall minG (aCons (eVar 9) (aCons (eVar 1) aNil))) (eVar 6)) aNil))) (gNm 10)) (sSeq (sAsg (eOp addG (eVar 2) (eOp mulG (eVar 7) (eVar 10))) (gNm 2)) (sAsg (eOp addG (eVar 3) (eOp mulG (eVar 8) (eVar 10))) (gNm 3)))))
noncomputable abbrev m__law_where_I1t : MS := (sSeq (sAsg (eOp subG' (eLc (iSeq (eCall f__law_begins (aCons (eLst (aCons (eVar 0) aNil)) aNil))) (gNm 7) (tV (eOp ltG (eCall f__law_order (aCons (eTup (aCons (eVar 7) (aCons (eC (.int 1)) aNil))) (aCons (eVar 1) aNil))) (eC (.int 0)))) (eVar 7) [7]) (eUn negG (eC (.int 1)))) (gNm 2)) (sRet (eCall f__law_lines (aCons (eVar 0) (aCons (eVar 2) aNil)))))
noncomputable abbrev m_law_L1 : MS := (sFor (iSeq (eVar 2)) (gNm 8) (sFor (iRange (aCons (eC (.int 2)) aNil)) (gNm 9) (sIf (tV (eOp neG (eCall reprG (aCons (eCall f_place_at (aCons (eVar 3) (aCons (eOp subG' (eVar 8) (eC (.int 0))) (aCons (eVar 7) aNil)))) aNil)) (eCall reprG (aCons (eCall f__law_where (aCons (eVar 8) (aCons (eVar 7) aNil))) aNil)))) (sRet (eC (.bl false))) sNext)))
noncomputable abbrev m_law_L2 : MS := (sFor (iRange (aCons (eC (.int 2)) aNil)) (gNm 9) (sIf (tV (eOp neG (eCall reprG (aCons (eCall f_place_at (aCons (eVar 3) (aCons (eOp subG' (eVar 8) (eC (.int 0))) (aCons (eVar 7) aNil)))) aNil)) (eCall reprG (aCons (eCall f__law_where (aCons (eVar 8) (aCons (eVar 7) aNil))) aNil)))) (sRet (eC (.bl false))) sNext))
noncomputable abbrev m_law_L3 : MS := (sIf (tV (eOp neG (eCall reprG (aCons (eCall f_place_at (aCons (eVar 3) (aCons (eOp subG' (eVar 8) (eC (.int 0))) (aCons (eVar 7) aNil)))) aNil)) (eCall reprG (aCons (eCall f__law_where (aCons (eVar 8) (aCons (eVar 7) aNil))) aNil)))) (sRet (eC (.bl false))) sNext)
theorem sign_of_eq (n : Int) (h : Hs) : f_sign_of [.int n] h = some (.int n.sign, h) := by
  have : f_sign_of [.int n] h = some (.int ((if decide (0 < n) = true then 1 else 0) - (if decide (n < 0) = true then 1 else 0)), h) := rfl
  rw [this]
  rcases Int.lt_trichotomy n 0 with q | q | q
  · simp [q, Int.not_lt.mpr (Int.le_of_lt q), Int.sign_eq_neg_one_of_neg q]
  · simp [q]
  · simp [q, Int.not_lt.mpr (Int.le_of_lt q), Int.sign_eq_one_of_pos q]
local macro_rules | `(tactic| walk_at "fs") => `(tactic| simp only [sign_of_eq])
theorem inner_eq (c b a : Int) (h : Hs) (hc : Bd 100000 c) (hb : Bd 100000 b) (ha : Bd 100000 a) :
    f_inner [.tup [.int c, .int b, .int a]] h = some (.int (b * b - 4 * a * c), h) := by
  unfold f_inner
  rw [runB_ok (by rfl)]
  unfold m_inner
  walk_at "go"
local macro_rules | `(tactic| walk_at "fs") => `(tactic| simp (disch := walk_at "dis") only [inner_eq])
theorem sign_of_sum_eq (p m d : Int) (h : Hs) (hp : Bd 400000 p) (hm : Bd 400000 m) (hd : Bd 400000 d) :
    f_sign_of_sum [.int p, .int m, .int d] h = some (.int (RR.sgnS p m d), h) := by
  unfold f_sign_of_sum RR.sgnS
  rw [runB_ok (by rfl)]
  unfold m_sign_of_sum
  walk_at "go"
  by_cases q : 0 ≤ p.sign * m.sign
  · simp only [if_pos q]
    walk_at "go"
  · simp only [if_neg q]
    walk_at "go"
local macro_rules | `(tactic| walk_at "fs") => `(tactic| simp (disch := walk_at "dis") only [sign_of_sum_eq])
theorem sign_at_fr (c b a p q : Int) (h : Hs) (hc : Bd 100000 c) (hb : Bd 100000 b) (ha : Bd 100000 a) (hp : Bd 100000 p) (hq : Bd 100000 q) :
    f_sign_at [.tup [.int c, .int b, .int a], .tup [.int p, .int q]] h = some (.int ((a * p + b * q) * p + c * q * q).sign, h) := by
  unfold f_sign_at
  rw [runB_ok (by rfl)]
  unfold m_sign_at
  walk_at "go"
theorem sign_at_rt (p0 p1 p2 c b a w : Int) (h : Hs) (h0 : Bd 50000 p0) (h1 : Bd 50000 p1) (h2 : Bd 50000 p2) (hc : Bd 50000 c) (hb : Bd 50000 b) (ha : Bd 50000 a) (hw : Bd 10 w) :
    f_sign_at [.tup [.int p0, .int p1, .int p2], .tup [.str "root", .tup [.int c, .int b, .int a], .int w]] h =
      some (.int (RR.sgnS (2 * a * (p0 * a - p2 * c) - (p1 * a - p2 * b) * b) ((p1 * a - p2 * b) * (2 * w - 1)) (b * b - 4 * a * c)), h) := by
  unfold f_sign_at
  rw [runB_ok (by rfl)]
  unfold m_sign_at
  walk_at "go"
theorem sign_at_tm (c b a : Int) (t : Tm) (h : Hs) (hc : Bd 40000 c) (hb : Bd 40000 b) (ha : Bd 40000 a) (ht : t.Nm) (tb : TB 20000 t) :
    f_sign_at [.tup [.int c, .int b, .int a], TD t] h = some (.int (sgR (pv c b a t.val)), h) := by
  rw [← Tm.sg_eq ht]
  cases t with
  | fr p q => exact sign_at_fr c b a p q h (hc.mono (by decide)) (hb.mono (by decide)) (ha.mono (by decide)) (tb.1.mono (by decide)) (tb.2.mono (by decide))
  | rt c' b' a' w => exact sign_at_rt c b a c' b' a' w h (hc.mono (by decide)) (hb.mono (by decide)) (ha.mono (by decide)) (tb.1.mono (by decide)) (tb.2.1.mono (by decide)) (tb.2.2.mono (by decide)) (bd_w ht.2.2.2.2)
local macro_rules | `(tactic| walk_at "fs") => `(tactic| simp (disch := walk_at "dis") only [sign_at_tm])
theorem sg_bd (x : RR.Rl) : Bd 10 (sgR x) := by
  rcases RR.tri x with q | q | q
  · rw [sg_pos q]; exact Bd.lit 10 rfl
  · rw [sg_neg q]; exact Bd.lit 10 rfl
  · rw [q, sg_zero]; exact Bd.lit 10 rfl
local macro_rules | `(tactic| walk_at "bd") => `(tactic| with_reducible apply sg_bd)
theorem side_of_eq (c b a : Int) (t : Tm) (h : Hs) (hb : Bd 20000 b) (ha : Bd 20000 a) (ht : t.Nm) (tb : TB 20000 t) :
    f_side_of [.tup [.int c, .int b, .int a], TD t] h = some (.int (sgR (pv b (2 * a) 0 t.val)), h) := by
  unfold f_side_of
  rw [runB_ok (by rfl)]
  unfold m_side_of
  walk_at "go"
local macro_rules | `(tactic| walk_at "fs") => `(tactic| simp (disch := walk_at "dis") only [side_of_eq])
theorem compare_eq (t u : Tm) (h : Hs) (ht : t.Nm) (tb : TB 20000 t) (hu : u.Nm) (ub : TB 20000 u) :
    f_compare [TD t, TD u] h = some (.int (sgR (t.val - u.val)), h) := by
  classical
  unfold f_compare
  rw [runB_ok (by rfl)]
  unfold m_compare
  walk_at "go"
  rw [TD_eq]
  walk_at "go"
  by_cases e : t = u
  · subst e
    simp only [if_true]
    rw [show t.val - t.val = 0 by grind, sg_zero]
    walk_at "go"
  · simp only [if_neg e]
    walk_at "go"
    cases u with
    | fr p q =>
      obtain ⟨hp, hq⟩ := ub
      simp only [TD_fr, TD_rt]
      walk_at "go"
      rw [cmp_fr hu.1]
    | rt c b a w =>
      obtain ⟨hc, hb, ha⟩ := ub
      have hw := bd_w hu.2.2.2.2
      have ht' := ht
      rw [← cmp_root hu]
      simp only [TD_fr, TD_rt]
      walk_at "go"
      by_cases q : sgR (pv b (2 * a) 0 t.val) = 2 * w - 1
      · simp only [q, if_true, ne_eq, not_true, if_false]
        walk_at "go"
      · simp only [q, if_false, ne_eq, not_false_eq_true, if_true]
        walk_at "go"
        simp
local macro_rules | `(tactic| walk_at "fs") => `(tactic| simp (disch := walk_at "dis") only [compare_eq])
/-! ### the law's own numbers -/
theorem common_loop (h : Hs) : ∀ (k : Nat) (a b : Int), 0 ≤ b → b ≤ k → 0 ≤ a →
    sWh (tV (eOp gtG (eVar 1) (eC (.int 0)))) (sPar [0, 1] (aCons (eVar 1) (aCons (eOp modG (eVar 0) (eVar 1)) aNil))) [some (.int a), some (.int b)] h =
      some ((.nx, [some (.int (Int.gcd a b)), some (.int 0)]), h)
  | 0, a, b, h0, hk, ha => by
    have : b = 0 := by omega
    subst this
    rw [wh_eq]
    walk_at "go"
    rw [Int.gcd_zero, Int.natAbs_of_nonneg ha]
  | k + 1, a, b, h0, hk, ha => by
    rw [wh_eq]
    walk_at "go"
    by_cases q : 0 < b
    · rw [if_pos q]
      have hb : b ≠ 0 := by omega
      walk_at "go"
      have h1 := Int.fmod_nonneg_of_pos a q
      have h2 := Int.fmod_lt_of_pos a q
      rw [common_loop h k b (a.fmod b) h1 (by omega) h0, gcd_step q]
    · rw [if_neg q]
      have : b = 0 := by omega
      subst this
      rw [Int.gcd_zero, Int.natAbs_of_nonneg ha]
theorem abs_ite (a : Int) : (if a < 0 then -a else a) = (a.natAbs : Int) := by split <;> omega
theorem bd_nat {n : Nat} {x y : Int} (b : Bd n y) (h : x.natAbs ≤ y.natAbs) : Bd n x := Nat.lt_of_le_of_lt h b
theorem gcd_bd {n : Nat} {a b : Int} (h : Bd n b) (hb : b ≠ 0) : Bd n (Int.gcd a b : Int) := by
  refine bd_nat h ?_
  have := Int.gcd_dvd_right a b
  have h2 : (Int.gcd a b : Int).natAbs ≤ b.natAbs := Nat.le_of_dvd (by omega) (Int.natAbs_dvd_natAbs.mpr this)
  exact h2
theorem sqrt_bd {n : Nat} {d r : Int} (hd : Bd n d) (hr : IsRt d r) : Bd n r := by
  refine hd.of_le hr.1 ?_
  have h0 := hr.1
  rcases Int.lt_or_eq_of_le h0 with q | q
  · have : r * 1 ≤ r * r := Int.mul_le_mul_of_nonneg_left (by omega) h0
    have := hr.2.1
    omega
  · rw [← q]; have := hr.2.1; rw [← q] at this; simpa using this
end K22
namespace K22
open SL RR
local macro_rules | `(tactic| walk_at "bd") => `(tactic| (first
  | assumption
  | (with_reducible apply Bd.add <;> walk_at "bd")
  | (with_reducible apply Bd.sub <;> walk_at "bd")
  | (with_reducible apply Bd.mul <;> walk_at "bd")
  | (with_reducible apply Bd.neg <;> walk_at "bd")
  | (with_reducible apply Bd.fdiv <;> walk_at "bd")
  | (with_reducible apply Bd.ite <;> walk_at "bd")
  | (with_reducible apply Bd.sign)
  | exact Bd.lit 64 rfl
  | exact Bd.lit 250 rfl))
local macro_rules | `(tactic| walk_at "dis") => `(tactic| (first
  | assumption
  | (with_reducible apply MOk.of <;> first | (walk_at "bd"; done) | exact Nat.le_of_ble_eq_true rfl)
  | (with_reducible apply Bd.mono <;> first | (walk_at "bd"; done) | exact Nat.le_of_ble_eq_true rfl)
  | (with_reducible apply DOk.of <;> first | (walk_at "bd"; done) | omega | exact Nat.le_of_ble_eq_true rfl)
  | omega))
local macro_rules | `(tactic| walk_at "ev") => `(tactic| simp (disch := walk_at "dis") only [ev_var0, ev_varS, ev_c, ev_op, ev_opK, ev_un, ev_call, ev_nil, ev_cons, ev_acK, ev_consK, ev_tup, ev_tupK, ev_lst, ev_lstK, ev_ifE, ev_ifS, ev_ifKT, ev_ifKF, ev_ifK, ev_ifKN,
  ev_tV, ev_tvK, ev_tTru, ev_truB, ev_truN, ev_truI, ev_and, ev_or, ev_not, ev_notK, ev_andT, ev_andF, ev_orT, ev_orF, ev_andK, ev_andKN, ev_orK, ev_orKN, ev_eAnd, ev_eOr, ev_eNot, ev_eNotB, ev_eAndT, ev_eAndF, ev_eAndB, ev_eAndBN, ev_eOrT, ev_eOrF, ev_eOrN, ev_eOrB, ev_eOrBN,
  ev_chain, ev_chK1, ev_chK2, ev_chK3, ev_chK3T, ev_chK3F, ev_seq, ev_thn, ev_thnR, ev_thnB, ev_thnC, ev_next, ev_break, ev_cont, ev_ret, ev_retK, ev_retN, ev_expr, ev_exprK, ev_asg, ev_asgK, ev_nxK, ev_gNm, ev_gTp, ev_gsNil, ev_gsCons, ev_gsK, ev_gSb, ev_gSbK1, ev_par, ev_parK2, ev_parK3, ev_mt,
  ev_add, ev_sub, ev_mul, ev_fdiv, ev_mod, ev_pow, ev_shl, ev_neg, ev_lt, ev_le, ev_gt, ev_ge, ev_eqI, ev_neI, ev_abs, ev_intB, ev_intI, ev_minI, ev_maxI, ev_bits, ev_get0, ev_get1, ev_get2, bd_ok, bd_none, ev_whT, ev_whF, ev_whD, ev_wh2, ev_wh2c, ev_wh2r, ev_wh2b, ev_for, ev_forK, ev_fr1, ev_fr2, ev_fr2c, ev_fr2r, ev_fr2b, ev_lc, ev_lcK, ev_lc1, ev_lc2T, ev_lc2F, ev_lc2D, ev_yes, ev_iSeq, ev_seqT, ev_seqS, ev_iRange, ev_iEnum, ev_iZip,
  ev_neIS, ev_eqIS, ev_neSS, ev_eqSS, ev_isN, ev_isNot, isNon_t, isNon_n, isNon_i, isNon_r, decide_true, decide_false, decide_eq_true_eq, eq_self, if_true, if_false,
  out_rt, out_nx, List.map_cons, List.map_nil, List.cons_append, List.nil_append, List.replicate, List.set_cons_zero, List.set_cons_succ, Nat.reduceSub, Int.reduceEq, Int.reduceLT, Int.reduceLE, Int.reduceMul, Int.reduceAdd, Int.reduceSub, Bool.not_true, Bool.not_false])
local macro_rules | `(tactic| walk_at "go") => `(tactic| repeat (first | walk_at "ev" | walk_at "fs"))
local macro_rules | `(tactic| walk_at "fs") => `(tactic| simp only [sign_of_eq])
local macro_rules | `(tactic| walk_at "fs") => `(tactic| simp (disch := walk_at "dis") only [inner_eq])
local macro_rules | `(tactic| walk_at "fs") => `(tactic| simp (disch := walk_at "dis") only [sign_of_sum_eq])
local macro_rules | `(tactic| walk_at "fs") => `(tactic| simp (disch := walk_at "dis") only [sign_at_tm])
local macro_rules | `(tactic| walk_at "bd") => `(tactic| with_reducible apply sg_bd)
local macro_rules | `(tactic| walk_at "fs") => `(tactic| simp (disch := walk_at "dis") only [side_of_eq])
local macro_rules | `(tactic| walk_at "fs") => `(tactic| simp (disch := walk_at "dis") only [compare_eq])
theorem common_divisor_eq (a b : Int) (h : Hs) : f_common_divisor [.int a, .int b] h = some (.int (Int.gcd a b), h) := by
  unfold f_common_divisor
  rw [runB_ok (by rfl)]
  unfold m_common_divisor
  walk_at "go"
  rw [abs_ite, abs_ite, common_loop h b.natAbs _ _ (by omega) (by omega) (by omega)]
  walk_at "go"
  rw [show Int.gcd (a.natAbs : Int) (b.natAbs : Int) = Int.gcd a b from rfl]
local macro_rules | `(tactic| walk_at "fs") => `(tactic| simp only [common_divisor_eq])
theorem sq_mono {x y : Int} (h0 : 0 ≤ x) (h : x ≤ y) : x * x ≤ y * y := Int.mul_le_mul h h h0 (by omega)
theorem up_loop {n r : Int} (h : Hs) (bn : Bd 9000 n) (hr : IsRt n r) : ∀ (k : Nat) (x : Int) (x3 : Option D), r + 1 - x ≤ k → 0 < x → x ≤ 2 * (r + 1) → ∃ y, r < y ∧ y ≤ 2 * (r + 1) ∧ 0 < y ∧
    sWh (tV (eOp leG (eOp mulG (eVar 2) (eVar 2)) (eVar 0))) m_whole_root_L1 [some (.int n), some (.int 0), some (.int x), x3] h = some ((.nx, [some (.int n), some (.int 0), some (.int y), x3]), h) := by
  obtain ⟨r0, r1, r2⟩ := hr
  have hn : 0 ≤ n := Int.le_trans (Int.mul_nonneg r0 r0) r1
  have br : Bd 9000 r := sqrt_bd bn ⟨r0, r1, r2⟩
  have b2 : Bd 9010 (2 * (r + 1)) := Bd.mono (Bd.mul (Bd.lit 2 (i := 2) rfl) (Bd.add br (Bd.lit 1 (i := 1) rfl))) (by decide)
  intro k
  induction k with
  | zero =>
    intro x x3 hk x0 hx
    have bx : Bd 9010 x := b2.of_le (by omega) hx
    refine ⟨x, by omega, hx, x0, ?_⟩
    rw [wh_eq]
    walk_at "go"
    have := sq_mono (x := r + 1) (y := x) (by omega) (by omega)
    rw [if_neg (by omega)]
  | succ k ih =>
    intro x x3 hk x0 hx
    have bx : Bd 9010 x := b2.of_le (by omega) hx
    by_cases q : x ≤ r
    · obtain ⟨y, y1, y2, y3, e⟩ := ih (x * 2) x3 (by omega) (by omega) (by omega)
      refine ⟨y, y1, y2, y3, ?_⟩
      rw [wh_eq]
      walk_at "go"
      have := sq_mono (x := x) (y := r) (by omega) q
      rw [if_pos (by omega)]
      walk_at "go"
      exact e
    · refine ⟨x, by omega, hx, x0, ?_⟩
      rw [wh_eq]
      walk_at "go"
      have := sq_mono (x := r + 1) (y := x) (by omega) (by omega)
      rw [if_neg (by omega)]
theorem half_loop {n r : Int} (h : Hs) (hr : IsRt n r) : ∀ (k : Nat) (lo hi : Int) (x3 : Option D), hi - lo ≤ k → 0 ≤ lo → lo ≤ r → r < hi → Bd 9010 lo → Bd 9010 hi → ∃ y y3,
    sWh (tV (eOp gtG (eOp subG (eVar 2) (eVar 1)) (eC (.int 1)))) m_whole_root_L2 [some (.int n), some (.int lo), some (.int hi), x3] h = some ((.nx, [some (.int n), some (.int r), some (.int y), y3]), h) := by
  obtain ⟨r0, r1, r2⟩ := hr
  intro k
  induction k with
  | zero => intro lo hi x3 hk; omega
  | succ k ih =>
    intro lo hi x3 hk l0 l1 l2 bl bh
    by_cases q : 1 < hi - lo
    · have e0 : (lo + hi).fdiv 2 = (lo + hi) / 2 := Int.fdiv_eq_ediv_of_nonneg _ (by decide)
      generalize hm : (lo + hi).fdiv 2 = m at *
      have m1 : lo < m := by omega
      have m2 : m < hi := by omega
      have bm : Bd 9010 m := bh.of_le (by omega) (by omega)
      by_cases q2 : m ≤ r
      · obtain ⟨y, y3, e⟩ := ih m hi (some (.int m)) (by omega) (by omega) q2 l2 bm bh
        refine ⟨y, y3, ?_⟩
        rw [wh_eq]
        walk_at "go"
        rw [if_pos (by omega)]
        walk_at "go"
        rw [hm]
        walk_at "go"
        have := sq_mono (x := m) (y := r) (by omega) q2
        rw [if_pos (by omega)]
        walk_at "go"
        exact e
      · obtain ⟨y, y3, e⟩ := ih lo m (some (.int m)) (by omega) l0 l1 (by omega) bl bm
        refine ⟨y, y3, ?_⟩
        rw [wh_eq]
        walk_at "go"
        rw [if_pos (by omega)]
        walk_at "go"
        rw [hm]
        walk_at "go"
        have := sq_mono (x := r + 1) (y := m) (by omega) (by omega)
        rw [if_neg (by omega)]
        walk_at "go"
        exact e
    · have : lo = r := by omega
      subst this
      refine ⟨hi, x3, ?_⟩
      rw [wh_eq]
      walk_at "go"
      rw [if_neg (by omega)]
theorem whole_root_eq {n r : Int} (h : Hs) (bn : Bd 9000 n) (hr : IsRt n r) : f_whole_root [.int n] h = some (.int r, h) := by
  unfold f_whole_root
  rw [runB_ok (by rfl)]
  unfold m_whole_root
  walk_at "go"
  have r0 := hr.1
  have br : Bd 9000 r := sqrt_bd bn hr
  have b2 : Bd 9010 (2 * (r + 1)) := Bd.mono (Bd.mul (Bd.lit 2 (i := 2) rfl) (Bd.add br (Bd.lit 1 (i := 1) rfl))) (by decide)
  obtain ⟨y, y1, y2, y3, e⟩ := up_loop h bn hr (r + 1).toNat 1 none (by omega) (by decide) (by omega)
  rw [e]
  walk_at "go"
  obtain ⟨z, z3, e2⟩ := half_loop h hr y.toNat 0 y none (by omega) (by decide) r0 y1 (Bd.lit 9010 (i := 0) rfl) (b2.of_le (by omega) y2)
  rw [e2]
  walk_at "go"
theorem is_square_eq (n : Int) (h : Hs) (bn : Bd 9000 n) [Decidable (∃ x : Int, x * x = n)] : f_is_square [.int n] h = some (.bl (decide (∃ x : Int, x * x = n)), h) := by
  unfold f_is_square
  rw [runB_ok (by rfl)]
  unfold m_is_square
  walk_at "go"
  by_cases q : 0 ≤ n
  · obtain ⟨r, hr⟩ := isRt_ex q
    have br : Bd 9000 r := sqrt_bd bn hr
    have e1 := whole_root_eq h bn hr
    simp only [ge_iff_le, q, if_true]
    rw [e1]
    walk_at "go"
    rw [e1]
    walk_at "go"
    congr 3
    exact decide_eq_decide.mpr hr.sq_iff
  · simp only [ge_iff_le, q, if_false]
    walk_at "go"
    congr 3
    refine (decide_eq_false ?_).symm
    rintro ⟨x, hx⟩
    have : 0 ≤ x * x := by
      rcases Int.le_total 0 x with z | z
      · exact Int.mul_nonneg z z
      · have := Int.mul_nonneg (show 0 ≤ -x by omega) (show 0 ≤ -x by omega)
        rwa [Int.neg_mul_neg] at this
    omega
end K22
namespace K22
open SL RR
local macro_rules | `(tactic| walk_at "bd") => `(tactic| (first
  | assumption
  | (with_reducible apply Bd.add <;> walk_at "bd")
  | (with_reducible apply Bd.sub <;> walk_at "bd")
  | (with_reducible apply Bd.mul <;> walk_at "bd")
  | (with_reducible apply Bd.neg <;> walk_at "bd")
  | (with_reducible apply Bd.fdiv <;> walk_at "bd")
  | (with_reducible apply Bd.ite <;> walk_at "bd")
  | (with_reducible apply Bd.sign)
  | exact Bd.lit 64 rfl
  | exact Bd.lit 250 rfl))
local macro_rules | `(tactic| walk_at "dis") => `(tactic| (first
  | assumption
  | (with_reducible apply MOk.of <;> first | (walk_at "bd"; done) | exact Nat.le_of_ble_eq_true rfl)
  | (with_reducible apply Bd.mono <;> first | (walk_at "bd"; done) | exact Nat.le_of_ble_eq_true rfl)
  | (with_reducible apply DOk.of <;> first | (walk_at "bd"; done) | omega | exact Nat.le_of_ble_eq_true rfl)
  | omega))
local macro_rules | `(tactic| walk_at "ev") => `(tactic| simp (disch := walk_at "dis") only [ev_var0, ev_varS, ev_c, ev_op, ev_opK, ev_un, ev_call, ev_nil, ev_cons, ev_acK, ev_consK, ev_tup, ev_tupK, ev_lst, ev_lstK, ev_ifE, ev_ifS, ev_ifKT, ev_ifKF, ev_ifK, ev_ifKN,
  ev_tV, ev_tvK, ev_tTru, ev_truB, ev_truN, ev_truI, ev_and, ev_or, ev_not, ev_notK, ev_andT, ev_andF, ev_orT, ev_orF, ev_andK, ev_andKN, ev_orK, ev_orKN, ev_eAnd, ev_eOr, ev_eNot, ev_eNotB, ev_eAndT, ev_eAndF, ev_eAndB, ev_eAndBN, ev_eOrT, ev_eOrF, ev_eOrN, ev_eOrB, ev_eOrBN,
  ev_chain, ev_chK1, ev_chK2, ev_chK3, ev_chK3T, ev_chK3F, ev_seq, ev_thn, ev_thnR, ev_thnB, ev_thnC, ev_next, ev_break, ev_cont, ev_ret, ev_retK, ev_retN, ev_expr, ev_exprK, ev_asg, ev_asgK, ev_nxK, ev_gNm, ev_gTp, ev_gsNil, ev_gsCons, ev_gsK, ev_gSb, ev_gSbK1, ev_par, ev_parK2, ev_parK3, ev_mt,
  ev_add, ev_sub, ev_mul, ev_fdiv, ev_mod, ev_pow, ev_shl, ev_neg, ev_lt, ev_le, ev_gt, ev_ge, ev_eqI, ev_neI, ev_abs, ev_intB, ev_intI, ev_minI, ev_maxI, ev_bits, ev_get0, ev_get1, ev_get2, bd_ok, bd_none, ev_whT, ev_whF, ev_whD, ev_wh2, ev_wh2c, ev_wh2r, ev_wh2b, ev_for, ev_forK, ev_fr1, ev_fr2, ev_fr2c, ev_fr2r, ev_fr2b, ev_lc, ev_lcK, ev_lc1, ev_lc2T, ev_lc2F, ev_lc2D, ev_yes, ev_iSeq, ev_seqT, ev_seqS, ev_iRange, ev_iEnum, ev_iZip,
  ev_neIS, ev_eqIS, ev_neSS, ev_eqSS, ev_isN, ev_isNot, isNon_t, isNon_n, isNon_i, isNon_r, decide_true, decide_false, decide_eq_true_eq, eq_self, if_true, if_false,
  out_rt, out_nx, List.map_cons, List.map_nil, List.cons_append, List.nil_append, List.replicate, List.set_cons_zero, List.set_cons_succ, Nat.reduceSub, Int.reduceEq, Int.reduceLT, Int.reduceLE, Int.reduceMul, Int.reduceAdd, Int.reduceSub, Bool.not_true, Bool.not_false])
local macro_rules | `(tactic| walk_at "go") => `(tactic| repeat (first | walk_at "ev" | walk_at "fs"))
local macro_rules | `(tactic| walk_at "fs") => `(tactic| simp only [sign_of_eq])
local macro_rules | `(tactic| walk_at "fs") => `(tactic| simp (disch := walk_at "dis") only [inner_eq])
local macro_rules | `(tactic| walk_at "fs") => `(tactic| simp (disch := walk_at "dis") only [sign_of_sum_eq])
local macro_rules | `(tactic| walk_at "fs") => `(tactic| simp (disch := walk_at "dis") only [sign_at_tm])
local macro_rules | `(tactic| walk_at "bd") => `(tactic| with_reducible apply sg_bd)
local macro_rules | `(tactic| walk_at "fs") => `(tactic| simp (disch := walk_at "dis") only [side_of_eq])
local macro_rules | `(tactic| walk_at "fs") => `(tactic| simp (disch := walk_at "dis") only [compare_eq])
local macro_rules | `(tactic| walk_at "fs") => `(tactic| simp only [common_divisor_eq])
local macro_rules | `(tactic| walk_at "fs") => `(tactic| simp (disch := walk_at "dis") only [is_square_eq])
local macro_rules | `(tactic| walk_at "fs") => `(tactic| simp only [ev_isiIB, ev_isiII, ev_neB])
local macro_rules | `(tactic| walk_at "fs") => `(tactic| simp only [wipe_nil, wipe_cons])
def isInt : D → Bool
  | .int _ => true
  | _ => false
theorem is_number_int (i : Int) (h : Hs) : f_is_number [.int i] h = some (.bl true, h) := by
  unfold f_is_number
  rw [runB_ok (by rfl)]
  unfold m_is_number
  walk_at "go"
theorem is_number_no (d : D) (h : Hs) {a : String} (e : tyN h d = some a) (ne : a ≠ "int") : f_is_number [d] h = some (.bl false, h) := by
  unfold f_is_number
  rw [runB_ok (by rfl)]
  unfold m_is_number
  walk_at "go"
  rw [isi_ok e (by decide)]
  by_cases q : a = "bool"
  · subst q
    rw [show isT "bool" "int" = true by decide]
    walk_at "go"
    rw [isi_ok e (by decide), show isT "bool" "bool" = true by decide]
    rfl
  · have : isT a "int" = false := by
      unfold isT
      simp [ne, q]
    rw [this]
    walk_at "go"
theorem is_number_eq (d : D) (h : Hs) {a : String} (e : tyN h d = some a) : f_is_number [d] h = some (.bl (isInt d), h) := by
  by_cases q : a = "int"
  · subst q
    have : ∃ i, d = .int i := by
      cases d with
      | int i => exact ⟨i, rfl⟩
      | non => exact absurd e (by simp [tyN])
      | bl b => exact absurd e (by simp [tyN])
      | str s => exact absurd e (by simp [tyN])
      | ty n => exact absurd e (by simp [tyN])
      | tup ds => exact absurd e (by simp [tyN])
      | ref n =>
        have e1 : (match h[n]? with | some (.lst _) => some "list" | some (.fz _) => some "list" | some (.dct _) => some "dict" | _ => none) = some "int" := e
        cases q : h[n]? with
        | none => rw [q] at e1; cases e1
        | some o => rw [q] at e1; cases o <;> simp at e1
    obtain ⟨i, rfl⟩ := this
    exact is_number_int i h
  · rw [is_number_no d h e q]
    cases d with
    | int i => exact absurd (Option.some.inj e).symm q
    | _ => rfl
/-- what has a kind -/
def Kd (h : Hs) (d : D) : Prop := ∃ a, tyN h d = some a
theorem kd_int {h : Hs} {i : Int} : Kd h (.int i) := ⟨_, rfl⟩
theorem kd_bl {h : Hs} {i : Bool} : Kd h (.bl i) := ⟨_, rfl⟩
theorem kd_str {h : Hs} {i : PySem.Str} : Kd h (.str i) := ⟨_, rfl⟩
theorem kd_non {h : Hs} : Kd h .non := ⟨_, rfl⟩
theorem kd_tup {h : Hs} {ds : List D} : Kd h (.tup ds) := ⟨_, rfl⟩
theorem num_kd {h : Hs} {d : D} (k : Kd h d) : f_is_number [d] h = some (.bl (isInt d), h) := by
  obtain ⟨a, e⟩ := k
  exact is_number_eq d h e
/-! is_fraction -/
theorem is_fraction_no (d : D) (h : Hs) {a : String} (e : tyN h d = some a) (ne : a ≠ "tuple") : f_is_fraction [d] h = some (.bl false, h) := by
  unfold f_is_fraction
  rw [runB_ok (by rfl)]
  unfold m_is_fraction
  walk_at "go"
  rw [isi_ok e (by decide)]
  have : isT a "tuple" = false := by unfold isT; simp [ne]
  rw [this]
  walk_at "go"
local macro_rules | `(tactic| walk_at "fs") => `(tactic| simp only [isi_tup, len2, len3, ite_true, ite_false])
theorem is_fraction_len (ds : List D) (h : Hs) (ne : ds.length ≠ 2) : f_is_fraction [.tup ds] h = some (.bl false, h) := by
  unfold f_is_fraction
  rw [runB_ok (by rfl)]
  unfold m_is_fraction
  walk_at "go"
  rw [len_tup]
  walk_at "go"
  rw [if_neg (by omega)]
  walk_at "go"
def frB : D → D → Bool
  | .int p, .int q => decide (0 < q ∧ Int.gcd p q = 1)
  | _, _ => false
theorem frB_no1 {x y : D} (h : isInt x = false) : frB x y = false := by cases x <;> first | rfl | cases h
theorem frB_no2 {x y : D} (h : isInt y = false) : frB x y = false := by cases x <;> cases y <;> first | rfl | cases h
theorem isInt_ex {x : D} (h : isInt x = true) : ∃ i, x = .int i := by cases x <;> first | exact ⟨_, rfl⟩ | cases h
theorem is_fraction_eq (x y : D) (h : Hs) (kx : Kd h x) (ky : Kd h y) : f_is_fraction [.tup [x, y]] h = some (.bl (frB x y), h) := by
  unfold f_is_fraction
  rw [runB_ok (by rfl)]
  unfold m_is_fraction
  walk_at "go"
  rw [num_kd kx]
  cases hx : isInt x with
  | false =>
    walk_at "go"
    rw [frB_no1 hx]
  | true =>
    obtain ⟨p, rfl⟩ := isInt_ex hx
    walk_at "go"
    rw [num_kd ky]
    cases hy : isInt y with
    | false =>
      walk_at "go"
      rw [frB_no2 hy]
    | true =>
      obtain ⟨q, rfl⟩ := isInt_ex hy
      walk_at "go"
      unfold frB
      by_cases z : 0 < q
      · simp only [z, gt_iff_lt, if_true, true_and]
        walk_at "go"
        congr 3
        exact decide_eq_decide.mpr (by omega)
      · simp only [z, gt_iff_lt, if_false, false_and]
        walk_at "go"
theorem is_poly_no (d : D) (h : Hs) {a : String} (e : tyN h d = some a) (ne : a ≠ "tuple") : f_is_poly [d] h = some (.bl false, h) := by
  unfold f_is_poly
  rw [runB_ok (by rfl)]
  unfold m_is_poly
  walk_at "go"
  rw [isi_ok e (by decide)]
  have : isT a "tuple" = false := by unfold isT; simp [ne]
  rw [this]
  walk_at "go"
theorem is_poly_len (ds : List D) (h : Hs) (ne : ds.length ≠ 3) : f_is_poly [.tup ds] h = some (.bl false, h) := by
  unfold f_is_poly
  rw [runB_ok (by rfl)]
  unfold m_is_poly
  walk_at "go"
  rw [len_tup]
  walk_at "go"
  rw [if_neg (by omega)]
  walk_at "go"
theorem is_poly_eq (x y z : D) (h : Hs) (kx : Kd h x) (ky : Kd h y) (kz : Kd h z) : ∃ G, f_is_poly [.tup [x, y, z]] h = some (.bl (isInt x && (isInt y && isInt z)), h ++ G) := by
  unfold f_is_poly
  rw [runB_ok (by rfl)]
  unfold m_is_poly
  walk_at "go"
  rw [lc_turn (srcT_in (i := 0) rfl)]
  walk_at "go"
  rw [num_kd kx]
  walk_at "go"
  rw [ev_lc3 (Nat.le_of_ble_eq_true rfl), lc_turn (srcT_in (i := 1) rfl)]
  walk_at "go"
  rw [num_kd ky]
  walk_at "go"
  rw [ev_lc3 (Nat.le_of_ble_eq_true rfl), lc_turn (srcT_in (i := 2) rfl)]
  walk_at "go"
  rw [num_kd kz]
  walk_at "go"
  rw [ev_lc3 (Nat.le_of_ble_eq_true rfl), lc_end (srcT_out (Nat.le_refl 3))]
  walk_at "go"
  rw [all3]
  exact ⟨_, rfl⟩
end K22
namespace K22
open SL RR
local macro_rules | `(tactic| walk_at "bd") => `(tactic| (first
  | assumption
  | (with_reducible apply Bd.add <;> walk_at "bd")
  | (with_reducible apply Bd.sub <;> walk_at "bd")
  | (with_reducible apply Bd.mul <;> walk_at "bd")
  | (with_reducible apply Bd.neg <;> walk_at "bd")
  | (with_reducible apply Bd.fdiv <;> walk_at "bd")
  | (with_reducible apply Bd.ite <;> walk_at "bd")
  | (with_reducible apply Bd.sign)
  | exact Bd.lit 64 rfl
  | exact Bd.lit 250 rfl))
local macro_rules | `(tactic| walk_at "dis") => `(tactic| (first
  | assumption
  | (with_reducible apply MOk.of <;> first | (walk_at "bd"; done) | exact Nat.le_of_ble_eq_true rfl)
  | (with_reducible apply Bd.mono <;> first | (walk_at "bd"; done) | exact Nat.le_of_ble_eq_true rfl)
  | (with_reducible apply DOk.of <;> first | (walk_at "bd"; done) | omega | exact Nat.le_of_ble_eq_true rfl)
  | omega))
local macro_rules | `(tactic| walk_at "ev") => `(tactic| simp (disch := walk_at "dis") only [ev_var0, ev_varS, ev_c, ev_op, ev_opK, ev_un, ev_call, ev_nil, ev_cons, ev_acK, ev_consK, ev_tup, ev_tupK, ev_lst, ev_lstK, ev_ifE, ev_ifS, ev_ifKT, ev_ifKF, ev_ifK, ev_ifKN,
  ev_tV, ev_tvK, ev_tTru, ev_truB, ev_truN, ev_truI, ev_and, ev_or, ev_not, ev_notK, ev_andT, ev_andF, ev_orT, ev_orF, ev_andK, ev_andKN, ev_orK, ev_orKN, ev_eAnd, ev_eOr, ev_eNot, ev_eNotB, ev_eAndT, ev_eAndF, ev_eAndB, ev_eAndBN, ev_eOrT, ev_eOrF, ev_eOrN, ev_eOrB, ev_eOrBN,
  ev_chain, ev_chK1, ev_chK2, ev_chK3, ev_chK3T, ev_chK3F, ev_seq, ev_thn, ev_thnR, ev_thnB, ev_thnC, ev_next, ev_break, ev_cont, ev_ret, ev_retK, ev_retN, ev_expr, ev_exprK, ev_asg, ev_asgK, ev_nxK, ev_gNm, ev_gTp, ev_gsNil, ev_gsCons, ev_gsK, ev_gSb, ev_gSbK1, ev_par, ev_parK2, ev_parK3, ev_mt,
  ev_add, ev_sub, ev_mul, ev_fdiv, ev_mod, ev_pow, ev_shl, ev_neg, ev_lt, ev_le, ev_gt, ev_ge, ev_eqI, ev_neI, ev_abs, ev_intB, ev_intI, ev_minI, ev_maxI, ev_bits, ev_get0, ev_get1, ev_get2, bd_ok, bd_none, ev_whT, ev_whF, ev_whD, ev_wh2, ev_wh2c, ev_wh2r, ev_wh2b, ev_for, ev_forK, ev_fr1, ev_fr2, ev_fr2c, ev_fr2r, ev_fr2b, ev_lc, ev_lcK, ev_lc1, ev_lc2T, ev_lc2F, ev_lc2D, ev_yes, ev_iSeq, ev_seqT, ev_seqS, ev_iRange, ev_iEnum, ev_iZip,
  ev_neIS, ev_eqIS, ev_neSS, ev_eqSS, ev_isN, ev_isNot, isNon_t, isNon_n, isNon_i, isNon_r, decide_true, decide_false, decide_eq_true_eq, eq_self, if_true, if_false,
  out_rt, out_nx, List.map_cons, List.map_nil, List.cons_append, List.nil_append, List.replicate, List.set_cons_zero, List.set_cons_succ, Nat.reduceSub, Int.reduceEq, Int.reduceLT, Int.reduceLE, Int.reduceMul, Int.reduceAdd, Int.reduceSub, Bool.not_true, Bool.not_false])
local macro_rules | `(tactic| walk_at "go") => `(tactic| repeat (first | walk_at "ev" | walk_at "fs"))
local macro_rules | `(tactic| walk_at "fs") => `(tactic| simp only [sign_of_eq])
local macro_rules | `(tactic| walk_at "fs") => `(tactic| simp (disch := walk_at "dis") only [inner_eq])
local macro_rules | `(tactic| walk_at "fs") => `(tactic| simp (disch := walk_at "dis") only [sign_of_sum_eq])
local macro_rules | `(tactic| walk_at "fs") => `(tactic| simp (disch := walk_at "dis") only [sign_at_tm])
local macro_rules | `(tactic| walk_at "bd") => `(tactic| with_reducible apply sg_bd)
local macro_rules | `(tactic| walk_at "fs") => `(tactic| simp (disch := walk_at "dis") only [side_of_eq])
local macro_rules | `(tactic| walk_at "fs") => `(tactic| simp (disch := walk_at "dis") only [compare_eq])
local macro_rules | `(tactic| walk_at "fs") => `(tactic| simp only [common_divisor_eq])
local macro_rules | `(tactic| walk_at "fs") => `(tactic| simp (disch := walk_at "dis") only [is_square_eq])
local macro_rules | `(tactic| walk_at "fs") => `(tactic| simp only [ev_isiIB, ev_isiII, ev_neB])
local macro_rules | `(tactic| walk_at "fs") => `(tactic| simp only [wipe_nil, wipe_cons])
local macro_rules | `(tactic| walk_at "fs") => `(tactic| simp only [isi_tup, len2, len3, ite_true, ite_false])
theorem is_root_no (d : D) (h : Hs) {a : String} (e : tyN h d = some a) (ne : a ≠ "tuple") : f_is_root [d] h = some (.bl false, h) := by
  unfold f_is_root
  rw [runB_ok (by rfl)]
  unfold m_is_root
  walk_at "go"
  rw [isi_ok e (by decide)]
  have : isT a "tuple" = false := by unfold isT; simp [ne]
  rw [this]
  walk_at "go"
theorem is_root_len (ds : List D) (h : Hs) (ne : ds.length ≠ 3) : f_is_root [.tup ds] h = some (.bl false, h) := by
  unfold f_is_root
  rw [runB_ok (by rfl)]
  unfold m_is_root
  walk_at "go"
  rw [len_tup]
  walk_at "go"
  rw [if_neg (by omega)]
  walk_at "go"
theorem is_root_nostr (x y z : D) (h : Hs) {a : String} (e : tyN h x = some a) (ne : a ≠ "str") : f_is_root [.tup [x, y, z]] h = some (.bl false, h) := by
  unfold f_is_root
  rw [runB_ok (by rfl)]
  unfold m_is_root
  walk_at "go"
  rw [isi_ok e (by decide)]
  have : isT a "str" = false := by unfold isT; simp [ne]
  rw [this]
  walk_at "go"
local macro_rules | `(tactic| walk_at "fs") => `(tactic| simp only [isi_str])
theorem is_root_name (s : PySem.Str) (y z : D) (h : Hs) (ne : s ≠ PySem.Str.ofString "root") : f_is_root [.tup [.str s, y, z]] h = some (.bl false, h) := by
  unfold f_is_root
  rw [runB_ok (by rfl)]
  unfold m_is_root
  walk_at "go"
  simp only [ne, decide_false, Bool.not_false]
  walk_at "go"
theorem is_root_row (y z : D) (h : Hs) {G : Hs} (e : f_is_poly [y] h = some (.bl false, h ++ G)) : f_is_root [.tup [.str "root", y, z]] h = some (.bl false, h ++ G) := by
  unfold f_is_root
  rw [runB_ok (by rfl)]
  unfold m_is_root
  walk_at "go"
  rw [e]
  walk_at "go"
theorem is_root_which (c b a : Int) (z : D) (h : Hs) (kz : ∀ G, Kd (h ++ G) z) (ne : isInt z = false) : ∃ G, f_is_root [.tup [.str "root", .tup [.int c, .int b, .int a], z]] h = some (.bl false, h ++ G) := by
  obtain ⟨G, e⟩ := is_poly_eq (.int c) (.int b) (.int a) h kd_int kd_int kd_int
  replace e : f_is_poly [.tup [.int c, .int b, .int a]] h = some (.bl true, h ++ G) := e
  refine ⟨G, ?_⟩
  unfold f_is_root
  rw [runB_ok (by rfl)]
  unfold m_is_root
  walk_at "go"
  rw [e]
  walk_at "go"
  rw [num_kd (kz G), ne]
  walk_at "go"
def rtB (c b a w : Int) : Prop := (0 ≤ w ∧ w ≤ 1) ∧ 1 ≤ a ∧ Int.gcd (Int.gcd c b) a = 1 ∧ 0 < b * b - 4 * a * c ∧ ¬ ∃ x : Int, x * x = b * b - 4 * a * c
theorem is_root_eq (c b a w : Int) (h : Hs) [Decidable (rtB c b a w)] (bc : Bd 3000 c) (bb : Bd 3000 b) (ba : Bd 3000 a) : ∃ G, f_is_root [.tup [.str "root", .tup [.int c, .int b, .int a], .int w]] h = some (.bl (decide (rtB c b a w)), h ++ G) := by
  classical
  obtain ⟨G, e⟩ := is_poly_eq (.int c) (.int b) (.int a) h kd_int kd_int kd_int
  replace e : f_is_poly [.tup [.int c, .int b, .int a]] h = some (.bl true, h ++ G) := e
  refine ⟨G, ?_⟩
  unfold f_is_root
  rw [runB_ok (by rfl)]
  unfold m_is_root
  walk_at "go"
  rw [e]
  walk_at "go"
  rw [is_number_int]
  walk_at "go"
  by_cases z1 : 0 ≤ w
  · simp only [z1, if_true]
    walk_at "go"
    by_cases z2 : w ≤ 1
    · simp only [z2, decide_true, Bool.not_true]
      walk_at "go"
      by_cases z3 : a < 1
      · simp only [z3, decide_true]
        walk_at "go"
        rw [decide_eq_false (fun k => by have := k.2.1; omega)]
      · simp only [z3, decide_false]
        walk_at "go"
        have hD : Bd 9000 (b * b - 4 * a * c) := Bd.mono (by walk_at "bd") (by decide)
        by_cases z4 : Int.gcd (Int.gcd c b) a = 1
        · have z4' : ((Int.gcd (Int.gcd c b) a : Nat) : Int) = 1 := by rw [z4]; rfl
          simp only [z4', if_true]
          walk_at "go"
          by_cases z5 : 0 < b * b - 4 * a * c
          · simp only [z5, gt_iff_lt, if_true]
            walk_at "go"
            by_cases z6 : ∃ x : Int, x * x = b * b - 4 * a * c
            · have k1 : ¬ rtB c b a w := fun k => k.2.2.2.2 z6
              simp only [z6, k1, decide_true, decide_false, Bool.not_true]
            · have k1 : rtB c b a w := ⟨⟨z1, z2⟩, by omega, z4, z5, z6⟩
              simp only [z6, k1, decide_true, decide_false, Bool.not_false]
          · simp only [z5, gt_iff_lt, if_false]
            walk_at "go"
            rw [decide_eq_false (fun k => z5 k.2.2.2.1)]
        · have z4' : ¬ ((Int.gcd (Int.gcd c b) a : Nat) : Int) = 1 := fun k => z4 (by omega)
          simp only [z4', if_false]
          walk_at "go"
          rw [decide_eq_false (fun k => z4 k.2.2.1)]
    · simp only [z2, decide_false, Bool.not_false]
      walk_at "go"
      rw [decide_eq_false (fun k => z2 k.1.2)]
  · simp only [z1, if_false]
    walk_at "go"
    rw [decide_eq_false (fun k => z1 k.1.1)]
end K22
namespace K22
open SL RR
local macro_rules | `(tactic| walk_at "bd") => `(tactic| (first
  | assumption
  | (with_reducible apply Bd.add <;> walk_at "bd")
  | (with_reducible apply Bd.sub <;> walk_at "bd")
  | (with_reducible apply Bd.mul <;> walk_at "bd")
  | (with_reducible apply Bd.neg <;> walk_at "bd")
  | (with_reducible apply Bd.fdiv <;> walk_at "bd")
  | (with_reducible apply Bd.ite <;> walk_at "bd")
  | (with_reducible apply Bd.sign)
  | exact Bd.lit 64 rfl
  | exact Bd.lit 250 rfl))
local macro_rules | `(tactic| walk_at "dis") => `(tactic| (first
  | assumption
  | (with_reducible apply MOk.of <;> first | (walk_at "bd"; done) | exact Nat.le_of_ble_eq_true rfl)
  | (with_reducible apply Bd.mono <;> first | (walk_at "bd"; done) | exact Nat.le_of_ble_eq_true rfl)
  | (with_reducible apply DOk.of <;> first | (walk_at "bd"; done) | omega | exact Nat.le_of_ble_eq_true rfl)
  | omega))
local macro_rules | `(tactic| walk_at "ev") => `(tactic| simp (disch := walk_at "dis") only [ev_var0, ev_varS, ev_c, ev_op, ev_opK, ev_un, ev_call, ev_nil, ev_cons, ev_acK, ev_consK, ev_tup, ev_tupK, ev_lst, ev_lstK, ev_ifE, ev_ifS, ev_ifKT, ev_ifKF, ev_ifK, ev_ifKN,
  ev_tV, ev_tvK, ev_tTru, ev_truB, ev_truN, ev_truI, ev_and, ev_or, ev_not, ev_notK, ev_andT, ev_andF, ev_orT, ev_orF, ev_andK, ev_andKN, ev_orK, ev_orKN, ev_eAnd, ev_eOr, ev_eNot, ev_eNotB, ev_eAndT, ev_eAndF, ev_eAndB, ev_eAndBN, ev_eOrT, ev_eOrF, ev_eOrN, ev_eOrB, ev_eOrBN,
  ev_chain, ev_chK1, ev_chK2, ev_chK3, ev_chK3T, ev_chK3F, ev_seq, ev_thn, ev_thnR, ev_thnB, ev_thnC, ev_next, ev_break, ev_cont, ev_ret, ev_retK, ev_retN, ev_expr, ev_exprK, ev_asg, ev_asgK, ev_nxK, ev_gNm, ev_gTp, ev_gsNil, ev_gsCons, ev_gsK, ev_gSb, ev_gSbK1, ev_par, ev_parK2, ev_parK3, ev_mt,
  ev_add, ev_sub, ev_mul, ev_fdiv, ev_mod, ev_pow, ev_shl, ev_neg, ev_lt, ev_le, ev_gt, ev_ge, ev_eqI, ev_neI, ev_abs, ev_intB, ev_intI, ev_minI, ev_maxI, ev_bits, ev_get0, ev_get1, ev_get2, bd_ok, bd_none, ev_whT, ev_whF, ev_whD, ev_wh2, ev_wh2c, ev_wh2r, ev_wh2b, ev_for, ev_forK, ev_fr1, ev_fr2, ev_fr2c, ev_fr2r, ev_fr2b, ev_lc, ev_lcK, ev_lc1, ev_lc2T, ev_lc2F, ev_lc2D, ev_yes, ev_iSeq, ev_seqT, ev_seqS, ev_iRange, ev_iEnum, ev_iZip,
  ev_neIS, ev_eqIS, ev_neSS, ev_eqSS, ev_isN, ev_isNot, isNon_t, isNon_n, isNon_i, isNon_r, decide_true, decide_false, decide_eq_true_eq, eq_self, if_true, if_false,
  out_rt, out_nx, List.map_cons, List.map_nil, List.cons_append, List.nil_append, List.replicate, List.set_cons_zero, List.set_cons_succ, Nat.reduceSub, Int.reduceEq, Int.reduceLT, Int.reduceLE, Int.reduceMul, Int.reduceAdd, Int.reduceSub, Bool.not_true, Bool.not_false])
local macro_rules | `(tactic| walk_at "go") => `(tactic| repeat (first | walk_at "ev" | walk_at "fs"))
local macro_rules | `(tactic| walk_at "fs") => `(tactic| simp only [sign_of_eq])
local macro_rules | `(tactic| walk_at "fs") => `(tactic| simp (disch := walk_at "dis") only [inner_eq])
local macro_rules | `(tactic| walk_at "fs") => `(tactic| simp (disch := walk_at "dis") only [sign_of_sum_eq])
local macro_rules | `(tactic| walk_at "fs") => `(tactic| simp (disch := walk_at "dis") only [sign_at_tm])
local macro_rules | `(tactic| walk_at "bd") => `(tactic| with_reducible apply sg_bd)
local macro_rules | `(tactic| walk_at "fs") => `(tactic| simp (disch := walk_at "dis") only [side_of_eq])
local macro_rules | `(tactic| walk_at "fs") => `(tactic| simp (disch := walk_at "dis") only [compare_eq])
local macro_rules | `(tactic| walk_at "fs") => `(tactic| simp only [common_divisor_eq])
local macro_rules | `(tactic| walk_at "fs") => `(tactic| simp (disch := walk_at "dis") only [is_square_eq])
local macro_rules | `(tactic| walk_at "fs") => `(tactic| simp only [ev_isiIB, ev_isiII, ev_neB])
local macro_rules | `(tactic| walk_at "fs") => `(tactic| simp only [wipe_nil, wipe_cons])
local macro_rules | `(tactic| walk_at "fs") => `(tactic| simp only [isi_tup, len2, len3, ite_true, ite_false])
local macro_rules | `(tactic| walk_at "fs") => `(tactic| simp only [isi_str])
open PySem in
def Tok (t : Tm) : Prop := t.Nm ∧ match t with
  | .fr p _ => 0 ≤ p
  | .rt c b a w => 0 < (Tm.rt c b a w).val
local macro_rules | `(tactic| walk_at "fs") => `(tactic| simp only [is_fraction_eq _ _ _ kd_int kd_int])
theorem is_time_pair (p q : Int) (h : Hs) : f_is_time [.tup [.int p, .int q]] h = some (.bl (decide ((0 < q ∧ Int.gcd p q = 1) ∧ 0 ≤ p)), h) := by
  unfold f_is_time
  rw [runB_ok (by rfl)]
  unfold m_is_time
  walk_at "go"
  unfold frB
  by_cases z : 0 < q ∧ Int.gcd p q = 1
  · simp only [z, decide_true, true_and]
    walk_at "go"
  · simp only [z, decide_false, false_and]
    walk_at "go"
    rw [is_root_len _ _ (by show 2 ≠ 3; decide)]
    walk_at "go"
theorem is_time_of (d : D) (h : Hs) {G : Hs} (e1 : f_is_fraction [d] h = some (.bl false, h)) (e2 : f_is_root [d] h = some (.bl false, h ++ G)) : f_is_time [d] h = some (.bl false, h ++ G) := by
  unfold f_is_time
  rw [runB_ok (by rfl)]
  unfold m_is_time
  walk_at "go"
  rw [e1]
  walk_at "go"
  rw [e2]
  walk_at "go"
theorem is_time_no (d : D) (h : Hs) {a : String} (e : tyN h d = some a) (ne : a ≠ "tuple") : f_is_time [d] h = some (.bl false, h) := by
  have := is_time_of d h (G := []) (is_fraction_no d h e ne) (by rw [List.append_nil]; exact is_root_no d h e ne)
  rwa [List.append_nil] at this
theorem is_time_len (ds : List D) (h : Hs) (n2 : ds.length ≠ 2) (n3 : ds.length ≠ 3) : f_is_time [.tup ds] h = some (.bl false, h) := by
  have := is_time_of (.tup ds) h (G := []) (is_fraction_len ds h n2) (by rw [List.append_nil]; exact is_root_len ds h n3)
  rwa [List.append_nil] at this
theorem is_time_two (x y : D) (h : Hs) (kx : Kd h x) (ky : Kd h y) (ne : frB x y = false) : f_is_time [.tup [x, y]] h = some (.bl false, h) := by
  have := is_time_of (.tup [x, y]) h (G := []) (by rw [is_fraction_eq x y h kx ky, ne]) (by rw [List.append_nil]; exact is_root_len _ h (by show 2 ≠ 3; decide))
  rwa [List.append_nil] at this
theorem is_time_three (x y z : D) (h : Hs) {G : Hs} (e2 : f_is_root [.tup [x, y, z]] h = some (.bl false, h ++ G)) : f_is_time [.tup [x, y, z]] h = some (.bl false, h ++ G) :=
  is_time_of _ h (is_fraction_len _ h (by show 3 ≠ 2; decide)) e2
theorem is_time_root (c b a w : Int) (h : Hs) [Decidable (rtB c b a w)] (bc : Bd 3000 c) (bb : Bd 3000 b) (ba : Bd 3000 a) (bw : Bd 100 w) : ∃ G, f_is_time [.tup [.str "root", .tup [.int c, .int b, .int a], .int w]] h =
    some (.bl (decide (rtB c b a w) && decide (0 < sgnS (0 - b) (2 * w - 1) (b * b - 4 * a * c))), h ++ G) := by
  obtain ⟨G, e⟩ := is_root_eq c b a w h bc bb ba
  refine ⟨G, ?_⟩
  have e1 := is_fraction_len [.str "root", .tup [.int c, .int b, .int a], .int w] h (by show 3 ≠ 2; decide)
  unfold f_is_time
  rw [runB_ok (by rfl)]
  unfold m_is_time
  walk_at "go"
  rw [e1]
  walk_at "go"
  rw [e]
  by_cases z : rtB c b a w
  · simp only [z, decide_true, Bool.true_and]
    walk_at "go"
  · simp only [z, decide_false, Bool.false_and]
    walk_at "go"
/-- the times are times -/
theorem is_time_tok (t : Tm) (h : Hs) (tk : Tok t) (tb : TB 3000 t) : ∃ G, f_is_time [TD t] h = some (.bl true, h ++ G) := by
  classical
  cases t with
  | fr p q =>
    refine ⟨[], ?_⟩
    rw [TD_fr, is_time_pair, List.append_nil, decide_eq_true]
    exact ⟨tk.1, tk.2⟩
  | rt c b a w =>
    obtain ⟨bc, bb, ba⟩ := tb
    have nm := tk.1
    have vp : (0 : Rl) < (Tm.rt c b a w).val := tk.2
    obtain ⟨G, e⟩ := is_time_root c b a w h bc bb ba ((bd_w nm.2.2.2.2).mono (by decide))
    refine ⟨G, ?_⟩
    have k1 : rtB c b a w := ⟨by have := nm.2.2.2.2; omega, by have := nm.1; omega, nm.2.1, nm.2.2.1, fun ⟨x, hx⟩ => nm.2.2.2.1 x hx⟩
    have k2 : 0 < sgnS (0 - b) (2 * w - 1) (b * b - 4 * a * c) := by
      rw [sgnS_eq nm.2.2.1, sg_pos]
      · decide
      · have := val_rt (c := c) (b := b) (w := w) nm.1
        have := mul_pos (cast_pos nm.1) vp
        rw [cast_sub, cast_zero, cast_sub, cast_mul, cast_one, show ((2 : Int) : Rl) = 2 from rfl]
        grind
    rw [TD_rt, e, decide_eq_true k1, decide_eq_true k2]
    rfl
theorem val_nn {p q : Int} (hq : 0 < q) : 0 ≤ p ↔ 0 ≤ (Tm.fr p q).val := by
  have h := fr_le_iff (p := 0) (q := 1) (r := p) (s := q) (by decide) hq
  have e := val_fr (p := 0) (q := 1) (by decide)
  rw [cast_one, cast_zero] at e
  have z : (Tm.fr 0 1).val = 0 := by grind
  rw [z] at h
  rw [h]
  omega
theorem rt_ne0 {c b a w : Int} (nm : (Tm.rt c b a w).Nm) : (Tm.rt c b a w).val ≠ 0 := by
  intro z
  have := pv_own nm
  rw [z] at this
  unfold pv at this
  have e : (c : Rl) = ((0 : Int) : Rl) := by rw [cast_zero]; grind
  have := cast_inj e
  subst this
  exact nm.2.2.2.1 b (by grind)
theorem tok_iff {t : Tm} (nm : t.Nm) : Tok t ↔ 0 ≤ t.val := by
  cases t with
  | fr p q =>
    rw [← val_nn nm.1]
    exact ⟨fun h => h.2, fun h => ⟨nm, h⟩⟩
  | rt c b a w =>
    have := rt_ne0 nm
    constructor
    · rintro ⟨_, h⟩
      have h : (0 : Rl) < (Tm.rt c b a w).val := h
      grind
    · intro h
      exact ⟨nm, show (0 : Rl) < (Tm.rt c b a w).val by grind⟩
theorem sign_neg1 {b : Int} (hb : b ≠ 0) : b.sign = if b < 0 then -1 else 1 := by
  split
  · next q => exact Int.sign_eq_neg_one_of_neg q
  · next q => exact Int.sign_eq_one_of_pos (by omega)
theorem fraction_all (a b : Int) (hb : b ≠ 0) (bb : Bd 8990 b) : ∃ p q, (∀ h : Hs, f_fraction [.int a, .int b] h = some (TD (.fr p q), h)) ∧ (Tm.fr p q).Nm ∧ p * b = a * q ∧ p.natAbs ≤ a.natAbs ∧ q.natAbs ≤ b.natAbs := by
  obtain ⟨p, q, e1, e2, e3, e4, e5, e6, e7⟩ := low_fr (a := a) (s := b.sign) hb (sign_neg1 hb)
  have bg := gcd_bd (a := a) bb hb
  have bs : Bd 1 b.sign := Bd.sign b
  refine ⟨p, q, fun h => ?_, e3, e4, e5, e6⟩
  unfold f_fraction
  rw [runB_ok (by rfl)]
  unfold m_fraction
  walk_at "go"
  rw [e1, e2, TD_fr]
theorem fraction_eq (a b : Int) (h : Hs) (hb : b ≠ 0) (bb : Bd 8990 b) : ∃ p q, f_fraction [.int a, .int b] h = some (TD (.fr p q), h) ∧ (Tm.fr p q).Nm ∧ p * b = a * q ∧ p.natAbs ≤ a.natAbs ∧ q.natAbs ≤ b.natAbs := by
  obtain ⟨p, q, e, r⟩ := fraction_all a b hb bb
  exact ⟨p, q, e h, r⟩
end K22
namespace K22
open SL RR
local macro_rules | `(tactic| walk_at "bd") => `(tactic| (first
  | assumption
  | (with_reducible apply Bd.add <;> walk_at "bd")
  | (with_reducible apply Bd.sub <;> walk_at "bd")
  | (with_reducible apply Bd.mul <;> walk_at "bd")
  | (with_reducible apply Bd.neg <;> walk_at "bd")
  | (with_reducible apply Bd.fdiv <;> walk_at "bd")
  | (with_reducible apply Bd.ite <;> walk_at "bd")
  | (with_reducible apply Bd.sign)
  | exact Bd.lit 64 rfl
  | exact Bd.lit 250 rfl))
local macro_rules | `(tactic| walk_at "dis") => `(tactic| (first
  | assumption
  | (with_reducible apply MOk.of <;> first | (walk_at "bd"; done) | exact Nat.le_of_ble_eq_true rfl)
  | (with_reducible apply Bd.mono <;> first | (walk_at "bd"; done) | exact Nat.le_of_ble_eq_true rfl)
  | (with_reducible apply DOk.of <;> first | (walk_at "bd"; done) | omega | exact Nat.le_of_ble_eq_true rfl)
  | omega))
local macro_rules | `(tactic| walk_at "ev") => `(tactic| simp (disch := walk_at "dis") only [ev_var0, ev_varS, ev_c, ev_op, ev_opK, ev_un, ev_call, ev_nil, ev_cons, ev_acK, ev_consK, ev_tup, ev_tupK, ev_lst, ev_lstK, ev_ifE, ev_ifS, ev_ifKT, ev_ifKF, ev_ifK, ev_ifKN,
  ev_tV, ev_tvK, ev_tTru, ev_truB, ev_truN, ev_truI, ev_and, ev_or, ev_not, ev_notK, ev_andT, ev_andF, ev_orT, ev_orF, ev_andK, ev_andKN, ev_orK, ev_orKN, ev_eAnd, ev_eOr, ev_eNot, ev_eNotB, ev_eAndT, ev_eAndF, ev_eAndB, ev_eAndBN, ev_eOrT, ev_eOrF, ev_eOrN, ev_eOrB, ev_eOrBN,
  ev_chain, ev_chK1, ev_chK2, ev_chK3, ev_chK3T, ev_chK3F, ev_seq, ev_thn, ev_thnR, ev_thnB, ev_thnC, ev_next, ev_break, ev_cont, ev_ret, ev_retK, ev_retN, ev_expr, ev_exprK, ev_asg, ev_asgK, ev_nxK, ev_gNm, ev_gTp, ev_gsNil, ev_gsCons, ev_gsK, ev_gSb, ev_gSbK1, ev_par, ev_parK2, ev_parK3, ev_mt,
  ev_add, ev_sub, ev_mul, ev_fdiv, ev_mod, ev_pow, ev_shl, ev_neg, ev_lt, ev_le, ev_gt, ev_ge, ev_eqI, ev_neI, ev_abs, ev_intB, ev_intI, ev_minI, ev_maxI, ev_bits, ev_get0, ev_get1, ev_get2, bd_ok, bd_none, ev_whT, ev_whF, ev_whD, ev_wh2, ev_wh2c, ev_wh2r, ev_wh2b, ev_for, ev_forK, ev_fr1, ev_fr2, ev_fr2c, ev_fr2r, ev_fr2b, ev_lc, ev_lcK, ev_lc1, ev_lc2T, ev_lc2F, ev_lc2D, ev_yes, ev_iSeq, ev_seqT, ev_seqS, ev_iRange, ev_iEnum, ev_iZip,
  ev_neIS, ev_eqIS, ev_neSS, ev_eqSS, ev_isN, ev_isNot, isNon_t, isNon_n, isNon_i, isNon_r, decide_true, decide_false, decide_eq_true_eq, eq_self, if_true, if_false,
  out_rt, out_nx, List.map_cons, List.map_nil, List.cons_append, List.nil_append, List.replicate, List.set_cons_zero, List.set_cons_succ, Nat.reduceSub, Int.reduceEq, Int.reduceLT, Int.reduceLE, Int.reduceMul, Int.reduceAdd, Int.reduceSub, Bool.not_true, Bool.not_false])
local macro_rules | `(tactic| walk_at "go") => `(tactic| repeat (first | walk_at "ev" | walk_at "fs"))
local macro_rules | `(tactic| walk_at "wv") => `(tactic| simp only [wp_ok, kn_eq, outQ_rt, outQ_nx, turnQ_nx, turnQ_ct, turnQ_bk, turnQ_rt, whQ_nx, whQ_bk, whQ_rt, whT_t, whT_f, whT_d, lcT_t, lcT_f, lcT_d])
local macro_rules | `(tactic| walk_at "wb") => `(tactic| with_reducible refine wp_bd ?_)
local macro_rules | `(tactic| walk_at "w") => `(tactic| repeat (first | walk_at "ev" | walk_at "wv" | walk_at "fs" | walk_at "wb"))
local macro_rules | `(tactic| walk_at "bd") => `(tactic| exact Bd.fm rfl)
local macro_rules | `(tactic| walk_at "fs") => `(tactic| simp only [p10_3, p10_6, p10_7, p10_8, p10_9, p10_12, p10_15, p10_18, p10_60])
local macro_rules | `(tactic| walk_at "fs") => `(tactic| simp only [ev_pNil, ev_pCons, ev_pK1, ev_pK2, ev_pK3s, ev_dict, ev_gSb, ev_gSbK1])
local macro_rules | `(tactic| walk_at "fs") => `(tactic| simp only [wipe_nil, wipe_cons])
local macro_rules | `(tactic| walk_at "fs") => `(tactic| simp only [ev_make, ev_fldSet, ev_fsK1, ev_om, ev_omK2, ev_intB])
local macro_rules | `(tactic| walk_at "fs") => `(tactic| simp only [ev_iEnumV, ev_enumV, isi_str, ev_isN, ev_isNot])
local macro_rules | `(tactic| walk_at "fs") => `(tactic| simp only [ev_sl, ev_slK1, ev_slK2, ev_slK3, ev_oSome, ev_oSomeK, ev_oNone, slT4, slT3, len_tup, ev_get3, ev_get4, th_rows, th_nm])
local macro_rules | `(tactic| walk_at "fs") => `(tactic| simp only [List.isEmpty_nil, List.isEmpty_cons])
theorem told_eq {W : Nat} {ts ws : List D} {h : Hs} (w : Wl W ts ws h) : f_World_told [.ref W] h = some (.tup [.ref h.length, .ref (h ++ [AO.lst ts]).length], h ++ [.lst ts] ++ [.lst ws]) := by
  obtain ⟨A, B, e1, e2, e3, _⟩ := w.ex
  unfold f_World_told
  rw [runB_ok (by rfl)]
  unfold m_World_told
  walk_at "go"
  rw [ev_fld e1 rfl]
  walk_at "go"
  rw [ev_listL (getL_lst e2)]
  walk_at "go"
  rw [ev_fld (get_app _ e1) rfl]
  walk_at "go"
  rw [ev_listL (getL_lst (get_app _ e3))]
  walk_at "go"
theorem recv_W {W : Nat} {ts ws : List D} {h : Hs} {x : PySem.Str} (w : Wl W ts ws h) (l : ([("told_things", D.non), ("told_walls", D.non)] : List (PySem.Str × D)).lookup x = none) : recv "World" x (.ref W) h = true := by
  obtain ⟨A, B, e1, e2, e3, _⟩ := w.ex
  refine recv_is e1 ?_
  simp only [List.lookup_cons, List.lookup_nil] at l ⊢
  split at l
  · cases l
  · split at l
    · cases l
    · rfl
theorem world_wp {h : Hs} {a b : Nat} {ts ws : List D} {Q : D → Hs → Prop} (ea : getL h a = some ts) (eb : getL h b = some ws) (q : ∀ h', KA h h' → Wl h.length ts ws h' → Q (.ref h.length) h') : WP (makeK "World" f_World_init [.ref a, .ref b] h) Q := by
  refine wp_make ?_
  unfold f_World_init
  refine wp_run rfl ?_
  unfold m_World_init
  have lW : h.length < (h ++ [AO.ins "World" []]).length := by simp
  have eW : (h ++ [AO.ins "World" []])[h.length]? = some (.ins "World" []) := get_last
  have k0 : KA h (h ++ [AO.ins "World" []]) := ka_app
  generalize hH : h ++ [AO.ins "World" []] = H at *
  walk_at "w"
  rw [ev_listL (k0.getL ea)]
  walk_at "w"
  rw [ev_fsK2 (get_app _ eW) (by decide)]
  walk_at "w"
  have k1 : KA h ((H ++ [AO.lst ts]).set h.length (.ins "World" (putFD "told_things" (.ref H.length) []))) := (k0.trans ka_app).new (Nat.le_refl _)
  rw [ev_listL (k1.getL eb)]
  walk_at "w"
  rw [ev_fsK2 (fs := putFD "told_things" (.ref H.length) []) (get_app _ (set_at (by simp; omega))) (show (1 : Nat) < 1000 by decide)]
  walk_at "w"
  refine ⟨trivial, q _ ((k1.trans ka_app).new (Nat.le_refl _)) ⟨H.length, _, set_at (by simp; omega), ?_, ?_, by omega, by simp; omega⟩⟩
  · rw [List.getElem?_set_ne (by omega), List.getElem?_append_left (by simp), List.getElem?_set_ne (by omega)]
    exact get_last
  · rw [List.getElem?_set_ne (by simp; omega)]
    exact get_last
theorem thing_of_wp {W : Nat} {ths : List Th} {ws : List D} {h : Hs} {a : Th} {Q : D → Hs → Prop} (w : Wl W (ths.map Th.D) ws h) (ha : a ∈ ths) (nd : (ths.map Th.nm).Nodup) (q : ∀ h', KA h h' → Q a.D h') : WP (f_thing_of [.ref W, .str a.nm] h) Q := by
  unfold f_thing_of
  refine wp_run rfl ?_
  rw [m_thing_of_q]
  walk_at "w"
  rw [ev_omK (recv_W w rfl)]
  walk_at "w"
  rw [told_eq w]
  walk_at "w"
  have e1 : getL (h ++ [AO.lst (ths.map Th.D)] ++ [AO.lst ws]) h.length = some (ths.map Th.D) := getL_lst (get_app _ get_last)
  rw [ev_seqL e1]
  walk_at "w"
  have k1 : KA h (h ++ [AO.lst (ths.map Th.D)] ++ [AO.lst ws]) := ka_app.trans ka_app
  generalize h ++ [AO.lst (ths.map Th.D)] ++ [AO.lst ws] = H at *
  obtain ⟨j, hj, ej⟩ := List.getElem_of_mem ha
  have un : ∀ i (hi : i < ths.length), ths[i].nm = a.nm → i = j := fun i hi e => by
    have pw := List.pairwise_iff_getElem.mp nd
    refine Classical.byContradiction fun z => ?_
    have ne : ∀ i j (hi : i < ths.length) (hj : j < ths.length), i < j → ths[i].nm ≠ ths[j].nm := fun i j hi hj l => by
      have := pw i j (by simpa using hi) (by simpa using hj) l
      simpa using this
    rcases Nat.lt_or_gt_of_ne z with l | l
    · exact ne i j hi hj l (by rw [ej]; exact e)
    · exact ne j i hj hi l (by rw [ej]; exact e.symm)
  refine wp_fr ths.length (fun i ρ g => ∃ x2, ρ = [some (.ref W), some (.str a.nm), x2] ∧ i ≤ j ∧ g = H) ⟨none, rfl, Nat.zero_le _, rfl⟩ ?_ ?_
  · rintro i hi ρ g ⟨x2, rfl, li, rfl⟩
    refine ⟨ths[i].D, _, g, srcL_in e1 (by rw [List.getElem?_map, List.getElem?_eq_getElem hi]; rfl), rfl, ?_⟩
    unfold q_thing_of_L1 Th.D
    walk_at "w"
    refine wp_ite (fun e => ?_) (fun ne => ?_)
    · walk_at "w"
      have := un i hi e
      subst this
      rw [ej]
      exact q _ k1
    · walk_at "w"
      refine ⟨_, rfl, ?_, trivial⟩
      rcases Nat.lt_or_ge i j with l | l
      · exact l
      · obtain rfl : i = j := by omega
        exact absurd (by rw [ej]) ne
  · rintro ρ g ⟨x2, rfl, li, rfl⟩
    exact absurd hj (by omega)
/-- a turn of way_of: a row -/
theorem way_row {g : Hs} {L : Nat} {nm : PySem.Str} {th rows : D} {x y s u v : Int} {r : Row} {ps : List Pc} {o : Option D} {R : Out × Rho → Hs → Prop} (eg : g[L]? = some (.lst (ps.map Pc.D3))) (lp : ps.length ≤ 100)
    (s0 : 0 ≤ s) (st : s ≤ r.t) (ok : RowOk r) (bx : -(1000000 + 1000 * s) ≤ x ∧ x ≤ 1000000 + 1000 * s) (by' : -(1000000 + 1000 * s) ≤ y ∧ y ≤ 1000000 + 1000 * s) (bu : -1000 ≤ u ∧ u ≤ 1000) (bv : -1000 ≤ v ∧ v ≤ 1000)
    (q : ∀ g' o', Keep (· ≠ L) g g' → g'[L]? = some (.lst ((ps ++ if s < r.t then [(⟨s, some r.t, x - u * s, u, y - v * s, v⟩ : Pc)] else []).map Pc.D3)) → R (.nx, [some th, some (.str nm), some (.int (x + u * (r.t - s))), some (.int (y + v * (r.t - s))), some rows, some (.ref L), some (.int r.t), some (.tup [.int r.u, .int r.v]), some (.int r.t), some (.int r.u), some (.int r.v), o']) g') :
    WP (q_way_of_L1 [some th, some (.str nm), some (.int x), some (.int y), some rows, some (.ref L), some (.int s), some (.tup [.int u, .int v]), some (.int r.t), some (.int r.u), some (.int r.v), o] g) R := by
  have tb := ok.t
  have Bx : Bd 45 x := bd_of bx (by omega)
  have By : Bd 45 y := bd_of by' (by omega)
  have Bs : Bd 32 s := Bd.of_range (by omega) (by omega)
  have Bt : Bd 32 r.t := Bd.of_range (by omega) (by omega)
  have Bu : Bd 10 u := Bd.of_range (by omega) (by omega)
  have Bv : Bd 10 v := Bd.of_range (by omega) (by omega)
  unfold q_way_of_L1
  walk_at "w"
  refine wp_ite (fun c => ?_) (fun c => ?_)
  · unfold q_way_of_I1t
    walk_at "w"
    rw [ev_mtK (tyD_lst eg)]
    walk_at "w"
    rw [ev_app eg (by rw [List.length_map]; exact small_line (by omega))]
    walk_at "w"
    unfold q_way_of_I2t
    walk_at "w"
    refine q _ _ (Keep.set (by simp)) ?_
    rw [set_at (get_lt eg), if_pos c, List.map_append]
    rfl
  · walk_at "w"
    unfold q_way_of_I2t
    walk_at "w"
    refine q _ _ Keep.refl ?_
    rw [if_neg c, List.append_nil]
    exact eg
/-- its last turn -/
theorem way_end {g : Hs} {L : Nat} {nm : PySem.Str} {th rows : D} {x y s u v : Int} {ps : List Pc} {o : Option D} {R : Out × Rho → Hs → Prop} (eg : g[L]? = some (.lst (ps.map Pc.D3))) (lp : ps.length ≤ 100)
    (s0 : 0 ≤ s) (s1 : s ≤ 2 ^ 30) (bx : -(1000000 + 1000 * s) ≤ x ∧ x ≤ 1000000 + 1000 * s) (by' : -(1000000 + 1000 * s) ≤ y ∧ y ≤ 1000000 + 1000 * s) (bu : -1000 ≤ u ∧ u ≤ 1000) (bv : -1000 ≤ v ∧ v ≤ 1000)
    (q : ∀ g' o', Keep (· ≠ L) g g' → g'[L]? = some (.lst ((ps ++ [(⟨s, none, x - u * s, u, y - v * s, v⟩ : Pc)]).map Pc.D3)) → R (.nx, [some th, some (.str nm), some (.int x), some (.int y), some rows, some (.ref L), some (.int s), some (.tup [.int 0, .int 0]), some .non, some (.int 0), some (.int 0), o']) g') :
    WP (q_way_of_L1 [some th, some (.str nm), some (.int x), some (.int y), some rows, some (.ref L), some (.int s), some (.tup [.int u, .int v]), some .non, some (.int 0), some (.int 0), o] g) R := by
  have Bx : Bd 45 x := bd_of bx (by omega)
  have By : Bd 45 y := bd_of by' (by omega)
  have Bs : Bd 32 s := Bd.of_range (by omega) (by omega)
  have Bu : Bd 10 u := Bd.of_range (by omega) (by omega)
  have Bv : Bd 10 v := Bd.of_range (by omega) (by omega)
  unfold q_way_of_L1
  walk_at "w"
  unfold q_way_of_I1t
  walk_at "w"
  rw [ev_mtK (tyD_lst eg)]
  walk_at "w"
  rw [ev_app eg (by rw [List.length_map]; exact small_line (by omega))]
  walk_at "w"
  refine q _ _ (Keep.set (by simp)) ?_
  rw [set_at (get_lt eg), List.map_append]
  rfl
theorem ka_ne {h g g' : Hs} {L : Nat} (k : KA h g) (k2 : Keep (· ≠ L) g g') (l : h.length ≤ L) : KA h g' := ⟨Nat.le_trans k.1 k2.1, fun i li _ => (k2.2 i (Nat.lt_of_lt_of_le li k.1) (show i ≠ L by omega)).trans (k.2 i li trivial)⟩
theorem way_of_wp {h : Hs} {a : Th} {Q : D → Hs → Prop} (oa : ThOk a) (q : ∀ h' L, KA h h' → h.length ≤ L → h'[L]? = some (.lst ((wayT a).map Pc.D3)) → Q (.ref L) h') : WP (f_way_of [a.D] h) Q := by
  obtain ⟨nm, x, y, rs⟩ := a
  obtain ⟨ox, oy, up, ok, few, _⟩ := oa
  simp only at ox oy up ok few
  unfold f_way_of Th.D
  refine wp_run rfl ?_
  rw [m_way_of_q]
  walk_at "w"
  unfold rowsD
  rw [ev_addT (by simp only [List.length_map, List.length_singleton]; exact Nat.le_trans (show rs.length + 1 ≤ 4000 by omega) (Nat.le_of_ble_eq_true rfl))]
  walk_at "w"
  have eL : (h ++ [AO.lst []])[h.length]? = some (.lst []) := get_last
  have k0 : KA h (h ++ [AO.lst []]) := ka_app
  have lL : h.length ≤ h.length := Nat.le_refl _
  generalize h ++ [AO.lst []] = H at *
  generalize hL : h.length = L at *
  refine wp_fr (rs.length + 1) (fun i ρ g => ∃ (x1 y1 s u v : Int) (ps : List Pc) (o1 o2 o3 o4 : Option D), ρ = [some (.tup [.str nm, .int x, .int y, .tup (rs.map Row.D)]), some (.str nm), some (.int x1), some (.int y1), some (.tup (rs.map Row.D)), some (.ref L), some (.int s), some (.tup [.int u, .int v]), o1, o2, o3, o4] ∧
      KA h g ∧ g[L]? = some (.lst (ps.map Pc.D3)) ∧ ps.length ≤ i ∧ ((i ≤ rs.length ∧ ps ++ wayF x1 y1 s u v (rs.drop i) = wayT ⟨nm, x, y, rs⟩ ∧ Rising s (rs.drop i) ∧ 0 ≤ s ∧ s ≤ 2 ^ 30 ∧ (-(1000000 + 1000 * s) ≤ x1 ∧ x1 ≤ 1000000 + 1000 * s) ∧ (-(1000000 + 1000 * s) ≤ y1 ∧ y1 ≤ 1000000 + 1000 * s) ∧ (-1000 ≤ u ∧ u ≤ 1000) ∧ (-1000 ≤ v ∧ v ≤ 1000)) ∨ (i = rs.length + 1 ∧ ps = wayT ⟨nm, x, y, rs⟩)))
    ⟨x, y, 0, 0, 0, [], _, _, _, _, rfl, k0, eL, Nat.le_refl _, .inl ⟨Nat.zero_le _, rfl, up, Int.le_refl _, by decide, by omega, by omega, by decide, by decide⟩⟩ ?_ ?_
  · rintro i hi ρ g ⟨x1, y1, s, u, v, ps, o1, o2, o3, o4, rfl, kg, eg, lp, ⟨li, ew, ris, s0, s1, bx, by', bu, bv⟩ | ⟨li, _⟩⟩
    · rcases Nat.lt_or_ge i rs.length with l | l
      · have er : rs.drop i = rs[i] :: rs.drop (i + 1) := List.drop_eq_getElem_cons l
        rw [er] at ew ris
        have okr := ok rs[i] (List.getElem_mem l)
        obtain ⟨r1, r2⟩ := ris
        have tb := okr.t
        refine ⟨rs[i].D, _, g, srcT_in (by rw [List.getElem?_append_left (by simpa using l), List.getElem?_map, List.getElem?_eq_getElem l]; rfl), rfl, ?_⟩
        refine way_row eg (by omega) s0 r1 okr bx by' bu bv fun g' o' kk eg' => ?_
        walk_at "w"
        refine ⟨_, _, _, _, _, _, _, _, _, _, rfl, ka_ne kg kk (by omega), eg', ?_, .inl ⟨l, ?_, r2.mono (by omega), by omega, by omega, adv_bd bx bu r1, adv_bd by' bv r1, okr.u, okr.v⟩⟩
        · split <;> simp <;> omega
        · rw [List.append_assoc]
          exact ew
      · have ei : i = rs.length := by omega
        subst ei
        rw [List.drop_length] at ew
        refine ⟨.tup [.non, .int 0, .int 0], _, g, srcT_in (by rw [List.getElem?_append_right (by simp)]; simp), rfl, ?_⟩
        refine way_end eg (by omega) s0 s1 bx by' bu bv fun g' o' kk eg' => ?_
        walk_at "w"
        exact ⟨_, _, _, _, _, _, _, _, _, _, rfl, ka_ne kg kk (by omega), eg', by simp; omega, .inr ⟨trivial, ew⟩⟩
    · omega
  · rintro ρ g ⟨x1, y1, s, u, v, ps, o1, o2, o3, o4, rfl, kg, eg, lp, ⟨li, _⟩ | ⟨_, rfl⟩⟩
    · omega
    refine ⟨srcT_out (by simp), ?_⟩
    walk_at "w"
    exact q g L kg (by omega) eg
end K22
namespace SL
open RR PySem
/-! ### times as they are drawn, with the whole number below them -/
structure TkB (t : Tm) : Prop where
  nm : t.Nm
  nn : 0 ≤ t.val
  tb : TB 60 t
  lt : t.val < ((2 ^ 31 : Int) : RR.Rl)
def gcdL : Int → List Int → Int
  | g, [] => g
  | g, n :: ns => gcdL (Int.gcd g n : Int) ns
theorem gcdL2 (a b : Int) : gcdL 0 [a, b] = Int.gcd a b := by
  show ((Int.gcd (Int.gcd 0 a : Int) b : Nat) : Int) = _
  congr 1
  rw [Int.gcd_zero_left]
  show Nat.gcd ((a.natAbs : Int).natAbs) b.natAbs = Nat.gcd a.natAbs b.natAbs
  rw [Int.natAbs_natCast]
theorem gcdL3 (a b c : Int) : gcdL 0 [a, b, c] = Int.gcd (Int.gcd a b : Int) c := by
  show ((Int.gcd (gcdL 0 [a, b]) c : Nat) : Int) = _
  rw [gcdL2]
theorem val_1 {p : Int} : (Tm.fr p 1).val = (p : RR.Rl) := by
  have e := val_fr (p := p) (q := 1) (by decide)
  rw [cast_one] at e
  grind
theorem fr_lt {p q n : Int} (hq : 0 < q) : (Tm.fr p q).val < (n : RR.Rl) ↔ p < n * q := by
  have hq' := cast_pos hq
  have e := val_fr (p := p) hq
  rw [← cast_lt, cast_mul, ← e]
  constructor
  · intro h
    have := mul_pos (show 0 < (n : RR.Rl) - (Tm.fr p q).val by grind) hq'
    grind
  · intro h
    refine Classical.byContradiction fun z => ?_
    have := mul_nn (show 0 ≤ (Tm.fr p q).val - (n : RR.Rl) by grind) (show (0 : RR.Rl) ≤ q by grind)
    grind
theorem fr_nn {p q : Int} (hq : 0 < q) (hp : 0 ≤ p) : 0 ≤ (Tm.fr p q).val := by
  have hq' := cast_pos hq
  have e := val_fr (p := p) hq
  have := cast_nn hp
  refine Classical.byContradiction fun z => ?_
  have := mul_pos (show 0 < -(Tm.fr p q).val by grind) hq'
  grind
theorem tk_frac {p q : Int} (nm : (Tm.fr p q).Nm) (h0 : 0 ≤ p) (h1 : p < 2 ^ 31) (h2 : q < 2 ^ 31) : TkB (.fr p q) := by
  have hq := nm.1
  refine ⟨nm, fr_nn hq h0, ⟨Bd.of_range (by omega) (by omega), Bd.of_range (by omega) (by omega)⟩, (fr_lt hq).mpr ?_⟩
  have := Int.mul_le_mul_of_nonneg_left (show 1 ≤ q by omega) (show (0 : Int) ≤ 2 ^ 31 by decide)
  omega
theorem tk_whole {p : Int} (h0 : 0 ≤ p) (h1 : p < 2 ^ 31) : TkB (.fr p 1) := tk_frac ⟨by decide, by simp⟩ h0 h1 (by decide)
theorem tk_half {b : Int} (h0 : 0 ≤ b) (h1 : b < 2 ^ 30) : TkB (.fr (2 * b + 1) 2) := by
  refine tk_frac ⟨by decide, ?_⟩ (by omega) (by omega) (by decide)
  have h := Int.gcd_dvd_right (2 * b + 1) 2
  have k := Int.gcd_dvd_left (2 * b + 1) 2
  have l : (Int.gcd (2 * b + 1) 2 : Int) ≤ 2 := Int.le_of_dvd (by decide) h
  have n0 : Int.gcd (2 * b + 1) 2 ≠ 0 := fun z => by have := (Int.gcd_eq_zero_iff.mp z).2; omega
  have : Int.gcd (2 * b + 1) 2 ≠ 2 := fun z => by
    rw [z] at k
    obtain ⟨x, hx⟩ := k
    omega
  omega
theorem tk_low {a b : Int} (h0 : 0 ≤ a) (h1 : a < 2 ^ 31) (hb : 0 < b) (b1 : b < 2 ^ 31) : ∃ p q, a.fdiv (gcdL 0 [a, b]) = p ∧ b.fdiv (gcdL 0 [a, b]) = q ∧ TkB (.fr p q) := by
  obtain ⟨p, q, e1, e2, nm, e3, l1, l2, _⟩ := low_fr (a := a) (b := b) (s := 1) (by omega) (by rw [if_neg (by omega)])
  rw [Int.mul_one, ← gcdL2] at e1 e2
  refine ⟨p, q, e1, e2, tk_frac nm ?_ (by omega) (by have := nm.1; omega)⟩
  refine Int.not_lt.mp fun z => ?_
  have := Int.mul_pos (show 0 < -p by omega) hb
  have h2 := Int.mul_nonneg h0 (Int.le_of_lt nm.1)
  have : -p * b = -(p * b) := Int.neg_mul p b
  omega
theorem bd_nat_le {n : Nat} {i : Int} (h : Bd n i) : (i.natAbs : Int) ≤ 2 ^ n := by
  have h1 : ((2 ^ n : Nat) : Int) = 2 ^ n := by rw [Int.natCast_pow]; rfl
  unfold Bd at h
  omega
theorem tk_root {c b a w : Int} (nm : (Tm.rt c b a w).Nm) (nn : 0 ≤ (Tm.rt c b a w).val) (bc : Bd 28 c) (bb : Bd 28 b) (ba : Bd 28 a) : TkB (.rt c b a w) := by
  refine ⟨nm, nn, ⟨bc.mono (by decide), bb.mono (by decide), ba.mono (by decide)⟩, ?_⟩
  have := (rt_le (N := 2 ^ 28) (by decide) nm ⟨bd_nat_le bc, bd_nat_le bb, bd_nat_le ba⟩).1
  have l : (2 * ((2 ^ 28 : Int) : RR.Rl)) < ((2 ^ 31 : Int) : RR.Rl) := by
    rw [show (2 : RR.Rl) * ((2 ^ 28 : Int) : RR.Rl) = ((2 * 2 ^ 28 : Int) : RR.Rl) by rw [cast_mul]; rfl, cast_lt]
    decide
  grind
theorem fl_ex {t : Tm} (nm : t.Nm) : ∃ f, IsFl t.val f := by
  have one : ∀ x : RR.Rl, ((1 : Int) : RR.Rl) * x = x := fun x => by rw [cast_one]; grind
  cases t with
  | fr p q => exact ⟨_, by have := fl_fr (p := p) (P := 1) nm.1; rwa [one] at this⟩
  | rt c b a w =>
    obtain ⟨r, hr⟩ := isRt_ex (n := (b * b - 4 * a * c) * (1 * 1)) (by have := nm.2.2.1; omega)
    rcases nm.2.2.2.2 with rfl | rfl
    · exact ⟨_, by have := fl_rt0 nm (by decide) hr; rwa [one] at this⟩
    · exact ⟨_, by have := fl_rt1 nm (by decide) hr; rwa [one] at this⟩
theorem fl_bd {t : Tm} (k : TkB t) {f : Int} (hf : IsFl t.val f) : 0 ≤ f ∧ f < 2 ^ 31 := by
  constructor
  · refine Int.not_lt.mp fun z => ?_
    have := (hf.lt_iff (n := 0)).mpr z
    have := k.nn
    rw [cast_zero] at *
    grind
  · exact (hf.lt_iff (n := 2 ^ 31)).mp k.lt
theorem fl_fdiv {p q f : Int} (hq : 0 < q) (hf : IsFl (Tm.fr p q).val f) : p.fdiv q = f := by
  have := fl_fr (p := p) (P := 1) hq
  rw [cast_one, Int.mul_one] at this
  exact IsFl.unique (x := (Tm.fr p q).val) (by have e : (1 : RR.Rl) * (Tm.fr p q).val = (Tm.fr p q).val := by grind
                                               rwa [e] at this) hf
/-- whole numbers and a time -/
theorem whole_le {t : Tm} {f n : Int} (hf : IsFl t.val f) : 0 ≤ sgR (t.val - (Tm.fr n 1).val) ↔ n ≤ f := by
  rw [val_1]
  have := hf.lt_iff (n := n)
  rcases tri (t.val - (n : RR.Rl)) with y | y | y
  · rw [sg_pos y]
    constructor
    · intro _
      refine Int.not_lt.mp fun z => ?_
      have := this.mpr z
      grind
    · intro _; decide
  · rw [sg_neg y]
    constructor
    · intro z; exact absurd z (by decide)
    · intro z
      have := this.mp (by grind)
      omega
  · rw [y, sg_zero]
    constructor
    · intro _
      refine Int.not_lt.mp fun z => ?_
      have := this.mpr z
      grind
    · intro _; decide
theorem root_ne {c b a w n : Int} (nm : (Tm.rt c b a w).Nm) : (Tm.rt c b a w).val ≠ (n : RR.Rl) := fun e => by
  have := val_inj (t := .rt c b a w) (u := .fr n 1) nm ⟨by decide, by simp⟩ (by rw [e, val_1])
  cases this
theorem whole_lt {c b a w f n : Int} (nm : (Tm.rt c b a w).Nm) (hf : IsFl (Tm.rt c b a w).val f) : sgR ((Tm.fr n 1).val - (Tm.rt c b a w).val) < 0 ↔ n ≤ f := by
  rw [val_1]
  have ne := root_ne (n := n) nm
  have := hf.lt_iff (n := n)
  rcases tri ((n : RR.Rl) - (Tm.rt c b a w).val) with y | y | y
  · rw [sg_pos y]
    constructor
    · intro z; exact absurd z (by decide)
    · intro z
      have := this.mp (by grind)
      omega
  · rw [sg_neg y]
    constructor
    · intro _
      refine Int.not_lt.mp fun z => ?_
      have := this.mpr z
      grind
    · intro _; decide
  · exact absurd (by grind) ne
/-- the last begin that isn't behind -/
theorem last_begin {a : Th} (oa : ThOk a) {b : Int} (b0 : 0 ≤ b) : ∃ (l : List Int) (c : Int), (begT a.rs).filter (fun c => decide (c ≤ b)) = l ++ [c] ∧ 0 ≤ c ∧ c ≤ b ∧ (pcT a c none).pl = (pcT a b none).pl := by
  obtain ⟨l, p, e1, e2, e3⟩ := last_piece oa b0
  have e4 : (begT a.rs).filter (fun c => decide (c ≤ b)) = ((wayT a).filter fun p => decide (p.a ≤ b)).map (·.a) := by
    rw [← way_a a oa.up, List.filter_map]
    rfl
  rw [e1, List.map_append] at e4
  have hm : p ∈ (wayT a).filter fun p => decide (p.a ≤ b) := by rw [e1]; simp
  have hb := (List.mem_filter.mp hm).2
  refine ⟨l.map (·.a), p.a, e4, (wayT_ok oa p e2).a.1, by simpa using hb, ?_⟩
  rw [← e3, way_pcs a oa.up] at *
  obtain ⟨q, hq, rfl⟩ := List.mem_map.mp e2
  rfl
theorem way_first {a : Th} (oa : ThOk a) : ∃ p ps, wayT a = p :: ps ∧ p.a = 0 := by
  have e := way_a a oa.up
  have h0 : ∃ l, begT a.rs = 0 :: l := by
    unfold begT
    have up := oa.up
    cases z : a.rs with
    | nil => exact ⟨_, rfl⟩
    | cons r rs =>
      rw [z] at up
      simp only
      split
      · exact ⟨_, rfl⟩
      · next q =>
        have : r.t = 0 := by have := up.1; omega
        rw [this]
        exact ⟨_, rfl⟩
  obtain ⟨l, h0⟩ := h0
  rw [h0] at e
  cases z : wayT a with
  | nil => rw [z] at e; cases e
  | cons p ps =>
    rw [z] at e
    simp only [List.map_cons, List.cons.injEq] at e
    exact ⟨p, ps, rfl, e.1⟩
theorem cut_to {ds : List D} {k : Nat} : cutD ds none (some (k : Int)) = ds.take k := by
  unfold cutD
  have e1 : HT.sIx ds.length 0 none = 0 := rfl
  rw [e1, HT.sIx_nat, List.drop_zero, Nat.sub_zero]
  rcases Nat.le_total k ds.length with l | l
  · rw [Nat.min_eq_left l]
  · rw [Nat.min_eq_right l, List.take_length, List.take_of_length_le l]
end SL
namespace K22
open SL RR
local macro_rules | `(tactic| walk_at "bd") => `(tactic| (first
  | assumption
  | (with_reducible apply Bd.add <;> walk_at "bd")
  | (with_reducible apply Bd.sub <;> walk_at "bd")
  | (with_reducible apply Bd.mul <;> walk_at "bd")
  | (with_reducible apply Bd.neg <;> walk_at "bd")
  | (with_reducible apply Bd.fdiv <;> walk_at "bd")
  | (with_reducible apply Bd.ite <;> walk_at "bd")
  | (with_reducible apply Bd.sign)
  | exact Bd.lit 64 rfl
  | exact Bd.lit 250 rfl))
local macro_rules | `(tactic| walk_at "dis") => `(tactic| (first
  | assumption
  | (with_reducible apply MOk.of <;> first | (walk_at "bd"; done) | exact Nat.le_of_ble_eq_true rfl)
  | (with_reducible apply Bd.mono <;> first | (walk_at "bd"; done) | exact Nat.le_of_ble_eq_true rfl)
  | (with_reducible apply DOk.of <;> first | (walk_at "bd"; done) | omega | exact Nat.le_of_ble_eq_true rfl)
  | omega))
local macro_rules | `(tactic| walk_at "ev") => `(tactic| simp (disch := walk_at "dis") only [ev_var0, ev_varS, ev_c, ev_op, ev_opK, ev_un, ev_call, ev_nil, ev_cons, ev_acK, ev_consK, ev_tup, ev_tupK, ev_lst, ev_lstK, ev_ifE, ev_ifS, ev_ifKT, ev_ifKF, ev_ifK, ev_ifKN,
  ev_tV, ev_tvK, ev_tTru, ev_truB, ev_truN, ev_truI, ev_and, ev_or, ev_not, ev_notK, ev_andT, ev_andF, ev_orT, ev_orF, ev_andK, ev_andKN, ev_orK, ev_orKN, ev_eAnd, ev_eOr, ev_eNot, ev_eNotB, ev_eAndT, ev_eAndF, ev_eAndB, ev_eAndBN, ev_eOrT, ev_eOrF, ev_eOrN, ev_eOrB, ev_eOrBN,
  ev_chain, ev_chK1, ev_chK2, ev_chK3, ev_chK3T, ev_chK3F, ev_seq, ev_thn, ev_thnR, ev_thnB, ev_thnC, ev_next, ev_break, ev_cont, ev_ret, ev_retK, ev_retN, ev_expr, ev_exprK, ev_asg, ev_asgK, ev_nxK, ev_gNm, ev_gTp, ev_gsNil, ev_gsCons, ev_gsK, ev_gSb, ev_gSbK1, ev_par, ev_parK2, ev_parK3, ev_mt,
  ev_add, ev_sub, ev_mul, ev_fdiv, ev_mod, ev_pow, ev_shl, ev_neg, ev_lt, ev_le, ev_gt, ev_ge, ev_eqI, ev_neI, ev_abs, ev_intB, ev_intI, ev_minI, ev_maxI, ev_bits, ev_get0, ev_get1, ev_get2, bd_ok, bd_none, ev_whT, ev_whF, ev_whD, ev_wh2, ev_wh2c, ev_wh2r, ev_wh2b, ev_for, ev_forK, ev_fr1, ev_fr2, ev_fr2c, ev_fr2r, ev_fr2b, ev_lc, ev_lcK, ev_lc1, ev_lc2T, ev_lc2F, ev_lc2D, ev_yes, ev_iSeq, ev_seqT, ev_seqS, ev_iRange, ev_iEnum, ev_iZip,
  ev_neIS, ev_eqIS, ev_neSS, ev_eqSS, ev_isN, ev_isNot, isNon_t, isNon_n, isNon_i, isNon_r, decide_true, decide_false, decide_eq_true_eq, eq_self, if_true, if_false,
  out_rt, out_nx, List.map_cons, List.map_nil, List.cons_append, List.nil_append, List.replicate, List.set_cons_zero, List.set_cons_succ, Nat.reduceSub, Int.reduceEq, Int.reduceLT, Int.reduceLE, Int.reduceMul, Int.reduceAdd, Int.reduceSub, Bool.not_true, Bool.not_false])
local macro_rules | `(tactic| walk_at "go") => `(tactic| repeat (first | walk_at "ev" | walk_at "fs"))
local macro_rules | `(tactic| walk_at "wv") => `(tactic| simp only [wp_ok, kn_eq, outQ_rt, outQ_nx, turnQ_nx, turnQ_ct, turnQ_bk, turnQ_rt, whQ_nx, whQ_bk, whQ_rt, whT_t, whT_f, whT_d, lcT_t, lcT_f, lcT_d])
local macro_rules | `(tactic| walk_at "wb") => `(tactic| with_reducible refine wp_bd ?_)
local macro_rules | `(tactic| walk_at "w") => `(tactic| repeat (first | walk_at "ev" | walk_at "wv" | walk_at "fs" | walk_at "wb"))
local macro_rules | `(tactic| walk_at "bd") => `(tactic| exact Bd.fm rfl)
local macro_rules | `(tactic| walk_at "fs") => `(tactic| simp only [p10_3, p10_6, p10_7, p10_8, p10_9, p10_12, p10_15, p10_18, p10_60])
local macro_rules | `(tactic| walk_at "fs") => `(tactic| simp only [ev_pNil, ev_pCons, ev_pK1, ev_pK2, ev_pK3s, ev_dict, ev_gSb, ev_gSbK1])
local macro_rules | `(tactic| walk_at "fs") => `(tactic| simp only [wipe_nil, wipe_cons])
local macro_rules | `(tactic| walk_at "fs") => `(tactic| simp only [ev_make, ev_fldSet, ev_fsK1, ev_om, ev_omK2, ev_intB])
local macro_rules | `(tactic| walk_at "fs") => `(tactic| simp only [ev_iEnumV, ev_enumV, isi_str, ev_isN, ev_isNot])
local macro_rules | `(tactic| walk_at "fs") => `(tactic| simp only [ev_sl, ev_slK1, ev_slK2, ev_slK3, ev_oSome, ev_oSomeK, ev_oNone, slT4, slT3, len_tup, ev_get3, ev_get4, th_rows, th_nm])
local macro_rules | `(tactic| walk_at "fs") => `(tactic| simp only [List.isEmpty_nil, List.isEmpty_cons])
local macro_rules | `(tactic| walk_at "fs") => `(tactic| simp only [sign_of_eq])
local macro_rules | `(tactic| walk_at "fs") => `(tactic| simp (disch := walk_at "dis") only [inner_eq])
local macro_rules | `(tactic| walk_at "fs") => `(tactic| simp (disch := walk_at "dis") only [sign_of_sum_eq])
local macro_rules | `(tactic| walk_at "fs") => `(tactic| simp (disch := walk_at "dis") only [sign_at_tm])
local macro_rules | `(tactic| walk_at "bd") => `(tactic| with_reducible apply sg_bd)
local macro_rules | `(tactic| walk_at "fs") => `(tactic| simp (disch := walk_at "dis") only [side_of_eq])
local macro_rules | `(tactic| walk_at "fs") => `(tactic| simp (disch := walk_at "dis") only [compare_eq])
theorem tk_tok {t : Tm} (k : TkB t) : Tok t := (tok_iff k.nm).mpr k.nn
theorem need_time_wp {t : Tm} {h : Hs} {Q : D → Hs → Prop} (k : TkB t) (q : ∀ h', KA h h' → Q .non h') : WP (f_need_time [TD t] h) Q := by
  obtain ⟨G, e⟩ := is_time_tok t h (tk_tok k) (k.tb.mono (by decide))
  unfold f_need_time
  refine wp_run rfl ?_
  unfold m_need_time
  walk_at "w"
  rw [e]
  walk_at "w"
  exact q _ ka_app
theorem place_in_wp {a : Th} {t : Tm} {f : Int} {h : Hs} {Q : D → Hs → Prop} (oa : ThOk a) (k : TkB t) (hf : IsFl t.val f) (q : ∀ h', KA h h' → Q (pcT a f none).pl h') : WP (f_place_in [a.D, TD t] h) Q := by
  obtain ⟨f0, f1⟩ := fl_bd k hf
  unfold f_place_in
  refine wp_run rfl ?_
  rw [m_place_in_q]
  walk_at "w"
  refine way_of_wp oa fun h1 L k1 lL e1 => ?_
  walk_at "w"
  rw [ev_seqL (getL_lst e1)]
  walk_at "w"
  obtain ⟨p0, ps, ew, ea⟩ := way_first oa
  refine wp_frT (wayT a) Pc.D3 (fun i ρ g => ∃ x2 x3 x4 x5, ρ = [some a.D, some (TD t), some x2, x3, x4, x5] ∧ g = h1 ∧ ((i = 0 ∧ x2 = .non) ∨ (0 < i ∧ ∃ l p, ((wayT a).take i).filter (fun p => decide (p.a ≤ f)) = l ++ [p] ∧ x2 = p.pl))) ?_ ⟨.non, none, none, none, rfl, rfl, .inl ⟨rfl, rfl⟩⟩ ?_ ?_
  · rintro i ρ g ⟨x2, x3, x4, x5, rfl, rfl, _⟩
    exact srcL_get (getL_lst e1) i
  · rintro i hi ρ g ⟨x2, x3, x4, x5, rfl, rfl, inv⟩
    refine ⟨_, rfl, ?_⟩
    have pok := wayT_ok oa _ (List.getElem_mem hi)
    have et : ((wayT a).take (i + 1)).filter (fun p => decide (p.a ≤ f)) = ((wayT a).take i).filter (fun p => decide (p.a ≤ f)) ++ if (wayT a)[i].a ≤ f then [(wayT a)[i]] else [] := by
      rw [List.take_add_one, List.getElem?_eq_getElem hi, List.filter_append]
      by_cases z : (wayT a)[i].a ≤ f <;> simp [z]
    have first : i = 0 → (wayT a)[i].a ≤ f := fun z => by
      subst z
      have : (wayT a)[0] = p0 := by
        have h1 : (wayT a)[0]? = some p0 := by rw [ew]; rfl
        rw [List.getElem?_eq_getElem hi] at h1
        exact Option.some.inj h1
      rw [this, ea]
      exact f0
    generalize (wayT a)[i] = p at *
    unfold q_place_in_L1
    walk_at "w"
    have w1 : TB 20000 (.fr p.a 1) := ⟨Bd.of_range (n := 40) (by have := pok.a; omega) (by have := pok.a; omega) |>.mono (by decide), Bd.of_range (n := 5) (by decide) (by decide) |>.mono (by decide)⟩
    have ec : f_compare [TD t, .tup [.int p.a, .int 1]] g = some (.int (sgR (t.val - (Tm.fr p.a 1).val)), g) := compare_eq t (.fr p.a 1) g k.nm (k.tb.mono (by decide)) ⟨by decide, by simp⟩ w1
    rcases inv with ⟨z, rfl⟩ | ⟨ip, l, p', e, rfl⟩
    · subst z
      walk_at "w"
      refine ⟨_, _, _, _, rfl, by trivial, .inr ⟨by omega, [], p, ?_, rfl⟩⟩
      rw [et, if_pos (first rfl)]
      simp
    · unfold Pc.pl
      walk_at "w"
      rw [ec]
      walk_at "w"
      refine wp_ite (fun c => ?_) (fun c => ?_)
      · walk_at "w"
        refine ⟨_, _, _, _, rfl, by trivial, .inr ⟨by omega, l ++ [p'], p, ?_, rfl⟩⟩
        rw [et, e, if_pos ((whole_le hf).mp c)]
      · walk_at "w"
        refine ⟨_, _, _, _, rfl, by trivial, .inr ⟨by omega, l, p', ?_, rfl⟩⟩
        rw [et, e, if_neg (fun z => c ((whole_le hf).mpr z)), List.append_nil]
  · rintro ρ g ⟨x2, x3, x4, x5, rfl, rfl, inv⟩
    walk_at "w"
    rcases inv with ⟨z, _⟩ | ⟨ip, l, p', e, rfl⟩
    · rw [ew] at z; cases z
    · rw [List.take_length] at e
      obtain ⟨l2, p2, e2, _, e3⟩ := last_piece oa f0
      rw [e2] at e
      have : p2 = p' := by
        have := congrArg List.getLast? e
        simpa using this
      rw [← this, e3]
      exact q _ k1
theorem value_line_eq {x u p q : Int} (h : Hs) (b1 : Bd 300 x) (b2 : Bd 300 u) (b4 : Bd 300 p) (b5 : Bd 300 q) (q0 : q ≠ 0) : ∃ m n, f_value_at [lnD x u, .tup [.int p, .int q]] h = some (TD (.fr m n), h) ∧ (Tm.fr m n).Nm ∧ m * q = (x * q + u * p) * n ∧ Bd 1500 m ∧ Bd 1500 n := by
  have qq : q * q ≠ 0 := Int.mul_ne_zero q0 q0
  have b3 : Bd 300 0 := Nat.two_pow_pos 300
  obtain ⟨m, n, e, nm, f, l1, l2⟩ := fraction_eq (x * q * q + u * p * q + 0 * p * p) (q * q) h qq (Bd.mono (by walk_at "bd") (by decide))
  refine ⟨m, n, ?_, nm, ?_, bd_nat (Bd.mono (by walk_at "bd") (by decide)) l1, bd_nat (Bd.mono (by walk_at "bd") (by decide)) l2⟩
  · unfold f_value_at lnD
    rw [runB_ok (by rfl)]
    unfold m_value_at
    walk_at "go"
    rw [e]
    walk_at "go"
  · refine Int.eq_of_mul_eq_mul_right q0 ?_
    have : m * q * q = m * (q * q) := by grind
    rw [this, f]
    grind
/-- what is told of a place: two fractions -/
def frs (m n m' n' : Int) : D := .tup [TD (.fr m n), TD (.fr m' n')]
theorem place_at_wp {W : Nat} {ths : List Th} {ws : List D} {h : Hs} {a : Th} {t : Tm} {f : Int} {Q : D → Hs → Prop} (w : Wl W (ths.map Th.D) ws h) (nd : (ths.map Th.nm).Nodup) (ha : a ∈ ths) (oa : ThOk a) (k : TkB t) (hf : IsFl t.val f)
    (q : ∀ h' d, KA h h' → (match t with
      | .fr p q => ∃ m n m' n', d = frs m n m' n' ∧ (Tm.fr m n).Nm ∧ (Tm.fr m' n').Nm ∧ m * q = ((pcT a f none).x * q + (pcT a f none).u * p) * n ∧ m' * q = ((pcT a f none).y * q + (pcT a f none).v * p) * n' ∧ Bd 1500 m ∧ Bd 1500 n ∧ Bd 1500 m' ∧ Bd 1500 n'
      | .rt _ _ _ _ => d = (pcT a f none).pl) → Q d h') : WP (f_place_at [.ref W, .str a.nm, TD t] h) Q := by
  obtain ⟨f0, f1⟩ := fl_bd k hf
  have po := pcT_ok oa f0 f1
  unfold f_place_at
  refine wp_run rfl ?_
  unfold m_place_at
  walk_at "w"
  refine thing_of_wp w ha nd fun h1 k1 => ?_
  walk_at "w"
  refine need_time_wp k fun h2 k2 => ?_
  walk_at "w"
  refine place_in_wp oa k hf fun h3 k3 => ?_
  walk_at "w"
  have kh := (k1.trans k2).trans k3
  cases t with
  | fr p q' =>
    obtain ⟨u1, u2⟩ := po.bu
    obtain ⟨m, n, e1, n1, g1, c1, c2⟩ := value_line_eq (x := (pcT a f none).x) (u := (pcT a f none).u) (p := p) (q := q') h3 (po.x.mono (by decide)) (u1.mono (by decide)) (k.tb.1.mono (by decide)) (k.tb.2.mono (by decide)) (by have := k.nm.1; omega)
    obtain ⟨m', n', e2, n2, g2, c3, c4⟩ := value_line_eq (x := (pcT a f none).y) (u := (pcT a f none).v) (p := p) (q := q') h3 (po.y.mono (by decide)) (u2.mono (by decide)) (k.tb.1.mono (by decide)) (k.tb.2.mono (by decide)) (by have := k.nm.1; omega)
    rw [TD_fr]
    walk_at "w"
    unfold Pc.pl
    walk_at "w"
    rw [e1]
    walk_at "w"
    rw [e2]
    walk_at "w"
    exact q _ _ kh ⟨m, n, m', n', rfl, n1, n2, g1, g2, c1, c2, c3, c4⟩
  | rt c b a' w' =>
    rw [TD_rt]
    walk_at "w"
    exact q _ _ kh rfl
end K22
namespace K22
open SL RR
local macro_rules | `(tactic| walk_at "bd") => `(tactic| (first
  | assumption
  | (with_reducible apply Bd.add <;> walk_at "bd")
  | (with_reducible apply Bd.sub <;> walk_at "bd")
  | (with_reducible apply Bd.mul <;> walk_at "bd")
  | (with_reducible apply Bd.neg <;> walk_at "bd")
  | (with_reducible apply Bd.fdiv <;> walk_at "bd")
  | (with_reducible apply Bd.ite <;> walk_at "bd")
  | (with_reducible apply Bd.sign)
  | exact Bd.lit 64 rfl
  | exact Bd.lit 250 rfl))
local macro_rules | `(tactic| walk_at "dis") => `(tactic| (first
  | assumption
  | (with_reducible apply MOk.of <;> first | (walk_at "bd"; done) | exact Nat.le_of_ble_eq_true rfl)
  | (with_reducible apply Bd.mono <;> first | (walk_at "bd"; done) | exact Nat.le_of_ble_eq_true rfl)
  | (with_reducible apply DOk.of <;> first | (walk_at "bd"; done) | omega | exact Nat.le_of_ble_eq_true rfl)
  | omega))
local macro_rules | `(tactic| walk_at "ev") => `(tactic| simp (disch := walk_at "dis") only [ev_var0, ev_varS, ev_c, ev_op, ev_opK, ev_un, ev_call, ev_nil, ev_cons, ev_acK, ev_consK, ev_tup, ev_tupK, ev_lst, ev_lstK, ev_ifE, ev_ifS, ev_ifKT, ev_ifKF, ev_ifK, ev_ifKN,
  ev_tV, ev_tvK, ev_tTru, ev_truB, ev_truN, ev_truI, ev_and, ev_or, ev_not, ev_notK, ev_andT, ev_andF, ev_orT, ev_orF, ev_andK, ev_andKN, ev_orK, ev_orKN, ev_eAnd, ev_eOr, ev_eNot, ev_eNotB, ev_eAndT, ev_eAndF, ev_eAndB, ev_eAndBN, ev_eOrT, ev_eOrF, ev_eOrN, ev_eOrB, ev_eOrBN,
  ev_chain, ev_chK1, ev_chK2, ev_chK3, ev_chK3T, ev_chK3F, ev_seq, ev_thn, ev_thnR, ev_thnB, ev_thnC, ev_next, ev_break, ev_cont, ev_ret, ev_retK, ev_retN, ev_expr, ev_exprK, ev_asg, ev_asgK, ev_nxK, ev_gNm, ev_gTp, ev_gsNil, ev_gsCons, ev_gsK, ev_gSb, ev_gSbK1, ev_par, ev_parK2, ev_parK3, ev_mt,
  ev_add, ev_sub, ev_mul, ev_fdiv, ev_mod, ev_pow, ev_shl, ev_neg, ev_lt, ev_le, ev_gt, ev_ge, ev_eqI, ev_neI, ev_abs, ev_intB, ev_intI, ev_minI, ev_maxI, ev_bits, ev_get0, ev_get1, ev_get2, bd_ok, bd_none, ev_whT, ev_whF, ev_whD, ev_wh2, ev_wh2c, ev_wh2r, ev_wh2b, ev_for, ev_forK, ev_fr1, ev_fr2, ev_fr2c, ev_fr2r, ev_fr2b, ev_lc, ev_lcK, ev_lc1, ev_lc2T, ev_lc2F, ev_lc2D, ev_yes, ev_iSeq, ev_seqT, ev_seqS, ev_iRange, ev_iEnum, ev_iZip,
  ev_neIS, ev_eqIS, ev_neSS, ev_eqSS, ev_isN, ev_isNot, isNon_t, isNon_n, isNon_i, isNon_r, decide_true, decide_false, decide_eq_true_eq, eq_self, if_true, if_false,
  out_rt, out_nx, List.map_cons, List.map_nil, List.cons_append, List.nil_append, List.replicate, List.set_cons_zero, List.set_cons_succ, Nat.reduceSub, Int.reduceEq, Int.reduceLT, Int.reduceLE, Int.reduceMul, Int.reduceAdd, Int.reduceSub, Bool.not_true, Bool.not_false])
local macro_rules | `(tactic| walk_at "go") => `(tactic| repeat (first | walk_at "ev" | walk_at "fs"))
local macro_rules | `(tactic| walk_at "wv") => `(tactic| simp only [wp_ok, kn_eq, outQ_rt, outQ_nx, turnQ_nx, turnQ_ct, turnQ_bk, turnQ_rt, whQ_nx, whQ_bk, whQ_rt, whT_t, whT_f, whT_d, lcT_t, lcT_f, lcT_d])
local macro_rules | `(tactic| walk_at "wb") => `(tactic| with_reducible refine wp_bd ?_)
local macro_rules | `(tactic| walk_at "w") => `(tactic| repeat (first | walk_at "ev" | walk_at "wv" | walk_at "fs" | walk_at "wb"))
local macro_rules | `(tactic| walk_at "bd") => `(tactic| exact Bd.fm rfl)
local macro_rules | `(tactic| walk_at "fs") => `(tactic| simp only [p10_3, p10_6, p10_7, p10_8, p10_9, p10_12, p10_15, p10_18, p10_60])
local macro_rules | `(tactic| walk_at "fs") => `(tactic| simp only [ev_pNil, ev_pCons, ev_pK1, ev_pK2, ev_pK3s, ev_dict, ev_gSb, ev_gSbK1])
local macro_rules | `(tactic| walk_at "fs") => `(tactic| simp only [wipe_nil, wipe_cons])
local macro_rules | `(tactic| walk_at "fs") => `(tactic| simp only [ev_make, ev_fldSet, ev_fsK1, ev_om, ev_omK2, ev_intB])
local macro_rules | `(tactic| walk_at "fs") => `(tactic| simp only [ev_iEnumV, ev_enumV, isi_str, ev_isN, ev_isNot])
local macro_rules | `(tactic| walk_at "fs") => `(tactic| simp only [ev_sl, ev_slK1, ev_slK2, ev_slK3, ev_oSome, ev_oSomeK, ev_oNone, slT4, slT3, len_tup, ev_get3, ev_get4, th_rows, th_nm])
local macro_rules | `(tactic| walk_at "fs") => `(tactic| simp only [List.isEmpty_nil, List.isEmpty_cons])
theorem lsum_eq (p m d : Int) (h : Hs) (bp : Bd 20000 p) (bm : Bd 20000 m) (bd : Bd 20000 d) : f__law_sum_sign [.int p, .int m, .int d] h = some (.int (lawS p m d), h) := by
  unfold f__law_sum_sign lawS isgn
  rw [runB_ok (by rfl)]
  unfold m__law_sum_sign
  walk_at "go"
  by_cases q : m * m * d < p * p
  · simp only [if_pos q]
    walk_at "go"
    by_cases z : 0 < p
    · simp only [if_pos z]
      walk_at "go"
    · simp only [if_neg z]
      walk_at "go"
  · simp only [if_neg q]
    walk_at "go"
    (try simp only [decide_eq_true_eq])
theorem lsign_fr {c b a p q : Int} (h : Hs) (hq : 0 < q) (bc : Bd 600 c) (bb : Bd 600 b) (ba : Bd 600 a) (bp : Bd 600 p) (bq : Bd 600 q) : f__law_sign [.tup [.int c, .int b, .int a], TD (.fr p q)] h = some (.int (sgR (pv c b a (Tm.fr p q).val)), h) := by
  rw [← sgn_fr hq]
  have e : (a * p + b * q) * p + c * q * q = c * q * q + p * (b * q + a * p) := by grind
  rw [e, ← isgn_eq]
  unfold f__law_sign isgn
  rw [runB_ok (by rfl), TD_fr]
  rw [m__law_sign_q]
  walk_at "go"
  unfold q__law_sign_I1t
  walk_at "go"
  (try simp only [decide_eq_true_eq])
theorem lsign_rt {c b a low mid top w : Int} (h : Hs) (nm : (Tm.rt low mid top w).Nm) (bc : Bd 600 c) (bb : Bd 600 b) (ba : Bd 600 a) (b1 : Bd 600 low) (b2 : Bd 600 mid) (b3 : Bd 600 top) : f__law_sign [.tup [.int c, .int b, .int a], TD (.rt low mid top w)] h = some (.int (sgR (pv c b a (Tm.rt low mid top w).val)), h) := by
  have bw : Bd 10 w := bd_w nm.2.2.2.2
  rw [← lawG_eq nm]
  unfold f__law_sign lawG
  rw [runB_ok (by rfl), TD_rt]
  rw [m__law_sign_q]
  walk_at "go"
  have eP : 4 * top * top * c - 2 * top * mid * b + a * (mid * mid + (mid * mid - 4 * low * top)) = lawP c b a low mid top := rfl
  have eM : (2 * w - 1) * (2 * top * b - 2 * mid * a) = lawM b a mid top w := rfl
  have bP : Bd 4000 (lawP c b a low mid top) := by rw [← eP]; exact Bd.mono (by walk_at "bd") (by decide)
  have bM : Bd 4000 (lawM b a mid top w) := by rw [← eM]; exact Bd.mono (by walk_at "bd") (by decide)
  rw [eM, eP]
  by_cases q : lawM b a mid top w = 0
  · simp only [if_pos q]
    walk_at "go"
    unfold isgn
    (try simp only [decide_eq_true_eq])
  · simp only [if_neg q]
    walk_at "go"
    rw [lsum_eq _ _ _ _ (bP.mono (by decide)) (bM.mono (by decide)) (Bd.mono (by walk_at "bd") (by decide))]
    walk_at "go"
theorem lsign_eq {c b a : Int} {t : Tm} (h : Hs) (nm : t.Nm) (bc : Bd 600 c) (bb : Bd 600 b) (ba : Bd 600 a) (tb : TB 600 t) : f__law_sign [.tup [.int c, .int b, .int a], TD t] h = some (.int (sgR (pv c b a t.val)), h) := by
  cases t with
  | fr p q => exact lsign_fr h nm.1 bc bb ba tb.1 tb.2
  | rt c' b' a' w => exact lsign_rt h nm bc bb ba tb.1 tb.2.1 tb.2.2
end K22
namespace K22
open SL RR
local macro_rules | `(tactic| walk_at "bd") => `(tactic| (first
  | assumption
  | (with_reducible apply Bd.add <;> walk_at "bd")
  | (with_reducible apply Bd.sub <;> walk_at "bd")
  | (with_reducible apply Bd.mul <;> walk_at "bd")
  | (with_reducible apply Bd.neg <;> walk_at "bd")
  | (with_reducible apply Bd.fdiv <;> walk_at "bd")
  | (with_reducible apply Bd.ite <;> walk_at "bd")
  | (with_reducible apply Bd.sign)
  | exact Bd.lit 64 rfl
  | exact Bd.lit 250 rfl))
local macro_rules | `(tactic| walk_at "dis") => `(tactic| (first
  | assumption
  | (with_reducible apply MOk.of <;> first | (walk_at "bd"; done) | exact Nat.le_of_ble_eq_true rfl)
  | (with_reducible apply Bd.mono <;> first | (walk_at "bd"; done) | exact Nat.le_of_ble_eq_true rfl)
  | (with_reducible apply DOk.of <;> first | (walk_at "bd"; done) | omega | exact Nat.le_of_ble_eq_true rfl)
  | omega))
local macro_rules | `(tactic| walk_at "ev") => `(tactic| simp (disch := walk_at "dis") only [ev_var0, ev_varS, ev_c, ev_op, ev_opK, ev_un, ev_call, ev_nil, ev_cons, ev_acK, ev_consK, ev_tup, ev_tupK, ev_lst, ev_lstK, ev_ifE, ev_ifS, ev_ifKT, ev_ifKF, ev_ifK, ev_ifKN,
  ev_tV, ev_tvK, ev_tTru, ev_truB, ev_truN, ev_truI, ev_and, ev_or, ev_not, ev_notK, ev_andT, ev_andF, ev_orT, ev_orF, ev_andK, ev_andKN, ev_orK, ev_orKN, ev_eAnd, ev_eOr, ev_eNot, ev_eNotB, ev_eAndT, ev_eAndF, ev_eAndB, ev_eAndBN, ev_eOrT, ev_eOrF, ev_eOrN, ev_eOrB, ev_eOrBN,
  ev_chain, ev_chK1, ev_chK2, ev_chK3, ev_chK3T, ev_chK3F, ev_seq, ev_thn, ev_thnR, ev_thnB, ev_thnC, ev_next, ev_break, ev_cont, ev_ret, ev_retK, ev_retN, ev_expr, ev_exprK, ev_asg, ev_asgK, ev_nxK, ev_gNm, ev_gTp, ev_gsNil, ev_gsCons, ev_gsK, ev_gSb, ev_gSbK1, ev_par, ev_parK2, ev_parK3, ev_mt,
  ev_add, ev_sub, ev_mul, ev_fdiv, ev_mod, ev_pow, ev_shl, ev_neg, ev_lt, ev_le, ev_gt, ev_ge, ev_eqI, ev_neI, ev_abs, ev_intB, ev_intI, ev_minI, ev_maxI, ev_bits, ev_get0, ev_get1, ev_get2, bd_ok, bd_none, ev_whT, ev_whF, ev_whD, ev_wh2, ev_wh2c, ev_wh2r, ev_wh2b, ev_for, ev_forK, ev_fr1, ev_fr2, ev_fr2c, ev_fr2r, ev_fr2b, ev_lc, ev_lcK, ev_lc1, ev_lc2T, ev_lc2F, ev_lc2D, ev_yes, ev_iSeq, ev_seqT, ev_seqS, ev_iRange, ev_iEnum, ev_iZip,
  ev_neIS, ev_eqIS, ev_neSS, ev_eqSS, ev_isN, ev_isNot, isNon_t, isNon_n, isNon_i, isNon_r, decide_true, decide_false, decide_eq_true_eq, eq_self, if_true, if_false,
  out_rt, out_nx, List.map_cons, List.map_nil, List.cons_append, List.nil_append, List.replicate, List.set_cons_zero, List.set_cons_succ, Nat.reduceSub, Int.reduceEq, Int.reduceLT, Int.reduceLE, Int.reduceMul, Int.reduceAdd, Int.reduceSub, Bool.not_true, Bool.not_false])
local macro_rules | `(tactic| walk_at "go") => `(tactic| repeat (first | walk_at "ev" | walk_at "fs"))
local macro_rules | `(tactic| walk_at "wv") => `(tactic| simp only [wp_ok, kn_eq, outQ_rt, outQ_nx, turnQ_nx, turnQ_ct, turnQ_bk, turnQ_rt, whQ_nx, whQ_bk, whQ_rt, whT_t, whT_f, whT_d, lcT_t, lcT_f, lcT_d])
local macro_rules | `(tactic| walk_at "wb") => `(tactic| with_reducible refine wp_bd ?_)
local macro_rules | `(tactic| walk_at "w") => `(tactic| repeat (first | walk_at "ev" | walk_at "wv" | walk_at "fs" | walk_at "wb"))
local macro_rules | `(tactic| walk_at "bd") => `(tactic| exact Bd.fm rfl)
local macro_rules | `(tactic| walk_at "fs") => `(tactic| simp only [p10_3, p10_6, p10_7, p10_8, p10_9, p10_12, p10_15, p10_18, p10_60])
local macro_rules | `(tactic| walk_at "fs") => `(tactic| simp only [ev_pNil, ev_pCons, ev_pK1, ev_pK2, ev_pK3s, ev_dict, ev_gSb, ev_gSbK1])
local macro_rules | `(tactic| walk_at "fs") => `(tactic| simp only [wipe_nil, wipe_cons])
local macro_rules | `(tactic| walk_at "fs") => `(tactic| simp only [ev_make, ev_fldSet, ev_fsK1, ev_om, ev_omK2, ev_intB])
local macro_rules | `(tactic| walk_at "fs") => `(tactic| simp only [ev_iEnumV, ev_enumV, isi_str, ev_isN, ev_isNot])
local macro_rules | `(tactic| walk_at "fs") => `(tactic| simp only [ev_sl, ev_slK1, ev_slK2, ev_slK3, ev_oSome, ev_oSomeK, ev_oNone, slT4, slT3, len_tup, ev_get3, ev_get4, th_rows, th_nm])
local macro_rules | `(tactic| walk_at "fs") => `(tactic| simp only [List.isEmpty_nil, List.isEmpty_cons])
theorem bd_zero {n : Nat} : Bd n 0 := Nat.two_pow_pos n
theorem lorder_fo {p q : Int} {u : Tm} (h : Hs) (hq : 0 < q) (nm : u.Nm) (bp : Bd 590 p) (bq : Bd 590 q) (ub : TB 590 u) : f__law_order [TD (.fr p q), TD u] h = some (.int (sgR ((Tm.fr p q).val - u.val)), h) := by
  have e : sgR (pv p (0 - q) 0 u.val) = sgR ((Tm.fr p q).val - u.val) := by
    have hq' := cast_pos hq
    have ev := val_fr (p := p) hq
    rw [← sg_mul_pos (x := (Tm.fr p q).val - u.val) hq']
    congr 1
    unfold pv
    rw [cast_sub, cast_zero]
    grind
  unfold f__law_order
  rw [runB_ok (by rfl), TD_fr]
  unfold m__law_order
  walk_at "go"
  rw [lsign_eq _ nm (bp.mono (by decide)) (Bd.mono (by walk_at "bd") (by decide)) bd_zero (ub.mono (by decide)), e]
  walk_at "go"
theorem lorder_of {p q : Int} {c b a w : Int} (h : Hs) (hq : 0 < q) (nm : (Tm.rt c b a w).Nm) (bp : Bd 590 p) (bq : Bd 590 q) (ub : TB 590 (.rt c b a w)) : f__law_order [TD (.rt c b a w), TD (.fr p q)] h = some (.int (sgR ((Tm.rt c b a w).val - (Tm.fr p q).val)), h) := by
  have e := cmp_fr (p := p) (q := q) (x := (Tm.rt c b a w).val) hq
  unfold f__law_order
  rw [runB_ok (by rfl), TD_fr, TD_rt]
  unfold m__law_order
  walk_at "go"
  rw [show D.tup [.str "root", .tup [.int c, .int b, .int a], .int w] = TD (.rt c b a w) from rfl, lsign_eq _ nm (Bd.mono (by walk_at "bd") (by decide)) (bq.mono (by decide)) bd_zero (ub.mono (by decide)), e]
  walk_at "go"
theorem isgn_bd (n : Int) : Bd 10 (isgn n) := by
  rw [isgn_eq]
  exact (Bd.sign n).mono (by decide)
theorem lawS_bd (p m d : Int) : Bd 10 (lawS p m d) := by
  unfold lawS
  split
  · split <;> exact Bd.of_range (by decide) (by decide)
  · exact isgn_bd m
set_option maxHeartbeats 1600000 in
theorem lorder_rr {low mid top w least middle most w' : Int} (h : Hs) (nm : (Tm.rt low mid top w).Nm) (nk : (Tm.rt least middle most w').Nm) (tb : TB 590 (.rt low mid top w)) (ub : TB 590 (.rt least middle most w')) : f__law_order [TD (.rt low mid top w), TD (.rt least middle most w')] h = some (.int (sgR ((Tm.rt low mid top w).val - (Tm.rt least middle most w').val)), h) := by
  have bw : Bd 10 w := bd_w nm.2.2.2.2
  have bw' : Bd 10 w' := bd_w nk.2.2.2.2
  obtain ⟨b1, b2, b3⟩ := tb
  obtain ⟨b4, b5, b6⟩ := ub
  rw [← ordF_eq nm nk]
  unfold f__law_order ordF
  rw [runB_ok (by rfl), TD_rt, TD_rt]
  unfold m__law_order
  walk_at "go"
  have eP : middle * top - mid * most = ordP mid top middle most := rfl
  have bP : Bd 1300 (ordP mid top middle most) := by rw [← eP]; exact Bd.mono (by walk_at "bd") (by decide)
  have bm : Bd 700 ((2 * w - 1) * most) := Bd.mono (by walk_at "bd") (by decide)
  have bi : Bd 700 ((2 * w' - 1) * top) := Bd.mono (by walk_at "bd") (by decide)
  have bD : Bd 1300 (mid * mid - 4 * low * top) := Bd.mono (by walk_at "bd") (by decide)
  have bE : Bd 1300 (middle * middle - 4 * least * most) := Bd.mono (by walk_at "bd") (by decide)
  rw [eP, lsum_eq _ _ _ _ (bP.mono (by decide)) (bm.mono (by decide)) (bD.mono (by decide))]
  walk_at "go"
  have eI : (if 0 < (2 * w' - 1) * top then (1 : Int) else 0) - (if (2 * w' - 1) * top < 0 then 1 else 0) = isgn ((2 * w' - 1) * top) := rfl
  have bL := lawS_bd (ordP mid top middle most) ((2 * w - 1) * most) (mid * mid - 4 * low * top)
  have eR : ordP mid top middle most * ordP mid top middle most + (2 * w - 1) * most * ((2 * w - 1) * most) * (mid * mid - 4 * low * top) - (2 * w' - 1) * top * ((2 * w' - 1) * top) * (middle * middle - 4 * least * most) = ordR low mid top w least middle most w' := rfl
  have bR : Bd 9000 (ordR low mid top w least middle most w') := by rw [← eR]; exact Bd.mono (by walk_at "bd") (by decide)
  simp only [eI]
  have bI := isgn_bd ((2 * w' - 1) * top)
  generalize hL : lawS (ordP mid top middle most) ((2 * w - 1) * most) (mid * mid - 4 * low * top) = L at *
  generalize hI : isgn ((2 * w' - 1) * top) = I at *
  by_cases q : L = I
  · rw [if_pos q, if_neg (not_not_intro q)]
    walk_at "go"
    rw [eR]
    by_cases z : ordP mid top middle most = 0
    · simp only [if_pos z]
      walk_at "go"
      rfl
    · simp only [if_neg z]
      walk_at "go"
      rw [lsum_eq _ _ _ _ (bR.mono (by decide)) (Bd.mono (by walk_at "bd") (by decide)) (bD.mono (by decide))]
      have bS := lawS_bd (ordR low mid top w least middle most w') (2 * ordP mid top middle most * ((2 * w - 1) * most)) (mid * mid - 4 * low * top)
      walk_at "go"
  · rw [if_neg q, if_pos q]
    walk_at "go"
theorem lorder_eq {t u : Tm} (h : Hs) (nt : t.Nm) (nu : u.Nm) (tb : TB 590 t) (ub : TB 590 u) : f__law_order [TD t, TD u] h = some (.int (sgR (t.val - u.val)), h) := by
  cases t with
  | fr p q => exact lorder_fo h nt.1 nu tb.1 tb.2 ub
  | rt c b a w =>
    cases u with
    | fr p q => exact lorder_of h nu.1 nt ub.1 ub.2 tb
    | rt c' b' a' w' => exact lorder_rr h nt nu tb ub
/-! the greatest that divides all -/
theorem lcommon_eq (ns : List Int) (h : Hs) : f__law_common [.tup (ns.map D.int)] h = some (.int (gcdL 0 ns), h) := by
  suffices hw : WP (f__law_common [.tup (ns.map D.int)] h) fun d g => d = .int (gcdL 0 ns) ∧ g = h by
    obtain ⟨d, g, e, rfl, rfl⟩ := hw
    exact e
  unfold f__law_common
  refine wp_run rfl ?_
  rw [m__law_common_q]
  walk_at "w"
  refine wp_frT ns D.int (fun i ρ g => ∃ (f : Int) (x2 x3 x4 : Option D), ρ = [some (.tup (ns.map D.int)), some (.int f), x2, x3, x4] ∧ g = h ∧ 0 ≤ f ∧ gcdL f (ns.drop i) = gcdL 0 ns) ?_ ⟨0, _, _, _, rfl, rfl, Int.le_refl _, rfl⟩ ?_ ?_
  · rintro i ρ g ⟨f, x2, x3, x4, rfl, rfl, f0, e⟩
    exact srcT_get i
  · rintro i hi ρ g ⟨f, x2, x3, x4, rfl, rfl, f0, e⟩
    refine ⟨_, rfl, ?_⟩
    rw [List.drop_eq_getElem_cons hi] at e
    generalize ns[i] = n at *
    unfold q__law_common_L1
    walk_at "w"
    refine wp_wh (fun k ρ g' => ∃ a b : Int, ρ = [some (.tup (ns.map D.int)), some (.int f), some (.int n), some (.int a), some (.int b)] ∧ g' = g ∧ 0 ≤ a ∧ 0 ≤ b ∧ b.toNat = k ∧ (Int.gcd a b : Int) = Int.gcd f n) (n.natAbs) ⟨f, _, rfl, rfl, f0, ?_, ?_, ?_⟩ ?_
    · split <;> omega
    · split <;> omega
    · split
      · rw [Int.gcd_neg]
      · rfl
    · rintro k ρ g' ⟨a, b, rfl, rfl, a0, b0, ek, eg⟩
      walk_at "w"
      by_cases p : 0 < b
      · rw [if_pos p]
        unfold q__law_common_L2
        walk_at "w"
        have m0 := Int.fmod_nonneg_of_pos a p
        have m1 := Int.fmod_lt_of_pos a p
        refine ⟨_, ?_, _, _, rfl, by trivial, b0, m0, rfl, ?_⟩
        · omega
        · rw [gcd_step p, eg]
      · rw [if_neg p]
        walk_at "w"
        have hb : b = 0 := by omega
        subst hb
        have ea : a = (Int.gcd f n : Int) := by
          rw [← eg, Int.gcd_zero_right]; omega
        exact ⟨_, _, _, _, rfl, by trivial, a0, by rw [ea]; exact e⟩
  · rintro ρ g ⟨f, x2, x3, x4, rfl, rfl, f0, e⟩
    rw [List.drop_length] at e
    walk_at "w"
    have e : f = gcdL 0 ns := e
    exact ⟨by rw [e], by trivial⟩
end K22
namespace K22
open SL RR
local macro_rules | `(tactic| walk_at "bd") => `(tactic| (first
  | assumption
  | (with_reducible apply Bd.add <;> walk_at "bd")
  | (with_reducible apply Bd.sub <;> walk_at "bd")
  | (with_reducible apply Bd.mul <;> walk_at "bd")
  | (with_reducible apply Bd.neg <;> walk_at "bd")
  | (with_reducible apply Bd.fdiv <;> walk_at "bd")
  | (with_reducible apply Bd.ite <;> walk_at "bd")
  | (with_reducible apply Bd.sign)
  | exact Bd.lit 64 rfl
  | exact Bd.lit 250 rfl))
local macro_rules | `(tactic| walk_at "dis") => `(tactic| (first
  | assumption
  | (with_reducible apply MOk.of <;> first | (walk_at "bd"; done) | exact Nat.le_of_ble_eq_true rfl)
  | (with_reducible apply Bd.mono <;> first | (walk_at "bd"; done) | exact Nat.le_of_ble_eq_true rfl)
  | (with_reducible apply DOk.of <;> first | (walk_at "bd"; done) | omega | exact Nat.le_of_ble_eq_true rfl)
  | omega))
local macro_rules | `(tactic| walk_at "ev") => `(tactic| simp (disch := walk_at "dis") only [ev_var0, ev_varS, ev_c, ev_op, ev_opK, ev_un, ev_call, ev_nil, ev_cons, ev_acK, ev_consK, ev_tup, ev_tupK, ev_lst, ev_lstK, ev_ifE, ev_ifS, ev_ifKT, ev_ifKF, ev_ifK, ev_ifKN,
  ev_tV, ev_tvK, ev_tTru, ev_truB, ev_truN, ev_truI, ev_and, ev_or, ev_not, ev_notK, ev_andT, ev_andF, ev_orT, ev_orF, ev_andK, ev_andKN, ev_orK, ev_orKN, ev_eAnd, ev_eOr, ev_eNot, ev_eNotB, ev_eAndT, ev_eAndF, ev_eAndB, ev_eAndBN, ev_eOrT, ev_eOrF, ev_eOrN, ev_eOrB, ev_eOrBN,
  ev_chain, ev_chK1, ev_chK2, ev_chK3, ev_chK3T, ev_chK3F, ev_seq, ev_thn, ev_thnR, ev_thnB, ev_thnC, ev_next, ev_break, ev_cont, ev_ret, ev_retK, ev_retN, ev_expr, ev_exprK, ev_asg, ev_asgK, ev_nxK, ev_gNm, ev_gTp, ev_gsNil, ev_gsCons, ev_gsK, ev_gSb, ev_gSbK1, ev_par, ev_parK2, ev_parK3, ev_mt,
  ev_add, ev_sub, ev_mul, ev_fdiv, ev_mod, ev_pow, ev_shl, ev_neg, ev_lt, ev_le, ev_gt, ev_ge, ev_eqI, ev_neI, ev_abs, ev_intB, ev_intI, ev_minI, ev_maxI, ev_bits, ev_get0, ev_get1, ev_get2, bd_ok, bd_none, ev_whT, ev_whF, ev_whD, ev_wh2, ev_wh2c, ev_wh2r, ev_wh2b, ev_for, ev_forK, ev_fr1, ev_fr2, ev_fr2c, ev_fr2r, ev_fr2b, ev_lc, ev_lcK, ev_lc1, ev_lc2T, ev_lc2F, ev_lc2D, ev_yes, ev_iSeq, ev_seqT, ev_seqS, ev_iRange, ev_iEnum, ev_iZip,
  ev_neIS, ev_eqIS, ev_neSS, ev_eqSS, ev_isN, ev_isNot, isNon_t, isNon_n, isNon_i, isNon_r, decide_true, decide_false, decide_eq_true_eq, eq_self, if_true, if_false,
  out_rt, out_nx, List.map_cons, List.map_nil, List.cons_append, List.nil_append, List.replicate, List.set_cons_zero, List.set_cons_succ, Nat.reduceSub, Int.reduceEq, Int.reduceLT, Int.reduceLE, Int.reduceMul, Int.reduceAdd, Int.reduceSub, Bool.not_true, Bool.not_false])
local macro_rules | `(tactic| walk_at "go") => `(tactic| repeat (first | walk_at "ev" | walk_at "fs"))
local macro_rules | `(tactic| walk_at "wv") => `(tactic| simp only [wp_ok, kn_eq, outQ_rt, outQ_nx, turnQ_nx, turnQ_ct, turnQ_bk, turnQ_rt, whQ_nx, whQ_bk, whQ_rt, whT_t, whT_f, whT_d, lcT_t, lcT_f, lcT_d])
local macro_rules | `(tactic| walk_at "wb") => `(tactic| with_reducible refine wp_bd ?_)
local macro_rules | `(tactic| walk_at "w") => `(tactic| repeat (first | walk_at "ev" | walk_at "wv" | walk_at "fs" | walk_at "wb"))
local macro_rules | `(tactic| walk_at "bd") => `(tactic| exact Bd.fm rfl)
local macro_rules | `(tactic| walk_at "fs") => `(tactic| simp only [p10_3, p10_6, p10_7, p10_8, p10_9, p10_12, p10_15, p10_18, p10_60])
local macro_rules | `(tactic| walk_at "fs") => `(tactic| simp only [ev_pNil, ev_pCons, ev_pK1, ev_pK2, ev_pK3s, ev_dict, ev_gSb, ev_gSbK1])
local macro_rules | `(tactic| walk_at "fs") => `(tactic| simp only [wipe_nil, wipe_cons])
local macro_rules | `(tactic| walk_at "fs") => `(tactic| simp only [ev_make, ev_fldSet, ev_fsK1, ev_om, ev_omK2, ev_intB])
local macro_rules | `(tactic| walk_at "fs") => `(tactic| simp only [ev_iEnumV, ev_enumV, isi_str, ev_isN, ev_isNot])
local macro_rules | `(tactic| walk_at "fs") => `(tactic| simp only [ev_sl, ev_slK1, ev_slK2, ev_slK3, ev_oSome, ev_oSomeK, ev_oNone, slT4, slT3, len_tup, ev_get3, ev_get4, th_rows, th_nm])
local macro_rules | `(tactic| walk_at "fs") => `(tactic| simp only [List.isEmpty_nil, List.isEmpty_cons])
theorem lis_square_eq {n : Int} (h : Hs) (n1 : 1 ≤ n) (bn : Bd 2000 n) [Decidable (∃ x : Int, x * x = n)] : f__law_is_square [.int n] h = some (.bl (decide (∃ x : Int, x * x = n)), h) := by
  obtain ⟨r, hr⟩ := isRt_ex (n := n) (by omega)
  suffices hw : WP (f__law_is_square [.int n]  h) fun d g => d = .bl (decide (∃ x : Int, x * x = n)) ∧ g = h by
    obtain ⟨d, g, e, rfl, rfl⟩ := hw
    exact e
  have r1 : 1 ≤ r := by
    obtain ⟨a, b, c⟩ := hr
    rcases Int.lt_or_eq_of_le a with z | z
    · omega
    · subst z; omega
  have b0 : r ≤ n := by
    have := hr.2.1
    have h1 := Int.mul_le_mul_of_nonneg_right r1 (show 0 ≤ r by omega)
    omega
  unfold f__law_is_square
  refine wp_run rfl ?_
  rw [m__law_is_square_q]
  walk_at "w"
  refine wp_wh (fun k ρ g => ∃ x y : Int, ρ = [some (.int n), some (.int x), some (.int y)] ∧ g = h ∧ r ≤ x ∧ x ≤ n ∧ r ≤ y ∧ y ≤ n + 1 ∧ x.toNat = k ∧ (x ≤ y → n < x * x → ¬ ∃ z : Int, z * z = n)) n.toNat ⟨n, _, rfl, rfl, b0, Int.le_refl _, ?_, ?_, rfl, ?_⟩ ?_
  · rw [Int.fdiv_eq_ediv_of_nonneg _ (by omega)]
    have := step_ge hr (show (0 : Int) < 1 by decide)
    rw [Int.fdiv_eq_ediv_of_nonneg _ (by omega), Int.fdiv_eq_ediv_of_nonneg _ (by omega)] at this
    omega
  · rw [Int.fdiv_eq_ediv_of_nonneg _ (by omega)]
    omega
  · intro l _ ⟨z, ez⟩
    rw [Int.fdiv_eq_ediv_of_nonneg _ (by omega)] at l
    have n2 : n ≤ 2 := by omega
    have : n = 1 ∨ n = 2 := by omega
    rcases this with rfl | rfl
    · omega
    · have key : ∀ z : Int, 0 ≤ z → z * z = 2 → False := fun z hz e => by
        have : z = 0 ∨ z = 1 ∨ 2 ≤ z := by omega
        rcases this with rfl | rfl | h2
        · omega
        · omega
        · have := Int.mul_le_mul h2 h2 (by decide) (by omega)
          omega
      rcases Int.le_total 0 z with q | q
      · exact key z q ez
      · exact key (-z) (by omega) (by rw [Int.neg_mul_neg]; exact ez)
  · rintro k ρ g ⟨x, y, rfl, rfl, x0, x1, y0, y1, ek, fin⟩
    have bx : Bd 2000 x := bn.of_le (by omega) x1
    walk_at "w"
    by_cases q : y < x
    · rw [if_pos q]
      have byy : Bd 2000 y := bn.of_le (by omega) (by omega)
      unfold q__law_is_square_L1
      walk_at "w"
      refine ⟨_, ?_, y, _, rfl, by trivial, y0, by omega, step_ge hr (by omega), ?_, rfl, ?_⟩
      · omega
      · rw [Int.fdiv_eq_ediv_of_nonneg _ (by omega), Int.fdiv_eq_ediv_of_nonneg _ (by omega)]
        have : n / y ≤ n := Int.ediv_le_self _ (by omega)
        omega
      · intro l g1
        have := step_lt (by omega) (by omega) g1
        omega
    · rw [if_neg q]
      walk_at "w"
      refine ⟨?_, by trivial⟩
      congr 1
      have key : (x * x = n) ↔ ∃ z : Int, z * z = n := by
        constructor
        · exact fun e => ⟨x, e⟩
        · intro ex
          have h1 : ¬ n < x * x := fun z => fin (by omega) z ex
          have h2 := hr.sq_iff.mpr ex
          have h3 := Int.mul_le_mul x0 x0 (by omega) (by omega)
          omega
      simp only [key]
theorem lwhole_int (i : Int) (h : Hs) : f__law_whole [.int i] h = some (.bl true, h) := by
  unfold f__law_whole
  rw [runB_ok (by rfl)]
  unfold m__law_whole
  walk_at "go"
  rw [ev_isiII]
  walk_at "go"
  rw [ev_isiIB]
  walk_at "go"
theorem nm_of {c b a w : Int} (ha : 1 ≤ a) (g : gcdL 0 [c, b, a] = 1) (d : 0 < b * b - 4 * c * a) (ns : ¬ ∃ x : Int, x * x = b * b - 4 * c * a) (hw : w = 0 ∨ w = 1) : (Tm.rt c b a w).Nm := by
  rw [disc_comm c b a] at d ns
  rw [gcdL3] at g
  exact ⟨by omega, by omega, d, fun r e => ns ⟨r, e⟩, hw⟩
theorem pv_self (t : Tm) : pv 0 1 0 t.val = t.val := by
  unfold pv
  rw [cast_zero, cast_one]
  grind
set_option maxHeartbeats 1600000 in
theorem lis_time_wp {c b a w : Int} {h : Hs} {Q : D → Hs → Prop} (hw : w = 0 ∨ w = 1) (ha : 1 ≤ a) (bc : Bd 500 c) (bb : Bd 500 b) (ba : Bd 500 a) (q : ∀ h' k, KA h h' → (k = true → (Tm.rt c b a w).Nm ∧ 0 ≤ (Tm.rt c b a w).val) → Q (.bl k) h') : WP (f__law_is_time [TD (.rt c b a w)] h) Q := by
  unfold f__law_is_time
  rw [TD_rt]
  refine wp_run rfl ?_
  rw [m__law_is_time_q]
  walk_at "w"
  rw [isi_tup]
  walk_at "w"
  rw [show notInG (.int ((([D.str "root", .tup [.int c, .int b, .int a], .int w] : List D).length : Nat) : Int)) (.tup [.int 2, .int 3]) h = some (.bl false, h) from rfl]
  walk_at "w"
  simp only [List.length_cons, List.length_nil]
  walk_at "w"
  rw [if_neg (by decide)]
  walk_at "w"
  rw [isi_tup]
  walk_at "w"
  simp only [List.length_cons, List.length_nil]
  walk_at "w"
  rw [if_pos (by decide)]
  walk_at "w"
  have e2 : ∀ g, notInG (.int w) (.tup [.int 0, .int 1]) g = some (.bl false, g) := fun g => by rcases hw with rfl | rfl <;> rfl
  rw [e2]
  walk_at "w"
  rw [show slG (.tup [.str "root", .tup [.int c, .int b, .int a], .int w]) (some 2) none h = some (.tup [.int w], h) from rfl]
  walk_at "w"
  rw [ev_addT (Nat.le_of_ble_eq_true rfl)]
  walk_at "w"
  refine wp_lcmapT [c, b, a, w] D.int (fun _ => .bl true) (small_line (by simp)) (fun g kg i => srcT_get i) (fun x hx g kg => ?_) (fun g1 k1 => ?_)
  · refine ⟨_, rfl, ?_⟩
    walk_at "w"
    rw [lwhole_int]
    exact ⟨_, _, rfl, rfl, Keep.refl⟩
  walk_at "w"
  have k2 : KA h (g1 ++ [AO.lst [.bl true, .bl true, .bl true, .bl true]]) := k1.trans ka_app
  have ea := all_true (n := 4) (h := g1)
  change allG [.ref g1.length] (g1 ++ [AO.lst [.bl true, .bl true, .bl true, .bl true]]) = some (.bl true, g1 ++ [AO.lst [.bl true, .bl true, .bl true, .bl true]]) at ea
  rw [ea]
  walk_at "w"
  generalize g1 ++ [AO.lst [.bl true, .bl true, .bl true, .bl true]] = g2 at *
  rw [if_neg (by omega), show D.tup [.int c, .int b, .int a] = .tup ([c, b, a].map D.int) from rfl]
  walk_at "w"
  rw [show D.tup [.int c, .int b, .int a] = .tup ([c, b, a].map D.int) from rfl, lcommon_eq]
  walk_at "w"
  by_cases g : gcdL 0 [c, b, a] = 1
  · rw [if_pos g]
    walk_at "w"
    by_cases d : 0 < b * b - 4 * c * a
    · rw [if_pos d]
      walk_at "w"
      classical
      rw [lis_square_eq _ (by omega) (Bd.mono (by walk_at "bd") (by decide))]
      walk_at "w"
      by_cases ns : ∃ x : Int, x * x = b * b - 4 * c * a
      · simp only [ns, decide_true, Bool.not_true]
        walk_at "w"
        exact q _ _ k2 (by simp)
      · simp only [ns, decide_false, Bool.not_false]
        walk_at "w"
        have nm := nm_of ha g d ns hw
        rw [show D.tup [.str "root", .tup [.int c, .int b, .int a], .int w] = TD (.rt c b a w) from rfl, lsign_eq _ nm bd_zero (Bd.of_range (n := 5) (by decide) (by decide) |>.mono (by decide)) bd_zero (TB.mono (n := 500) ⟨bc, bb, ba⟩ (by decide)), pv_self]
        walk_at "w"
        refine q _ _ k2 fun z => ⟨nm, ?_⟩
        have z : 0 ≤ sgR (Tm.rt c b a w).val := by simpa using z
        rcases tri (Tm.rt c b a w).val with y | y | y
        · grind
        · rw [sg_neg y] at z; exact absurd z (by decide)
        · grind
    · rw [if_neg d]
      walk_at "w"
      exact q _ _ k2 (by simp [d])
  · rw [if_neg g]
    walk_at "w"
    exact q _ _ k2 (by simp)
end K22
namespace K22
open SL RR
local macro_rules | `(tactic| walk_at "bd") => `(tactic| (first
  | assumption
  | (with_reducible apply Bd.add <;> walk_at "bd")
  | (with_reducible apply Bd.sub <;> walk_at "bd")
  | (with_reducible apply Bd.mul <;> walk_at "bd")
  | (with_reducible apply Bd.neg <;> walk_at "bd")
  | (with_reducible apply Bd.fdiv <;> walk_at "bd")
  | (with_reducible apply Bd.ite <;> walk_at "bd")
  | (with_reducible apply Bd.sign)
  | exact Bd.lit 64 rfl
  | exact Bd.lit 250 rfl))
local macro_rules | `(tactic| walk_at "dis") => `(tactic| (first
  | assumption
  | (with_reducible apply MOk.of <;> first | (walk_at "bd"; done) | exact Nat.le_of_ble_eq_true rfl)
  | (with_reducible apply Bd.mono <;> first | (walk_at "bd"; done) | exact Nat.le_of_ble_eq_true rfl)
  | (with_reducible apply DOk.of <;> first | (walk_at "bd"; done) | omega | exact Nat.le_of_ble_eq_true rfl)
  | omega))
local macro_rules | `(tactic| walk_at "ev") => `(tactic| simp (disch := walk_at "dis") only [ev_var0, ev_varS, ev_c, ev_op, ev_opK, ev_un, ev_call, ev_nil, ev_cons, ev_acK, ev_consK, ev_tup, ev_tupK, ev_lst, ev_lstK, ev_ifE, ev_ifS, ev_ifKT, ev_ifKF, ev_ifK, ev_ifKN,
  ev_tV, ev_tvK, ev_tTru, ev_truB, ev_truN, ev_truI, ev_and, ev_or, ev_not, ev_notK, ev_andT, ev_andF, ev_orT, ev_orF, ev_andK, ev_andKN, ev_orK, ev_orKN, ev_eAnd, ev_eOr, ev_eNot, ev_eNotB, ev_eAndT, ev_eAndF, ev_eAndB, ev_eAndBN, ev_eOrT, ev_eOrF, ev_eOrN, ev_eOrB, ev_eOrBN,
  ev_chain, ev_chK1, ev_chK2, ev_chK3, ev_chK3T, ev_chK3F, ev_seq, ev_thn, ev_thnR, ev_thnB, ev_thnC, ev_next, ev_break, ev_cont, ev_ret, ev_retK, ev_retN, ev_expr, ev_exprK, ev_asg, ev_asgK, ev_nxK, ev_gNm, ev_gTp, ev_gsNil, ev_gsCons, ev_gsK, ev_gSb, ev_gSbK1, ev_par, ev_parK2, ev_parK3, ev_mt,
  ev_add, ev_sub, ev_mul, ev_fdiv, ev_mod, ev_pow, ev_shl, ev_neg, ev_lt, ev_le, ev_gt, ev_ge, ev_eqI, ev_neI, ev_abs, ev_intB, ev_intI, ev_minI, ev_maxI, ev_bits, ev_get0, ev_get1, ev_get2, bd_ok, bd_none, ev_whT, ev_whF, ev_whD, ev_wh2, ev_wh2c, ev_wh2r, ev_wh2b, ev_for, ev_forK, ev_fr1, ev_fr2, ev_fr2c, ev_fr2r, ev_fr2b, ev_lc, ev_lcK, ev_lc1, ev_lc2T, ev_lc2F, ev_lc2D, ev_yes, ev_iSeq, ev_seqT, ev_seqS, ev_iRange, ev_iEnum, ev_iZip,
  ev_neIS, ev_eqIS, ev_neSS, ev_eqSS, ev_isN, ev_isNot, isNon_t, isNon_n, isNon_i, isNon_r, decide_true, decide_false, decide_eq_true_eq, eq_self, if_true, if_false,
  out_rt, out_nx, List.map_cons, List.map_nil, List.cons_append, List.nil_append, List.replicate, List.set_cons_zero, List.set_cons_succ, Nat.reduceSub, Int.reduceEq, Int.reduceLT, Int.reduceLE, Int.reduceMul, Int.reduceAdd, Int.reduceSub, Bool.not_true, Bool.not_false])
local macro_rules | `(tactic| walk_at "go") => `(tactic| repeat (first | walk_at "ev" | walk_at "fs"))
local macro_rules | `(tactic| walk_at "wv") => `(tactic| simp only [wp_ok, kn_eq, outQ_rt, outQ_nx, turnQ_nx, turnQ_ct, turnQ_bk, turnQ_rt, whQ_nx, whQ_bk, whQ_rt, whT_t, whT_f, whT_d, lcT_t, lcT_f, lcT_d])
local macro_rules | `(tactic| walk_at "wb") => `(tactic| with_reducible refine wp_bd ?_)
local macro_rules | `(tactic| walk_at "w") => `(tactic| repeat (first | walk_at "ev" | walk_at "wv" | walk_at "fs" | walk_at "wb"))
local macro_rules | `(tactic| walk_at "bd") => `(tactic| exact Bd.fm rfl)
local macro_rules | `(tactic| walk_at "fs") => `(tactic| simp only [p10_3, p10_6, p10_7, p10_8, p10_9, p10_12, p10_15, p10_18, p10_60])
local macro_rules | `(tactic| walk_at "fs") => `(tactic| simp only [ev_pNil, ev_pCons, ev_pK1, ev_pK2, ev_pK3s, ev_dict, ev_gSb, ev_gSbK1])
local macro_rules | `(tactic| walk_at "fs") => `(tactic| simp only [wipe_nil, wipe_cons])
local macro_rules | `(tactic| walk_at "fs") => `(tactic| simp only [ev_make, ev_fldSet, ev_fsK1, ev_om, ev_omK2, ev_intB])
local macro_rules | `(tactic| walk_at "fs") => `(tactic| simp only [ev_iEnumV, ev_enumV, isi_str, ev_isN, ev_isNot])
local macro_rules | `(tactic| walk_at "fs") => `(tactic| simp only [ev_sl, ev_slK1, ev_slK2, ev_slK3, ev_oSome, ev_oSomeK, ev_oNone, slT4, slT3, len_tup, ev_get3, ev_get4, th_rows, th_nm])
local macro_rules | `(tactic| walk_at "fs") => `(tactic| simp only [List.isEmpty_nil, List.isEmpty_cons])
theorem ne_ints_nil {h : Hs} {n m : Nat} {xs : List Int} (e1 : getL h n = some (xs.map D.int)) (e2 : getL h m = some []) : neG (.ref n) (.ref m) h = some (.bl (!decide (xs = [])), h) := by
  have e3 : getL h m = some (([] : List Int).map D.int) := e2
  unfold neG eqB
  rw [toP_ints e1, toP_ints e3]
  cases xs with
  | nil => rfl
  | cons x xs => simp [PySem.PyData.eqv, PySem.PyData.eqvAll]
theorem setG_lst {h : Hs} {n : Nat} {ds : List D} {j : Nat} {d : D} (e : h[n]? = some (.lst ds)) (l : j < ds.length) : setG (.ref n) (.int (j : Int)) d h = some (h.set n (.lst (ds.set j d))) := by
  show (match h[n]? with | some (.lst ds) => _ | some (.dct kvs) => _ | _ => none) = _
  rw [e]
  show (match L2.ixN ds.length (j : Int) with | some j => some (h.set n (.lst (ds.set j d))) | none => none) = _
  have : L2.ixN ds.length (j : Int) = some j := by
    unfold L2.ixN
    rw [if_pos (Int.natCast_nonneg j), if_pos (by omega), Int.toNat_natCast]
  rw [this]
theorem draw_wp {s r n k : Nat} {m : Int} {h : Hs} {Q : D → Hs → Prop} (st : Wm s r n k h) (hm : 0 < m) (bm : m < 2 ^ 60) (hk : k < 2 ^ 60)
    (q : ∀ (d : Int) h', 0 ≤ d → d < m → Wm s r n (k + 1) h' → Keep (NR n r) h h' → Q (.int d) h') : WP (f__law_draw [.ref n, .int m] h) Q := by
  obtain ⟨ns, ms, k0, lk, en, er, es, lm, ls⟩ := st.ex
  have m0 : m ≠ 0 := by omega
  have bm' : Bd 60 m := Bd.of_range (by omega) (by omega)
  have bk : Bd 60 (k0 : Int) := Bd.of_range (by omega) (by omega)
  have rn : r ≠ n := fun z => by rw [z, en] at er; cases er
  have fin : ∀ x : Int, 0 ≤ x.fmod m ∧ x.fmod m < m := fun x => ⟨Int.fmod_nonneg_of_pos x hm, Int.fmod_lt_of_pos x hm⟩
  unfold f__law_draw
  refine wp_run rfl ?_
  unfold m__law_draw
  walk_at "w"
  rw [ev_dget en rfl]
  walk_at "w"
  rw [ev_gSbK2 (ev_dset en (small_line (n := 3) (by decide)))]
  walk_at "w"
  generalize hH : h.set n _ = H
  have en' : H[n]? = some (.dct [(.inr "script", .ref s), (.inr "at", .int ((k0 + 1 : Nat) : Int)), (.inr "rest", .ref r)]) := by rw [← hH]; exact set_at (get_lt en)
  have er' : H[r]? = some (.lst (ms.map D.int)) := by rw [← hH, List.getElem?_set_ne (Ne.symm rn)]; exact er
  have es' : getL H s = some (ns.map D.int) := by
    rw [← hH]; unfold getL at es ⊢; rw [List.getElem?_set_ne (Ne.symm st.sn)]; exact es
  have kH : Keep (NR n r) h H := by rw [← hH]; exact Keep.set fun z => z.1 rfl
  have wH : Wm s r n (k + 1) H := ⟨⟨ns, ms, k0 + 1, by omega, en', er', es', lm, ls⟩, st.sr, st.sn⟩
  rw [ev_dget en' rfl]
  walk_at "w"
  rw [ev_dget en' rfl]
  walk_at "w"
  have er2 : (H ++ [AO.lst []])[r]? = some (.lst (ms.map D.int)) := get_app _ er'
  have en2 := get_app [AO.lst []] en'
  have es2 : getL (H ++ [AO.lst []]) s = some (ns.map D.int) := KA.getL Keep.app es'
  have k2 : Keep (NR n r) h (H ++ [AO.lst []]) := kH.trans Keep.app
  have w2 : Wm s r n (k + 1) (H ++ [AO.lst []]) := wH.app
  rw [ne_ints_nil (getL_lst er2) getL_last]
  by_cases z : ms = []
  · have zn : ns = [] := by
      subst z
      cases ns with
      | nil => rfl
      | cons _ _ => simp at lm
    subst z zn
    walk_at "w"
    rw [ne_ints_nil (KA.getL Keep.app es2) getL_last]
    walk_at "w"
    exact q _ _ (fin _).1 (fin _).2 w2.app (k2.trans Keep.app)
  · have lpos : 0 < ms.length := List.length_pos_iff.mpr z
    obtain ⟨j, hj, ej⟩ : ∃ j : Nat, j < ms.length ∧ (k0 : Int).fmod (ms.length : Int) = (j : Int) := by
      have a1 := Int.fmod_nonneg_of_pos (k0 : Int) (show (0 : Int) < ms.length by omega)
      have a2 := Int.fmod_lt_of_pos (k0 : Int) (show (0 : Int) < ms.length by omega)
      exact ⟨((k0 : Int).fmod ms.length).toNat, by omega, by omega⟩
    have ln : ((ns.map D.int).length : Int) = (ms.length : Int) := by rw [List.length_map, lm]
    have lz : (ms.length : Int) ≠ 0 := by omega
    rw [decide_eq_false z]
    walk_at "w"
    rw [ev_dget en2 rfl]
    walk_at "w"
    rw [ev_lenL es2]
    walk_at "w"
    rw [ln, ej]
    walk_at "w"
    rw [ev_idx (getL_lst er2) (L2.atI_nat (j := j) (by rw [List.getElem?_map, List.getElem?_eq_getElem hj]; rfl))]
    walk_at "w"
    refine wp_ite (fun pos => ?_) (fun neg => ?_)
    · walk_at "w"
      rw [ev_dget en2 rfl]
      walk_at "w"
      rw [ev_lenL es2]
      walk_at "w"
      rw [ln, ej]
      walk_at "w"
      rw [ev_gSbK2 (setG_lst er2 (by rw [List.length_map]; exact hj))]
      walk_at "w"
      refine q _ _ (fin _).1 (fin _).2 ⟨⟨ns, ms.set j (ms[j].fdiv m), k0 + 1, by omega, ?_, ?_, ?_, by simp [lm], ls⟩, st.sr, st.sn⟩ (k2.trans (Keep.set fun z => z.2 rfl))
      · rw [List.getElem?_set_ne rn]; exact en2
      · rw [set_at (get_lt er2), List.map_set]
      · unfold getL at es2 ⊢
        rw [List.getElem?_set_ne (Ne.symm st.sr)]; exact es2
    · walk_at "w"
      rw [ne_ints_nil (KA.getL Keep.app es2) getL_last, decide_eq_false (fun z2 => z (by subst z2; simpa using lm))]
      walk_at "w"
      rw [ev_lenL (KA.getL Keep.app es2)]
      walk_at "w"
      rw [ln, ej]
      walk_at "w"
      rw [ev_idx (KA.getL Keep.app es2) (L2.atI_nat (j := j) (by rw [List.getElem?_map, List.getElem?_eq_getElem (by omega)]; rfl))]
      walk_at "w"
      exact q _ _ (fin _).1 (fin _).2 w2.app (k2.trans Keep.app)
theorem of_wp {s r n k L : Nat} {ds : List D} {h : Hs} {Q : D → Hs → Prop} (st : Wm s r n k h) (e : getL h L = some ds) (l0 : ds ≠ []) (l1 : ds.length < 1000) (lr : L ≠ r) (hk : k < 2 ^ 60)
    (q : ∀ d ∈ ds, ∀ h', Wm s r n (k + 1) h' → Keep (NR n r) h h' → Q d h') : WP (f__law_of [.ref n, .ref L] h) Q := by
  have ln : L ≠ n := fun z => by
    obtain ⟨_, _, _, _, en, _⟩ := st.ex
    rw [z] at e
    unfold getL at e
    rw [en] at e
    cases e
  have lp : 0 < ds.length := List.length_pos_iff.mpr l0
  unfold f__law_of
  refine wp_run rfl ?_
  unfold m__law_of
  walk_at "w"
  rw [ev_lenL e]
  walk_at "w"
  refine draw_wp st (by omega) (by omega) hk fun d h' d0 d1 w kp => ?_
  walk_at "w"
  obtain ⟨j, rfl⟩ : ∃ j : Nat, d = (j : Int) := ⟨d.toNat, by omega⟩
  have lj : j < ds.length := by omega
  rw [ev_idx (kp.getL e ⟨ln, lr⟩) (L2.atI_nat (List.getElem?_eq_getElem lj))]
  walk_at "w"
  exact q _ (List.getElem_mem lj) _ w kp
/-- of a list just laid -/
theorem of_new {s r n k : Nat} {ds : List D} {h : Hs} {Q : D → Hs → Prop} (st : Wm s r n k h) (l0 : ds ≠ []) (l1 : ds.length < 1000) (hk : k < 2 ^ 60)
    (q : ∀ d ∈ ds, ∀ h', Wm s r n (k + 1) h' → Keep (NR n r) h h' → Q d h') : WP (f__law_of [.ref n, .ref h.length] (h ++ [.lst ds])) Q := by
  have rl : r < h.length := by
    obtain ⟨_, _, _, _, _, er, _⟩ := st.ex
    exact get_lt er
  exact of_wp st.app getL_last l0 l1 (by omega) hk fun d hd h' w kp => q d hd h' w (Keep.app.trans kp)
theorem distance_wp {s r n k : Nat} {h : Hs} {Q : D → Hs → Prop} (st : Wm s r n k h) (hk : k < 2 ^ 59)
    (q : ∀ (d : Int) h', 0 ≤ d → d < 1000000 → Wm s r n (k + 5) h' → Keep (NR n r) h h' → Q (.int d) h') : WP (f__law_distance [.ref n] h) Q := by
  unfold f__law_distance
  refine wp_run rfl ?_
  unfold m__law_distance
  walk_at "w"
  refine draw_wp st (by omega) (by omega) (by omega) fun d1 h1 a1 b1 w1 k1 => ?_
  walk_at "w"
  refine draw_wp w1 (by omega) (by omega) (by omega) fun d2 h2 a2 b2 w2 k2 => ?_
  walk_at "w"
  refine draw_wp w2 (by omega) (by omega) (by omega) fun d3 h3 a3 b3 w3 k3 => ?_
  walk_at "w"
  refine draw_wp w3 (by omega) (by omega) (by omega) fun d4 h4 a4 b4 w4 k4 => ?_
  walk_at "w"
  refine of_new w4 (by simp) (show 4 < 1000 by decide) (by omega) fun d hd h5 w5 k5 => ?_
  walk_at "w"
  have kk := (((k1.trans k2).trans k3).trans k4).trans k5
  simp only [List.mem_cons, List.not_mem_nil, or_false] at hd
  rcases hd with rfl | rfl | rfl | rfl
  · exact q _ _ a1 (by omega) w5 kk
  · exact q _ _ a2 (by omega) w5 kk
  · exact q _ _ a3 (by omega) w5 kk
  · exact q _ _ a4 (by omega) w5 kk
end K22
namespace K22
open SL RR
local macro_rules | `(tactic| walk_at "bd") => `(tactic| (first
  | assumption
  | (with_reducible apply Bd.add <;> walk_at "bd")
  | (with_reducible apply Bd.sub <;> walk_at "bd")
  | (with_reducible apply Bd.mul <;> walk_at "bd")
  | (with_reducible apply Bd.neg <;> walk_at "bd")
  | (with_reducible apply Bd.fdiv <;> walk_at "bd")
  | (with_reducible apply Bd.ite <;> walk_at "bd")
  | (with_reducible apply Bd.sign)
  | exact Bd.lit 64 rfl
  | exact Bd.lit 250 rfl))
local macro_rules | `(tactic| walk_at "dis") => `(tactic| (first
  | assumption
  | (with_reducible apply MOk.of <;> first | (walk_at "bd"; done) | exact Nat.le_of_ble_eq_true rfl)
  | (with_reducible apply Bd.mono <;> first | (walk_at "bd"; done) | exact Nat.le_of_ble_eq_true rfl)
  | (with_reducible apply DOk.of <;> first | (walk_at "bd"; done) | omega | exact Nat.le_of_ble_eq_true rfl)
  | omega))
local macro_rules | `(tactic| walk_at "ev") => `(tactic| simp (disch := walk_at "dis") only [ev_var0, ev_varS, ev_c, ev_op, ev_opK, ev_un, ev_call, ev_nil, ev_cons, ev_acK, ev_consK, ev_tup, ev_tupK, ev_lst, ev_lstK, ev_ifE, ev_ifS, ev_ifKT, ev_ifKF, ev_ifK, ev_ifKN,
  ev_tV, ev_tvK, ev_tTru, ev_truB, ev_truN, ev_truI, ev_and, ev_or, ev_not, ev_notK, ev_andT, ev_andF, ev_orT, ev_orF, ev_andK, ev_andKN, ev_orK, ev_orKN, ev_eAnd, ev_eOr, ev_eNot, ev_eNotB, ev_eAndT, ev_eAndF, ev_eAndB, ev_eAndBN, ev_eOrT, ev_eOrF, ev_eOrN, ev_eOrB, ev_eOrBN,
  ev_chain, ev_chK1, ev_chK2, ev_chK3, ev_chK3T, ev_chK3F, ev_seq, ev_thn, ev_thnR, ev_thnB, ev_thnC, ev_next, ev_break, ev_cont, ev_ret, ev_retK, ev_retN, ev_expr, ev_exprK, ev_asg, ev_asgK, ev_nxK, ev_gNm, ev_gTp, ev_gsNil, ev_gsCons, ev_gsK, ev_gSb, ev_gSbK1, ev_par, ev_parK2, ev_parK3, ev_mt,
  ev_add, ev_sub, ev_mul, ev_fdiv, ev_mod, ev_pow, ev_shl, ev_neg, ev_lt, ev_le, ev_gt, ev_ge, ev_eqI, ev_neI, ev_abs, ev_intB, ev_intI, ev_minI, ev_maxI, ev_bits, ev_get0, ev_get1, ev_get2, bd_ok, bd_none, ev_whT, ev_whF, ev_whD, ev_wh2, ev_wh2c, ev_wh2r, ev_wh2b, ev_for, ev_forK, ev_fr1, ev_fr2, ev_fr2c, ev_fr2r, ev_fr2b, ev_lc, ev_lcK, ev_lc1, ev_lc2T, ev_lc2F, ev_lc2D, ev_yes, ev_iSeq, ev_seqT, ev_seqS, ev_iRange, ev_iEnum, ev_iZip,
  ev_neIS, ev_eqIS, ev_neSS, ev_eqSS, ev_isN, ev_isNot, isNon_t, isNon_n, isNon_i, isNon_r, decide_true, decide_false, decide_eq_true_eq, eq_self, if_true, if_false,
  out_rt, out_nx, List.map_cons, List.map_nil, List.cons_append, List.nil_append, List.replicate, List.set_cons_zero, List.set_cons_succ, Nat.reduceSub, Int.reduceEq, Int.reduceLT, Int.reduceLE, Int.reduceMul, Int.reduceAdd, Int.reduceSub, Bool.not_true, Bool.not_false])
local macro_rules | `(tactic| walk_at "go") => `(tactic| repeat (first | walk_at "ev" | walk_at "fs"))
local macro_rules | `(tactic| walk_at "wv") => `(tactic| simp only [wp_ok, kn_eq, outQ_rt, outQ_nx, turnQ_nx, turnQ_ct, turnQ_bk, turnQ_rt, whQ_nx, whQ_bk, whQ_rt, whT_t, whT_f, whT_d, lcT_t, lcT_f, lcT_d])
local macro_rules | `(tactic| walk_at "wb") => `(tactic| with_reducible refine wp_bd ?_)
local macro_rules | `(tactic| walk_at "w") => `(tactic| repeat (first | walk_at "ev" | walk_at "wv" | walk_at "fs" | walk_at "wb"))
local macro_rules | `(tactic| walk_at "bd") => `(tactic| exact Bd.fm rfl)
local macro_rules | `(tactic| walk_at "fs") => `(tactic| simp only [p10_3, p10_6, p10_7, p10_8, p10_9, p10_12, p10_15, p10_18, p10_60])
local macro_rules | `(tactic| walk_at "fs") => `(tactic| simp only [ev_pNil, ev_pCons, ev_pK1, ev_pK2, ev_pK3s, ev_dict, ev_gSb, ev_gSbK1])
local macro_rules | `(tactic| walk_at "fs") => `(tactic| simp only [wipe_nil, wipe_cons])
local macro_rules | `(tactic| walk_at "fs") => `(tactic| simp only [ev_make, ev_fldSet, ev_fsK1, ev_om, ev_omK2, ev_intB])
local macro_rules | `(tactic| walk_at "fs") => `(tactic| simp only [ev_iEnumV, ev_enumV, isi_str, ev_isN, ev_isNot])
local macro_rules | `(tactic| walk_at "fs") => `(tactic| simp only [ev_sl, ev_slK1, ev_slK2, ev_slK3, ev_oSome, ev_oSomeK, ev_oNone, slT4, slT3, len_tup, ev_get3, ev_get4, th_rows, th_nm])
local macro_rules | `(tactic| walk_at "fs") => `(tactic| simp only [List.isEmpty_nil, List.isEmpty_cons])

def clampI (x m : Int) : Int := if (if x < m then x else m) > -m then (if x < m then x else m) else -m
theorem brought_eq {x m : Int} {h : Hs} : f__law_brought [.int x, .int m] h = some (.int (clampI x m), h) := by
  unfold f__law_brought
  rw [runB_ok (by rfl)]
  unfold m__law_brought
  walk_at "go"
  unfold clampI
  rw [Int.zero_sub]
theorem clamp_in {x m : Int} (h : 0 ≤ m) : -m ≤ clampI x m ∧ clampI x m ≤ m := by
  unfold clampI
  split <;> split <;> omega
theorem rows_wp {s r n k : Nat} {h : Hs} {Q : D → Hs → Prop} (st : Wm s r n k h) (hk : k < 2 ^ 59)
    (q : ∀ rs h', Rising 0 rs → (∀ a ∈ rs, RowOk a) → rs.length ≤ 12 → Wm s r n (k + 40) h' → Keep (NR n r) h h' → Q (rowsD rs) h') : WP (f__law_rows [.ref n] h) Q := by
  unfold f__law_rows
  refine wp_run rfl ?_
  unfold m__law_rows
  walk_at "w"
  refine of_new st (by simp) (show 5 < 1000 by decide) (by omega) fun d hd h1 w1 k1 => ?_
  obtain ⟨gap, fast, rfl, g0, g1, f0, f1⟩ : ∃ gap fast : Int, d = .tup [.int gap, .int fast] ∧ 0 < gap ∧ gap ≤ 80000 ∧ 0 < fast ∧ fast ≤ 1000 := by
    simp only [List.mem_cons, List.not_mem_nil, or_false] at hd
    rcases hd with rfl | rfl | rfl | rfl | rfl <;> exact ⟨_, _, rfl, by decide, by decide, by decide, by decide⟩
  walk_at "w"
  refine of_new w1.app (by simp) (show 4 < 1000 by decide) (by omega) fun d hd h2 w2 k2 => ?_
  obtain ⟨c, rfl, c0, c1⟩ : ∃ c : Int, d = .int c ∧ 0 < c ∧ c ≤ 13 := by
    simp only [List.mem_cons, List.not_mem_nil, or_false] at hd
    rcases hd with rfl | rfl | rfl | rfl <;> exact ⟨_, rfl, by decide, by decide⟩
  walk_at "w"
  refine draw_wp w2 (by omega) (by omega) (by omega) fun c' h3 a3 b3 w3 k3 => ?_
  walk_at "w"
  rw [ev_range1 (by omega) (by omega)]
  walk_at "w"
  have rl : r < h1.length ∧ n < h1.length := by
    obtain ⟨_, _, _, _, en, er, _⟩ := w1.ex
    exact ⟨get_lt er, get_lt en⟩
  have kp : Keep (NR n r) h h3 := ((k1.trans Keep.app).trans k2).trans k3
  have eL : h3[h1.length]? = some (.lst []) := by
    have e2 : h2[h1.length]? = some (.lst []) := k2.get get_last ⟨by omega, by omega⟩
    exact k3.get e2 ⟨by omega, by omega⟩
  have l1 : h1.length < h3.length := get_lt eL
  have sL : s < h1.length := by
    obtain ⟨_, _, _, _, _, _, es, _⟩ := w1.ex
    unfold getL at es
    rcases Nat.lt_or_ge s h1.length with z | z
    · exact z
    · rw [List.getElem?_eq_none z] at es; cases es
  have lh : h.length ≤ h1.length := k1.1
  have bf : Bd 20 fast := Bd.of_range (by omega) (by omega)
  generalize h1.length = L at *
  refine wp_fr c'.toNat (fun i ρ g => ∃ (T : Int) (rs : List Row) (x5 : Option D), ρ = [some (.ref n), some (.int gap), some (.int fast), some (.int T), some (.ref L), x5] ∧ 0 ≤ T ∧ T ≤ i * 80001 ∧ rs.length = i ∧ Rising 0 rs ∧ (∀ a ∈ rs, a.t ≤ T) ∧ (∀ a ∈ rs, RowOk a) ∧ g[L]? = some (.lst (rs.map Row.D)) ∧ Wm s r n (k + 3 + 3 * i) g ∧ Keep (NR n r) h g)
    ⟨0, [], none, rfl, Int.le_refl _, by omega, rfl, trivial, (by simp), (by simp), eL, w3, kp⟩ ?_ ?_
  · rintro i hi ρ g ⟨T, rs, x5, rfl, t0, t1, lr, up, le, ok, eg, wg, kg⟩
    have hi12 : i < 12 := by omega
    refine ⟨.int (0 + (i : Nat)), _, g, srcR_in hi, rfl, ?_⟩
    walk_at "w"
    refine draw_wp wg (by omega) (by omega) (by omega) fun dT g1 a1 b1 w1 kk1 => ?_
    walk_at "w"
    have eg1 := kk1.get eg ⟨by omega, by omega⟩
    rw [ev_mtK (tyD_lst eg1)]
    walk_at "w"
    refine draw_wp w1 (by omega) (by omega) (by omega) fun u g2 a2 b2 w2 kk2 => ?_
    walk_at "w"
    refine draw_wp w2 (by omega) (by omega) (by omega) fun v g3 a3 b3 w3 kk3 => ?_
    walk_at "w"
    have eg3 := kk3.get (kk2.get eg1 ⟨by omega, by omega⟩) ⟨by omega, by omega⟩
    rw [ev_app eg3 (by rw [List.length_map]; exact small_line (by omega))]
    walk_at "w"
    generalize hT : T + dT + _ = T'
    have hT' : T ≤ T' ∧ T' ≤ T + 80001 ∧ (0 < i → T < T') := by
      rw [← hT]
      split
      · omega
      · next z => 
        refine ⟨by omega, by omega, fun p => ?_⟩
        exact absurd (by simpa using p) z
    refine ⟨T', rs ++ [⟨T', u - fast, v - fast⟩], _, rfl, by omega, by push_cast; omega, by simp [lr], up.snoc (fun q hq => ?_) (show 0 ≤ T' by omega), fun q hq => ?_, fun q hq => ?_, ?_, ?_, ?_⟩
    · have p : 0 < i := by rw [← lr]; exact List.length_pos_of_mem hq
      have := le q hq
      have := hT'.2.2 p
      show q.t < T'
      omega
    · rcases List.mem_append.mp hq with hq | hq
      · have := le q hq; omega
      · rw [List.mem_singleton.mp hq]; exact Int.le_refl _
    · rcases List.mem_append.mp hq with hq | hq
      · exact ok q hq
      · rw [List.mem_singleton.mp hq]
        exact ⟨by show T' < 2 ^ 30; omega, by show -1000 ≤ u - fast ∧ u - fast ≤ 1000; omega, by show -1000 ≤ v - fast ∧ v - fast ≤ 1000; omega⟩
    · rw [set_at (get_lt eg3), List.map_append]; rfl
    · exact (w3.set (by omega) (by omega) (by omega)).up (by omega)
    · exact ((kg.trans kk1).trans (kk2.trans kk3)).new lh
  · rintro ρ g ⟨T, rs, x5, rfl, t0, t1, lr, up, le, ok, eg, wg, kg⟩
    refine ⟨srcR_out (Nat.le_refl _), ?_⟩
    walk_at "w"
    rw [ev_tupL (getL_lst eg)]
    walk_at "w"
    exact q rs g up ok (by omega) (wg.up (by omega)) kg
local macro_rules | `(tactic| walk_at "fs") => `(tactic| simp only [brought_eq])
/-- a thing that goes as another one does -/
theorem beside_wp {s r n k : Nat} {h : Hs} {Q : D → Hs → Prop} {nm : PySem.Str} {a : Th} {far : Int} (st : Wm s r n k h) (hk : k < 2 ^ 59) (oa : ThOk a) (onm : nm ∈ names12) (f0 : -2000000 ≤ far) (f1 : far ≤ 2000000)
    (q : ∀ b : Th, ∀ h', b.nm = nm → ThOk b → Wm s r n (k + 4) h' → Keep (NR n r) h h' → Q b.D h') : WP (f__law_beside [.ref n, .str nm, a.D, .int far] h) Q := by
  obtain ⟨an, x, y, rs⟩ := a
  obtain ⟨ox, oy, up, ok, few, _⟩ := oa
  simp only at ox oy up ok few
  have bf : Bd 22 far := Bd.of_range (by omega) (by omega)
  have bx : Bd 22 x := Bd.of_range (by omega) (by omega)
  have by' : Bd 22 y := Bd.of_range (by omega) (by omega)
  have th : ∀ x' y' rs', -1000000 ≤ x' ∧ x' ≤ 1000000 → -1000000 ≤ y' ∧ y' ≤ 1000000 → Rising 0 rs' → (∀ r ∈ rs', RowOk r) → rs'.length ≤ 12 → ThOk ⟨nm, x', y', rs'⟩ := fun x' y' rs' a1 a2 a3 a4 a5 => ⟨a1, a2, a3, a4, a5, onm⟩
  have cl : ∀ z, -1000000 ≤ clampI z 1000000 ∧ clampI z 1000000 ≤ 1000000 := fun z => clamp_in (by decide)
  unfold f__law_beside Th.D
  refine wp_run rfl ?_
  unfold m__law_beside
  walk_at "w"
  refine draw_wp st (by omega) (by omega) (by omega) fun w h1 a1 b1 w1 k1 => ?_
  walk_at "w"
  refine wp_ite (fun _ => ?_) (fun _ => ?_)
  · walk_at "w"
    exact q ⟨nm, _, y, rs⟩ _ rfl (th _ _ _ (cl _) oy up ok few) (w1.up (by omega)) k1
  walk_at "w"
  refine wp_ite (fun _ => ?_) (fun _ => ?_)
  · walk_at "w"
    exact q ⟨nm, _, _, rs⟩ _ rfl (th _ _ _ (cl _) (cl _) up ok few) (w1.up (by omega)) k1
  walk_at "w"
  refine wp_ite (fun _ => ?_) (fun _ => ?_)
  · walk_at "w"
    exact q ⟨nm, x, y, rs⟩ _ rfl (th _ _ _ ox oy up ok few) (w1.up (by omega)) k1
  walk_at "w"
  refine draw_wp w1 (by omega) (by omega) (by omega) fun mo h2 a2 b2 w2 k2 => ?_
  walk_at "w"
  unfold rowsD
  rw [ev_seqT]
  walk_at "w"
  have bm : Bd 10 (1 + mo) := Bd.of_range (by omega) (by omega)
  generalize hm : 1 + mo = more at *
  refine wp_lcmapT rs Row.D (fun r => Row.D ⟨r.t, clampI (r.u + more) 1000, r.v⟩) (small_line (by omega)) ?_ ?_ ?_
  · exact fun g _ i => srcT_get i
  · intro r hr g _
    refine ⟨_, rfl, ?_⟩
    walk_at "w"
    exact ⟨rfl, Keep.refl⟩
  intro g kg
  walk_at "w"
  rw [ev_tupL getL_last]
  walk_at "w"
  rw [eq_tup0 (mapO_map (G := fun r => Row.P ⟨r.t, clampI (r.u + more) 1000, r.v⟩) rs fun r _ => rfl)]
  walk_at "w"
  have kk : Keep (NR n r) h (g ++ [AO.lst (rs.map fun r => Row.D ⟨r.t, clampI (r.u + more) 1000, r.v⟩)]) := ((k1.trans k2).trans (ka_nr kg)).trans Keep.app
  have wg := (w2.keep kg).app (G := [AO.lst (rs.map fun r => Row.D ⟨r.t, clampI (r.u + more) 1000, r.v⟩)])
  generalize g ++ [AO.lst (rs.map fun r => Row.D ⟨r.t, clampI (r.u + more) 1000, r.v⟩)] = g1 at *
  cases rs with
  | nil =>
    walk_at "w"
    refine draw_wp wg (by omega) (by omega) (by omega) fun t0 h3 a3 b3 w3 k3 => ?_
    walk_at "w"
    refine draw_wp w3 (by omega) (by omega) (by omega) fun z h4 a4 b4 w4 k4 => ?_
    have bz : Bd 6 z := Bd.of_range (by omega) (by omega)
    walk_at "w"
    refine q ⟨nm, _, _, [⟨t0, more, 0⟩]⟩ _ rfl (th _ _ _ (cl _) (cl _) ⟨a3, trivial⟩ (fun r hr => ?_) (by simp)) w4 ((kk.trans k3).trans k4)
    rw [List.mem_singleton.mp hr]
    exact ⟨by show t0 < 2 ^ 30; omega, by show -1000 ≤ more ∧ more ≤ 1000; omega, by show -1000 ≤ (0 : Int) ∧ (0 : Int) ≤ 1000; omega⟩
  | cons r0 rs =>
    walk_at "w"
    refine draw_wp wg (by omega) (by omega) (by omega) fun z h4 a4 b4 w4 k4 => ?_
    have bz : Bd 6 z := Bd.of_range (by omega) (by omega)
    walk_at "w"
    have upm : ∀ (rs : List Row) (lo : Int), Rising lo rs → Rising lo (rs.map fun r => ⟨r.t, clampI (r.u + more) 1000, r.v⟩) := fun rs => by
      induction rs with
      | nil => intro lo _; trivial
      | cons r rs ih => exact fun lo ⟨h1, h2⟩ => ⟨h1, ih _ h2⟩
    have em : (rs.map fun r => Row.D ⟨r.t, clampI (r.u + more) 1000, r.v⟩) = (rs.map fun r => (⟨r.t, clampI (r.u + more) 1000, r.v⟩ : Row)).map Row.D := by rw [List.map_map]; rfl
    rw [em]
    refine q ⟨nm, _, _, (r0 :: rs).map fun r => ⟨r.t, clampI (r.u + more) 1000, r.v⟩⟩ _ rfl (th _ _ _ (cl _) (cl _) (upm _ _ up) (fun r hr => ?_) (by rw [List.length_map]; exact few)) (w4.up (by omega)) (kk.trans k4)
    obtain ⟨r', hr', rfl⟩ := List.mem_map.mp hr
    obtain ⟨o1, o2, o3⟩ := ok r' hr'
    exact ⟨o1, clamp_in (by decide), o3⟩
theorem th_nn : ∀ xs : List Th, xs ≠ [] → xs.map Th.D ≠ [] := fun xs h z => h (List.map_eq_nil_iff.mp z)
theorem th_P (h : Hs) (xs : List Th) : mapO (toP 31 h) (xs.map Th.D) = some (xs.map Th.P) := mapO_map xs fun a _ => by
  have e : toP 30 h (rowsD a.rs) = some (.tuple (a.rs.map Row.P)) := by
    show (match mapO (toP 29 h) (a.rs.map Row.D) with | some ps => some (PySem.PyData.tuple ps) | none => none) = _
    rw [mapO_map (G := Row.P) a.rs fun r _ => rfl]
  show (match mapO (toP 30 h) [D.str a.nm, D.int a.x, D.int a.y, rowsD a.rs] with | some ps => some (PySem.PyData.tuple ps) | none => none) = _
  simp only [mapO, e, show toP 30 h (D.str a.nm) = some (.str a.nm) from rfl, show toP 30 h (D.int a.x) = some (.int a.x) from rfl, show toP 30 h (D.int a.y) = some (.int a.y) from rfl]
  rfl
end K22
namespace K22
open SL RR
local macro_rules | `(tactic| walk_at "bd") => `(tactic| (first
  | assumption
  | (with_reducible apply Bd.add <;> walk_at "bd")
  | (with_reducible apply Bd.sub <;> walk_at "bd")
  | (with_reducible apply Bd.mul <;> walk_at "bd")
  | (with_reducible apply Bd.neg <;> walk_at "bd")
  | (with_reducible apply Bd.fdiv <;> walk_at "bd")
  | (with_reducible apply Bd.ite <;> walk_at "bd")
  | (with_reducible apply Bd.sign)
  | exact Bd.lit 64 rfl
  | exact Bd.lit 250 rfl))
local macro_rules | `(tactic| walk_at "dis") => `(tactic| (first
  | assumption
  | (with_reducible apply MOk.of <;> first | (walk_at "bd"; done) | exact Nat.le_of_ble_eq_true rfl)
  | (with_reducible apply Bd.mono <;> first | (walk_at "bd"; done) | exact Nat.le_of_ble_eq_true rfl)
  | (with_reducible apply DOk.of <;> first | (walk_at "bd"; done) | omega | exact Nat.le_of_ble_eq_true rfl)
  | omega))
local macro_rules | `(tactic| walk_at "ev") => `(tactic| simp (disch := walk_at "dis") only [ev_var0, ev_varS, ev_c, ev_op, ev_opK, ev_un, ev_call, ev_nil, ev_cons, ev_acK, ev_consK, ev_tup, ev_tupK, ev_lst, ev_lstK, ev_ifE, ev_ifS, ev_ifKT, ev_ifKF, ev_ifK, ev_ifKN,
  ev_tV, ev_tvK, ev_tTru, ev_truB, ev_truN, ev_truI, ev_and, ev_or, ev_not, ev_notK, ev_andT, ev_andF, ev_orT, ev_orF, ev_andK, ev_andKN, ev_orK, ev_orKN, ev_eAnd, ev_eOr, ev_eNot, ev_eNotB, ev_eAndT, ev_eAndF, ev_eAndB, ev_eAndBN, ev_eOrT, ev_eOrF, ev_eOrN, ev_eOrB, ev_eOrBN,
  ev_chain, ev_chK1, ev_chK2, ev_chK3, ev_chK3T, ev_chK3F, ev_seq, ev_thn, ev_thnR, ev_thnB, ev_thnC, ev_next, ev_break, ev_cont, ev_ret, ev_retK, ev_retN, ev_expr, ev_exprK, ev_asg, ev_asgK, ev_nxK, ev_gNm, ev_gTp, ev_gsNil, ev_gsCons, ev_gsK, ev_gSb, ev_gSbK1, ev_par, ev_parK2, ev_parK3, ev_mt,
  ev_add, ev_sub, ev_mul, ev_fdiv, ev_mod, ev_pow, ev_shl, ev_neg, ev_lt, ev_le, ev_gt, ev_ge, ev_eqI, ev_neI, ev_abs, ev_intB, ev_intI, ev_minI, ev_maxI, ev_bits, ev_get0, ev_get1, ev_get2, bd_ok, bd_none, ev_whT, ev_whF, ev_whD, ev_wh2, ev_wh2c, ev_wh2r, ev_wh2b, ev_for, ev_forK, ev_fr1, ev_fr2, ev_fr2c, ev_fr2r, ev_fr2b, ev_lc, ev_lcK, ev_lc1, ev_lc2T, ev_lc2F, ev_lc2D, ev_yes, ev_iSeq, ev_seqT, ev_seqS, ev_iRange, ev_iEnum, ev_iZip,
  ev_neIS, ev_eqIS, ev_neSS, ev_eqSS, ev_isN, ev_isNot, isNon_t, isNon_n, isNon_i, isNon_r, decide_true, decide_false, decide_eq_true_eq, eq_self, if_true, if_false,
  out_rt, out_nx, List.map_cons, List.map_nil, List.cons_append, List.nil_append, List.replicate, List.set_cons_zero, List.set_cons_succ, Nat.reduceSub, Int.reduceEq, Int.reduceLT, Int.reduceLE, Int.reduceMul, Int.reduceAdd, Int.reduceSub, Bool.not_true, Bool.not_false])
local macro_rules | `(tactic| walk_at "go") => `(tactic| repeat (first | walk_at "ev" | walk_at "fs"))
local macro_rules | `(tactic| walk_at "wv") => `(tactic| simp only [wp_ok, kn_eq, outQ_rt, outQ_nx, turnQ_nx, turnQ_ct, turnQ_bk, turnQ_rt, whQ_nx, whQ_bk, whQ_rt, whT_t, whT_f, whT_d, lcT_t, lcT_f, lcT_d])
local macro_rules | `(tactic| walk_at "wb") => `(tactic| with_reducible refine wp_bd ?_)
local macro_rules | `(tactic| walk_at "w") => `(tactic| repeat (first | walk_at "ev" | walk_at "wv" | walk_at "fs" | walk_at "wb"))
local macro_rules | `(tactic| walk_at "bd") => `(tactic| exact Bd.fm rfl)
local macro_rules | `(tactic| walk_at "fs") => `(tactic| simp only [p10_3, p10_6, p10_7, p10_8, p10_9, p10_12, p10_15, p10_18, p10_60])
local macro_rules | `(tactic| walk_at "fs") => `(tactic| simp only [ev_pNil, ev_pCons, ev_pK1, ev_pK2, ev_pK3s, ev_dict, ev_gSb, ev_gSbK1])
local macro_rules | `(tactic| walk_at "fs") => `(tactic| simp only [wipe_nil, wipe_cons])
local macro_rules | `(tactic| walk_at "fs") => `(tactic| simp only [ev_make, ev_fldSet, ev_fsK1, ev_om, ev_omK2, ev_intB])
local macro_rules | `(tactic| walk_at "fs") => `(tactic| simp only [ev_iEnumV, ev_enumV, isi_str, ev_isN, ev_isNot])
local macro_rules | `(tactic| walk_at "fs") => `(tactic| simp only [ev_sl, ev_slK1, ev_slK2, ev_slK3, ev_oSome, ev_oSomeK, ev_oNone, slT4, slT3, len_tup, ev_get3, ev_get4, th_rows, th_nm])
local macro_rules | `(tactic| walk_at "fs") => `(tactic| simp only [List.isEmpty_nil, List.isEmpty_cons])
theorem nr_lt {s r n k : Nat} {h : Hs} (st : Wm s r n k h) : n < h.length ∧ r < h.length ∧ s < h.length := by
  obtain ⟨_, _, _, _, en, er, es, _⟩ := st.ex
  refine ⟨get_lt en, get_lt er, ?_⟩
  unfold getL at es
  rcases Nat.lt_or_ge s h.length with z | z
  · exact z
  · rw [List.getElem?_eq_none z] at es; cases es
theorem erase_perm {α : Type} : ∀ {l : List α} {j : Nat} (h : j < l.length), (l[j] :: l.eraseIdx j).Perm l
  | x :: l, 0, _ => .refl _
  | x :: l, j + 1, h => by
    have h' : j < l.length := by simpa using h
    exact (List.Perm.swap x l[j] (l.eraseIdx j)).trans ((erase_perm h').cons x)
theorem erase_map {α β : Type} (f : α → β) : ∀ (l : List α) (j : Nat), (l.map f).eraseIdx j = (l.eraseIdx j).map f
  | [], _ => rfl
  | x :: l, 0 => rfl
  | x :: l, j + 1 => by rw [List.map_cons, List.eraseIdx_cons_succ, List.eraseIdx_cons_succ, List.map_cons, erase_map f l j]
theorem mem_perm {nms : List PySem.Str} {ths : List Th} {j : Nat} (p : (ths.map Th.nm ++ nms).Perm names12) (hj : j < nms.length) {a : Th} (e : a.nm = nms[j]) : ((ths ++ [a]).map Th.nm ++ nms.eraseIdx j).Perm names12 := by
  refine List.Perm.trans ?_ p
  rw [List.map_append, List.append_assoc]
  refine List.Perm.append_left _ ?_
  show (a.nm :: nms.eraseIdx j).Perm nms
  rw [e]
  exact erase_perm hj
theorem things_alone {s r n k N L : Nat} {g : Hs} {R : Out × Rho → Hs → Prop} {most dist : Int} {ths : List Th} {nm : PySem.Str} {x5 x7 x8 x9 : Option D} (st : Wm s r n k g) (hk : k < 2 ^ 58) (el : g[L]? = some (.lst (ths.map Th.D))) (lt : ths.length < 12) (ln : L ≠ n) (lr : L ≠ r) (hnm : nm ∈ names12)
    (q : ∀ (a : Th) g3 y7 y8 y9, a.nm = nm → ThOk a → Wm s r n (k + 45) g3 → Keep (NR n r) g g3 → R (.nx, [some (.ref n), some (.int most), some (.int dist), some (.ref N), some (.ref L), x5, some (.str nm), y7, y8, y9]) (g3.set L (.lst (ths.map Th.D ++ [a.D])))) :
    WP (q__law_things_I1e [some (.ref n), some (.int most), some (.int dist), some (.ref N), some (.ref L), x5, some (.str nm), x7, x8, x9] g) R := by
  unfold q__law_things_I1e
  walk_at "w"
  refine of_new st (by simp) (show 6 < 1000 by decide) (by omega) fun d hd g1 w1 k1 => ?_
  obtain ⟨wide, rfl, c0, c1⟩ : ∃ wide : Int, d = .int wide ∧ 0 < wide ∧ wide ≤ 1000000 := by
    simp only [List.mem_cons, List.not_mem_nil, or_false] at hd
    rcases hd with rfl | rfl | rfl | rfl | rfl | rfl <;> exact ⟨_, rfl, by decide, by decide⟩
  have bw : Bd 21 wide := Bd.of_range (by omega) (by omega)
  walk_at "w"
  refine draw_wp w1 (by omega) (by omega) (by omega) fun x g2 a2 b2 w2 k2 => ?_
  walk_at "w"
  refine draw_wp w2 (by omega) (by omega) (by omega) fun y g3 a3 b3 w3 k3 => ?_
  walk_at "w"
  have kk := (k1.trans k2).trans k3
  have el3 := kk.get el ⟨ln, lr⟩
  rw [ev_mtK (tyD_lst el3)]
  walk_at "w"
  refine rows_wp w3 (by omega) fun rs g4 up ok few w4 k4 => ?_
  walk_at "w"
  have el4 := k4.get el3 ⟨ln, lr⟩
  rw [ev_app el4 (by rw [List.length_map]; exact small_line (by omega))]
  walk_at "w"
  exact q ⟨nm, x - wide, y - wide, rs⟩ _ _ _ _ rfl ⟨by show -1000000 ≤ x - wide ∧ x - wide ≤ 1000000; omega, by show -1000000 ≤ y - wide ∧ y - wide ≤ 1000000; omega, up, ok, few, hnm⟩ (w4.up (by omega)) (kk.trans k4)
theorem things_beside {s r n k N L : Nat} {g : Hs} {R : Out × Rho → Hs → Prop} {most dist : Int} {ths : List Th} {nm : PySem.Str} {x5 x7 x8 x9 : Option D} (st : Wm s r n k g) (hk : k < 2 ^ 58) (el : g[L]? = some (.lst (ths.map Th.D))) (lt : ths.length < 12) (nn : ths ≠ []) (ok : ∀ a ∈ ths, ThOk a) (d0 : -1000000 ≤ dist) (d1 : dist ≤ 1000000) (ln : L ≠ n) (lr : L ≠ r) (hnm : nm ∈ names12)
    (q : ∀ (a : Th) g3 y7 y8 y9, a.nm = nm → ThOk a → Wm s r n (k + 45) g3 → Keep (NR n r) g g3 → R (.nx, [some (.ref n), some (.int most), some (.int dist), some (.ref N), some (.ref L), x5, some (.str nm), y7, y8, y9]) (g3.set L (.lst (ths.map Th.D ++ [a.D])))) :
    WP (q__law_things_I1t [some (.ref n), some (.int most), some (.int dist), some (.ref N), some (.ref L), x5, some (.str nm), x7, x8, x9] g) R := by
  unfold q__law_things_I1t
  walk_at "w"
  rw [ev_mtK (tyD_lst el)]
  walk_at "w"
  refine of_wp st (getL_lst el) (th_nn _ nn) (by rw [List.length_map]; omega) lr (by omega) fun d hd g1 w1 k1 => ?_
  obtain ⟨b, hb, rfl⟩ := List.mem_map.mp hd
  walk_at "w"
  refine of_new w1 (by simp) (show 5 < 1000 by decide) (by omega) fun d hd g2 w2 k2 => ?_
  obtain ⟨c, rfl, c0, c1⟩ : ∃ c : Int, d = .int c ∧ -1 ≤ c ∧ c ≤ 1 := by
    simp only [List.mem_cons, List.not_mem_nil, or_false] at hd
    rcases hd with rfl | rfl | rfl | rfl | rfl <;> exact ⟨_, rfl, by decide, by decide⟩
  walk_at "w"
  refine beside_wp w2 (by omega) (ok b hb) hnm (by omega) (by omega) fun a g3 ea oa w3 k3 => ?_
  walk_at "w"
  have kk := (k1.trans k2).trans k3
  rw [ev_app (kk.get el ⟨ln, lr⟩) (by rw [List.length_map]; exact small_line (by omega))]
  walk_at "w"
  exact q a _ _ _ _ ea oa (w3.up (by omega)) kk
set_option maxHeartbeats 1600000 in
theorem things_wp {s r n k : Nat} {h : Hs} {Q : D → Hs → Prop} {most dist : Int} (st : Wm s r n k h) (hk : k < 2 ^ 57) (m0 : 0 ≤ most) (m1 : most ≤ 12) (d0 : -1000000 ≤ dist) (d1 : dist ≤ 1000000)
    (q : ∀ (ths : List Th) (L : Nat) h', (ths.length : Int) = most → (∀ a ∈ ths, ThOk a) → (ths.map Th.nm).Nodup → h.length ≤ L → h'[L]? = some (.lst (ths.map Th.D)) → Wm s r n (k + 1200) h' → Keep (NR n r) h h' → Q (.ref L) h') : WP (f__law_things [.ref n, .int most, .int dist] h) Q := by
  obtain ⟨nl, rl, sl⟩ := nr_lt st
  unfold f__law_things
  refine wp_run rfl ?_
  rw [m__law_things_q]
  walk_at "w"
  rw [ev_range1 (by omega) (by omega)]
  walk_at "w"
  have eN : (h ++ [AO.lst (names12.map D.str)] ++ [AO.lst []])[h.length]? = some (.lst (names12.map D.str)) := get_app _ get_last
  have eL : (h ++ [AO.lst (names12.map D.str)] ++ [AO.lst []])[(h ++ [AO.lst (names12.map D.str)]).length]? = some (.lst []) := get_last
  have kH : Keep (NR n r) h (h ++ [AO.lst (names12.map D.str)] ++ [AO.lst []]) := Keep.app.trans Keep.app
  have sH := (st.app (G := [AO.lst (names12.map D.str)])).app (G := [AO.lst []])
  have lh : h.length ≤ (h ++ [AO.lst (names12.map D.str)]).length := by simp
  have lne : h.length ≠ (h ++ [AO.lst (names12.map D.str)]).length := by simp
  change WP (frW _ _ _ 0 [some (.ref n), some (.int most), some (.int dist), some (.ref h.length), some (.ref (h ++ [AO.lst (names12.map D.str)]).length), none, none, none, none, none] (h ++ [AO.lst (names12.map D.str)] ++ [AO.lst []])) _
  generalize hH : h ++ [AO.lst (names12.map D.str)] ++ [AO.lst []] = H at *
  generalize (h ++ [AO.lst (names12.map D.str)]).length = L at *
  generalize hN : h.length = N at *
  refine wp_fr most.toNat (fun i ρ g => ∃ (nms : List PySem.Str) (ths : List Th) (x5 x6 x7 x8 x9 : Option D), ρ = [some (.ref n), some (.int most), some (.int dist), some (.ref N), some (.ref L), x5, x6, x7, x8, x9] ∧ ths.length = i ∧ (ths.map Th.nm ++ nms).Perm names12 ∧ (∀ a ∈ ths, ThOk a) ∧ g[N]? = some (.lst (nms.map D.str)) ∧ g[L]? = some (.lst (ths.map Th.D)) ∧ Wm s r n (k + 50 * i) g ∧ Keep (NR n r) h g)
    ⟨names12, [], _, _, _, _, _, rfl, rfl, List.Perm.refl _, (by simp), eN, eL, sH, kH⟩ ?_ ?_
  · rintro i hi ρ g ⟨nms, ths, x5, x6, x7, x8, x9, rfl, lt, pm, ok, en, el, wg, kg⟩
    have ln : ths.length + nms.length = 12 := by
      have := pm.length_eq
      rw [List.length_append, List.length_map] at this
      exact this
    refine ⟨.int (0 + (i : Nat)), _, g, srcR_in hi, rfl, ?_⟩
    unfold q__law_things_L1
    walk_at "w"
    rw [ev_mtK (tyD_lst en)]
    walk_at "w"
    rw [ev_lenL (getL_lst en)]
    walk_at "w"
    rw [List.length_map]
    refine draw_wp wg (by omega) (by omega) (by omega) fun j' g1 a1 b1 w1 k1 => ?_
    walk_at "w"
    obtain ⟨j, rfl⟩ : ∃ j : Nat, j' = (j : Int) := ⟨j'.toNat, by omega⟩
    have lj : j < nms.length := by omega
    have en1 := k1.get en ⟨by omega, by omega⟩
    have el1 := k1.get el ⟨by omega, by omega⟩
    rw [ev_pop0 (y := .str nms[j]) en1 (by rw [List.getElem?_map, List.getElem?_eq_getElem lj]; rfl) (by rw [List.length_map]; omega)]
    walk_at "w"
    have hnm : nms[j] ∈ names12 := pm.mem_iff.mp (List.mem_append_right _ (List.getElem_mem lj))
    have w2 : Wm s r n (k + 50 * i + 1) (g1.set N (.lst ((nms.map D.str).eraseIdx j))) := w1.set (by omega) (by omega) (by omega)
    have k2 : Keep (NR n r) h (g1.set N (.lst ((nms.map D.str).eraseIdx j))) := (kg.trans k1).new (by omega)
    have en2 : (g1.set N (.lst ((nms.map D.str).eraseIdx j)))[N]? = some (.lst ((nms.eraseIdx j).map D.str)) := by
      rw [set_at (get_lt en1), erase_map]
    have el2 : (g1.set N (.lst ((nms.map D.str).eraseIdx j)))[L]? = some (.lst (ths.map Th.D)) := by
      rw [List.getElem?_set_ne (by omega)]; exact el1
    generalize g1.set N (.lst ((nms.map D.str).eraseIdx j)) = g2 at *
    have fin : ∀ (a : Th) (g3 : Hs) (y5 y7 y8 y9 : Option D), a.nm = nms[j] → ThOk a → Wm s r n (k + 50 * i + 50) g3 → Keep (NR n r) g2 g3 →
        ∃ (nms' : List PySem.Str) (ths' : List Th) (x5 x6 x7 x8 x9 : Option D), [some (.ref n), some (.int most), some (.int dist), some (.ref N), some (.ref L), y5, some (.str nms[j]), y7, y8, y9] = [some (.ref n), some (.int most), some (.int dist), some (.ref N), some (.ref L), x5, x6, x7, x8, x9] ∧ ths'.length = i + 1 ∧ (ths'.map Th.nm ++ nms').Perm names12 ∧ (∀ a ∈ ths', ThOk a) ∧ (g3.set L (.lst (ths.map Th.D ++ [a.D])))[N]? = some (.lst (nms'.map D.str)) ∧ (g3.set L (.lst (ths.map Th.D ++ [a.D])))[L]? = some (.lst (ths'.map Th.D)) ∧ Wm s r n (k + 50 * (i + 1)) (g3.set L (.lst (ths.map Th.D ++ [a.D]))) ∧ Keep (NR n r) h (g3.set L (.lst (ths.map Th.D ++ [a.D]))) := by
      intro a g3 y5 y7 y8 y9 ea oa w3 k3
      refine ⟨nms.eraseIdx j, ths ++ [a], _, _, _, _, _, rfl, by simp [lt], mem_perm pm lj ea, fun b hb => ?_, ?_, ?_, ?_, ?_⟩
      · rcases List.mem_append.mp hb with hb | hb
        · exact ok b hb
        · rw [List.mem_singleton.mp hb]; exact oa
      · rw [List.getElem?_set_ne (by omega)]; exact k3.get en2 ⟨by omega, by omega⟩
      · rw [set_at (get_lt (k3.get el2 ⟨by omega, by omega⟩)), List.map_append]; rfl
      · exact (w3.set (by omega) (by omega) (by omega)).up (by omega)
      · exact (k2.trans k3).new (by omega)
    cases ths with
    | nil =>
      rw [ne_nil (getL_lst (get_app _ el2)) (ps := []) rfl getL_last]
      walk_at "w"
      refine things_alone w2.app (by omega) (get_app _ el2) (by simp) (by omega) (by omega) hnm ?_
      exact fun a g3 y7 y8 y9 ea oa w3 k3 => fin a g3 _ _ _ _ ea oa (w3.up (by omega)) (Keep.app.trans k3)
    | cons t0 ts =>
      rw [ne_nil (getL_lst (get_app _ el2)) (th_P _ _) getL_last]
      walk_at "w"
      refine draw_wp w2.app (by omega) (by omega) (by omega) fun c g4 a4 b4 w4 k4 => ?_
      walk_at "w"
      have k5 : Keep (NR n r) g2 g4 := Keep.app.trans k4
      have el4 := k5.get el2 ⟨by omega, by omega⟩
      refine wp_ite (fun _ => ?_) (fun _ => ?_)
      · refine things_beside w4 (by omega) el4 (by omega) (by simp) ok d0 d1 (by omega) (by omega) hnm ?_
        exact fun a g3 y7 y8 y9 ea oa w3 k3 => fin a g3 _ _ _ _ ea oa (w3.up (by omega)) (k5.trans k3)
      · refine things_alone w4 (by omega) el4 (by omega) (by omega) (by omega) hnm ?_
        exact fun a g3 y7 y8 y9 ea oa w3 k3 => fin a g3 _ _ _ _ ea oa (w3.up (by omega)) (k5.trans k3)
  · rintro ρ g ⟨nms, ths, x5, x6, x7, x8, x9, rfl, lt, pm, ok, en, el, wg, kg⟩
    refine ⟨srcR_out (Nat.le_refl _), ?_⟩
    walk_at "w"
    have nd : (ths.map Th.nm ++ nms).Nodup := pm.nodup_iff.mpr (by decide)
    exact q ths L g (by omega) ok (List.nodup_append.mp nd).1 lh el (wg.up (by omega)) kg
end K22
namespace K22
open SL RR
local macro_rules | `(tactic| walk_at "bd") => `(tactic| (first
  | assumption
  | (with_reducible apply Bd.add <;> walk_at "bd")
  | (with_reducible apply Bd.sub <;> walk_at "bd")
  | (with_reducible apply Bd.mul <;> walk_at "bd")
  | (with_reducible apply Bd.neg <;> walk_at "bd")
  | (with_reducible apply Bd.fdiv <;> walk_at "bd")
  | (with_reducible apply Bd.ite <;> walk_at "bd")
  | (with_reducible apply Bd.sign)
  | exact Bd.lit 64 rfl
  | exact Bd.lit 250 rfl))
local macro_rules | `(tactic| walk_at "dis") => `(tactic| (first
  | assumption
  | (with_reducible apply MOk.of <;> first | (walk_at "bd"; done) | exact Nat.le_of_ble_eq_true rfl)
  | (with_reducible apply Bd.mono <;> first | (walk_at "bd"; done) | exact Nat.le_of_ble_eq_true rfl)
  | (with_reducible apply DOk.of <;> first | (walk_at "bd"; done) | omega | exact Nat.le_of_ble_eq_true rfl)
  | omega))
local macro_rules | `(tactic| walk_at "ev") => `(tactic| simp (disch := walk_at "dis") only [ev_var0, ev_varS, ev_c, ev_op, ev_opK, ev_un, ev_call, ev_nil, ev_cons, ev_acK, ev_consK, ev_tup, ev_tupK, ev_lst, ev_lstK, ev_ifE, ev_ifS, ev_ifKT, ev_ifKF, ev_ifK, ev_ifKN,
  ev_tV, ev_tvK, ev_tTru, ev_truB, ev_truN, ev_truI, ev_and, ev_or, ev_not, ev_notK, ev_andT, ev_andF, ev_orT, ev_orF, ev_andK, ev_andKN, ev_orK, ev_orKN, ev_eAnd, ev_eOr, ev_eNot, ev_eNotB, ev_eAndT, ev_eAndF, ev_eAndB, ev_eAndBN, ev_eOrT, ev_eOrF, ev_eOrN, ev_eOrB, ev_eOrBN,
  ev_chain, ev_chK1, ev_chK2, ev_chK3, ev_chK3T, ev_chK3F, ev_seq, ev_thn, ev_thnR, ev_thnB, ev_thnC, ev_next, ev_break, ev_cont, ev_ret, ev_retK, ev_retN, ev_expr, ev_exprK, ev_asg, ev_asgK, ev_nxK, ev_gNm, ev_gTp, ev_gsNil, ev_gsCons, ev_gsK, ev_gSb, ev_gSbK1, ev_par, ev_parK2, ev_parK3, ev_mt,
  ev_add, ev_sub, ev_mul, ev_fdiv, ev_mod, ev_pow, ev_shl, ev_neg, ev_lt, ev_le, ev_gt, ev_ge, ev_eqI, ev_neI, ev_abs, ev_intB, ev_intI, ev_minI, ev_maxI, ev_bits, ev_get0, ev_get1, ev_get2, bd_ok, bd_none, ev_whT, ev_whF, ev_whD, ev_wh2, ev_wh2c, ev_wh2r, ev_wh2b, ev_for, ev_forK, ev_fr1, ev_fr2, ev_fr2c, ev_fr2r, ev_fr2b, ev_lc, ev_lcK, ev_lc1, ev_lc2T, ev_lc2F, ev_lc2D, ev_yes, ev_iSeq, ev_seqT, ev_seqS, ev_iRange, ev_iEnum, ev_iZip,
  ev_neIS, ev_eqIS, ev_neSS, ev_eqSS, ev_isN, ev_isNot, isNon_t, isNon_n, isNon_i, isNon_r, decide_true, decide_false, decide_eq_true_eq, eq_self, if_true, if_false,
  out_rt, out_nx, List.map_cons, List.map_nil, List.cons_append, List.nil_append, List.replicate, List.set_cons_zero, List.set_cons_succ, Nat.reduceSub, Int.reduceEq, Int.reduceLT, Int.reduceLE, Int.reduceMul, Int.reduceAdd, Int.reduceSub, Bool.not_true, Bool.not_false])
local macro_rules | `(tactic| walk_at "go") => `(tactic| repeat (first | walk_at "ev" | walk_at "fs"))
local macro_rules | `(tactic| walk_at "wv") => `(tactic| simp only [wp_ok, kn_eq, outQ_rt, outQ_nx, turnQ_nx, turnQ_ct, turnQ_bk, turnQ_rt, whQ_nx, whQ_bk, whQ_rt, whT_t, whT_f, whT_d, lcT_t, lcT_f, lcT_d])
local macro_rules | `(tactic| walk_at "wb") => `(tactic| with_reducible refine wp_bd ?_)
local macro_rules | `(tactic| walk_at "w") => `(tactic| repeat (first | walk_at "ev" | walk_at "wv" | walk_at "fs" | walk_at "wb"))
local macro_rules | `(tactic| walk_at "bd") => `(tactic| exact Bd.fm rfl)
local macro_rules | `(tactic| walk_at "fs") => `(tactic| simp only [p10_3, p10_6, p10_7, p10_8, p10_9, p10_12, p10_15, p10_18, p10_60])
local macro_rules | `(tactic| walk_at "fs") => `(tactic| simp only [ev_pNil, ev_pCons, ev_pK1, ev_pK2, ev_pK3s, ev_dict, ev_gSb, ev_gSbK1])
local macro_rules | `(tactic| walk_at "fs") => `(tactic| simp only [wipe_nil, wipe_cons])
local macro_rules | `(tactic| walk_at "fs") => `(tactic| simp only [ev_make, ev_fldSet, ev_fsK1, ev_om, ev_omK2, ev_intB])
local macro_rules | `(tactic| walk_at "fs") => `(tactic| simp only [ev_iEnumV, ev_enumV, isi_str, ev_isN, ev_isNot])
local macro_rules | `(tactic| walk_at "fs") => `(tactic| simp only [ev_sl, ev_slK1, ev_slK2, ev_slK3, ev_oSome, ev_oSomeK, ev_oNone, slT4, slT3, len_tup, ev_get3, ev_get4, th_rows, th_nm])
local macro_rules | `(tactic| walk_at "fs") => `(tactic| simp only [List.isEmpty_nil, List.isEmpty_cons])
theorem time_body {s r n k : Nat} {g : Hs} {S i : Nat} {ts : List Tm} {c b a : Int} {x1 x2 x3 x5 x6 x9 x10 : Option D} {R : Out × Rho → Hs → Prop} (st : Wm s r n k g) (eS : g[S]? = some (.lst (ts.map TD))) (lt : ts.length ≤ 20) (ok : ∀ t ∈ ts, TkB t) (hi : i < 2) (a1 : 1 ≤ a) (bc : Bd 20 c) (bb : Bd 20 b) (ba : Bd 20 a)
    (q : ∀ g' S' ts' y3 y9, Wm s r n k g' → KA g g' → g'[S']? = some (.lst ((ts ++ ts').map TD)) → (∀ t ∈ ts', TkB t) → ts'.length ≤ 2 → R (.nx, [some (.ref n), x1, x2, y3, some (.ref S'), x5, x6, some (.int (i : Nat)), some (.tup [.int c, .int b, .int a]), y9, x10]) g') :
    WP (q__law_a_time_L1 [some (.ref n), x1, x2, x3, some (.ref S), x5, x6, some (.int (i : Nat)), some (.tup [.int c, .int b, .int a]), x9, x10] g) R := by
  have gp : 0 < gcdL 0 [c, b, a] := by
    rw [gcdL3]
    have : Int.gcd (Int.gcd c b : Int) a ≠ 0 := fun z => by have := (Int.gcd_eq_zero_iff.mp z).2; omega
    omega
  have ga : gcdL 0 [c, b, a] ∣ a := by rw [gcdL3]; exact Int.gcd_dvd_right _ _
  have gl : gcdL 0 [c, b, a] ≤ a := Int.le_of_dvd (by omega) ga
  have bg : Bd 20 (gcdL 0 [c, b, a]) := ba.of_le (by omega) gl
  unfold q__law_a_time_L1
  walk_at "w"
  rw [show D.tup [.int c, .int b, .int a] = .tup ([c, b, a].map D.int) from rfl, lcommon_eq]
  generalize gcdL 0 [c, b, a] = G at *
  rw [show D.tup ([c, b, a].map D.int) = D.tup [.int c, .int b, .int a] from rfl]
  walk_at "w"
  refine wp_lcmapT [c, b, a] D.int (fun z => .int (z.fdiv G)) (small_line (by simp)) (fun g kg i => srcT_get i) (fun x hx g kg => ?_) (fun g1 k1 => ?_)
  · refine ⟨_, rfl, ?_⟩
    walk_at "w"
    exact ⟨by trivial, Keep.refl⟩
  walk_at "w"
  have k2 : KA g (g1 ++ [AO.lst [.int (c.fdiv G), .int (b.fdiv G), .int (a.fdiv G)]]) := k1.trans ka_app
  rw [ev_tupL getL_last]
  walk_at "w"
  have e4 := k2.get eS trivial
  have w2 := st.keep k2
  generalize g1 ++ [AO.lst [.int (c.fdiv G), .int (b.fdiv G), .int (a.fdiv G)]] = g2 at *
  have a1' : 1 ≤ a.fdiv G := by
    rw [Int.fdiv_eq_ediv_of_nonneg _ (by omega)]
    exact Int.le_ediv_of_mul_le gp (by omega)
  have hw : ((i : Nat) : Int) = 0 ∨ ((i : Nat) : Int) = 1 := by omega
  change WP (f__law_is_time [TD (.rt (c.fdiv G) (b.fdiv G) (a.fdiv G) (i : Nat))] (g2 ++ _)) _
  refine lis_time_wp hw a1' ((bc.fdiv).mono (by decide)) ((bb.fdiv).mono (by decide)) ((ba.fdiv).mono (by decide)) fun g3 k k3 isk => ?_
  walk_at "w"
  have k23 := (ka_app (h := g2) (G := [AO.lst [TD (.rt (c.fdiv G) (b.fdiv G) (a.fdiv G) (i : Nat)), TD (.rt (c.fdiv G) (b.fdiv G) (a.fdiv G) (i : Nat))]])).trans k3
  have e5 : g3[g2.length]? = some (.lst [TD (.rt (c.fdiv G) (b.fdiv G) (a.fdiv G) (i : Nat)), TD (.rt (c.fdiv G) (b.fdiv G) (a.fdiv G) (i : Nat))]) := k3.get get_last trivial
  cases k with
  | false =>
    simp only [Bool.false_eq_true, if_false]
    rw [ev_mulL (j := 0) e5 (show 0 < 4000 by decide) (by decide) (by decide)]
    walk_at "w"
    rw [ev_addL (get_app _ (k23.get e4 trivial)) get_last (Nat.le_trans (show _ ≤ 4000 by simp; omega) (Nat.le_of_ble_eq_true rfl))]
    walk_at "w"
    refine q _ _ [] _ _ ((w2.keep k23).app.app) ((k2.trans k23).trans (ka_app.trans ka_app)) ?_ (by simp) (by simp)
    rw [get_last, List.append_nil]
    show some (AO.lst (ts.map TD ++ [])) = _
    rw [List.append_nil]
  | true =>
    obtain ⟨nm, nn⟩ := isk rfl
    simp only [if_true]
    rw [ev_mulL (j := 1) e5 (show 2 < 4000 by decide) (by decide) (by decide)]
    walk_at "w"
    rw [ev_addL (get_app _ (k23.get e4 trivial)) get_last (Nat.le_trans (show _ ≤ 4000 by simp; omega) (Nat.le_of_ble_eq_true rfl))]
    walk_at "w"
    refine q _ _ [.rt (c.fdiv G) (b.fdiv G) (a.fdiv G) (i : Nat), .rt (c.fdiv G) (b.fdiv G) (a.fdiv G) (i : Nat)] _ _ ((w2.keep k23).app.app) ((k2.trans k23).trans (ka_app.trans ka_app)) ?_ (fun t ht => ?_) (by simp)
    · rw [get_last, List.map_append]
      rfl
    · simp only [List.mem_cons, List.not_mem_nil, or_false, or_self] at ht
      subst ht
      exact tk_root nm nn ((bc.fdiv).mono (by decide)) ((bb.fdiv).mono (by decide)) ((ba.fdiv).mono (by decide))
set_option maxHeartbeats 1600000 in
theorem a_time_wp {s r n k : Nat} {h : Hs} {Q : D → Hs → Prop} (st : Wm s r n k h) (hk : k < 2 ^ 50) (q : ∀ t h', TkB t → Wm s r n (k + 12) h' → Keep (NR n r) h h' → Q (TD t) h') : WP (f__law_a_time [.ref n] h) Q := by
  obtain ⟨nl, rl, sl⟩ := nr_lt st
  unfold f__law_a_time
  refine wp_run rfl ?_
  rw [m__law_a_time_q]
  walk_at "w"
  refine draw_wp st (by omega) (by omega) (by omega) fun u1 h1 a1 b1 w1 k1 => ?_
  walk_at "w"
  refine draw_wp w1 (by omega) (by omega) (by omega) fun u2 h2 a2 b2 w2 k2 => ?_
  walk_at "w"
  rw [show D.tup [.int u1, .int (1 + u2)] = .tup ([u1, 1 + u2].map D.int) from rfl, lcommon_eq]
  walk_at "w"
  obtain ⟨p1, q1, f1, f2, t1⟩ := tk_low (a := u1) (b := 1 + u2) (by omega) (by omega) (by omega) (by omega)
  refine draw_wp w2 (by omega) (by omega) (by omega) fun u3 h3 a3 b3 w3 k3 => ?_
  walk_at "w"
  refine draw_wp w3 (by omega) (by omega) (by omega) fun u4 h4 a4 b4 w4 k4 => ?_
  have gb : DOk (gcdL 0 [u1, 1 + u2]) := by
    have g0 : gcdL 0 [u1, 1 + u2] ≠ 0 := fun z => by
      rw [gcdL2] at z
      have := (Int.gcd_eq_zero_iff.mp (show Int.gcd u1 (1 + u2) = 0 by omega)).2
      omega
    have g1 : gcdL 0 [u1, 1 + u2] ≤ 1 + u2 := by
      rw [gcdL2]
      exact Int.le_of_dvd (by omega) (Int.gcd_dvd_right _ _)
    have g2 : 0 ≤ gcdL 0 [u1, 1 + u2] := by rw [gcdL2]; omega
    exact DOk.of (n := 40) (Bd.of_range (by omega) (by omega)) g0 (by decide)
  walk_at "w"
  rw [f1, f2]
  have kk4 := ((k1.trans k2).trans k3).trans k4
  have w5 := w4.app (G := [AO.lst [.tup [.int u3, .int 1], .tup [.int u4, .int 1], .tup [.int p1, .int q1]]])
  have eS : (h4 ++ [AO.lst [.tup [.int u3, .int 1], .tup [.int u4, .int 1], .tup [.int p1, .int q1]]])[h4.length]? = some (.lst ([Tm.fr u3 1, .fr u4 1, .fr p1 q1].map TD)) := get_last
  have kk5 : Keep (NR n r) h (h4 ++ [AO.lst [.tup [.int u3, .int 1], .tup [.int u4, .int 1], .tup [.int p1, .int q1]]]) := kk4.trans Keep.app
  have lS := kk4.1
  generalize h4 ++ [AO.lst [.tup [.int u3, .int 1], .tup [.int u4, .int 1], .tup [.int p1, .int q1]]] = g5 at *
  generalize h4.length = S at *
  refine draw_wp w5 (by omega) (by omega) (by omega) fun u5 h6 a6 b6 w6 k6 => ?_
  walk_at "w"
  refine draw_wp w6 (by omega) (by omega) (by omega) fun u6 h7 a7 b7 w7 k7 => ?_
  walk_at "w"
  refine draw_wp w7 (by omega) (by omega) (by omega) fun u7 h8 a8 b8 w8 k8 => ?_
  walk_at "w"
  refine draw_wp w8 (by omega) (by omega) (by omega) fun u8 h9 a9 b9 w9 k9 => ?_
  walk_at "w"
  refine draw_wp w9 (by omega) (by omega) (by omega) fun u9 h10 a10 b10 w10 k10 => ?_
  walk_at "w"
  refine draw_wp w10 (by omega) (by omega) (by omega) fun u10 h11 a11 b11 w11 k11 => ?_
  walk_at "w"
  have kk11 := ((((k6.trans k7).trans k8).trans k9).trans k10).trans k11
  have eS' := kk11.get eS ⟨by omega, by omega⟩
  have kkh := kk5.trans kk11
  rw [ev_enumVr getL_last]
  walk_at "w"
  have kA : KA h11 (h11 ++ [AO.lst [.tup [.int (1 + u8), .int (0 - u9), .int (1 + u10)], .tup [.int (0 - u5), .int (u6 - 20), .int (1 + u7)]]]) := ka_app
  have eE : getL (h11 ++ [AO.lst [.tup [.int (1 + u8), .int (0 - u9), .int (1 + u10)], .tup [.int (0 - u5), .int (u6 - 20), .int (1 + u7)]]]) h11.length = some [.tup [.int (1 + u8), .int (0 - u9), .int (1 + u10)], .tup [.int (0 - u5), .int (u6 - 20), .int (1 + u7)]] := getL_last
  have wH := w11.keep kA
  have eSH := kA.get eS' trivial
  have kH : Keep (NR n r) h (h11 ++ [AO.lst [.tup [.int (1 + u8), .int (0 - u9), .int (1 + u10)], .tup [.int (0 - u5), .int (u6 - 20), .int (1 + u7)]]]) := kkh.trans Keep.app
  generalize h11 ++ [AO.lst [.tup [.int (1 + u8), .int (0 - u9), .int (1 + u10)], .tup [.int (0 - u5), .int (u6 - 20), .int (1 + u7)]]] = H at *
  have ok0 : ∀ t ∈ [Tm.fr u3 1, .fr u4 1, .fr p1 q1], TkB t := fun t ht => by
    simp only [List.mem_cons, List.not_mem_nil, or_false] at ht
    rcases ht with rfl | rfl | rfl
    · exact tk_whole a3 (by omega)
    · exact tk_whole a4 (by omega)
    · exact t1
  refine wp_fr 2 (fun i ρ g => ∃ (S : Nat) (ts : List Tm) (x3 x7 x8 x9 x10 : Option D), ρ = [some (.ref n), some (.int u1), some (.int (1 + u2)), x3, some (.ref S), some (.tup [.int (0 - u5), .int (u6 - 20), .int (1 + u7)]), some (.tup [.int (1 + u8), .int (0 - u9), .int (1 + u10)]), x7, x8, x9, x10] ∧ g[S]? = some (.lst (ts.map TD)) ∧ (∀ t ∈ ts, TkB t) ∧ ts ≠ [] ∧ ts.length ≤ 3 + 2 * i ∧ Wm s r n (k + 10) g ∧ KA H g) ⟨S, _, _, _, _, _, _, rfl, eSH, ok0, by simp, by simp, wH.up (by omega), Keep.refl⟩ ?_ ?_
  · rintro i hi ρ g ⟨S, ts, x3, x7, x8, x9, x10, rfl, e, ok, ne, lt, wg, kg⟩
    have fin : ∀ c b a : Int, 1 ≤ a → Bd 20 c → Bd 20 b → Bd 20 a → WP (q__law_a_time_L1 [some (.ref n), some (.int u1), some (.int (1 + u2)), x3, some (.ref S), some (.tup [.int (0 - u5), .int (u6 - 20), .int (1 + u7)]), some (.tup [.int (1 + u8), .int (0 - u9), .int (1 + u10)]), some (.int (i : Nat)), some (.tup [.int c, .int b, .int a]), x9, x10] g) (turnQ (fun i ρ g => ∃ (S : Nat) (ts : List Tm) (x3 x7 x8 x9 x10 : Option D), ρ = [some (.ref n), some (.int u1), some (.int (1 + u2)), x3, some (.ref S), some (.tup [.int (0 - u5), .int (u6 - 20), .int (1 + u7)]), some (.tup [.int (1 + u8), .int (0 - u9), .int (1 + u10)]), x7, x8, x9, x10] ∧ g[S]? = some (.lst (ts.map TD)) ∧ (∀ t ∈ ts, TkB t) ∧ ts ≠ [] ∧ ts.length ≤ 3 + 2 * i ∧ Wm s r n (k + 10) g ∧ KA H g) (Kn (thnK (sRet (eCall f__law_of (aCons (eVar 0) (aCons (eVar 4) aNil))))) (outQ Q)) i) := by
      intro c b a a1 bc bb ba
      refine time_body wg e (by omega) ok hi a1 bc bb ba ?_
      intro g' S' ts' y3 y9 w' k' e' ok' l'
      refine ⟨S', ts ++ ts', _, _, _, _, _, rfl, e', fun t ht => ?_, by simp [ne], by rw [List.length_append]; omega, w', kg.trans k'⟩
      rcases List.mem_append.mp ht with ht | ht
      · exact ok t ht
      · exact ok' t ht
    match i, hi with
    | 0, hi => exact ⟨_, _, g, srcE_in (kg.getL eE) rfl, rfl, fin _ _ _ (by omega) (Bd.of_range (by omega) (by omega)) (Bd.of_range (by omega) (by omega)) (Bd.of_range (by omega) (by omega))⟩
    | 1, hi => exact ⟨_, _, g, srcE_in (kg.getL eE) rfl, rfl, fin _ _ _ (by omega) (Bd.of_range (by omega) (by omega)) (Bd.of_range (by omega) (by omega)) (Bd.of_range (by omega) (by omega))⟩
  · rintro ρ g ⟨S, ts, x3, x7, x8, x9, x10, rfl, e, ok, ne, lt, wg, kg⟩
    refine ⟨srcE_out (kg.getL eE) (Nat.le_refl _), ?_⟩
    walk_at "w"
    have lSr : S ≠ r := fun z => by
      obtain ⟨_, ms, _, _, _, er, _⟩ := wg.ex
      rw [z, er] at e
      cases ts with
      | nil => exact ne rfl
      | cons t ts =>
        cases ms with
        | nil => cases e
        | cons m ms => cases t <;> simp [TD] at e
    refine of_wp wg (getL_lst e) (by simpa using ne) (by rw [List.length_map]; omega) lSr (by omega) fun d hd g' w' k' => ?_
    obtain ⟨t, ht, rfl⟩ := List.mem_map.mp hd
    walk_at "w"
    exact q t _ (ok t ht) (w'.up (by omega)) ((kH.trans (ka_nr kg)).trans k')
end K22
namespace K22
open SL RR
local macro_rules | `(tactic| walk_at "bd") => `(tactic| (first
  | assumption
  | (with_reducible apply Bd.add <;> walk_at "bd")
  | (with_reducible apply Bd.sub <;> walk_at "bd")
  | (with_reducible apply Bd.mul <;> walk_at "bd")
  | (with_reducible apply Bd.neg <;> walk_at "bd")
  | (with_reducible apply Bd.fdiv <;> walk_at "bd")
  | (with_reducible apply Bd.ite <;> walk_at "bd")
  | (with_reducible apply Bd.sign)
  | exact Bd.lit 64 rfl
  | exact Bd.lit 250 rfl))
local macro_rules | `(tactic| walk_at "dis") => `(tactic| (first
  | assumption
  | (with_reducible apply MOk.of <;> first | (walk_at "bd"; done) | exact Nat.le_of_ble_eq_true rfl)
  | (with_reducible apply Bd.mono <;> first | (walk_at "bd"; done) | exact Nat.le_of_ble_eq_true rfl)
  | (with_reducible apply DOk.of <;> first | (walk_at "bd"; done) | omega | exact Nat.le_of_ble_eq_true rfl)
  | omega))
local macro_rules | `(tactic| walk_at "ev") => `(tactic| simp (disch := walk_at "dis") only [ev_var0, ev_varS, ev_c, ev_op, ev_opK, ev_un, ev_call, ev_nil, ev_cons, ev_acK, ev_consK, ev_tup, ev_tupK, ev_lst, ev_lstK, ev_ifE, ev_ifS, ev_ifKT, ev_ifKF, ev_ifK, ev_ifKN,
  ev_tV, ev_tvK, ev_tTru, ev_truB, ev_truN, ev_truI, ev_and, ev_or, ev_not, ev_notK, ev_andT, ev_andF, ev_orT, ev_orF, ev_andK, ev_andKN, ev_orK, ev_orKN, ev_eAnd, ev_eOr, ev_eNot, ev_eNotB, ev_eAndT, ev_eAndF, ev_eAndB, ev_eAndBN, ev_eOrT, ev_eOrF, ev_eOrN, ev_eOrB, ev_eOrBN,
  ev_chain, ev_chK1, ev_chK2, ev_chK3, ev_chK3T, ev_chK3F, ev_seq, ev_thn, ev_thnR, ev_thnB, ev_thnC, ev_next, ev_break, ev_cont, ev_ret, ev_retK, ev_retN, ev_expr, ev_exprK, ev_asg, ev_asgK, ev_nxK, ev_gNm, ev_gTp, ev_gsNil, ev_gsCons, ev_gsK, ev_gSb, ev_gSbK1, ev_par, ev_parK2, ev_parK3, ev_mt,
  ev_add, ev_sub, ev_mul, ev_fdiv, ev_mod, ev_pow, ev_shl, ev_neg, ev_lt, ev_le, ev_gt, ev_ge, ev_eqI, ev_neI, ev_abs, ev_intB, ev_intI, ev_minI, ev_maxI, ev_bits, ev_get0, ev_get1, ev_get2, bd_ok, bd_none, ev_whT, ev_whF, ev_whD, ev_wh2, ev_wh2c, ev_wh2r, ev_wh2b, ev_for, ev_forK, ev_fr1, ev_fr2, ev_fr2c, ev_fr2r, ev_fr2b, ev_lc, ev_lcK, ev_lc1, ev_lc2T, ev_lc2F, ev_lc2D, ev_yes, ev_iSeq, ev_seqT, ev_seqS, ev_iRange, ev_iEnum, ev_iZip,
  ev_neIS, ev_eqIS, ev_neSS, ev_eqSS, ev_isN, ev_isNot, isNon_t, isNon_n, isNon_i, isNon_r, decide_true, decide_false, decide_eq_true_eq, eq_self, if_true, if_false,
  out_rt, out_nx, List.map_cons, List.map_nil, List.cons_append, List.nil_append, List.replicate, List.set_cons_zero, List.set_cons_succ, Nat.reduceSub, Int.reduceEq, Int.reduceLT, Int.reduceLE, Int.reduceMul, Int.reduceAdd, Int.reduceSub, Bool.not_true, Bool.not_false])
local macro_rules | `(tactic| walk_at "go") => `(tactic| repeat (first | walk_at "ev" | walk_at "fs"))
local macro_rules | `(tactic| walk_at "wv") => `(tactic| simp only [wp_ok, kn_eq, outQ_rt, outQ_nx, turnQ_nx, turnQ_ct, turnQ_bk, turnQ_rt, whQ_nx, whQ_bk, whQ_rt, whT_t, whT_f, whT_d, lcT_t, lcT_f, lcT_d])
local macro_rules | `(tactic| walk_at "wb") => `(tactic| with_reducible refine wp_bd ?_)
local macro_rules | `(tactic| walk_at "w") => `(tactic| repeat (first | walk_at "ev" | walk_at "wv" | walk_at "fs" | walk_at "wb"))
local macro_rules | `(tactic| walk_at "bd") => `(tactic| exact Bd.fm rfl)
local macro_rules | `(tactic| walk_at "fs") => `(tactic| simp only [p10_3, p10_6, p10_7, p10_8, p10_9, p10_12, p10_15, p10_18, p10_60])
local macro_rules | `(tactic| walk_at "fs") => `(tactic| simp only [ev_pNil, ev_pCons, ev_pK1, ev_pK2, ev_pK3s, ev_dict, ev_gSb, ev_gSbK1])
local macro_rules | `(tactic| walk_at "fs") => `(tactic| simp only [wipe_nil, wipe_cons])
local macro_rules | `(tactic| walk_at "fs") => `(tactic| simp only [ev_make, ev_fldSet, ev_fsK1, ev_om, ev_omK2, ev_intB])
local macro_rules | `(tactic| walk_at "fs") => `(tactic| simp only [ev_iEnumV, ev_enumV, isi_str, ev_isN, ev_isNot])
local macro_rules | `(tactic| walk_at "fs") => `(tactic| simp only [ev_sl, ev_slK1, ev_slK2, ev_slK3, ev_oSome, ev_oSomeK, ev_oNone, slT4, slT3, len_tup, ev_get3, ev_get4, th_rows, th_nm])
local macro_rules | `(tactic| walk_at "fs") => `(tactic| simp only [List.isEmpty_nil, List.isEmpty_cons])
theorem rows_get {rs : List Row} {j : Nat} {r : Row} {h : Hs} (e : rs[j]? = some r) : subG' (.tup (rs.map Row.D)) (.int (j : Int)) h = some (r.D, h) := ev_opTup (L2.atI_nat (by rw [List.getElem?_map, e]; rfl))
theorem place_turn {g : Hs} {th : D} {T x y : Int} {rs : List Row} {i : Nat} {o1 o2 : Option D} {R : Out × Rho → Hs → Prop} (hi : i < rs.length) (ok : ∀ r ∈ rs, RowOk r) (up : Rising 0 rs) (few : rs.length ≤ 12) (T0 : 0 ≤ T) (T1 : T < 2 ^ 31)
    (q : ∀ o1 o2, R (.nx, [some th, some (.int T), some (.int (x + rs[i].u * goneF rs[i].t T (rs.drop (i + 1)))), some (.int (y + rs[i].v * goneF rs[i].t T (rs.drop (i + 1)))), some (.tup (rs.map Row.D)), some (.int (i : Nat)), some (.int rs[i].t), some (.int rs[i].u), some (.int rs[i].v), o1, o2]) g) :
    WP (q__law_place_L1 [some th, some (.int T), some (.int x), some (.int y), some (.tup (rs.map Row.D)), some (.int (i : Nat)), some (.int rs[i].t), some (.int rs[i].u), some (.int rs[i].v), o1, o2] g) R := by
  have okr := ok rs[i] (List.getElem_mem hi)
  have ge := up.ge rs[i] (List.getElem_mem hi)
  have tb := okr.t
  obtain ⟨Bu, Bv⟩ := Row.bd okr
  have Bt : Bd 32 rs[i].t := Bd.of_range (by omega) (by omega)
  have BT : Bd 32 T := Bd.of_range (by omega) (by omega)
  unfold q__law_place_L1
  walk_at "w"
  refine wp_ite (fun c => ?_) (fun c => ?_)
  · rw [List.length_map] at c
    have hl : i + 1 < rs.length := by omega
    walk_at "w"
    rw [show ((i : Nat) : Int) + 1 = ((i + 1 : Nat) : Int) by omega, rows_get (List.getElem?_eq_getElem hl)]
    have ok2 := ok rs[i + 1] (List.getElem_mem hl)
    have ge2 := up.ge rs[i + 1] (List.getElem_mem hl)
    have tb2 := ok2.t
    have Bt2 : Bd 32 rs[i + 1].t := Bd.of_range (by omega) (by omega)
    have eg : goneF rs[i].t T (rs.drop (i + 1)) = if (if T < rs[i + 1].t then T else rs[i + 1].t) - rs[i].t > 0 then (if T < rs[i + 1].t then T else rs[i + 1].t) - rs[i].t else 0 := by
      rw [List.drop_eq_getElem_cons hl]
      rfl
    rw [eg] at q
    unfold Row.D
    walk_at "w"
    exact q _ _
  · rw [List.length_map] at c
    have eg : goneF rs[i].t T (rs.drop (i + 1)) = if (if T < T then T else T) - rs[i].t > 0 then (if T < T then T else T) - rs[i].t else 0 := by
      rw [List.drop_of_length_le (by omega)]
      rfl
    rw [eg] at q
    walk_at "w"
    exact q _ _
theorem place_wp {h : Hs} {a : Th} {T : Int} {Q : D → Hs → Prop} (oa : ThOk a) (T0 : 0 ≤ T) (T1 : T < 2 ^ 31) (q : Q (.tup [.int (lawX (·.u) a.x a.rs T), .int (lawX (·.v) a.y a.rs T)]) h) : WP (f__law_place [a.D, .int T] h) Q := by
  obtain ⟨nm, x, y, rs⟩ := a
  obtain ⟨ox, oy, up, ok, few, _⟩ := oa
  simp only at ox oy up ok few q
  unfold f__law_place Th.D
  refine wp_run rfl ?_
  rw [m__law_place_q]
  walk_at "w"
  unfold rowsD
  walk_at "w"
  refine wp_fr rs.length (fun i ρ g => ∃ (x1 y1 : Int) (o5 o6 o7 o8 o9 o10 : Option D), ρ = [some (.tup [.str nm, .int x, .int y, .tup (rs.map Row.D)]), some (.int T), some (.int x1), some (.int y1), some (.tup (rs.map Row.D)), o5, o6, o7, o8, o9, o10] ∧ g = h ∧ lawX (·.u) x1 (rs.drop i) T = lawX (·.u) x rs T ∧ lawX (·.v) y1 (rs.drop i) T = lawX (·.v) y rs T)
    ⟨x, y, _, _, _, _, _, _, rfl, rfl, rfl, rfl⟩ ?_ ?_
  · rintro i hi ρ g ⟨x1, y1, o5, o6, o7, o8, o9, o10, rfl, rfl, ex, ey⟩
    refine ⟨.tup [.int (i : Nat), rs[i].D], _, g, srcET_in (by rw [List.getElem?_map, List.getElem?_eq_getElem hi]; rfl), rfl, ?_⟩
    refine place_turn hi ok up few T0 T1 fun o1 o2 => ?_
    rw [List.drop_eq_getElem_cons hi] at ex ey
    exact ⟨_, _, _, _, _, _, _, _, rfl, rfl, ex, ey⟩
  · rintro ρ g ⟨x1, y1, o5, o6, o7, o8, o9, o10, rfl, rfl, ex, ey⟩
    refine ⟨srcET_out (by simp), ?_⟩
    rw [List.drop_length] at ex ey
    walk_at "w"
    have ex : x1 = _ := ex
    have ey : y1 = _ := ey
    rw [ex, ey]
    exact q
theorem begins_wp {h : Hs} {n : Nat} {ths : List Th} {Q : D → Hs → Prop} (e : getL h n = some (ths.map Th.D)) (ok : ∀ a ∈ ths, ThOk a) (few : ths.length ≤ 12) (q : ∀ h' L, KA h h' → h.length ≤ L → h'[L]? = some (.lst ((ssI (0 :: tms ths)).map D.int)) → Q (.ref L) h') : WP (f__law_begins [.ref n] h) Q := by
  unfold f__law_begins
  refine wp_run rfl ?_
  rw [m__law_begins_q]
  walk_at "w"
  rw [ev_seqL (KA.getL ka_app e)]
  walk_at "w"
  refine wp_frT ths Th.D (fun i ρ g => ∃ (L : Nat) (o2 o3 : Option D), ρ = [some (.ref n), some (.ref L), o2, o3] ∧ KA h g ∧ h.length ≤ L ∧ g[L]? = some (.lst ((0 :: tms (ths.take i)).map D.int))) ?_ ⟨_, _, _, rfl, ka_app, Nat.le_refl _, get_last⟩ ?_ ?_
  · rintro i ρ g ⟨L, o2, o3, rfl, kg, lL, eL⟩
    exact srcL_get (kg.getL e) i
  · rintro i hi ρ g ⟨L, o2, o3, rfl, kg, lL, eL⟩
    refine ⟨_, rfl, ?_⟩
    have okr := ok ths[i] (List.getElem_mem hi)
    have ett : tms (ths.take (i + 1)) = tms (ths.take i) ++ ths[i].rs.map (·.t) := by
      unfold tms
      rw [List.take_add_one, List.getElem?_eq_getElem hi, List.map_append, List.flatten_append]
      simp
    have lt := tms_len (ths := ths.take i) fun b hb => ok b (List.mem_of_mem_take hb)
    rw [List.length_take] at lt
    generalize ths[i] = a at *
    obtain ⟨nm, x, y, rs⟩ := a
    unfold q__law_begins_L1 Th.D
    walk_at "w"
    unfold rowsD
    walk_at "w"
    refine wp_lcmapT rs Row.D (fun r => D.int r.t) (small_line (by have := okr.few; simp only at this; omega)) (fun g kg i => srcT_get i) (fun r hr g kg => ?_) (fun g1 k1 => ?_)
    · refine ⟨_, rfl, ?_⟩
      unfold Row.D
      walk_at "w"
      exact ⟨by trivial, Keep.refl⟩
    · walk_at "w"
      rw [ev_addL (get_app _ (k1.get eL trivial)) get_last (by have := okr.few; simp only [List.length_map, List.length_cons] at this ⊢; exact Nat.le_trans (show _ ≤ 4000 by omega) (Nat.le_of_ble_eq_true rfl))]
      walk_at "w"
      have kk := ((kg.trans k1).trans (ka_app (G := [AO.lst (rs.map fun r => D.int r.t)]))).trans (ka_app (G := [AO.lst ((0 :: tms (ths.take i)).map D.int ++ rs.map fun r => D.int r.t)]))
      refine ⟨_, _, _, rfl, kk, ((kg.trans k1).trans (ka_app (G := [AO.lst (rs.map fun r => D.int r.t)]))).1, ?_⟩
      rw [get_last, ett, ← List.cons_append, List.map_append, List.map_map]
      rfl
  · rintro ρ g ⟨L, o2, o3, rfl, kg, lL, eL⟩
    walk_at "w"
    rw [List.take_length] at eL
    have lt := tms_len ok
    rw [ev_sset (getL_lst eL) (by rw [List.length_cons]; omega)]
    walk_at "w"
    exact q _ _ (kg.trans ka_app) kg.1 get_last
theorem lines_wp {h : Hs} {a : Th} {b : Int} {Q : D → Hs → Prop} (oa : ThOk a) (b0 : 0 ≤ b) (b1 : b < 2 ^ 31) (q : ∀ h', KA h h' → Q (pcT a b none).pl h') : WP (f__law_lines [a.D, .int b] h) Q := by
  have ea : (pcT a b none).pl = .tup [lnD (lawX (·.u) a.x a.rs b - (lastR ⟨0, 0, 0⟩ a.rs b).u * b) (lastR ⟨0, 0, 0⟩ a.rs b).u, lnD (lawX (·.v) a.y a.rs b - (lastR ⟨0, 0, 0⟩ a.rs b).v * b) (lastR ⟨0, 0, 0⟩ a.rs b).v] := by
    rw [lawX_at _ oa.up b0, lawX_at _ oa.up b0, lastR_sp (·.u) oa.up, lastR_sp (·.v) oa.up]
    rfl
  rw [ea] at q
  have hl : -1000 ≤ (lastR ⟨0, 0, 0⟩ a.rs b).u ∧ (lastR ⟨0, 0, 0⟩ a.rs b).u ≤ 1000 ∧ -1000 ≤ (lastR ⟨0, 0, 0⟩ a.rs b).v ∧ (lastR ⟨0, 0, 0⟩ a.rs b).v ≤ 1000 := by
    have m : lastR ⟨0, 0, 0⟩ a.rs b ∈ (⟨0, 0, 0⟩ : Row) :: a.rs.filter fun r => decide (r.t ≤ b) := List.getLast_mem _
    rcases List.mem_cons.mp m with z | z
    · rw [z]; decide
    · have := oa.ok _ (List.mem_filter.mp z).1
      exact ⟨this.u.1, this.u.2, this.v.1, this.v.2⟩
  have ell : (D.tup [.int 0, .int 0, .int 0] :: (a.rs.filter fun r => decide (r.t ≤ b)).map Row.D) = ((⟨0, 0, 0⟩ : Row) :: a.rs.filter fun r => decide (r.t ≤ b)).dropLast.map Row.D ++ [(lastR ⟨0, 0, 0⟩ a.rs b).D] := by
    have e2 : ((⟨0, 0, 0⟩ : Row) :: a.rs.filter fun r => decide (r.t ≤ b)).dropLast.map Row.D ++ [(lastR ⟨0, 0, 0⟩ a.rs b).D] = (((⟨0, 0, 0⟩ : Row) :: a.rs.filter fun r => decide (r.t ≤ b)).dropLast ++ [lastR ⟨0, 0, 0⟩ a.rs b]).map Row.D := by rw [List.map_append]; rfl
    rw [e2]
    unfold lastR
    rw [getLast_snoc (by simp)]
    rfl
  generalize hR : lastR ⟨0, 0, 0⟩ a.rs b = r at *
  have Bb : Bd 32 b := Bd.of_range (by omega) (by omega)
  have Bu : Bd 10 r.u := Bd.of_range (by omega) (by omega)
  have Bv : Bd 10 r.v := Bd.of_range (by omega) (by omega)
  unfold f__law_lines
  refine wp_run rfl ?_
  unfold m__law_lines
  have eD : a.D = .tup [.str a.nm, .int a.x, .int a.y, .tup (a.rs.map Row.D)] := rfl
  walk_at "w"
  refine wp_lcfilterT a.rs Row.D Row.D (fun r => decide (r.t ≤ b)) (small_line (by have := oa.few; omega)) (fun g kg i => srcT_get i) (fun r hr g kg => ?_) (fun g kg => ?_)
  · refine ⟨_, rfl, ?_⟩
    unfold Row.D
    walk_at "w"
    exact ⟨by trivial, Keep.refl, fun _ => ⟨by trivial, Keep.refl⟩⟩
  · walk_at "w"
    have kk := (ka_app (h := h) (G := [AO.lst [D.tup [.int 0, .int 0, .int 0]]])).trans kg
    have lf : (a.rs.filter fun r => decide (r.t ≤ b)).length ≤ 12 := Nat.le_trans (List.length_filter_le _ _) oa.few
    rw [ev_addL (get_app _ (kg.get get_last trivial)) get_last (by simp only [List.length_map, List.length_singleton]; exact Nat.le_trans (show _ ≤ 4000 by omega) (Nat.le_of_ble_eq_true rfl))]
    walk_at "w"
    rw [ell, ev_last (getL_lst get_last)]
    unfold Row.D
    walk_at "w"
    refine place_wp oa b0 b1 ?_
    walk_at "w"
    exact q _ ((kk.trans ka_app).trans ka_app)
end K22
namespace K22
open SL RR
local macro_rules | `(tactic| walk_at "bd") => `(tactic| (first
  | assumption
  | (with_reducible apply Bd.add <;> walk_at "bd")
  | (with_reducible apply Bd.sub <;> walk_at "bd")
  | (with_reducible apply Bd.mul <;> walk_at "bd")
  | (with_reducible apply Bd.neg <;> walk_at "bd")
  | (with_reducible apply Bd.fdiv <;> walk_at "bd")
  | (with_reducible apply Bd.ite <;> walk_at "bd")
  | (with_reducible apply Bd.sign)
  | exact Bd.lit 64 rfl
  | exact Bd.lit 250 rfl))
local macro_rules | `(tactic| walk_at "dis") => `(tactic| (first
  | assumption
  | (with_reducible apply MOk.of <;> first | (walk_at "bd"; done) | exact Nat.le_of_ble_eq_true rfl)
  | (with_reducible apply Bd.mono <;> first | (walk_at "bd"; done) | exact Nat.le_of_ble_eq_true rfl)
  | (with_reducible apply DOk.of <;> first | (walk_at "bd"; done) | omega | exact Nat.le_of_ble_eq_true rfl)
  | omega))
local macro_rules | `(tactic| walk_at "ev") => `(tactic| simp (disch := walk_at "dis") only [ev_var0, ev_varS, ev_c, ev_op, ev_opK, ev_un, ev_call, ev_nil, ev_cons, ev_acK, ev_consK, ev_tup, ev_tupK, ev_lst, ev_lstK, ev_ifE, ev_ifS, ev_ifKT, ev_ifKF, ev_ifK, ev_ifKN,
  ev_tV, ev_tvK, ev_tTru, ev_truB, ev_truN, ev_truI, ev_and, ev_or, ev_not, ev_notK, ev_andT, ev_andF, ev_orT, ev_orF, ev_andK, ev_andKN, ev_orK, ev_orKN, ev_eAnd, ev_eOr, ev_eNot, ev_eNotB, ev_eAndT, ev_eAndF, ev_eAndB, ev_eAndBN, ev_eOrT, ev_eOrF, ev_eOrN, ev_eOrB, ev_eOrBN,
  ev_chain, ev_chK1, ev_chK2, ev_chK3, ev_chK3T, ev_chK3F, ev_seq, ev_thn, ev_thnR, ev_thnB, ev_thnC, ev_next, ev_break, ev_cont, ev_ret, ev_retK, ev_retN, ev_expr, ev_exprK, ev_asg, ev_asgK, ev_nxK, ev_gNm, ev_gTp, ev_gsNil, ev_gsCons, ev_gsK, ev_gSb, ev_gSbK1, ev_par, ev_parK2, ev_parK3, ev_mt,
  ev_add, ev_sub, ev_mul, ev_fdiv, ev_mod, ev_pow, ev_shl, ev_neg, ev_lt, ev_le, ev_gt, ev_ge, ev_eqI, ev_neI, ev_abs, ev_intB, ev_intI, ev_minI, ev_maxI, ev_bits, ev_get0, ev_get1, ev_get2, bd_ok, bd_none, ev_whT, ev_whF, ev_whD, ev_wh2, ev_wh2c, ev_wh2r, ev_wh2b, ev_for, ev_forK, ev_fr1, ev_fr2, ev_fr2c, ev_fr2r, ev_fr2b, ev_lc, ev_lcK, ev_lc1, ev_lc2T, ev_lc2F, ev_lc2D, ev_yes, ev_iSeq, ev_seqT, ev_seqS, ev_iRange, ev_iEnum, ev_iZip,
  ev_neIS, ev_eqIS, ev_neSS, ev_eqSS, ev_isN, ev_isNot, isNon_t, isNon_n, isNon_i, isNon_r, decide_true, decide_false, decide_eq_true_eq, eq_self, if_true, if_false,
  out_rt, out_nx, List.map_cons, List.map_nil, List.cons_append, List.nil_append, List.replicate, List.set_cons_zero, List.set_cons_succ, Nat.reduceSub, Int.reduceEq, Int.reduceLT, Int.reduceLE, Int.reduceMul, Int.reduceAdd, Int.reduceSub, Bool.not_true, Bool.not_false])
local macro_rules | `(tactic| walk_at "go") => `(tactic| repeat (first | walk_at "ev" | walk_at "fs"))
local macro_rules | `(tactic| walk_at "wv") => `(tactic| simp only [wp_ok, kn_eq, outQ_rt, outQ_nx, turnQ_nx, turnQ_ct, turnQ_bk, turnQ_rt, whQ_nx, whQ_bk, whQ_rt, whT_t, whT_f, whT_d, lcT_t, lcT_f, lcT_d])
local macro_rules | `(tactic| walk_at "wb") => `(tactic| with_reducible refine wp_bd ?_)
local macro_rules | `(tactic| walk_at "w") => `(tactic| repeat (first | walk_at "ev" | walk_at "wv" | walk_at "fs" | walk_at "wb"))
local macro_rules | `(tactic| walk_at "bd") => `(tactic| exact Bd.fm rfl)
local macro_rules | `(tactic| walk_at "fs") => `(tactic| simp only [p10_3, p10_6, p10_7, p10_8, p10_9, p10_12, p10_15, p10_18, p10_60])
local macro_rules | `(tactic| walk_at "fs") => `(tactic| simp only [ev_pNil, ev_pCons, ev_pK1, ev_pK2, ev_pK3s, ev_dict, ev_gSb, ev_gSbK1])
local macro_rules | `(tactic| walk_at "fs") => `(tactic| simp only [wipe_nil, wipe_cons])
local macro_rules | `(tactic| walk_at "fs") => `(tactic| simp only [ev_make, ev_fldSet, ev_fsK1, ev_om, ev_omK2, ev_intB])
local macro_rules | `(tactic| walk_at "fs") => `(tactic| simp only [ev_iEnumV, ev_enumV, isi_str, ev_isN, ev_isNot])
local macro_rules | `(tactic| walk_at "fs") => `(tactic| simp only [ev_sl, ev_slK1, ev_slK2, ev_slK3, ev_oSome, ev_oSomeK, ev_oNone, slT4, slT3, len_tup, ev_get3, ev_get4, th_rows, th_nm])
local macro_rules | `(tactic| walk_at "fs") => `(tactic| simp only [List.isEmpty_nil, List.isEmpty_cons])
theorem llowest_eq {a b : Int} (h : Hs) (hb : 0 < b) (ba : Bd 2000 a) (bb : Bd 2000 b) : ∃ m n, f__law_lowest [.int a, .int b] h = some (TD (.fr m n), h) ∧ (Tm.fr m n).Nm ∧ m * b = a * n := by
  obtain ⟨m, n, e1, e2, nm, e3, l1, l2, _⟩ := low_fr (a := a) (b := b) (s := 1) (by omega) (by rw [if_neg (by omega)])
  rw [Int.mul_one, ← gcdL2] at e1 e2
  refine ⟨m, n, ?_, nm, e3⟩
  have gb : DOk (gcdL 0 [a, b]) := by
    have g0 : gcdL 0 [a, b] ≠ 0 := fun z => by
      rw [gcdL2] at z
      have := (Int.gcd_eq_zero_iff.mp (show Int.gcd a b = 0 by omega)).2
      omega
    have g1 : gcdL 0 [a, b] ≤ b := by
      rw [gcdL2]
      exact Int.le_of_dvd (by omega) (Int.gcd_dvd_right _ _)
    have g2 : 0 ≤ gcdL 0 [a, b] := by rw [gcdL2]; omega
    exact DOk.of (n := 2000) (bb.of_le g2 g1) g0 (by decide)
  unfold f__law_lowest
  rw [runB_ok (by rfl)]
  unfold m__law_lowest
  walk_at "go"
  rw [show D.tup [.int a, .int b] = .tup ([a, b].map D.int) from rfl, lcommon_eq]
  walk_at "go"
  rw [e1, e2]
  rfl
theorem where_wp {h : Hs} {a : Th} {t : Tm} {f : Int} {Q : D → Hs → Prop} (oa : ThOk a) (k : TkB t) (hf : IsFl t.val f)
    (q : ∀ h' d, KA h h' → (match t with
      | .fr p q => ∃ m n m' n', d = frs m n m' n' ∧ (Tm.fr m n).Nm ∧ (Tm.fr m' n').Nm ∧ m * q = ((pcT a f none).x * q + (pcT a f none).u * p) * n ∧ m' * q = ((pcT a f none).y * q + (pcT a f none).v * p) * n'
      | .rt _ _ _ _ => d = (pcT a f none).pl) → Q d h') : WP (f__law_where [a.D, TD t] h) Q := by
  obtain ⟨f0, f1⟩ := fl_bd k hf
  have po := pcT_ok oa f0 f1
  unfold f__law_where
  refine wp_run rfl ?_
  rw [m__law_where_q]
  cases t with
  | fr p q' =>
    have hq := k.nm.1
    obtain ⟨u1, u2⟩ := po.bu
    have bx := po.x
    have by' := po.y
    obtain ⟨bp, bq⟩ := k.tb
    rw [TD_fr]
    walk_at "w"
    rw [fl_fdiv hq hf]
    refine lines_wp oa f0 f1 fun h1 k1 => ?_
    walk_at "w"
    unfold Pc.pl
    walk_at "w"
    have bX : Bd 2000 ((pcT a f none).x * q' + (pcT a f none).u * p) := Bd.mono (by walk_at "bd") (by decide)
    have bY : Bd 2000 ((pcT a f none).y * q' + (pcT a f none).v * p) := Bd.mono (by walk_at "bd") (by decide)
    have bq' : Bd 2000 q' := bq.mono (by decide)
    obtain ⟨m, n, e1, n1, g1⟩ := llowest_eq (a := (pcT a f none).x * q' + (pcT a f none).u * p) (b := q') h1 hq bX bq'
    obtain ⟨m', n', e2, n2, g2⟩ := llowest_eq (a := (pcT a f none).y * q' + (pcT a f none).v * p) (b := q') h1 hq bY bq'
    refine wp_lcmapI 2 (fun i => if i = 0 then TD (.fr m n) else TD (.fr m' n')) (small_line (by decide)) (fun i hi g kg => ?_) (fun g kg => rfl) (fun g kg => ?_)
    · have any : ∀ (x y : Int) (g' : Hs), f__law_lowest [.int x, .int y] h1 = some (TD (.fr m n), h1) → True := fun _ _ _ _ => trivial
      match i, hi with
      | 0, _ =>
        refine ⟨lnD (pcT a f none).x (pcT a f none).u, _, rfl, rfl, ?_⟩
        obtain ⟨m1, n1', e3, n3, g3⟩ := llowest_eq (a := (pcT a f none).x * q' + (pcT a f none).u * p) (b := q') g hq bX bq'
        unfold lnD
        walk_at "w"
        rw [e3]
        obtain ⟨rfl, rfl⟩ : m1 = m ∧ n1' = n := by
          refine fr_inj n3 n1 ?_
          refine Int.eq_of_mul_eq_mul_right (show q' ≠ 0 by omega) ?_
          have a1 : m1 * n * q' = (m1 * q') * n := by grind
          have a2 : m * n1' * q' = (m * q') * n1' := by grind
          rw [a1, a2, g3, g1]
          grind
        exact ⟨_, _, rfl, rfl, Keep.refl⟩
      | 1, _ =>
        refine ⟨lnD (pcT a f none).y (pcT a f none).v, _, rfl, rfl, ?_⟩
        obtain ⟨m1, n1', e3, n3, g3⟩ := llowest_eq (a := (pcT a f none).y * q' + (pcT a f none).v * p) (b := q') g hq bY bq'
        unfold lnD
        walk_at "w"
        rw [e3]
        obtain ⟨rfl, rfl⟩ : m1 = m' ∧ n1' = n' := by
          refine fr_inj n3 n2 ?_
          refine Int.eq_of_mul_eq_mul_right (show q' ≠ 0 by omega) ?_
          have a1 : m1 * n' * q' = (m1 * q') * n' := by grind
          have a2 : m' * n1' * q' = (m' * q') * n1' := by grind
          rw [a1, a2, g3, g2]
          grind
        exact ⟨_, _, rfl, rfl, Keep.refl⟩
    · walk_at "w"
      rw [show (List.range 2).map (fun i => if i = 0 then TD (.fr m n) else TD (.fr m' n')) = [TD (.fr m n), TD (.fr m' n')] from rfl, ev_tupL getL_last]
      walk_at "w"
      exact q _ _ ((k1.trans kg).trans ka_app) ⟨m, n, m', n', rfl, n1, n2, g1, g2⟩
  | rt c b a' w' =>
    rw [TD_rt]
    walk_at "w"
    unfold q__law_where_I1t
    walk_at "w"
    refine begins_wp (ths := [a]) getL_last (fun b hb => by rw [List.mem_singleton.mp hb]; exact oa) (by simp) fun h1 L k1 lL e1 => ?_
    have et : tms [a] = a.rs.map (·.t) := by unfold tms; simp
    rw [et, beg_ssI oa.up] at e1
    walk_at "w"
    rw [ev_seqL (getL_lst e1)]
    walk_at "w"
    have lb := begT_len (rs := a.rs)
    have few := oa.few
    refine wp_lcfilterT (begT a.rs) D.int D.int (fun c => decide (c ≤ f)) (small_line (by omega)) (fun g kg i => srcL_get (kg.getL (getL_lst e1)) i) (fun z hz g kg => ?_) (fun g kg => ?_)
    · refine ⟨_, rfl, ?_⟩
      have z0 := begT_ge oa.up z hz
      have z1 := begT_lt oa.up oa.ok z hz
      walk_at "w"
      have eo : f__law_order [.tup [.int z, .int 1], .tup [.str "root", .tup [.int c, .int b, .int a'], .int w']] g = some (.int (sgR ((Tm.fr z 1).val - (Tm.rt c b a' w').val)), g) := lorder_eq (t := .fr z 1) (u := .rt c b a' w') g ⟨by decide, by simp⟩ k.nm ⟨Bd.of_range (n := 40) (by omega) (by omega) |>.mono (by decide), Bd.of_range (n := 5) (by decide) (by decide) |>.mono (by decide)⟩ (k.tb.mono (by decide))
      rw [eo]
      walk_at "w"
      refine ⟨?_, Keep.refl, fun _ => ⟨by trivial, Keep.refl⟩⟩
      have := whole_lt (n := z) k.nm hf
      simp only [this]
    · walk_at "w"
      obtain ⟨l, c', e2, c0, c1, e3⟩ := last_begin oa f0
      rw [e2, List.map_append, List.map_cons, List.map_nil, ev_last (getL_lst get_last)]
      walk_at "w"
      refine lines_wp oa c0 (by omega) fun h4 k4 => ?_
      walk_at "w"
      exact q _ _ (((ka_app.trans k1).trans kg).trans (ka_app.trans k4)) e3
end K22
namespace K22
open SL RR
local macro_rules | `(tactic| walk_at "bd") => `(tactic| (first
  | assumption
  | (with_reducible apply Bd.add <;> walk_at "bd")
  | (with_reducible apply Bd.sub <;> walk_at "bd")
  | (with_reducible apply Bd.mul <;> walk_at "bd")
  | (with_reducible apply Bd.neg <;> walk_at "bd")
  | (with_reducible apply Bd.fdiv <;> walk_at "bd")
  | (with_reducible apply Bd.ite <;> walk_at "bd")
  | (with_reducible apply Bd.sign)
  | exact Bd.lit 64 rfl
  | exact Bd.lit 250 rfl))
local macro_rules | `(tactic| walk_at "dis") => `(tactic| (first
  | assumption
  | (with_reducible apply MOk.of <;> first | (walk_at "bd"; done) | exact Nat.le_of_ble_eq_true rfl)
  | (with_reducible apply Bd.mono <;> first | (walk_at "bd"; done) | exact Nat.le_of_ble_eq_true rfl)
  | (with_reducible apply DOk.of <;> first | (walk_at "bd"; done) | omega | exact Nat.le_of_ble_eq_true rfl)
  | omega))
local macro_rules | `(tactic| walk_at "ev") => `(tactic| simp (disch := walk_at "dis") only [ev_var0, ev_varS, ev_c, ev_op, ev_opK, ev_un, ev_call, ev_nil, ev_cons, ev_acK, ev_consK, ev_tup, ev_tupK, ev_lst, ev_lstK, ev_ifE, ev_ifS, ev_ifKT, ev_ifKF, ev_ifK, ev_ifKN,
  ev_tV, ev_tvK, ev_tTru, ev_truB, ev_truN, ev_truI, ev_and, ev_or, ev_not, ev_notK, ev_andT, ev_andF, ev_orT, ev_orF, ev_andK, ev_andKN, ev_orK, ev_orKN, ev_eAnd, ev_eOr, ev_eNot, ev_eNotB, ev_eAndT, ev_eAndF, ev_eAndB, ev_eAndBN, ev_eOrT, ev_eOrF, ev_eOrN, ev_eOrB, ev_eOrBN,
  ev_chain, ev_chK1, ev_chK2, ev_chK3, ev_chK3T, ev_chK3F, ev_seq, ev_thn, ev_thnR, ev_thnB, ev_thnC, ev_next, ev_break, ev_cont, ev_ret, ev_retK, ev_retN, ev_expr, ev_exprK, ev_asg, ev_asgK, ev_nxK, ev_gNm, ev_gTp, ev_gsNil, ev_gsCons, ev_gsK, ev_gSb, ev_gSbK1, ev_par, ev_parK2, ev_parK3, ev_mt,
  ev_add, ev_sub, ev_mul, ev_fdiv, ev_mod, ev_pow, ev_shl, ev_neg, ev_lt, ev_le, ev_gt, ev_ge, ev_eqI, ev_neI, ev_abs, ev_intB, ev_intI, ev_minI, ev_maxI, ev_bits, ev_get0, ev_get1, ev_get2, bd_ok, bd_none, ev_whT, ev_whF, ev_whD, ev_wh2, ev_wh2c, ev_wh2r, ev_wh2b, ev_for, ev_forK, ev_fr1, ev_fr2, ev_fr2c, ev_fr2r, ev_fr2b, ev_lc, ev_lcK, ev_lc1, ev_lc2T, ev_lc2F, ev_lc2D, ev_yes, ev_iSeq, ev_seqT, ev_seqS, ev_iRange, ev_iEnum, ev_iZip,
  ev_neIS, ev_eqIS, ev_neSS, ev_eqSS, ev_isN, ev_isNot, isNon_t, isNon_n, isNon_i, isNon_r, decide_true, decide_false, decide_eq_true_eq, eq_self, if_true, if_false,
  out_rt, out_nx, List.map_cons, List.map_nil, List.cons_append, List.nil_append, List.replicate, List.set_cons_zero, List.set_cons_succ, Nat.reduceSub, Int.reduceEq, Int.reduceLT, Int.reduceLE, Int.reduceMul, Int.reduceAdd, Int.reduceSub, Bool.not_true, Bool.not_false])
local macro_rules | `(tactic| walk_at "go") => `(tactic| repeat (first | walk_at "ev" | walk_at "fs"))
local macro_rules | `(tactic| walk_at "wv") => `(tactic| simp only [wp_ok, kn_eq, outQ_rt, outQ_nx, turnQ_nx, turnQ_ct, turnQ_bk, turnQ_rt, whQ_nx, whQ_bk, whQ_rt, whT_t, whT_f, whT_d, lcT_t, lcT_f, lcT_d])
local macro_rules | `(tactic| walk_at "wb") => `(tactic| with_reducible refine wp_bd ?_)
local macro_rules | `(tactic| walk_at "w") => `(tactic| repeat (first | walk_at "ev" | walk_at "wv" | walk_at "fs" | walk_at "wb"))
local macro_rules | `(tactic| walk_at "bd") => `(tactic| exact Bd.fm rfl)
local macro_rules | `(tactic| walk_at "fs") => `(tactic| simp only [p10_3, p10_6, p10_7, p10_8, p10_9, p10_12, p10_15, p10_18, p10_60])
local macro_rules | `(tactic| walk_at "fs") => `(tactic| simp only [ev_pNil, ev_pCons, ev_pK1, ev_pK2, ev_pK3s, ev_dict, ev_gSb, ev_gSbK1])
local macro_rules | `(tactic| walk_at "fs") => `(tactic| simp only [wipe_nil, wipe_cons])
local macro_rules | `(tactic| walk_at "fs") => `(tactic| simp only [ev_make, ev_fldSet, ev_fsK1, ev_om, ev_omK2, ev_intB])
local macro_rules | `(tactic| walk_at "fs") => `(tactic| simp only [ev_iEnumV, ev_enumV, isi_str, ev_isN, ev_isNot])
local macro_rules | `(tactic| walk_at "fs") => `(tactic| simp only [ev_sl, ev_slK1, ev_slK2, ev_slK3, ev_oSome, ev_oSomeK, ev_oNone, slT4, slT3, len_tup, ev_get3, ev_get4, th_rows, th_nm])
local macro_rules | `(tactic| walk_at "fs") => `(tactic| simp only [List.isEmpty_nil, List.isEmpty_cons])
set_option maxHeartbeats 800000 in
theorem worlds_wp {s r n k : Nat} {h : Hs} {Q : D → Hs → Prop} {most : Int} (st : Wm s r n k h) (hk : k < 2 ^ 56) (m0 : 1 ≤ most) (m1 : most ≤ 12)
    (q : ∀ (ths : List Th) (L W nw : Nat) (dist : Int) h', 1 ≤ ths.length → ths.length ≤ 12 → (∀ a ∈ ths, ThOk a) → (ths.map Th.nm).Nodup → nw ≤ 1 → 0 ≤ dist → dist < 1000000 → h.length ≤ L → h.length ≤ W → h'[L]? = some (.lst (ths.map Th.D)) → Wl W (ths.map Th.D) (List.replicate nw arcD) h' → Wm s r n (k + 1300) h' → Keep (NR n r) h h' → Q (.tup [.ref L, .ref W, .int dist]) h') : WP (f__law_worlds [.ref n, .int most] h) Q := by
  obtain ⟨nl, rl, sl⟩ := nr_lt st
  unfold f__law_worlds
  refine wp_run rfl ?_
  unfold m__law_worlds
  walk_at "w"
  refine distance_wp st (by omega) fun dist h1 d0 d1 w1 k1 => ?_
  walk_at "w"
  rw [ev_mulL (ds := [.int most]) (j := 7) get_last (show (7 : Nat) < 4000 by decide) (by decide) (by decide)]
  walk_at "w"
  rw [ev_addL (get_app _ get_last) get_last (Nat.le_of_ble_eq_true rfl)]
  walk_at "w"
  refine of_new ((w1.app).app.app) (by simp) (show (8 : Nat) < 1000 by decide) (by omega) fun d hd h2 w2 k2 => ?_
  obtain ⟨c, rfl, c0, c1⟩ : ∃ c : Int, d = .int c ∧ 1 ≤ c ∧ c ≤ 12 := by
    have : d = .int most ∨ d = .int 12 := by
      have hd' : d ∈ [D.int most, .int most, .int most, .int most, .int most, .int most, .int most, .int 12] := hd
      simpa using hd'
    rcases this with rfl | rfl
    · exact ⟨_, rfl, m0, m1⟩
    · exact ⟨_, rfl, by decide, by decide⟩
  have kk2 : Keep (NR n r) h h2 := k1.trans ((Keep.app.trans Keep.app).trans (Keep.app.trans k2))
  walk_at "w"
  refine draw_wp w2 (by omega) (by omega) (by omega) fun e h3 a3 b3 w3 k3 => ?_
  walk_at "w"
  refine things_wp w3 (by omega) (by omega) (by omega) (by omega) (by omega) fun ths L h4 lt ok nd lL eL w4 k4 => ?_
  walk_at "w"
  refine draw_wp w4.app (by omega) (by omega) (by omega) fun j h5 a5 b5 w5 k5 => ?_
  have k45 : Keep (NR n r) h4 h5 := Keep.app.trans k5
  walk_at "w"
  have nl4 := nr_lt w4
  rw [ev_mulL (k5.get get_last ⟨by omega, by omega⟩) (by simp only [List.length_singleton]; omega) (by omega) (by omega)]
  walk_at "w"
  obtain ⟨nw, nw1, en⟩ := rep_arc a5 b5
  change WP (listG [D.ref L] (h5 ++ [AO.lst (List.replicate j.toNat [arcD]).flatten])) _
  rw [en]
  have l3 := kk2.1
  have l5 := k45.1
  have l03 := k3.1
  have l4 := k4.1
  have eL5 := k45.get eL ⟨by omega, by omega⟩
  rw [ev_listL (getL_lst (get_app _ eL5))]
  walk_at "w"
  refine world_wp getL_last (getL_lst (get_app _ get_last)) fun h6 k6 w6 => ?_
  walk_at "w"
  have kf := kk2.trans (k3.trans (k4.trans (k45.trans ((Keep.app.trans Keep.app).trans k6.nr))))
  refine q ths L _ nw dist h6 (by omega) (by omega) ok nd nw1 d0 d1 (by omega) (by simp; omega) (k6.get (get_app _ (get_app _ eL5)) trivial) w6 (((w5.app.app).keep k6).up (by omega)) kf
end K22
namespace K22
open SL RR
local macro_rules | `(tactic| walk_at "bd") => `(tactic| (first
  | assumption
  | (with_reducible apply Bd.add <;> walk_at "bd")
  | (with_reducible apply Bd.sub <;> walk_at "bd")
  | (with_reducible apply Bd.mul <;> walk_at "bd")
  | (with_reducible apply Bd.neg <;> walk_at "bd")
  | (with_reducible apply Bd.fdiv <;> walk_at "bd")
  | (with_reducible apply Bd.ite <;> walk_at "bd")
  | (with_reducible apply Bd.sign)
  | exact Bd.lit 64 rfl
  | exact Bd.lit 250 rfl))
local macro_rules | `(tactic| walk_at "dis") => `(tactic| (first
  | assumption
  | (with_reducible apply MOk.of <;> first | (walk_at "bd"; done) | exact Nat.le_of_ble_eq_true rfl)
  | (with_reducible apply Bd.mono <;> first | (walk_at "bd"; done) | exact Nat.le_of_ble_eq_true rfl)
  | (with_reducible apply DOk.of <;> first | (walk_at "bd"; done) | omega | exact Nat.le_of_ble_eq_true rfl)
  | omega))
local macro_rules | `(tactic| walk_at "ev") => `(tactic| simp (disch := walk_at "dis") only [ev_var0, ev_varS, ev_c, ev_op, ev_opK, ev_un, ev_call, ev_nil, ev_cons, ev_acK, ev_consK, ev_tup, ev_tupK, ev_lst, ev_lstK, ev_ifE, ev_ifS, ev_ifKT, ev_ifKF, ev_ifK, ev_ifKN,
  ev_tV, ev_tvK, ev_tTru, ev_truB, ev_truN, ev_truI, ev_and, ev_or, ev_not, ev_notK, ev_andT, ev_andF, ev_orT, ev_orF, ev_andK, ev_andKN, ev_orK, ev_orKN, ev_eAnd, ev_eOr, ev_eNot, ev_eNotB, ev_eAndT, ev_eAndF, ev_eAndB, ev_eAndBN, ev_eOrT, ev_eOrF, ev_eOrN, ev_eOrB, ev_eOrBN,
  ev_chain, ev_chK1, ev_chK2, ev_chK3, ev_chK3T, ev_chK3F, ev_seq, ev_thn, ev_thnR, ev_thnB, ev_thnC, ev_next, ev_break, ev_cont, ev_ret, ev_retK, ev_retN, ev_expr, ev_exprK, ev_asg, ev_asgK, ev_nxK, ev_gNm, ev_gTp, ev_gsNil, ev_gsCons, ev_gsK, ev_gSb, ev_gSbK1, ev_par, ev_parK2, ev_parK3, ev_mt,
  ev_add, ev_sub, ev_mul, ev_fdiv, ev_mod, ev_pow, ev_shl, ev_neg, ev_lt, ev_le, ev_gt, ev_ge, ev_eqI, ev_neI, ev_abs, ev_intB, ev_intI, ev_minI, ev_maxI, ev_bits, ev_get0, ev_get1, ev_get2, bd_ok, bd_none, ev_whT, ev_whF, ev_whD, ev_wh2, ev_wh2c, ev_wh2r, ev_wh2b, ev_for, ev_forK, ev_fr1, ev_fr2, ev_fr2c, ev_fr2r, ev_fr2b, ev_lc, ev_lcK, ev_lc1, ev_lc2T, ev_lc2F, ev_lc2D, ev_yes, ev_iSeq, ev_seqT, ev_seqS, ev_iRange, ev_iEnum, ev_iZip,
  ev_neIS, ev_eqIS, ev_neSS, ev_eqSS, ev_isN, ev_isNot, isNon_t, isNon_n, isNon_i, isNon_r, decide_true, decide_false, decide_eq_true_eq, eq_self, if_true, if_false,
  out_rt, out_nx, List.map_cons, List.map_nil, List.cons_append, List.nil_append, List.replicate, List.set_cons_zero, List.set_cons_succ, Nat.reduceSub, Int.reduceEq, Int.reduceLT, Int.reduceLE, Int.reduceMul, Int.reduceAdd, Int.reduceSub, Bool.not_true, Bool.not_false])
local macro_rules | `(tactic| walk_at "go") => `(tactic| repeat (first | walk_at "ev" | walk_at "fs"))
local macro_rules | `(tactic| walk_at "wv") => `(tactic| simp only [wp_ok, kn_eq, outQ_rt, outQ_nx, turnQ_nx, turnQ_ct, turnQ_bk, turnQ_rt, whQ_nx, whQ_bk, whQ_rt, whT_t, whT_f, whT_d, lcT_t, lcT_f, lcT_d])
local macro_rules | `(tactic| walk_at "wb") => `(tactic| with_reducible refine wp_bd ?_)
local macro_rules | `(tactic| walk_at "w") => `(tactic| repeat (first | walk_at "ev" | walk_at "wv" | walk_at "fs" | walk_at "wb"))
local macro_rules | `(tactic| walk_at "bd") => `(tactic| exact Bd.fm rfl)
local macro_rules | `(tactic| walk_at "fs") => `(tactic| simp only [p10_3, p10_6, p10_7, p10_8, p10_9, p10_12, p10_15, p10_18, p10_60])
local macro_rules | `(tactic| walk_at "fs") => `(tactic| simp only [ev_pNil, ev_pCons, ev_pK1, ev_pK2, ev_pK3s, ev_dict, ev_gSb, ev_gSbK1])
local macro_rules | `(tactic| walk_at "fs") => `(tactic| simp only [wipe_nil, wipe_cons])
local macro_rules | `(tactic| walk_at "fs") => `(tactic| simp only [ev_make, ev_fldSet, ev_fsK1, ev_om, ev_omK2, ev_intB])
local macro_rules | `(tactic| walk_at "fs") => `(tactic| simp only [ev_iEnumV, ev_enumV, isi_str, ev_isN, ev_isNot])
local macro_rules | `(tactic| walk_at "fs") => `(tactic| simp only [ev_sl, ev_slK1, ev_slK2, ev_slK3, ev_oSome, ev_oSomeK, ev_oNone, slT4, slT3, len_tup, ev_get3, ev_get4, th_rows, th_nm])
local macro_rules | `(tactic| walk_at "fs") => `(tactic| simp only [List.isEmpty_nil, List.isEmpty_cons])
/-- the draw begun -/
theorem started_wp {h : Hs} {s : Nat} {ns : List Int} {Q : D → Hs → Prop} (e : getL h s = some (ns.map D.int)) (l : ns.length ≤ 63) (b : ∀ z ∈ ns, PySem.Builtin.Int.intBits z ≤ 1048576) (q : ∀ h' n r, KA h h' → h.length ≤ n → h.length ≤ r → Wm s r n 0 h' → Q (.ref n) h') : WP (f__law_started [.ref s] h) Q := by
  have sl : s < h.length := by
    unfold getL at e
    rcases Nat.lt_or_ge s h.length with z | z
    · exact z
    · rw [List.getElem?_eq_none z] at e; cases e
  unfold f__law_started
  refine wp_run rfl ?_
  unfold m__law_started
  walk_at "w"
  rw [ev_seqL e]
  walk_at "w"
  refine wp_lcmapT ns D.int (fun c => D.int (c * (if 1000000000000000000 ≤ c then 1 else 0))) (small_line (by omega)) (fun g kg i => srcL_get (kg.getL e) i) (fun c hc g kg => ?_) (fun g kg => ?_)
  · refine ⟨_, rfl, ?_⟩
    have bc : Bd 1048576 c := Bd.of_bits (b c hc)
    walk_at "w"
    exact ⟨by trivial, Keep.refl⟩
  · walk_at "w"
    change WP (some (D.ref (g ++ [AO.lst (ns.map fun c => D.int (c * (if 1000000000000000000 ≤ c then 1 else 0)))]).length, (g ++ [AO.lst (ns.map fun c => D.int (c * (if 1000000000000000000 ≤ c then 1 else 0)))]) ++ [AO.dct [(.inr "script", .ref s), (.inr "at", .int 0), (.inr "rest", .ref g.length)]])) _
    walk_at "w"
    have lg := kg.1
    refine q _ _ g.length ((kg.trans ka_app).trans ka_app) (by simp; omega) (by omega) ⟨⟨ns, ns.map fun c => c * (if 1000000000000000000 ≤ c then 1 else 0), 0, Nat.le_refl _, get_last, ?_, ?_, by simp, l⟩, by omega, by simp; omega⟩
    · rw [get_app _ get_last, List.map_map]
      rfl
    · exact KA.getL ((kg.trans ka_app).trans ka_app) e
end K22
namespace K22
open SL RR
local macro_rules | `(tactic| walk_at "bd") => `(tactic| (first
  | assumption
  | (with_reducible apply Bd.add <;> walk_at "bd")
  | (with_reducible apply Bd.sub <;> walk_at "bd")
  | (with_reducible apply Bd.mul <;> walk_at "bd")
  | (with_reducible apply Bd.neg <;> walk_at "bd")
  | (with_reducible apply Bd.fdiv <;> walk_at "bd")
  | (with_reducible apply Bd.ite <;> walk_at "bd")
  | (with_reducible apply Bd.sign)
  | exact Bd.lit 64 rfl
  | exact Bd.lit 250 rfl))
local macro_rules | `(tactic| walk_at "dis") => `(tactic| (first
  | assumption
  | (with_reducible apply MOk.of <;> first | (walk_at "bd"; done) | exact Nat.le_of_ble_eq_true rfl)
  | (with_reducible apply Bd.mono <;> first | (walk_at "bd"; done) | exact Nat.le_of_ble_eq_true rfl)
  | (with_reducible apply DOk.of <;> first | (walk_at "bd"; done) | omega | exact Nat.le_of_ble_eq_true rfl)
  | omega))
local macro_rules | `(tactic| walk_at "ev") => `(tactic| simp (disch := walk_at "dis") only [ev_var0, ev_varS, ev_c, ev_op, ev_opK, ev_un, ev_call, ev_nil, ev_cons, ev_acK, ev_consK, ev_tup, ev_tupK, ev_lst, ev_lstK, ev_ifE, ev_ifS, ev_ifKT, ev_ifKF, ev_ifK, ev_ifKN,
  ev_tV, ev_tvK, ev_tTru, ev_truB, ev_truN, ev_truI, ev_and, ev_or, ev_not, ev_notK, ev_andT, ev_andF, ev_orT, ev_orF, ev_andK, ev_andKN, ev_orK, ev_orKN, ev_eAnd, ev_eOr, ev_eNot, ev_eNotB, ev_eAndT, ev_eAndF, ev_eAndB, ev_eAndBN, ev_eOrT, ev_eOrF, ev_eOrN, ev_eOrB, ev_eOrBN,
  ev_chain, ev_chK1, ev_chK2, ev_chK3, ev_chK3T, ev_chK3F, ev_seq, ev_thn, ev_thnR, ev_thnB, ev_thnC, ev_next, ev_break, ev_cont, ev_ret, ev_retK, ev_retN, ev_expr, ev_exprK, ev_asg, ev_asgK, ev_nxK, ev_gNm, ev_gTp, ev_gsNil, ev_gsCons, ev_gsK, ev_gSb, ev_gSbK1, ev_par, ev_parK2, ev_parK3, ev_mt,
  ev_add, ev_sub, ev_mul, ev_fdiv, ev_mod, ev_pow, ev_shl, ev_neg, ev_lt, ev_le, ev_gt, ev_ge, ev_eqI, ev_neI, ev_abs, ev_intB, ev_intI, ev_minI, ev_maxI, ev_bits, ev_get0, ev_get1, ev_get2, bd_ok, bd_none, ev_whT, ev_whF, ev_whD, ev_wh2, ev_wh2c, ev_wh2r, ev_wh2b, ev_for, ev_forK, ev_fr1, ev_fr2, ev_fr2c, ev_fr2r, ev_fr2b, ev_lc, ev_lcK, ev_lc1, ev_lc2T, ev_lc2F, ev_lc2D, ev_yes, ev_iSeq, ev_seqT, ev_seqS, ev_iRange, ev_iEnum, ev_iZip,
  ev_neIS, ev_eqIS, ev_neSS, ev_eqSS, ev_isN, ev_isNot, isNon_t, isNon_n, isNon_i, isNon_r, decide_true, decide_false, decide_eq_true_eq, eq_self, if_true, if_false,
  out_rt, out_nx, List.map_cons, List.map_nil, List.cons_append, List.nil_append, List.replicate, List.set_cons_zero, List.set_cons_succ, Nat.reduceSub, Int.reduceEq, Int.reduceLT, Int.reduceLE, Int.reduceMul, Int.reduceAdd, Int.reduceSub, Bool.not_true, Bool.not_false])
local macro_rules | `(tactic| walk_at "go") => `(tactic| repeat (first | walk_at "ev" | walk_at "fs"))
local macro_rules | `(tactic| walk_at "wv") => `(tactic| simp only [wp_ok, kn_eq, outQ_rt, outQ_nx, turnQ_nx, turnQ_ct, turnQ_bk, turnQ_rt, whQ_nx, whQ_bk, whQ_rt, whT_t, whT_f, whT_d, lcT_t, lcT_f, lcT_d])
local macro_rules | `(tactic| walk_at "wb") => `(tactic| with_reducible refine wp_bd ?_)
local macro_rules | `(tactic| walk_at "w") => `(tactic| repeat (first | walk_at "ev" | walk_at "wv" | walk_at "fs" | walk_at "wb"))
local macro_rules | `(tactic| walk_at "bd") => `(tactic| exact Bd.fm rfl)
local macro_rules | `(tactic| walk_at "fs") => `(tactic| simp only [p10_3, p10_6, p10_7, p10_8, p10_9, p10_12, p10_15, p10_18, p10_60])
local macro_rules | `(tactic| walk_at "fs") => `(tactic| simp only [ev_pNil, ev_pCons, ev_pK1, ev_pK2, ev_pK3s, ev_dict, ev_gSb, ev_gSbK1])
local macro_rules | `(tactic| walk_at "fs") => `(tactic| simp only [wipe_nil, wipe_cons])
local macro_rules | `(tactic| walk_at "fs") => `(tactic| simp only [ev_make, ev_fldSet, ev_fsK1, ev_om, ev_omK2, ev_intB])
local macro_rules | `(tactic| walk_at "fs") => `(tactic| simp only [ev_iEnumV, ev_enumV, isi_str, ev_isN, ev_isNot])
local macro_rules | `(tactic| walk_at "fs") => `(tactic| simp only [ev_sl, ev_slK1, ev_slK2, ev_slK3, ev_oSome, ev_oSomeK, ev_oNone, slT4, slT3, len_tup, ev_get3, ev_get4, th_rows, th_nm])
local macro_rules | `(tactic| walk_at "fs") => `(tactic| simp only [List.isEmpty_nil, List.isEmpty_cons])
theorem same_place {p q : Int} {x u m n m1 n1 : Int} (hq : 0 < q) (h1 : (Tm.fr m n).Nm) (h2 : (Tm.fr m1 n1).Nm) (e1 : m * q = (x * q + u * p) * n) (e2 : m1 * q = (x * q + u * p) * n1) : m = m1 ∧ n = n1 := by
  refine fr_inj h1 h2 ?_
  refine Int.eq_of_mul_eq_mul_right (show q ≠ 0 by omega) ?_
  have a1 : m * n1 * q = (m * q) * n1 := by grind
  have a2 : m1 * n * q = (m1 * q) * n := by grind
  rw [a1, a2, e1, e2]
  grind
theorem repr_frs {m n m' n' : Int} {h : Hs} (b1 : Bd 1500 m) (b2 : Bd 1500 n) (b3 : Bd 1500 m') (b4 : Bd 1500 n') : ∃ s, ∀ h, reprG [frs m n m' n'] h = some (.str s, h) :=
  ⟨_, fun h => repr_tupD (k := 20000) (ds := [TD (.fr m n), TD (.fr m' n')]) rfl (.mono (.cons (RpOk.tup (.cons (.int b1 (by decide)) (.cons (.int b2 (by decide)) .nil))) (.cons (RpOk.tup (.cons (.int b3 (by decide)) (.cons (.int b4 (by decide)) .nil))) .nil)) (by decide)) (by decide)⟩
theorem repr_pl {p : Pc} (ok : PcOk p) : ∃ s, ∀ h, reprG [p.pl] h = some (.str s, h) :=
  ⟨_, fun h => repr_tupD (k := 20000) (ds := [lnD p.x p.u, lnD p.y p.v]) rfl (.mono (.cons (lnP_rp ok.x ok.u) (.cons (lnP_rp ok.y ok.v) .nil)) (by decide)) (by decide)⟩
theorem law_again {h : Hs} {W nw : Nat} {ths : List Th} {a : Th} {t : Tm} {o0 o1 o2 o4 o5 o6 o9 o10 o11 : Option D} {R : Out × Rho → Hs → Prop} (w : Wl W (ths.map Th.D) (List.replicate nw arcD) h) (nd : (ths.map Th.nm).Nodup) (ok : ∀ a ∈ ths, ThOk a) (ha : a ∈ ths) (k : TkB t)
    (q : ∀ h', KA h h' → R (.nx, [o0, o1, o2, some (.ref W), o4, o5, o6, some (TD t), some a.D, o9, o10, o11]) h') :
    WP (q_law_L3 [o0, o1, o2, some (.ref W), o4, o5, o6, some (TD t), some a.D, o9, o10, o11] h) R := by
  have oa := ok a ha
  obtain ⟨f, hf⟩ := SL.fl_ex k.nm
  obtain ⟨f0, f1⟩ := fl_bd k hf
  have po := pcT_ok oa f0 f1
  unfold q_law_L3
  walk_at "w"
  refine place_at_wp w nd ha oa k hf fun h1 d k1 hd => ?_
  walk_at "w"
  cases t with
  | fr p q' =>
    obtain ⟨m, n, m', n', rfl, n1, n2, g1, g2, c1, c2, c3, c4⟩ := hd
    obtain ⟨s, es⟩ := repr_frs (h := h) c1 c2 c3 c4
    rw [es]
    walk_at "w"
    refine where_wp oa k hf fun h2 d2 k2 hd2 => ?_
    walk_at "w"
    obtain ⟨m3, n3, m4, n4, rfl, n5, n6, g3, g4⟩ := hd2
    obtain ⟨rfl, rfl⟩ := same_place k.nm.1 n5 n1 g3 g1
    obtain ⟨rfl, rfl⟩ := same_place k.nm.1 n6 n2 g4 g2
    rw [es]
    walk_at "w"
    exact q _ (k1.trans k2)
  | rt c b a' w' =>
    have hd : d = _ := hd
    subst hd
    obtain ⟨s, es⟩ := repr_pl po
    rw [es]
    walk_at "w"
    refine where_wp oa k hf fun h2 d2 k2 hd2 => ?_
    walk_at "w"
    have hd2 : d2 = _ := hd2
    subst hd2
    rw [es]
    walk_at "w"
    exact q _ (k1.trans k2)
theorem wp_lcW6 : True := trivial
theorem law_ok (ns : List Int) (hl : ns.length ≤ 63) (hb : ∀ z ∈ ns, PySem.Builtin.Int.intBits z ≤ 1048576) : ∃ h', f_law [.ref 0] [.fz (ns.map D.int)] = some (.bl true, h') := by
  suffices h : WP (f_law [.ref 0] [.fz (ns.map D.int)]) fun d _ => d = .bl true by
    obtain ⟨d, h', e, rfl⟩ := h
    exact ⟨h', e⟩
  have h0 : getL [.fz (ns.map D.int)] 0 = some (ns.map D.int) := rfl
  generalize ([.fz (ns.map D.int)] : Hs) = Z at h0 ⊢
  unfold f_law
  refine wp_run rfl ?_
  rw [m_law_q]
  walk_at "w"
  refine started_wp h0 hl hb fun h1 n r k1 ln lr w1 => ?_
  walk_at "w"
  obtain ⟨nl, rl, sl⟩ := nr_lt w1
  refine worlds_wp w1 (by decide) (by decide) (by decide) fun ths L W nw dist h2 l1 l2 ok nd lw d0 d1 lL lW eL wl w2 k2 => ?_
  walk_at "w"
  refine begins_wp (getL_lst eL) ok l2 fun h3 B k3 lB e3 => ?_
  walk_at "w"
  have w3 := w2.keep k3
  have eL3 := k3.get eL trivial
  have wl3 := wl.keep k3
  have nr3 := nr_lt w3
  have l12 := k2.1
  rw [ev_range1 (by decide) (by decide)]
  walk_at "w"
  have bd0 := jts_ok ok
  refine wp_lc 6 (small_line (by decide)) (fun i acc g => ∃ ts : List Tm, acc = ts.map TD ∧ ts.length = i ∧ (∀ t ∈ ts, TkB t) ∧ Wm 0 r n (1300 + 12 * i) g ∧ Keep (NR n r) h3 g) ⟨[], rfl, rfl, by simp, w3, Keep.refl⟩ ?_ ?_
  · rintro i hi acc g la ⟨ts, rfl, lt, okt, wg, kg⟩
    refine ⟨.int (0 + (i : Nat)), _, g, srcR_in hi, rfl, true, g, rfl, ?_⟩
    walk_at "w"
    refine a_time_wp wg (by omega) fun t g' k w' k' => ?_
    refine ⟨ts ++ [t], by rw [List.map_append]; rfl, by simp [lt], fun u hu => ?_, w'.up (by omega), kg.trans k'⟩
    rcases List.mem_append.mp hu with hu | hu
    · exact okt u hu
    · rw [List.mem_singleton.mp hu]; exact k
  rintro acc g la ⟨ts, rfl, lt, okt, wg, kg⟩
  refine ⟨srcR_out (Nat.le_refl _), ?_⟩
  walk_at "w"
  have eB : getL (g ++ [AO.lst (ts.map TD)]) B = some ((ssI (0 :: tms ths)).map D.int) := getL_lst (get_app _ (kg.get e3 ⟨by omega, by omega⟩))
  have e6 : (g ++ [AO.lst (ts.map TD)])[g.length]? = some (.lst (ts.map TD)) := get_last
  have eLg := get_app [AO.lst (ts.map TD)] (kg.get eL3 ⟨by omega, by omega⟩)
  have wlg := (wl3.keepR kg (by omega) (by omega)).keep (ka_app (G := [AO.lst (ts.map TD)]))
  clear wg kg e3 w3 eL3 wl3
  generalize hS : g.length = S at *
  generalize g ++ [AO.lst (ts.map TD)] = G at *
  rw [slL eB]
  walk_at "w"
  rw [show (some (5 : Int)) = some ((5 : Nat) : Int) from rfl, cut_to, ← List.map_take]
  generalize hbs : (ssI (0 :: tms ths)).take 5 = bs
  have okb : ∀ b ∈ bs, 0 ≤ b ∧ b < 2 ^ 30 := fun b hb => bd0 b (by rw [← hbs] at hb; exact List.mem_of_mem_take hb)
  have lb : bs.length ≤ 5 := by rw [← hbs]; exact List.length_take_le _ _
  rw [ev_seqL getL_last]
  walk_at "w"
  refine wp_lcmapT bs D.int (fun b => TD (.fr b 1)) (small_line (by omega)) (fun g1 kg i => srcL_get (kg.getL getL_last) i) (fun b hb g1 kg => ?_) (fun g1 kg1 => ?_)
  · refine ⟨_, rfl, ?_⟩
    walk_at "w"
    exact ⟨rfl, Keep.refl⟩
  walk_at "w"
  have k1' : KA G g1 := ka_app.trans kg1
  rw [ev_addL (get_app _ (k1'.get e6 trivial)) get_last (Nat.le_trans (show _ ≤ 4000 by simp only [List.length_map]; omega) (Nat.le_of_ble_eq_true rfl))]
  walk_at "w"
  have k2' : KA G (g1 ++ [AO.lst (bs.map fun b => TD (.fr b 1))] ++ [AO.lst (ts.map TD ++ bs.map fun b => TD (.fr b 1))]) := (k1'.trans ka_app).trans ka_app
  have e7 : (g1 ++ [AO.lst (bs.map fun b => TD (.fr b 1))] ++ [AO.lst (ts.map TD ++ bs.map fun b => TD (.fr b 1))])[(g1 ++ [AO.lst (bs.map fun b => TD (.fr b 1))]).length]? = some (.lst (ts.map TD ++ bs.map fun b => TD (.fr b 1))) := get_last
  generalize (g1 ++ [AO.lst (bs.map fun b => TD (.fr b 1))]).length = S2 at *
  generalize g1 ++ [AO.lst (bs.map fun b => TD (.fr b 1))] ++ [AO.lst (ts.map TD ++ bs.map fun b => TD (.fr b 1))] = G2 at *
  rw [slL (k2'.getL eB)]
  walk_at "w"
  rw [show (some (5 : Int)) = some ((5 : Nat) : Int) from rfl, cut_to, ← List.map_take, hbs]
  rw [ev_seqL getL_last]
  walk_at "w"
  refine wp_lcmapT bs D.int (fun b => TD (.fr (2 * b + 1) 2)) (small_line (by omega)) (fun g1 kg i => srcL_get (kg.getL getL_last) i) (fun b hb g1 kg => ?_) (fun g3 kg3 => ?_)
  · refine ⟨_, rfl, ?_⟩
    have hb2 := okb b hb
    have bb : Bd 40 b := Bd.of_range (by omega) (by omega)
    walk_at "w"
    exact ⟨rfl, Keep.refl⟩
  walk_at "w"
  have k3' : KA G2 g3 := ka_app.trans kg3
  rw [ev_addL (get_app _ (k3'.get e7 trivial)) get_last (Nat.le_trans (show _ ≤ 4000 by simp only [List.length_map, List.length_append]; omega) (Nat.le_of_ble_eq_true rfl))]
  walk_at "w"
  have k4' : KA G (g3 ++ [AO.lst (bs.map fun b => TD (.fr (2 * b + 1) 2))] ++ [AO.lst (ts.map TD ++ (bs.map fun b => TD (.fr b 1)) ++ bs.map fun b => TD (.fr (2 * b + 1) 2))]) := ((k2'.trans k3').trans ka_app).trans ka_app
  have eT : getL (g3 ++ [AO.lst (bs.map fun b => TD (.fr (2 * b + 1) 2))] ++ [AO.lst (ts.map TD ++ (bs.map fun b => TD (.fr b 1)) ++ bs.map fun b => TD (.fr (2 * b + 1) 2))]) (g3 ++ [AO.lst (bs.map fun b => TD (.fr (2 * b + 1) 2))]).length = some ((ts ++ (bs.map fun b => Tm.fr b 1) ++ bs.map fun b => Tm.fr (2 * b + 1) 2).map TD) := by
    rw [getL_last, List.map_append, List.map_append, List.map_map, List.map_map]
    rfl
  rw [ev_seqL eT]
  walk_at "w"
  generalize (g3 ++ [AO.lst (bs.map fun b => TD (.fr (2 * b + 1) 2))]).length = S3 at *
  generalize g3 ++ [AO.lst (bs.map fun b => TD (.fr (2 * b + 1) 2))] ++ [AO.lst (ts.map TD ++ (bs.map fun b => TD (.fr b 1)) ++ bs.map fun b => TD (.fr (2 * b + 1) 2))] = G3 at *
  have okT : ∀ t ∈ ts ++ (bs.map fun b => Tm.fr b 1) ++ bs.map fun b => Tm.fr (2 * b + 1) 2, TkB t := fun t ht => by
    rcases List.mem_append.mp ht with ht | ht
    · rcases List.mem_append.mp ht with ht | ht
      · exact okt t ht
      · obtain ⟨b, hb, rfl⟩ := List.mem_map.mp ht
        exact tk_whole (okb b hb).1 (by have := (okb b hb).2; omega)
    · obtain ⟨b, hb, rfl⟩ := List.mem_map.mp ht
      exact tk_half (okb b hb).1 (okb b hb).2
  have wl3 := wlg.keep k4'
  have eL3 := k4'.get eLg trivial
  generalize ts ++ (bs.map fun b => Tm.fr b 1) ++ (bs.map fun b => Tm.fr (2 * b + 1) 2) = T at *
  refine wp_frT T TD (fun i ρ g => ∃ x7 x8 x9 x10 x11, ρ = [some (.ref 0), some (.ref n), some (.ref L), some (.ref W), some (.int dist), some (.ref B), some (.ref S3), x7, x8, x9, x10, x11] ∧ KA G3 g) ?_ ⟨_, _, _, _, _, rfl, Keep.refl⟩ ?_ ?_
  · rintro i ρ g ⟨x7, x8, x9, x10, x11, rfl, kg⟩
    exact srcL_get (kg.getL eT) i
  · rintro i hi ρ g ⟨x7, x8, x9, x10, x11, rfl, kg⟩
    refine ⟨_, rfl, ?_⟩
    have kt := okT _ (List.getElem_mem hi)
    unfold q_law_L1
    walk_at "w"
    rw [ev_seqL (kg.getL (getL_lst eL3))]
    walk_at "w"
    refine wp_frT ths Th.D (fun j ρ g' => ∃ x8 x9 x10 x11, ρ = [some (.ref 0), some (.ref n), some (.ref L), some (.ref W), some (.int dist), some (.ref B), some (.ref S3), some (TD T[i]), x8, x9, x10, x11] ∧ KA G3 g') ?_ ⟨_, _, _, _, rfl, kg⟩ ?_ ?_
    · rintro j ρ g' ⟨x8, x9, x10, x11, rfl, kg'⟩
      exact srcL_get (kg'.getL (getL_lst eL3)) j
    · rintro j hj ρ g' ⟨x8, x9, x10, x11, rfl, kg'⟩
      refine ⟨_, rfl, ?_⟩
      unfold q_law_L2
      walk_at "w"
      rw [ev_range1 (by decide) (by decide)]
      walk_at "w"
      refine wp_fr 2 (fun i' ρ g2 => ∃ x9 x10 x11, ρ = [some (.ref 0), some (.ref n), some (.ref L), some (.ref W), some (.int dist), some (.ref B), some (.ref S3), some (TD T[i]), some ths[j].D, x9, x10, x11] ∧ KA G3 g2) ⟨_, _, _, rfl, kg'⟩ ?_ ?_
      · rintro i' hi' ρ g2 ⟨x9, x10, x11, rfl, kg2⟩
        refine ⟨.int (0 + (i' : Nat)), _, g2, srcR_in hi', rfl, ?_⟩
        refine law_again (wl3.keep kg2) nd ok (List.getElem_mem hj) kt fun g4 k4 => ?_
        exact ⟨_, _, _, rfl, kg2.trans k4⟩
      · rintro ρ g2 ⟨x9, x10, x11, rfl, kg2⟩
        exact ⟨srcR_out (Nat.le_refl _), _, _, _, _, rfl, kg2⟩
    · rintro ρ g' ⟨x8, x9, x10, x11, rfl, kg'⟩
      exact ⟨_, _, _, _, _, rfl, kg'⟩
  · rintro ρ g ⟨x7, x8, x9, x10, x11, rfl, kg⟩
    walk_at "w"
end K22
namespace K22
open PySem PySem.Spec PyProof.Rows L2 SL
set_option maxHeartbeats 0 in
theorem all_mk {l : PySem.W.OpenLaw} {w : World} {K : PySem.W.Frag} {h : Heap} {mg : Str → Option Value} {fa f0 f1 f2 f3 f4 f5 f6 f7 f8 f9 f10 f11 f12 f13 f14 f15 f16 f17 f18 f19 f20 f21 f22 f23 f24 f25 f26 f27 f28 f29 f30 f31 f32 f33 f34 f35 f36 f37 f38 f39 f40 f41 f42 f43 f44 f45 : Addr} (X : K.In h) (G : h.Ns mainGlobals mg) (hfa : mg "law" = some (.ref fa))
    {od0 an0 : Option Addr} {sl0 : Array (Option Value)} {oc0 kV0 dc0 pm0 cd0 ct0 : Value}
    {od1 an1 : Option Addr} {sl1 : Array (Option Value)} {oc1 kV1 dc1 pm1 cd1 ct1 : Value}
    {od2 an2 : Option Addr} {sl2 : Array (Option Value)} {oc2 kV2 dc2 pm2 cd2 ct2 : Value}
    {od3 an3 : Option Addr} {sl3 : Array (Option Value)} {oc3 kV3 dc3 pm3 cd3 ct3 : Value}
    {od4 an4 : Option Addr} {sl4 : Array (Option Value)} {oc4 kV4 dc4 pm4 cd4 ct4 : Value}
    {od5 an5 : Option Addr} {sl5 : Array (Option Value)} {oc5 kV5 dc5 pm5 cd5 ct5 : Value}
    {od6 an6 : Option Addr} {sl6 : Array (Option Value)} {oc6 kV6 dc6 pm6 cd6 ct6 : Value}
    {od7 an7 : Option Addr} {sl7 : Array (Option Value)} {oc7 kV7 dc7 pm7 cd7 ct7 : Value}
    {od8 an8 : Option Addr} {sl8 : Array (Option Value)} {oc8 kV8 dc8 pm8 cd8 ct8 : Value}
    {od9 an9 : Option Addr} {sl9 : Array (Option Value)} {oc9 kV9 dc9 pm9 cd9 ct9 : Value}
    {od10 an10 : Option Addr} {sl10 : Array (Option Value)} {oc10 kV10 dc10 pm10 cd10 ct10 : Value}
    {od11 an11 : Option Addr} {sl11 : Array (Option Value)} {oc11 kV11 dc11 pm11 cd11 ct11 : Value}
    {od12 an12 : Option Addr} {sl12 : Array (Option Value)} {oc12 kV12 dc12 pm12 cd12 ct12 : Value}
    {od13 an13 : Option Addr} {sl13 : Array (Option Value)} {oc13 kV13 dc13 pm13 cd13 ct13 : Value}
    {od14 an14 : Option Addr} {sl14 : Array (Option Value)} {oc14 kV14 dc14 pm14 cd14 ct14 : Value}
    {od15 an15 : Option Addr} {sl15 : Array (Option Value)} {oc15 kV15 dc15 pm15 cd15 ct15 : Value}
    {od16 an16 : Option Addr} {sl16 : Array (Option Value)} {oc16 kV16 dc16 pm16 cd16 ct16 : Value}
    {od17 an17 : Option Addr} {sl17 : Array (Option Value)} {oc17 kV17 dc17 pm17 cd17 ct17 : Value}
    {od18 an18 : Option Addr} {sl18 : Array (Option Value)} {oc18 kV18 dc18 pm18 cd18 ct18 : Value}
    {od19 an19 : Option Addr} {sl19 : Array (Option Value)} {oc19 kV19 dc19 pm19 cd19 ct19 : Value}
    {od20 an20 : Option Addr} {sl20 : Array (Option Value)} {oc20 kV20 dc20 pm20 cd20 ct20 : Value}
    {od21 an21 : Option Addr} {sl21 : Array (Option Value)} {oc21 kV21 dc21 pm21 cd21 ct21 : Value}
    {od22 an22 : Option Addr} {sl22 : Array (Option Value)} {oc22 kV22 dc22 pm22 cd22 ct22 : Value}
    {od23 an23 : Option Addr} {sl23 : Array (Option Value)} {oc23 kV23 dc23 pm23 cd23 ct23 : Value}
    {od24 an24 : Option Addr} {sl24 : Array (Option Value)} {oc24 kV24 dc24 pm24 cd24 ct24 : Value}
    {od25 an25 : Option Addr} {sl25 : Array (Option Value)} {oc25 kV25 dc25 pm25 cd25 ct25 : Value}
    {od26 an26 : Option Addr} {sl26 : Array (Option Value)} {oc26 kV26 dc26 pm26 cd26 ct26 : Value}
    {od27 an27 : Option Addr} {sl27 : Array (Option Value)} {oc27 kV27 dc27 pm27 cd27 ct27 : Value}
    {od28 an28 : Option Addr} {sl28 : Array (Option Value)} {oc28 kV28 dc28 pm28 cd28 ct28 : Value}
    {od29 an29 : Option Addr} {sl29 : Array (Option Value)} {oc29 kV29 dc29 pm29 cd29 ct29 : Value}
    {od30 an30 : Option Addr} {sl30 : Array (Option Value)} {oc30 kV30 dc30 pm30 cd30 ct30 : Value}
    {od31 an31 : Option Addr} {sl31 : Array (Option Value)} {oc31 kV31 dc31 pm31 cd31 ct31 : Value}
    {od32 an32 : Option Addr} {sl32 : Array (Option Value)} {oc32 kV32 dc32 pm32 cd32 ct32 : Value}
    {od33 an33 : Option Addr} {sl33 : Array (Option Value)} {oc33 kV33 dc33 pm33 cd33 ct33 : Value}
    {od34 an34 : Option Addr} {sl34 : Array (Option Value)} {oc34 kV34 dc34 pm34 cd34 ct34 : Value}
    {od35 an35 : Option Addr} {sl35 : Array (Option Value)} {oc35 kV35 dc35 pm35 cd35 ct35 : Value}
    {od36 an36 : Option Addr} {sl36 : Array (Option Value)} {oc36 kV36 dc36 pm36 cd36 ct36 : Value}
    {od37 an37 : Option Addr} {sl37 : Array (Option Value)} {oc37 kV37 dc37 pm37 cd37 ct37 : Value}
    {od38 an38 : Option Addr} {sl38 : Array (Option Value)} {oc38 kV38 dc38 pm38 cd38 ct38 : Value}
    {od39 an39 : Option Addr} {sl39 : Array (Option Value)} {oc39 kV39 dc39 pm39 cd39 ct39 : Value}
    {od40 an40 : Option Addr} {sl40 : Array (Option Value)} {oc40 kV40 dc40 pm40 cd40 ct40 : Value}
    {od41 an41 : Option Addr} {sl41 : Array (Option Value)} {oc41 kV41 dc41 pm41 cd41 ct41 : Value}
    {od42 an42 : Option Addr} {sl42 : Array (Option Value)} {oc42 kV42 dc42 pm42 cd42 ct42 : Value}
    {od43 an43 : Option Addr} {sl43 : Array (Option Value)} {oc43 kV43 dc43 pm43 cd43 ct43 : Value}
    {od44 an44 : Option Addr} {sl44 : Array (Option Value)} {oc44 kV44 dc44 pm44 cd44 ct44 : Value}
    {od45 an45 : Option Addr} {sl45 : Array (Option Value)} {oc45 kV45 dc45 pm45 cd45 ct45 : Value}
    {C_World : Addr} (aC_World : PySem.W.nsIn K mainGlobals "World" = some (some (.ref C_World))) (pg_World : PySem.W.plainGet K C_World Str.empty = true) (hd_World : PySem.W.hasDictIn K C_World = true) (po_World : PySem.W.plainOver K C_World = true) (sa_World : PySem.W.findIn K (.ref C_World) "__setattr__" = some (some (.builtin "object.__setattr__"))) (mk_World : PySem.W.makesIn K C_World = true) (kC_World : PySem.W.keepIn K (.ref C_World) = true)
    (nf_World_0 : PySem.W.findIn K (.ref C_World) "told_things" = some none)
    (nf_World_1 : PySem.W.findIn K (.ref C_World) "told_walls" = some none)
    (a0 : PySem.W.nsIn K mainGlobals "_law_started" = some (some (.ref f0))) (l0 : K.lookup f0 = some ⟨oc0, od0, .func (PySem.W.fnOf "_law_started" "_law_started" (defArgs s__law_started) (defBody s__law_started) (defScope s__law_started) .none kV0 dc0 pm0 an0 cd0 ct0), sl0⟩) (e0 : PySem.W.codeIn K cd0 "_law_started" = true) (p0 : PySem.W.keepIn K (.ref f0) = true)
    (a1 : PySem.W.nsIn K mainGlobals "_law_draw" = some (some (.ref f1))) (l1 : K.lookup f1 = some ⟨oc1, od1, .func (PySem.W.fnOf "_law_draw" "_law_draw" (defArgs s__law_draw) (defBody s__law_draw) (defScope s__law_draw) .none kV1 dc1 pm1 an1 cd1 ct1), sl1⟩) (e1 : PySem.W.codeIn K cd1 "_law_draw" = true) (p1 : PySem.W.keepIn K (.ref f1) = true)
    (a2 : PySem.W.nsIn K mainGlobals "_law_of" = some (some (.ref f2))) (l2 : K.lookup f2 = some ⟨oc2, od2, .func (PySem.W.fnOf "_law_of" "_law_of" (defArgs s__law_of) (defBody s__law_of) (defScope s__law_of) .none kV2 dc2 pm2 an2 cd2 ct2), sl2⟩) (e2 : PySem.W.codeIn K cd2 "_law_of" = true) (p2 : PySem.W.keepIn K (.ref f2) = true)
    (a3 : PySem.W.nsIn K mainGlobals "_law_distance" = some (some (.ref f3))) (l3 : K.lookup f3 = some ⟨oc3, od3, .func (PySem.W.fnOf "_law_distance" "_law_distance" (defArgs s__law_distance) (defBody s__law_distance) (defScope s__law_distance) .none kV3 dc3 pm3 an3 cd3 ct3), sl3⟩) (e3 : PySem.W.codeIn K cd3 "_law_distance" = true) (p3 : PySem.W.keepIn K (.ref f3) = true)
    (a4 : PySem.W.nsIn K mainGlobals "_law_brought" = some (some (.ref f4))) (l4 : K.lookup f4 = some ⟨oc4, od4, .func (PySem.W.fnOf "_law_brought" "_law_brought" (defArgs s__law_brought) (defBody s__law_brought) (defScope s__law_brought) .none kV4 dc4 pm4 an4 cd4 ct4), sl4⟩) (e4 : PySem.W.codeIn K cd4 "_law_brought" = true) (p4 : PySem.W.keepIn K (.ref f4) = true)
    (a5 : PySem.W.nsIn K mainGlobals "_law_beside" = some (some (.ref f5))) (l5 : K.lookup f5 = some ⟨oc5, od5, .func (PySem.W.fnOf "_law_beside" "_law_beside" (defArgs s__law_beside) (defBody s__law_beside) (defScope s__law_beside) .none kV5 dc5 pm5 an5 cd5 ct5), sl5⟩) (e5 : PySem.W.codeIn K cd5 "_law_beside" = true) (p5 : PySem.W.keepIn K (.ref f5) = true)
    (a6 : PySem.W.nsIn K mainGlobals "_law_rows" = some (some (.ref f6))) (l6 : K.lookup f6 = some ⟨oc6, od6, .func (PySem.W.fnOf "_law_rows" "_law_rows" (defArgs s__law_rows) (defBody s__law_rows) (defScope s__law_rows) .none kV6 dc6 pm6 an6 cd6 ct6), sl6⟩) (e6 : PySem.W.codeIn K cd6 "_law_rows" = true) (p6 : PySem.W.keepIn K (.ref f6) = true)
    (a7 : PySem.W.nsIn K mainGlobals "_law_things" = some (some (.ref f7))) (l7 : K.lookup f7 = some ⟨oc7, od7, .func (PySem.W.fnOf "_law_things" "_law_things" (defArgs s__law_things) (defBody s__law_things) (defScope s__law_things) .none kV7 dc7 pm7 an7 cd7 ct7), sl7⟩) (e7 : PySem.W.codeIn K cd7 "_law_things" = true) (p7 : PySem.W.keepIn K (.ref f7) = true)
    (a8 : PySem.W.findIn K (.ref C_World) "__init__" = some (some (.ref f8))) (i8 : PySem.W.isFn K (.ref f8) = true) (l8 : K.lookup f8 = some ⟨oc8, od8, .func (PySem.W.fnOf "__init__" "World.__init__" (defArgs s_World_init) (defBody s_World_init) (defScope s_World_init) .none kV8 dc8 pm8 an8 cd8 ct8), sl8⟩) (e8 : PySem.W.codeIn K cd8 "World.__init__" = true) (p8 : PySem.W.keepIn K (.ref f8) = true)
    (a9 : PySem.W.nsIn K mainGlobals "_law_worlds" = some (some (.ref f9))) (l9 : K.lookup f9 = some ⟨oc9, od9, .func (PySem.W.fnOf "_law_worlds" "_law_worlds" (defArgs s__law_worlds) (defBody s__law_worlds) (defScope s__law_worlds) .none kV9 dc9 pm9 an9 cd9 ct9), sl9⟩) (e9 : PySem.W.codeIn K cd9 "_law_worlds" = true) (p9 : PySem.W.keepIn K (.ref f9) = true)
    (a10 : PySem.W.nsIn K mainGlobals "_law_begins" = some (some (.ref f10))) (l10 : K.lookup f10 = some ⟨oc10, od10, .func (PySem.W.fnOf "_law_begins" "_law_begins" (defArgs s__law_begins) (defBody s__law_begins) (defScope s__law_begins) .none kV10 dc10 pm10 an10 cd10 ct10), sl10⟩) (e10 : PySem.W.codeIn K cd10 "_law_begins" = true) (p10 : PySem.W.keepIn K (.ref f10) = true)
    (a11 : PySem.W.nsIn K mainGlobals "_law_common" = some (some (.ref f11))) (l11 : K.lookup f11 = some ⟨oc11, od11, .func (PySem.W.fnOf "_law_common" "_law_common" (defArgs s__law_common) (defBody s__law_common) (defScope s__law_common) .none kV11 dc11 pm11 an11 cd11 ct11), sl11⟩) (e11 : PySem.W.codeIn K cd11 "_law_common" = true) (p11 : PySem.W.keepIn K (.ref f11) = true)
    (a12 : PySem.W.nsIn K mainGlobals "_law_whole" = some (some (.ref f12))) (l12 : K.lookup f12 = some ⟨oc12, od12, .func (PySem.W.fnOf "_law_whole" "_law_whole" (defArgs s__law_whole) (defBody s__law_whole) (defScope s__law_whole) .none kV12 dc12 pm12 an12 cd12 ct12), sl12⟩) (e12 : PySem.W.codeIn K cd12 "_law_whole" = true) (p12 : PySem.W.keepIn K (.ref f12) = true)
    (a13 : PySem.W.nsIn K mainGlobals "_law_is_square" = some (some (.ref f13))) (l13 : K.lookup f13 = some ⟨oc13, od13, .func (PySem.W.fnOf "_law_is_square" "_law_is_square" (defArgs s__law_is_square) (defBody s__law_is_square) (defScope s__law_is_square) .none kV13 dc13 pm13 an13 cd13 ct13), sl13⟩) (e13 : PySem.W.codeIn K cd13 "_law_is_square" = true) (p13 : PySem.W.keepIn K (.ref f13) = true)
    (a14 : PySem.W.nsIn K mainGlobals "_law_sum_sign" = some (some (.ref f14))) (l14 : K.lookup f14 = some ⟨oc14, od14, .func (PySem.W.fnOf "_law_sum_sign" "_law_sum_sign" (defArgs s__law_sum_sign) (defBody s__law_sum_sign) (defScope s__law_sum_sign) .none kV14 dc14 pm14 an14 cd14 ct14), sl14⟩) (e14 : PySem.W.codeIn K cd14 "_law_sum_sign" = true) (p14 : PySem.W.keepIn K (.ref f14) = true)
    (a15 : PySem.W.nsIn K mainGlobals "_law_sign" = some (some (.ref f15))) (l15 : K.lookup f15 = some ⟨oc15, od15, .func (PySem.W.fnOf "_law_sign" "_law_sign" (defArgs s__law_sign) (defBody s__law_sign) (defScope s__law_sign) .none kV15 dc15 pm15 an15 cd15 ct15), sl15⟩) (e15 : PySem.W.codeIn K cd15 "_law_sign" = true) (p15 : PySem.W.keepIn K (.ref f15) = true)
    (a16 : PySem.W.nsIn K mainGlobals "_law_is_time" = some (some (.ref f16))) (l16 : K.lookup f16 = some ⟨oc16, od16, .func (PySem.W.fnOf "_law_is_time" "_law_is_time" (defArgs s__law_is_time) (defBody s__law_is_time) (defScope s__law_is_time) .none kV16 dc16 pm16 an16 cd16 ct16), sl16⟩) (e16 : PySem.W.codeIn K cd16 "_law_is_time" = true) (p16 : PySem.W.keepIn K (.ref f16) = true)
    (a17 : PySem.W.nsIn K mainGlobals "_law_a_time" = some (some (.ref f17))) (l17 : K.lookup f17 = some ⟨oc17, od17, .func (PySem.W.fnOf "_law_a_time" "_law_a_time" (defArgs s__law_a_time) (defBody s__law_a_time) (defScope s__law_a_time) .none kV17 dc17 pm17 an17 cd17 ct17), sl17⟩) (e17 : PySem.W.codeIn K cd17 "_law_a_time" = true) (p17 : PySem.W.keepIn K (.ref f17) = true)
    (a18 : PySem.W.findIn K (.ref C_World) "told" = some (some (.ref f18))) (i18 : PySem.W.isFn K (.ref f18) = true) (l18 : K.lookup f18 = some ⟨oc18, od18, .func (PySem.W.fnOf "told" "World.told" (defArgs s_World_told) (defBody s_World_told) (defScope s_World_told) .none kV18 dc18 pm18 an18 cd18 ct18), sl18⟩) (e18 : PySem.W.codeIn K cd18 "World.told" = true) (p18 : PySem.W.keepIn K (.ref f18) = true)
    (a19 : PySem.W.nsIn K mainGlobals "thing_of" = some (some (.ref f19))) (l19 : K.lookup f19 = some ⟨oc19, od19, .func (PySem.W.fnOf "thing_of" "thing_of" (defArgs s_thing_of) (defBody s_thing_of) (defScope s_thing_of) .none kV19 dc19 pm19 an19 cd19 ct19), sl19⟩) (e19 : PySem.W.codeIn K cd19 "thing_of" = true) (p19 : PySem.W.keepIn K (.ref f19) = true)
    (a20 : PySem.W.nsIn K mainGlobals "is_number" = some (some (.ref f20))) (l20 : K.lookup f20 = some ⟨oc20, od20, .func (PySem.W.fnOf "is_number" "is_number" (defArgs s_is_number) (defBody s_is_number) (defScope s_is_number) .none kV20 dc20 pm20 an20 cd20 ct20), sl20⟩) (e20 : PySem.W.codeIn K cd20 "is_number" = true) (p20 : PySem.W.keepIn K (.ref f20) = true)
    (a21 : PySem.W.nsIn K mainGlobals "common_divisor" = some (some (.ref f21))) (l21 : K.lookup f21 = some ⟨oc21, od21, .func (PySem.W.fnOf "common_divisor" "common_divisor" (defArgs s_common_divisor) (defBody s_common_divisor) (defScope s_common_divisor) .none kV21 dc21 pm21 an21 cd21 ct21), sl21⟩) (e21 : PySem.W.codeIn K cd21 "common_divisor" = true) (p21 : PySem.W.keepIn K (.ref f21) = true)
    (a22 : PySem.W.nsIn K mainGlobals "is_fraction" = some (some (.ref f22))) (l22 : K.lookup f22 = some ⟨oc22, od22, .func (PySem.W.fnOf "is_fraction" "is_fraction" (defArgs s_is_fraction) (defBody s_is_fraction) (defScope s_is_fraction) .none kV22 dc22 pm22 an22 cd22 ct22), sl22⟩) (e22 : PySem.W.codeIn K cd22 "is_fraction" = true) (p22 : PySem.W.keepIn K (.ref f22) = true)
    (a23 : PySem.W.nsIn K mainGlobals "is_poly" = some (some (.ref f23))) (l23 : K.lookup f23 = some ⟨oc23, od23, .func (PySem.W.fnOf "is_poly" "is_poly" (defArgs s_is_poly) (defBody s_is_poly) (defScope s_is_poly) .none kV23 dc23 pm23 an23 cd23 ct23), sl23⟩) (e23 : PySem.W.codeIn K cd23 "is_poly" = true) (p23 : PySem.W.keepIn K (.ref f23) = true)
    (a24 : PySem.W.nsIn K mainGlobals "inner" = some (some (.ref f24))) (l24 : K.lookup f24 = some ⟨oc24, od24, .func (PySem.W.fnOf "inner" "inner" (defArgs s_inner) (defBody s_inner) (defScope s_inner) .none kV24 dc24 pm24 an24 cd24 ct24), sl24⟩) (e24 : PySem.W.codeIn K cd24 "inner" = true) (p24 : PySem.W.keepIn K (.ref f24) = true)
    (a25 : PySem.W.nsIn K mainGlobals "whole_root" = some (some (.ref f25))) (l25 : K.lookup f25 = some ⟨oc25, od25, .func (PySem.W.fnOf "whole_root" "whole_root" (defArgs s_whole_root) (defBody s_whole_root) (defScope s_whole_root) .none kV25 dc25 pm25 an25 cd25 ct25), sl25⟩) (e25 : PySem.W.codeIn K cd25 "whole_root" = true) (p25 : PySem.W.keepIn K (.ref f25) = true)
    (a26 : PySem.W.nsIn K mainGlobals "is_square" = some (some (.ref f26))) (l26 : K.lookup f26 = some ⟨oc26, od26, .func (PySem.W.fnOf "is_square" "is_square" (defArgs s_is_square) (defBody s_is_square) (defScope s_is_square) .none kV26 dc26 pm26 an26 cd26 ct26), sl26⟩) (e26 : PySem.W.codeIn K cd26 "is_square" = true) (p26 : PySem.W.keepIn K (.ref f26) = true)
    (a27 : PySem.W.nsIn K mainGlobals "is_root" = some (some (.ref f27))) (l27 : K.lookup f27 = some ⟨oc27, od27, .func (PySem.W.fnOf "is_root" "is_root" (defArgs s_is_root) (defBody s_is_root) (defScope s_is_root) .none kV27 dc27 pm27 an27 cd27 ct27), sl27⟩) (e27 : PySem.W.codeIn K cd27 "is_root" = true) (p27 : PySem.W.keepIn K (.ref f27) = true)
    (a28 : PySem.W.nsIn K mainGlobals "sign_of" = some (some (.ref f28))) (l28 : K.lookup f28 = some ⟨oc28, od28, .func (PySem.W.fnOf "sign_of" "sign_of" (defArgs s_sign_of) (defBody s_sign_of) (defScope s_sign_of) .none kV28 dc28 pm28 an28 cd28 ct28), sl28⟩) (e28 : PySem.W.codeIn K cd28 "sign_of" = true) (p28 : PySem.W.keepIn K (.ref f28) = true)
    (a29 : PySem.W.nsIn K mainGlobals "sign_of_sum" = some (some (.ref f29))) (l29 : K.lookup f29 = some ⟨oc29, od29, .func (PySem.W.fnOf "sign_of_sum" "sign_of_sum" (defArgs s_sign_of_sum) (defBody s_sign_of_sum) (defScope s_sign_of_sum) .none kV29 dc29 pm29 an29 cd29 ct29), sl29⟩) (e29 : PySem.W.codeIn K cd29 "sign_of_sum" = true) (p29 : PySem.W.keepIn K (.ref f29) = true)
    (a30 : PySem.W.nsIn K mainGlobals "is_time" = some (some (.ref f30))) (l30 : K.lookup f30 = some ⟨oc30, od30, .func (PySem.W.fnOf "is_time" "is_time" (defArgs s_is_time) (defBody s_is_time) (defScope s_is_time) .none kV30 dc30 pm30 an30 cd30 ct30), sl30⟩) (e30 : PySem.W.codeIn K cd30 "is_time" = true) (p30 : PySem.W.keepIn K (.ref f30) = true)
    (a31 : PySem.W.nsIn K mainGlobals "need_time" = some (some (.ref f31))) (l31 : K.lookup f31 = some ⟨oc31, od31, .func (PySem.W.fnOf "need_time" "need_time" (defArgs s_need_time) (defBody s_need_time) (defScope s_need_time) .none kV31 dc31 pm31 an31 cd31 ct31), sl31⟩) (e31 : PySem.W.codeIn K cd31 "need_time" = true) (p31 : PySem.W.keepIn K (.ref f31) = true)
    (a32 : PySem.W.nsIn K mainGlobals "way_of" = some (some (.ref f32))) (l32 : K.lookup f32 = some ⟨oc32, od32, .func (PySem.W.fnOf "way_of" "way_of" (defArgs s_way_of) (defBody s_way_of) (defScope s_way_of) .none kV32 dc32 pm32 an32 cd32 ct32), sl32⟩) (e32 : PySem.W.codeIn K cd32 "way_of" = true) (p32 : PySem.W.keepIn K (.ref f32) = true)
    (a33 : PySem.W.nsIn K mainGlobals "sign_at" = some (some (.ref f33))) (l33 : K.lookup f33 = some ⟨oc33, od33, .func (PySem.W.fnOf "sign_at" "sign_at" (defArgs s_sign_at) (defBody s_sign_at) (defScope s_sign_at) .none kV33 dc33 pm33 an33 cd33 ct33), sl33⟩) (e33 : PySem.W.codeIn K cd33 "sign_at" = true) (p33 : PySem.W.keepIn K (.ref f33) = true)
    (a34 : PySem.W.nsIn K mainGlobals "side_of" = some (some (.ref f34))) (l34 : K.lookup f34 = some ⟨oc34, od34, .func (PySem.W.fnOf "side_of" "side_of" (defArgs s_side_of) (defBody s_side_of) (defScope s_side_of) .none kV34 dc34 pm34 an34 cd34 ct34), sl34⟩) (e34 : PySem.W.codeIn K cd34 "side_of" = true) (p34 : PySem.W.keepIn K (.ref f34) = true)
    (a35 : PySem.W.nsIn K mainGlobals "compare" = some (some (.ref f35))) (l35 : K.lookup f35 = some ⟨oc35, od35, .func (PySem.W.fnOf "compare" "compare" (defArgs s_compare) (defBody s_compare) (defScope s_compare) .none kV35 dc35 pm35 an35 cd35 ct35), sl35⟩) (e35 : PySem.W.codeIn K cd35 "compare" = true) (p35 : PySem.W.keepIn K (.ref f35) = true)
    (a36 : PySem.W.nsIn K mainGlobals "place_in" = some (some (.ref f36))) (l36 : K.lookup f36 = some ⟨oc36, od36, .func (PySem.W.fnOf "place_in" "place_in" (defArgs s_place_in) (defBody s_place_in) (defScope s_place_in) .none kV36 dc36 pm36 an36 cd36 ct36), sl36⟩) (e36 : PySem.W.codeIn K cd36 "place_in" = true) (p36 : PySem.W.keepIn K (.ref f36) = true)
    (a37 : PySem.W.nsIn K mainGlobals "fraction" = some (some (.ref f37))) (l37 : K.lookup f37 = some ⟨oc37, od37, .func (PySem.W.fnOf "fraction" "fraction" (defArgs s_fraction) (defBody s_fraction) (defScope s_fraction) .none kV37 dc37 pm37 an37 cd37 ct37), sl37⟩) (e37 : PySem.W.codeIn K cd37 "fraction" = true) (p37 : PySem.W.keepIn K (.ref f37) = true)
    (a38 : PySem.W.nsIn K mainGlobals "value_at" = some (some (.ref f38))) (l38 : K.lookup f38 = some ⟨oc38, od38, .func (PySem.W.fnOf "value_at" "value_at" (defArgs s_value_at) (defBody s_value_at) (defScope s_value_at) .none kV38 dc38 pm38 an38 cd38 ct38), sl38⟩) (e38 : PySem.W.codeIn K cd38 "value_at" = true) (p38 : PySem.W.keepIn K (.ref f38) = true)
    (a39 : PySem.W.nsIn K mainGlobals "place_at" = some (some (.ref f39))) (l39 : K.lookup f39 = some ⟨oc39, od39, .func (PySem.W.fnOf "place_at" "place_at" (defArgs s_place_at) (defBody s_place_at) (defScope s_place_at) .none kV39 dc39 pm39 an39 cd39 ct39), sl39⟩) (e39 : PySem.W.codeIn K cd39 "place_at" = true) (p39 : PySem.W.keepIn K (.ref f39) = true)
    (a40 : PySem.W.nsIn K mainGlobals "_law_order" = some (some (.ref f40))) (l40 : K.lookup f40 = some ⟨oc40, od40, .func (PySem.W.fnOf "_law_order" "_law_order" (defArgs s__law_order) (defBody s__law_order) (defScope s__law_order) .none kV40 dc40 pm40 an40 cd40 ct40), sl40⟩) (e40 : PySem.W.codeIn K cd40 "_law_order" = true) (p40 : PySem.W.keepIn K (.ref f40) = true)
    (a41 : PySem.W.nsIn K mainGlobals "_law_place" = some (some (.ref f41))) (l41 : K.lookup f41 = some ⟨oc41, od41, .func (PySem.W.fnOf "_law_place" "_law_place" (defArgs s__law_place) (defBody s__law_place) (defScope s__law_place) .none kV41 dc41 pm41 an41 cd41 ct41), sl41⟩) (e41 : PySem.W.codeIn K cd41 "_law_place" = true) (p41 : PySem.W.keepIn K (.ref f41) = true)
    (a42 : PySem.W.nsIn K mainGlobals "_law_lines" = some (some (.ref f42))) (l42 : K.lookup f42 = some ⟨oc42, od42, .func (PySem.W.fnOf "_law_lines" "_law_lines" (defArgs s__law_lines) (defBody s__law_lines) (defScope s__law_lines) .none kV42 dc42 pm42 an42 cd42 ct42), sl42⟩) (e42 : PySem.W.codeIn K cd42 "_law_lines" = true) (p42 : PySem.W.keepIn K (.ref f42) = true)
    (a43 : PySem.W.nsIn K mainGlobals "_law_lowest" = some (some (.ref f43))) (l43 : K.lookup f43 = some ⟨oc43, od43, .func (PySem.W.fnOf "_law_lowest" "_law_lowest" (defArgs s__law_lowest) (defBody s__law_lowest) (defScope s__law_lowest) .none kV43 dc43 pm43 an43 cd43 ct43), sl43⟩) (e43 : PySem.W.codeIn K cd43 "_law_lowest" = true) (p43 : PySem.W.keepIn K (.ref f43) = true)
    (a44 : PySem.W.nsIn K mainGlobals "_law_where" = some (some (.ref f44))) (l44 : K.lookup f44 = some ⟨oc44, od44, .func (PySem.W.fnOf "_law_where" "_law_where" (defArgs s__law_where) (defBody s__law_where) (defScope s__law_where) .none kV44 dc44 pm44 an44 cd44 ct44), sl44⟩) (e44 : PySem.W.codeIn K cd44 "_law_where" = true) (p44 : PySem.W.keepIn K (.ref f44) = true)
    (a45 : PySem.W.nsIn K mainGlobals "law" = some (some (.ref f45))) (l45 : K.lookup f45 = some ⟨oc45, od45, .func (PySem.W.fnOf "law" "law" (defArgs s_law) (defBody s_law) (defScope s_law) .none kV45 dc45 pm45 an45 cd45 ct45), sl45⟩) (e45 : PySem.W.codeIn K cd45 "law" = true) (p45 : PySem.W.keepIn K (.ref f45) = true)
    (z0 : PySem.W.nsIn K mainGlobals "abs" = some none) (z1 : PySem.W.nsIn K mainGlobals "all" = some none) (z2 : PySem.W.nsIn K mainGlobals "bool" = some none) (z3 : PySem.W.nsIn K mainGlobals "enumerate" = some none) (z4 : PySem.W.nsIn K mainGlobals "int" = some none) (z5 : PySem.W.nsIn K mainGlobals "isinstance" = some none) (z6 : PySem.W.nsIn K mainGlobals "len" = some none) (z7 : PySem.W.nsIn K mainGlobals "list" = some none) (z8 : PySem.W.nsIn K mainGlobals "max" = some none) (z9 : PySem.W.nsIn K mainGlobals "min" = some none) (z10 : PySem.W.nsIn K mainGlobals "range" = some none) (z11 : PySem.W.nsIn K mainGlobals "repr" = some none) (z12 : PySem.W.nsIn K mainGlobals "set" = some none) (z13 : PySem.W.nsIn K mainGlobals "sorted" = some none) (z14 : PySem.W.nsIn K mainGlobals "str" = some none) (z15 : PySem.W.nsIn K mainGlobals "tuple" = some none) :
    ∃ fd : FuncData, (∀ (s : Shared) (v : Value), BindsTo s fd ⟨[v], []⟩ [("_law_script", v)]) ∧ ∀ base : Heap, K.In base → base.Ns mainGlobals mg → FnAt callerA l.prog w K mg base 8 fa fd ["_law_script"] (lF K f_law) := by
  have e := hfa.symm.trans (PySem.W.mg_of X G a45)
  cases e
  have bg : ∀ x, x ∈ blts → mg x = none := fun x hx => by
    unfold blts at hx
    simp only [List.mem_cons, List.not_mem_nil, or_false] at hx
    rcases hx with rfl | rfl | rfl | rfl | rfl | rfl | rfl | rfl | rfl | rfl | rfl | rfl | rfl | rfl | rfl | rfl
    · exact PySem.W.mg_none_of X G z0
    · exact PySem.W.mg_none_of X G z1
    · exact PySem.W.mg_none_of X G z2
    · exact PySem.W.mg_none_of X G z3
    · exact PySem.W.mg_none_of X G z4
    · exact PySem.W.mg_none_of X G z5
    · exact PySem.W.mg_none_of X G z6
    · exact PySem.W.mg_none_of X G z7
    · exact PySem.W.mg_none_of X G z8
    · exact PySem.W.mg_none_of X G z9
    · exact PySem.W.mg_none_of X G z10
    · exact PySem.W.mg_none_of X G z11
    · exact PySem.W.mg_none_of X G z12
    · exact PySem.W.mg_none_of X G z13
    · exact PySem.W.mg_none_of X G z14
    · exact PySem.W.mg_none_of X G z15
  have n_World : ClsN K "World" C_World := aC_World
  have q_World : ClsF K "World" ["told_things", "told_walls"] := fun C hC => by
    have e := hC.uniq n_World
    subst e
    refine ⟨⟨pg_World, hd_World, po_World, sa_World⟩, fun f hf => ?_⟩
    simp only [List.mem_cons, List.not_mem_nil, or_false] at hf
    rcases hf with rfl | rfl
    · exact nf_World_0
    · exact nf_World_1
  refine ⟨PySem.W.fnOf "law" "law" (defArgs s_law) (defBody s_law) (defScope s_law) .none kV45 dc45 pm45 an45 cd45 ct45, fun s v => .of_eq rfl, fun base _ _ => ?_⟩
  have F0 := fun_mk (st := s__law_started) l0 e0 p0
  have o0 := ok__law_started (P := l.prog) (w := w) (mg := mg) (base := base) (k := 0) F0 bg
  have c__law_started : Cal l.prog w K mg base 1 "_law_started" f__law_started := cal_of o0 (PySem.W.mg_of X G a0) p0 (F0.binds fun _ _ _ _ _ _ us hl => match us, hl with | [_], _ => rfl)
  have F1 := fun_mk (st := s__law_draw) l1 e1 p1
  have o1 := ok__law_draw (P := l.prog) (w := w) (mg := mg) (base := base) (k := 0) F1 bg
  have c__law_draw : Cal l.prog w K mg base 1 "_law_draw" f__law_draw := cal_of o1 (PySem.W.mg_of X G a1) p1 (F1.binds fun _ _ _ _ _ _ us hl => match us, hl with | [_, _], _ => rfl)
  have F2 := fun_mk (st := s__law_of) l2 e2 p2
  have o2 := ok__law_of (P := l.prog) (w := w) (mg := mg) (base := base) (k := 1) F2 bg (c__law_draw.mono (by decide))
  have c__law_of : Cal l.prog w K mg base 2 "_law_of" f__law_of := cal_of o2 (PySem.W.mg_of X G a2) p2 (F2.binds fun _ _ _ _ _ _ us hl => match us, hl with | [_, _], _ => rfl)
  have F3 := fun_mk (st := s__law_distance) l3 e3 p3
  have o3 := ok__law_distance (P := l.prog) (w := w) (mg := mg) (base := base) (k := 2) F3 bg (c__law_draw.mono (by decide)) (c__law_of.mono (by decide))
  have c__law_distance : Cal l.prog w K mg base 3 "_law_distance" f__law_distance := cal_of o3 (PySem.W.mg_of X G a3) p3 (F3.binds fun _ _ _ _ _ _ us hl => match us, hl with | [_], _ => rfl)
  have F4 := fun_mk (st := s__law_brought) l4 e4 p4
  have o4 := ok__law_brought (P := l.prog) (w := w) (mg := mg) (base := base) (k := 0) F4 bg
  have c__law_brought : Cal l.prog w K mg base 1 "_law_brought" f__law_brought := cal_of o4 (PySem.W.mg_of X G a4) p4 (F4.binds fun _ _ _ _ _ _ us hl => match us, hl with | [_, _], _ => rfl)
  have F5 := fun_mk (st := s__law_beside) l5 e5 p5
  have o5 := ok__law_beside (P := l.prog) (w := w) (mg := mg) (base := base) (k := 1) F5 bg (c__law_draw.mono (by decide)) (c__law_brought.mono (by decide))
  have c__law_beside : Cal l.prog w K mg base 2 "_law_beside" f__law_beside := cal_of o5 (PySem.W.mg_of X G a5) p5 (F5.binds fun _ _ _ _ _ _ us hl => match us, hl with | [_, _, _, _], _ => rfl)
  have F6 := fun_mk (st := s__law_rows) l6 e6 p6
  have o6 := ok__law_rows (P := l.prog) (w := w) (mg := mg) (base := base) (k := 2) F6 bg (c__law_of.mono (by decide)) (c__law_draw.mono (by decide))
  have c__law_rows : Cal l.prog w K mg base 3 "_law_rows" f__law_rows := cal_of o6 (PySem.W.mg_of X G a6) p6 (F6.binds fun _ _ _ _ _ _ us hl => match us, hl with | [_], _ => rfl)
  have F7 := fun_mk (st := s__law_things) l7 e7 p7
  have o7 := ok__law_things (P := l.prog) (w := w) (mg := mg) (base := base) (k := 3) F7 bg (c__law_draw.mono (by decide)) (c__law_of.mono (by decide)) (c__law_beside.mono (by decide)) (c__law_rows.mono (by decide))
  have c__law_things : Cal l.prog w K mg base 4 "_law_things" f__law_things := cal_of o7 (PySem.W.mg_of X G a7) p7 (F7.binds fun _ _ _ _ _ _ us hl => match us, hl with | [_, _, _], _ => rfl)
  have F8 := fun_mk (st := s_World_init) l8 e8 p8
  have o8 := ok_World_init (P := l.prog) (w := w) (mg := mg) (base := base) (k := 0) F8 bg q_World
  have c_World_init : CalI l.prog w K mg base 1 "World" f_World_init := ⟨C_World, f8, _, _, o8, (F8.binds fun _ _ _ _ _ _ us hl => match us, hl with | [_, _, _], _ => rfl), n_World, PySem.W.mg_of X G aC_World, ⟨mk_World, a8, i8, kC_World⟩⟩
  have F9 := fun_mk (st := s__law_worlds) l9 e9 p9
  have o9 := ok__law_worlds (P := l.prog) (w := w) (mg := mg) (base := base) (k := 4) F9 bg (j := 1) (by decide) (c__law_distance.mono (by decide)) (c__law_of.mono (by decide)) (c__law_draw.mono (by decide)) (c__law_things.mono (by decide)) (c_World_init.mono (by decide))
  have c__law_worlds : Cal l.prog w K mg base 5 "_law_worlds" f__law_worlds := cal_of o9 (PySem.W.mg_of X G a9) p9 (F9.binds fun _ _ _ _ _ _ us hl => match us, hl with | [_, _], _ => rfl)
  have F10 := fun_mk (st := s__law_begins) l10 e10 p10
  have o10 := ok__law_begins (P := l.prog) (w := w) (mg := mg) (base := base) (k := 0) F10 bg
  have c__law_begins : Cal l.prog w K mg base 1 "_law_begins" f__law_begins := cal_of o10 (PySem.W.mg_of X G a10) p10 (F10.binds fun _ _ _ _ _ _ us hl => match us, hl with | [_], _ => rfl)
  have F11 := fun_mk (st := s__law_common) l11 e11 p11
  have o11 := ok__law_common (P := l.prog) (w := w) (mg := mg) (base := base) (k := 0) F11 bg
  have c__law_common : Cal l.prog w K mg base 1 "_law_common" f__law_common := cal_of o11 (PySem.W.mg_of X G a11) p11 (F11.binds fun _ _ _ _ _ _ us hl => match us, hl with | [_], _ => rfl)
  have F12 := fun_mk (st := s__law_whole) l12 e12 p12
  have o12 := ok__law_whole (P := l.prog) (w := w) (mg := mg) (base := base) (k := 0) F12 bg
  have c__law_whole : Cal l.prog w K mg base 1 "_law_whole" f__law_whole := cal_of o12 (PySem.W.mg_of X G a12) p12 (F12.binds fun _ _ _ _ _ _ us hl => match us, hl with | [_], _ => rfl)
  have F13 := fun_mk (st := s__law_is_square) l13 e13 p13
  have o13 := ok__law_is_square (P := l.prog) (w := w) (mg := mg) (base := base) (k := 0) F13 bg
  have c__law_is_square : Cal l.prog w K mg base 1 "_law_is_square" f__law_is_square := cal_of o13 (PySem.W.mg_of X G a13) p13 (F13.binds fun _ _ _ _ _ _ us hl => match us, hl with | [_], _ => rfl)
  have F14 := fun_mk (st := s__law_sum_sign) l14 e14 p14
  have o14 := ok__law_sum_sign (P := l.prog) (w := w) (mg := mg) (base := base) (k := 0) F14 bg
  have c__law_sum_sign : Cal l.prog w K mg base 1 "_law_sum_sign" f__law_sum_sign := cal_of o14 (PySem.W.mg_of X G a14) p14 (F14.binds fun _ _ _ _ _ _ us hl => match us, hl with | [_, _, _], _ => rfl)
  have F15 := fun_mk (st := s__law_sign) l15 e15 p15
  have o15 := ok__law_sign (P := l.prog) (w := w) (mg := mg) (base := base) (k := 1) F15 bg (c__law_sum_sign.mono (by decide))
  have c__law_sign : Cal l.prog w K mg base 2 "_law_sign" f__law_sign := cal_of o15 (PySem.W.mg_of X G a15) p15 (F15.binds fun _ _ _ _ _ _ us hl => match us, hl with | [_, _], _ => rfl)
  have F16 := fun_mk (st := s__law_is_time) l16 e16 p16
  have o16 := ok__law_is_time (P := l.prog) (w := w) (mg := mg) (base := base) (k := 2) F16 bg (c__law_whole.mono (by decide)) (c__law_common.mono (by decide)) (c__law_is_square.mono (by decide)) (c__law_sign.mono (by decide))
  have c__law_is_time : Cal l.prog w K mg base 3 "_law_is_time" f__law_is_time := cal_of o16 (PySem.W.mg_of X G a16) p16 (F16.binds fun _ _ _ _ _ _ us hl => match us, hl with | [_], _ => rfl)
  have F17 := fun_mk (st := s__law_a_time) l17 e17 p17
  have o17 := ok__law_a_time (P := l.prog) (w := w) (mg := mg) (base := base) (k := 3) F17 bg (c__law_draw.mono (by decide)) (c__law_common.mono (by decide)) (c__law_is_time.mono (by decide)) (c__law_of.mono (by decide))
  have c__law_a_time : Cal l.prog w K mg base 4 "_law_a_time" f__law_a_time := cal_of o17 (PySem.W.mg_of X G a17) p17 (F17.binds fun _ _ _ _ _ _ us hl => match us, hl with | [_], _ => rfl)
  have F18 := fun_mk (st := s_World_told) l18 e18 p18
  have o18 := ok_World_told (P := l.prog) (w := w) (mg := mg) (base := base) (k := 0) F18 bg q_World
  have c_World_told : CalM l.prog w K mg base 1 "World" "told" f_World_told := ⟨f18, _, _, o18, (F18.binds fun _ _ _ _ _ _ us hl => match us, hl with | [_], _ => rfl), fun C hC => by have e := hC.uniq n_World; subst e; exact ⟨⟨pg_World, hd_World, po_World, sa_World⟩, ⟨a18, i18, p18⟩⟩⟩
  have F19 := fun_mk (st := s_thing_of) l19 e19 p19
  have o19 := ok_thing_of (P := l.prog) (w := w) (mg := mg) (base := base) (k := 1) F19 bg n_World (c_World_told.mono (by decide))
  have c_thing_of : Cal l.prog w K mg base 2 "thing_of" f_thing_of := cal_of o19 (PySem.W.mg_of X G a19) p19 (F19.binds fun _ _ _ _ _ _ us hl => match us, hl with | [_, _], _ => rfl)
  have F20 := fun_mk (st := s_is_number) l20 e20 p20
  have o20 := ok_is_number (P := l.prog) (w := w) (mg := mg) (base := base) (k := 0) F20 bg
  have c_is_number : Cal l.prog w K mg base 1 "is_number" f_is_number := cal_of o20 (PySem.W.mg_of X G a20) p20 (F20.binds fun _ _ _ _ _ _ us hl => match us, hl with | [_], _ => rfl)
  have F21 := fun_mk (st := s_common_divisor) l21 e21 p21
  have o21 := ok_common_divisor (P := l.prog) (w := w) (mg := mg) (base := base) (k := 0) F21 bg
  have c_common_divisor : Cal l.prog w K mg base 1 "common_divisor" f_common_divisor := cal_of o21 (PySem.W.mg_of X G a21) p21 (F21.binds fun _ _ _ _ _ _ us hl => match us, hl with | [_, _], _ => rfl)
  have F22 := fun_mk (st := s_is_fraction) l22 e22 p22
  have o22 := ok_is_fraction (P := l.prog) (w := w) (mg := mg) (base := base) (k := 1) F22 bg (c_is_number.mono (by decide)) (c_common_divisor.mono (by decide))
  have c_is_fraction : Cal l.prog w K mg base 2 "is_fraction" f_is_fraction := cal_of o22 (PySem.W.mg_of X G a22) p22 (F22.binds fun _ _ _ _ _ _ us hl => match us, hl with | [_], _ => rfl)
  have F23 := fun_mk (st := s_is_poly) l23 e23 p23
  have o23 := ok_is_poly (P := l.prog) (w := w) (mg := mg) (base := base) (k := 1) F23 bg (c_is_number.mono (by decide))
  have c_is_poly : Cal l.prog w K mg base 2 "is_poly" f_is_poly := cal_of o23 (PySem.W.mg_of X G a23) p23 (F23.binds fun _ _ _ _ _ _ us hl => match us, hl with | [_], _ => rfl)
  have F24 := fun_mk (st := s_inner) l24 e24 p24
  have o24 := ok_inner (P := l.prog) (w := w) (mg := mg) (base := base) (k := 0) F24 bg
  have c_inner : Cal l.prog w K mg base 1 "inner" f_inner := cal_of o24 (PySem.W.mg_of X G a24) p24 (F24.binds fun _ _ _ _ _ _ us hl => match us, hl with | [_], _ => rfl)
  have F25 := fun_mk (st := s_whole_root) l25 e25 p25
  have o25 := ok_whole_root (P := l.prog) (w := w) (mg := mg) (base := base) (k := 0) F25 bg
  have c_whole_root : Cal l.prog w K mg base 1 "whole_root" f_whole_root := cal_of o25 (PySem.W.mg_of X G a25) p25 (F25.binds fun _ _ _ _ _ _ us hl => match us, hl with | [_], _ => rfl)
  have F26 := fun_mk (st := s_is_square) l26 e26 p26
  have o26 := ok_is_square (P := l.prog) (w := w) (mg := mg) (base := base) (k := 1) F26 bg (c_whole_root.mono (by decide))
  have c_is_square : Cal l.prog w K mg base 2 "is_square" f_is_square := cal_of o26 (PySem.W.mg_of X G a26) p26 (F26.binds fun _ _ _ _ _ _ us hl => match us, hl with | [_], _ => rfl)
  have F27 := fun_mk (st := s_is_root) l27 e27 p27
  have o27 := ok_is_root (P := l.prog) (w := w) (mg := mg) (base := base) (k := 2) F27 bg (c_is_poly.mono (by decide)) (c_is_number.mono (by decide)) (c_common_divisor.mono (by decide)) (c_inner.mono (by decide)) (c_is_square.mono (by decide))
  have c_is_root : Cal l.prog w K mg base 3 "is_root" f_is_root := cal_of o27 (PySem.W.mg_of X G a27) p27 (F27.binds fun _ _ _ _ _ _ us hl => match us, hl with | [_], _ => rfl)
  have F28 := fun_mk (st := s_sign_of) l28 e28 p28
  have o28 := ok_sign_of (P := l.prog) (w := w) (mg := mg) (base := base) (k := 0) F28 bg
  have c_sign_of : Cal l.prog w K mg base 1 "sign_of" f_sign_of := cal_of o28 (PySem.W.mg_of X G a28) p28 (F28.binds fun _ _ _ _ _ _ us hl => match us, hl with | [_], _ => rfl)
  have F29 := fun_mk (st := s_sign_of_sum) l29 e29 p29
  have o29 := ok_sign_of_sum (P := l.prog) (w := w) (mg := mg) (base := base) (k := 1) F29 bg (c_sign_of.mono (by decide))
  have c_sign_of_sum : Cal l.prog w K mg base 2 "sign_of_sum" f_sign_of_sum := cal_of o29 (PySem.W.mg_of X G a29) p29 (F29.binds fun _ _ _ _ _ _ us hl => match us, hl with | [_, _, _], _ => rfl)
  have F30 := fun_mk (st := s_is_time) l30 e30 p30
  have o30 := ok_is_time (P := l.prog) (w := w) (mg := mg) (base := base) (k := 3) F30 bg (c_is_fraction.mono (by decide)) (c_is_root.mono (by decide)) (c_inner.mono (by decide)) (c_sign_of_sum.mono (by decide))
  have c_is_time : Cal l.prog w K mg base 4 "is_time" f_is_time := cal_of o30 (PySem.W.mg_of X G a30) p30 (F30.binds fun _ _ _ _ _ _ us hl => match us, hl with | [_], _ => rfl)
  have F31 := fun_mk (st := s_need_time) l31 e31 p31
  have o31 := ok_need_time (P := l.prog) (w := w) (mg := mg) (base := base) (k := 4) F31 bg (c_is_time.mono (by decide))
  have c_need_time : Cal l.prog w K mg base 5 "need_time" f_need_time := cal_of o31 (PySem.W.mg_of X G a31) p31 (F31.binds fun _ _ _ _ _ _ us hl => match us, hl with | [_], _ => rfl)
  have F32 := fun_mk (st := s_way_of) l32 e32 p32
  have o32 := ok_way_of (P := l.prog) (w := w) (mg := mg) (base := base) (k := 0) F32 bg
  have c_way_of : Cal l.prog w K mg base 1 "way_of" f_way_of := cal_of o32 (PySem.W.mg_of X G a32) p32 (F32.binds fun _ _ _ _ _ _ us hl => match us, hl with | [_], _ => rfl)
  have F33 := fun_mk (st := s_sign_at) l33 e33 p33
  have o33 := ok_sign_at (P := l.prog) (w := w) (mg := mg) (base := base) (k := 2) F33 bg (c_sign_of.mono (by decide)) (c_inner.mono (by decide)) (c_sign_of_sum.mono (by decide))
  have c_sign_at : Cal l.prog w K mg base 3 "sign_at" f_sign_at := cal_of o33 (PySem.W.mg_of X G a33) p33 (F33.binds fun _ _ _ _ _ _ us hl => match us, hl with | [_, _], _ => rfl)
  have F34 := fun_mk (st := s_side_of) l34 e34 p34
  have o34 := ok_side_of (P := l.prog) (w := w) (mg := mg) (base := base) (k := 3) F34 bg (c_sign_at.mono (by decide))
  have c_side_of : Cal l.prog w K mg base 4 "side_of" f_side_of := cal_of o34 (PySem.W.mg_of X G a34) p34 (F34.binds fun _ _ _ _ _ _ us hl => match us, hl with | [_, _], _ => rfl)
  have F35 := fun_mk (st := s_compare) l35 e35 p35
  have o35 := ok_compare (P := l.prog) (w := w) (mg := mg) (base := base) (k := 4) F35 bg (c_sign_at.mono (by decide)) (c_side_of.mono (by decide))
  have c_compare : Cal l.prog w K mg base 5 "compare" f_compare := cal_of o35 (PySem.W.mg_of X G a35) p35 (F35.binds fun _ _ _ _ _ _ us hl => match us, hl with | [_, _], _ => rfl)
  have F36 := fun_mk (st := s_place_in) l36 e36 p36
  have o36 := ok_place_in (P := l.prog) (w := w) (mg := mg) (base := base) (k := 5) F36 bg (c_way_of.mono (by decide)) (c_compare.mono (by decide))
  have c_place_in : Cal l.prog w K mg base 6 "place_in" f_place_in := cal_of o36 (PySem.W.mg_of X G a36) p36 (F36.binds fun _ _ _ _ _ _ us hl => match us, hl with | [_, _], _ => rfl)
  have F37 := fun_mk (st := s_fraction) l37 e37 p37
  have o37 := ok_fraction (P := l.prog) (w := w) (mg := mg) (base := base) (k := 1) F37 bg (c_common_divisor.mono (by decide)) (c_sign_of.mono (by decide))
  have c_fraction : Cal l.prog w K mg base 2 "fraction" f_fraction := cal_of o37 (PySem.W.mg_of X G a37) p37 (F37.binds fun _ _ _ _ _ _ us hl => match us, hl with | [_, _], _ => rfl)
  have F38 := fun_mk (st := s_value_at) l38 e38 p38
  have o38 := ok_value_at (P := l.prog) (w := w) (mg := mg) (base := base) (k := 2) F38 bg (c_fraction.mono (by decide))
  have c_value_at : Cal l.prog w K mg base 3 "value_at" f_value_at := cal_of o38 (PySem.W.mg_of X G a38) p38 (F38.binds fun _ _ _ _ _ _ us hl => match us, hl with | [_, _], _ => rfl)
  have F39 := fun_mk (st := s_place_at) l39 e39 p39
  have o39 := ok_place_at (P := l.prog) (w := w) (mg := mg) (base := base) (k := 6) F39 bg (c_thing_of.mono (by decide)) (c_need_time.mono (by decide)) (c_place_in.mono (by decide)) (c_value_at.mono (by decide))
  have c_place_at : Cal l.prog w K mg base 7 "place_at" f_place_at := cal_of o39 (PySem.W.mg_of X G a39) p39 (F39.binds fun _ _ _ _ _ _ us hl => match us, hl with | [_, _, _], _ => rfl)
  have F40 := fun_mk (st := s__law_order) l40 e40 p40
  have o40 := ok__law_order (P := l.prog) (w := w) (mg := mg) (base := base) (k := 2) F40 bg (c__law_sign.mono (by decide)) (c__law_sum_sign.mono (by decide))
  have c__law_order : Cal l.prog w K mg base 3 "_law_order" f__law_order := cal_of o40 (PySem.W.mg_of X G a40) p40 (F40.binds fun _ _ _ _ _ _ us hl => match us, hl with | [_, _], _ => rfl)
  have F41 := fun_mk (st := s__law_place) l41 e41 p41
  have o41 := ok__law_place (P := l.prog) (w := w) (mg := mg) (base := base) (k := 0) F41 bg
  have c__law_place : Cal l.prog w K mg base 1 "_law_place" f__law_place := cal_of o41 (PySem.W.mg_of X G a41) p41 (F41.binds fun _ _ _ _ _ _ us hl => match us, hl with | [_, _], _ => rfl)
  have F42 := fun_mk (st := s__law_lines) l42 e42 p42
  have o42 := ok__law_lines (P := l.prog) (w := w) (mg := mg) (base := base) (k := 1) F42 bg (c__law_place.mono (by decide))
  have c__law_lines : Cal l.prog w K mg base 2 "_law_lines" f__law_lines := cal_of o42 (PySem.W.mg_of X G a42) p42 (F42.binds fun _ _ _ _ _ _ us hl => match us, hl with | [_, _], _ => rfl)
  have F43 := fun_mk (st := s__law_lowest) l43 e43 p43
  have o43 := ok__law_lowest (P := l.prog) (w := w) (mg := mg) (base := base) (k := 1) F43 bg (c__law_common.mono (by decide))
  have c__law_lowest : Cal l.prog w K mg base 2 "_law_lowest" f__law_lowest := cal_of o43 (PySem.W.mg_of X G a43) p43 (F43.binds fun _ _ _ _ _ _ us hl => match us, hl with | [_, _], _ => rfl)
  have F44 := fun_mk (st := s__law_where) l44 e44 p44
  have o44 := ok__law_where (P := l.prog) (w := w) (mg := mg) (base := base) (k := 3) F44 bg (c__law_begins.mono (by decide)) (c__law_order.mono (by decide)) (c__law_lines.mono (by decide)) (c__law_lowest.mono (by decide))
  have c__law_where : Cal l.prog w K mg base 4 "_law_where" f__law_where := cal_of o44 (PySem.W.mg_of X G a44) p44 (F44.binds fun _ _ _ _ _ _ us hl => match us, hl with | [_, _], _ => rfl)
  have F45 := fun_mk (st := s_law) l45 e45 p45
  have o45 := fun (A : Around) (hA : A.guards = some []) => ok_law (P := l.prog) (w := w) (mg := mg) (base := base) (k := 7) hA F45 bg (c__law_started.mono (by decide)) (c__law_worlds.mono (by decide)) (c__law_begins.mono (by decide)) (c__law_a_time.mono (by decide)) (c_place_at.mono (by decide)) (c__law_where.mono (by decide))
  exact o45 callerA rfl
theorem enter {K : PySem.W.Frag} {H : Hp} {a : Addr} {E : XK} (ns : List Int) (hl : ns.length ≤ 63) (hb : ∀ z ∈ ns, Builtin.Int.intBits z ≤ 1048576) (ho : Only H) (hS : SqL K H a (ns.map V.int)) : lF K f_law [.ref a] H (fun v _ => v = .bl true) E :=
  have ⟨_, e⟩ := law_ok ns hl hb
  enter_of ho hS e
end K22
open PySem PySem.W PyProof.Rows
local macro_rules | `(tactic| walk_at "kd") => `(tactic| (repeat' (first | exact SL.KD.int | exact SL.KD.str | exact SL.KD.non | exact SL.KD.bl | exact SL.KDs.nil | apply SL.KDs.cons | (refine' SL.KD.tup ?hk ?ht ?hd ?hs ?h; (case hk => k_is); (case ht => exact rfl); (case hd => exact rfl); (case hs => decide)))))
set_option maxHeartbeats 0 in
theorem PySem.Challenge.cw_nearways_k22_places_at_times_holds : PySem.Challenge.rw_nearways_k22_places_at_times.Holds := by
  w_on; o_law; k_head; (case hw => w_witness2)
  k_fill
  refine SL.walk_at_lawB (l := PySem.Challenge.rw_nearways_k22_places_at_times) (n := 63) (k := 8) (x := "_law_script") (sp := fun w => SL.lF _ K22.f_law) rfl (by decide) rfl ⟨rfl, by decide, by decide⟩ (fun w h Y => PySem.W.kIn_of Y) ?F (fun _ H a ns hl hb ho hS => K22.enter ns hl hb ho hS)
  case F =>
    intro w mg fa h KX G hmg
    refine' K22.all_mk KX G hmg ?aC_World ?pg_World ?hd_World ?po_World ?sa_World ?mk_World ?kC_World ?nf_World_0 ?nf_World_1 ?a0 ?l0 ?e0 ?p0 ?a1 ?l1 ?e1 ?p1 ?a2 ?l2 ?e2 ?p2 ?a3 ?l3 ?e3 ?p3 ?a4 ?l4 ?e4 ?p4 ?a5 ?l5 ?e5 ?p5 ?a6 ?l6 ?e6 ?p6 ?a7 ?l7 ?e7 ?p7 ?a8 ?i8 ?l8 ?e8 ?p8 ?a9 ?l9 ?e9 ?p9 ?a10 ?l10 ?e10 ?p10 ?a11 ?l11 ?e11 ?p11 ?a12 ?l12 ?e12 ?p12 ?a13 ?l13 ?e13 ?p13 ?a14 ?l14 ?e14 ?p14 ?a15 ?l15 ?e15 ?p15 ?a16 ?l16 ?e16 ?p16 ?a17 ?l17 ?e17 ?p17 ?a18 ?i18 ?l18 ?e18 ?p18 ?a19 ?l19 ?e19 ?p19 ?a20 ?l20 ?e20 ?p20 ?a21 ?l21 ?e21 ?p21 ?a22 ?l22 ?e22 ?p22 ?a23 ?l23 ?e23 ?p23 ?a24 ?l24 ?e24 ?p24 ?a25 ?l25 ?e25 ?p25 ?a26 ?l26 ?e26 ?p26 ?a27 ?l27 ?e27 ?p27 ?a28 ?l28 ?e28 ?p28 ?a29 ?l29 ?e29 ?p29 ?a30 ?l30 ?e30 ?p30 ?a31 ?l31 ?e31 ?p31 ?a32 ?l32 ?e32 ?p32 ?a33 ?l33 ?e33 ?p33 ?a34 ?l34 ?e34 ?p34 ?a35 ?l35 ?e35 ?p35 ?a36 ?l36 ?e36 ?p36 ?a37 ?l37 ?e37 ?p37 ?a38 ?l38 ?e38 ?p38 ?a39 ?l39 ?e39 ?p39 ?a40 ?l40 ?e40 ?p40 ?a41 ?l41 ?e41 ?p41 ?a42 ?l42 ?e42 ?p42 ?a43 ?l43 ?e43 ?p43 ?a44 ?l44 ?e44 ?p44 ?a45 ?l45 ?e45 ?p45 ?z0 ?z1 ?z2 ?z3 ?z4 ?z5 ?z6 ?z7 ?z8 ?z9 ?z10 ?z11 ?z12 ?z13 ?z14 ?z15
    (case aC_World => k_is); (case pg_World => k_is); (case hd_World => k_is); (case po_World => k_is); (case sa_World => k_is); (case mk_World => k_is); (case kC_World => k_is); (case nf_World_0 => k_is); (case nf_World_1 => k_is)
    (case a0 => k_is); (case l0 => k_is); (case e0 => k_is); (case p0 => k_is)
    (case a1 => k_is); (case l1 => k_is); (case e1 => k_is); (case p1 => k_is)
    (case a2 => k_is); (case l2 => k_is); (case e2 => k_is); (case p2 => k_is)
    (case a3 => k_is); (case l3 => k_is); (case e3 => k_is); (case p3 => k_is)
    (case a4 => k_is); (case l4 => k_is); (case e4 => k_is); (case p4 => k_is)
    (case a5 => k_is); (case l5 => k_is); (case e5 => k_is); (case p5 => k_is)
    (case a6 => k_is); (case l6 => k_is); (case e6 => k_is); (case p6 => k_is)
    (case a7 => k_is); (case l7 => k_is); (case e7 => k_is); (case p7 => k_is)
    (case a8 => k_is); (case i8 => k_is); (case l8 => k_is); (case e8 => k_is); (case p8 => k_is)
    (case a9 => k_is); (case l9 => k_is); (case e9 => k_is); (case p9 => k_is)
    (case a10 => k_is); (case l10 => k_is); (case e10 => k_is); (case p10 => k_is)
    (case a11 => k_is); (case l11 => k_is); (case e11 => k_is); (case p11 => k_is)
    (case a12 => k_is); (case l12 => k_is); (case e12 => k_is); (case p12 => k_is)
    (case a13 => k_is); (case l13 => k_is); (case e13 => k_is); (case p13 => k_is)
    (case a14 => k_is); (case l14 => k_is); (case e14 => k_is); (case p14 => k_is)
    (case a15 => k_is); (case l15 => k_is); (case e15 => k_is); (case p15 => k_is)
    (case a16 => k_is); (case l16 => k_is); (case e16 => k_is); (case p16 => k_is)
    (case a17 => k_is); (case l17 => k_is); (case e17 => k_is); (case p17 => k_is)
    (case a18 => k_is); (case i18 => k_is); (case l18 => k_is); (case e18 => k_is); (case p18 => k_is)
    (case a19 => k_is); (case l19 => k_is); (case e19 => k_is); (case p19 => k_is)
    (case a20 => k_is); (case l20 => k_is); (case e20 => k_is); (case p20 => k_is)
    (case a21 => k_is); (case l21 => k_is); (case e21 => k_is); (case p21 => k_is)
    (case a22 => k_is); (case l22 => k_is); (case e22 => k_is); (case p22 => k_is)
    (case a23 => k_is); (case l23 => k_is); (case e23 => k_is); (case p23 => k_is)
    (case a24 => k_is); (case l24 => k_is); (case e24 => k_is); (case p24 => k_is)
    (case a25 => k_is); (case l25 => k_is); (case e25 => k_is); (case p25 => k_is)
    (case a26 => k_is); (case l26 => k_is); (case e26 => k_is); (case p26 => k_is)
    (case a27 => k_is); (case l27 => k_is); (case e27 => k_is); (case p27 => k_is)
    (case a28 => k_is); (case l28 => k_is); (case e28 => k_is); (case p28 => k_is)
    (case a29 => k_is); (case l29 => k_is); (case e29 => k_is); (case p29 => k_is)
    (case a30 => k_is); (case l30 => k_is); (case e30 => k_is); (case p30 => k_is)
    (case a31 => k_is); (case l31 => k_is); (case e31 => k_is); (case p31 => k_is)
    (case a32 => k_is); (case l32 => k_is); (case e32 => k_is); (case p32 => k_is)
    (case a33 => k_is); (case l33 => k_is); (case e33 => k_is); (case p33 => k_is)
    (case a34 => k_is); (case l34 => k_is); (case e34 => k_is); (case p34 => k_is)
    (case a35 => k_is); (case l35 => k_is); (case e35 => k_is); (case p35 => k_is)
    (case a36 => k_is); (case l36 => k_is); (case e36 => k_is); (case p36 => k_is)
    (case a37 => k_is); (case l37 => k_is); (case e37 => k_is); (case p37 => k_is)
    (case a38 => k_is); (case l38 => k_is); (case e38 => k_is); (case p38 => k_is)
    (case a39 => k_is); (case l39 => k_is); (case e39 => k_is); (case p39 => k_is)
    (case a40 => k_is); (case l40 => k_is); (case e40 => k_is); (case p40 => k_is)
    (case a41 => k_is); (case l41 => k_is); (case e41 => k_is); (case p41 => k_is)
    (case a42 => k_is); (case l42 => k_is); (case e42 => k_is); (case p42 => k_is)
    (case a43 => k_is); (case l43 => k_is); (case e43 => k_is); (case p43 => k_is)
    (case a44 => k_is); (case l44 => k_is); (case e44 => k_is); (case p44 => k_is)
    (case a45 => k_is); (case l45 => k_is); (case e45 => k_is); (case p45 => k_is)
    (case z0 => k_is); (case z1 => k_is); (case z2 => k_is); (case z3 => k_is); (case z4 => k_is); (case z5 => k_is); (case z6 => k_is); (case z7 => k_is); (case z8 => k_is); (case z9 => k_is); (case z10 => k_is); (case z11 => k_is); (case z12 => k_is); (case z13 => k_is); (case z14 => k_is); (case z15 => k_is)
