import PyProof.Rows.All
import Wide.All
import OpenK.AllK
import Wide.FinOn
import HandS.ForMost
import HandS.WideBits
import HandS.Flow
import HandS.Style
import HandS.IsInst
import HandS.Zip
import KE.KeyNested
import KE.DataEq
import HandS.TupAny
import HandS.SortInts
import HandS.More
import HandS.NoneIn
import KE.GoesMore
import KE.GoesEnum
import HandS.RaiseMore
import PyProof.ReprRoads
import HandS.Ends
import HandS.EndBits
import HandS.SetFor
import HandS.Strs
import HandS.Text
import HandS.Replace
import KE.KDictPairs
import HandS.SortOrd
import KE.KSortTupAny
import HandS.StrMore
import HandS.ReplaceLit
import PyProof.StrBlock2
import KE.GoesZip
import PyProof.Rows.RegStrFacts
import PyProof.Rows.StrStrike
import HandS.Keys
import PyProof.Rows.SumAny
import HandS.SortKw
import HandS.Exc
import KE.KDictKeyed
import KE.KDictWalk
import KE.SortKeyHeap
import KE.SortData
import KE.DataCmp
import HandS.CallLocal
import PyProof.Rows.StrMul
import PySem.Challenge.RW_nearways_k01_words_and_numbers
set_option Elab.async false
set_option linter.all false
set_option maxRecDepth 100000
set_option maxHeartbeats 2000000
namespace SL
open PySem PySem.Spec PyProof.Rows L2
/-! ### plain data, a plain heap -/
inductive D where
  | non | bl (b : Bool) | int (i : Int) | str (s : Str) | ty (n : String) | fn (n : Str) | exn (c : Str) | tup (ds : List D) | ref (n : Nat)
  deriving Inhabited
inductive XT where
  | nd (w : World) (ks : List NestedKey)
    | exc
def XT.F : XT → Addr → List V → Heap → Prop
  | .nd w ks, a, xs, h => ks.length ≤ sizeLine ∧ (a == sysModules) = false ∧ ks.Nodup ∧ ∃ (bs : List Addr) (vs : List V) (us : List Value), xs = bs.map V.ref ++ vs ∧ bs.length = ks.length ∧ vs.length = ks.length ∧ Vals vs us ∧
      ∃ o es ep, h.get? a = some o ∧ o.ExactDict ∧ o.data = .dict es ep ∧ es.toList = (ks.zip (bs.zip us)).map fun x => ⟨x.1.hash w, .ref x.2.1, x.2.2⟩
  | .exc, a, xs, h => ∃ (C : Addr) (oe : Obj) (vs : Array Value), xs = [V.ref C] ∧ h.get? a = some oe ∧ oe.cls = .ref C ∧ oe.dict = none ∧ oe.data = .fields vs
inductive AO where
  | lst (ds : List D) | fz (ds : List D) | dct (kvs : List (Key × D))
    | fzd (kvs : List (Key × D)) | dt (kvs : List (List Key × D)) | fzt (kvs : List (List Key × D))
    | ins (nm : Str) (fs : List (Str × D))
    | ext (t : XT) (ds : List D)
def AO.mu : AO → Bool
  | .fz _ => false
  | .fzd _ => false
  | .fzt _ => false
  | _ => true
def AO.lk : AO → Bool
  | .fzd _ => true
  | .fzt _ => true
  | _ => false
theorem AO.mu_lk {o : AO} (a : o.mu = true) (b : o.lk = true) : False := by
  cases o with
  | fzd _ => cases a
  | fzt _ => cases a
  | _ => cases b
abbrev Hs := List AO
abbrev Al := Nat → Addr
abbrev Rho := List (Option D)
def Mu (h : Hs) (n : Nat) : Prop := ∃ o, h[n]? = some o ∧ o.mu = true
def Lk (h : Hs) (n : Nat) : Prop := ∃ o, h[n]? = some o ∧ o.lk = true
theorem Mu.lt {h : Hs} {n : Nat} (m : Mu h n) : n < h.length := by
  obtain ⟨o, e, _⟩ := m
  exact (List.getElem?_eq_some_iff.mp e).1
section
variable (K : PySem.W.Frag) (α : Al) (L : Nat) (H : Hp)
def TpL (a : Addr) (xs : List V) : Prop := H a = some (.tup xs) ∨ ∀ H' : Hp, SqT K H' a xs
mutual
def Rep : D → V → Prop
  | .non, v => v = .non
  | .bl b, v => v = .bl b
  | .int i, v => v = .int i
  | .str s, v => v = .str s
  | .ty n, v => v = .ty n
  | .fn n, v => ∃ a, v = .ref a ∧ PySem.W.nsIn K mainGlobals n = some (some (.ref a))
  | .exn _, _ => False
  | .tup ds, v => ∃ a xs, v = .ref a ∧ TpL K H a xs ∧ Reps ds xs
  | .ref n, v => n < L ∧ v = .ref (α n)
def Reps : List D → List V → Prop
  | [], xs => xs = []
  | d :: ds, xs => ∃ x ys, xs = x :: ys ∧ Rep d x ∧ Reps ds ys
end
def FzL (a : Addr) (xs : List V) : Prop := (∃ o, H a = some (.frz o (.lst xs))) ∨ ∀ H' : Hp, SqL K H' a xs
def RepKV (kvs : List (Key × D)) (ys : List (Key × V)) : Prop := kvs.map (·.1) = ys.map (·.1) ∧ Reps K α L H (kvs.map (·.2)) (ys.map (·.2))
def RepTV (kvs : List (List Key × D)) (ys : List (List Key × V)) : Prop := kvs.map (·.1) = ys.map (·.1) ∧ Reps K α L H (kvs.map (·.2)) (ys.map (·.2))
def ClsN (K : PySem.W.Frag) (nm : Str) (C : Addr) : Prop := PySem.W.nsIn K mainGlobals nm = some (some (.ref C))
def RepF (fs : List (Str × D)) (ys : List (Str × V)) : Prop := fs.map (·.1) = ys.map (·.1) ∧ Reps K α L H (fs.map (·.2)) (ys.map (·.2))
def AtO (a : Addr) : AO → Prop
  | .lst ds => ∃ xs, H a = some (.lst xs) ∧ Reps K α L H ds xs
  | .fz ds => ∃ xs, FzL K H a xs ∧ Reps K α L H ds xs
  | .dct kvs => ∃ ys, H a = some (.dK ys) ∧ RepKV K α L H kvs ys
  | .fzd kvs => ∃ o ys, H a = some (.frz o (.dK ys)) ∧ RepKV K α L H kvs ys
  | .dt kvs => ∃ ys, H a = some (.dT ys) ∧ RepTV K α L H kvs ys
  | .fzt kvs => ∃ o ys, H a = some (.frz o (.dT ys)) ∧ RepTV K α L H kvs ys
  | .ins nm fs => ∃ C dx ys, ClsN K nm C ∧ H a = some (.ins C dx ys) ∧ H dx = some (.own a) ∧ RepF K α L H fs ys
  | .ext t ds => ∃ xs, H a = some (.ext (t.F a xs)) ∧ Reps K α L H ds xs
end
structure Mt (K : PySem.W.Frag) (α : Al) (H : Hp) (h : Hs) : Prop where
  at_ : ∀ n o, h[n]? = some o → AtO K α h.length H (α n) o
  inj : ∀ n m, Mu h n → Mu h m → α n = α m → n = m
structure Ex (α : Al) (H : Hp) (h : Hs) (α' : Al) (H' : Hp) (h' : Hs) : Prop where
  le : h.length ≤ h'.length
  al : ∀ n, n < h.length → α' n = α n
  kd : ∀ n, n < h.length → Mu h' n → Mu h n
  tups : ∀ b xs, H b = some (.tup xs) → H' b = some (.tup xs)
  frzs : ∀ b o u, H b = some (.frz o u) → H' b = some (.frz o u)
  dom : ∀ b, H' b = none → H b = none
  new : ∀ n, h.length ≤ n → n < h'.length → H (α' n) = none
  fr : ∀ b o, H b = some o → (∀ n, Mu h n → α n ≠ b) → H' b = some o
  lk : ∀ n, n < h.length → Lk h' n → Lk h n
section
variable {K : PySem.W.Frag} {α α' α1 α2 : Al} {H H' H1 H2 : Hp} {h h' h1 h2 : Hs} {L L' : Nat}
theorem Ex.refl : Ex α H h α H h := ⟨Nat.le_refl _, fun _ _ => rfl, fun _ _ m => m, fun _ _ e => e, fun _ _ _ e => e, fun _ e => e, fun n a b => absurd (Nat.lt_of_lt_of_le b a) (Nat.lt_irrefl _), fun _ _ e _ => e, fun _ _ m => m⟩
theorem Ex.trans (x : Ex α H h α1 H1 h1) (y : Ex α1 H1 h1 α2 H2 h2) : Ex α H h α2 H2 h2 where
  le := Nat.le_trans x.le y.le
  al := fun n l => (y.al n (Nat.lt_of_lt_of_le l x.le)).trans (x.al n l)
  kd := fun n l m => x.kd n l (y.kd n (Nat.lt_of_lt_of_le l x.le) m)
  lk := fun n l m => x.lk n l (y.lk n (Nat.lt_of_lt_of_le l x.le) m)
  tups := fun b xs e => y.tups b xs (x.tups b xs e)
  frzs := fun b o u e => y.frzs b o u (x.frzs b o u e)
  dom := fun b e => x.dom b (y.dom b e)
  new := fun n l l' => by
    by_cases q : n < h1.length
    · rw [y.al n q]; exact x.new n l q
    · exact x.dom _ (y.new n (Nat.le_of_not_lt q) l')
  fr := fun b o e u => y.fr b o (x.fr b o e u) fun n m => by
    by_cases q : n < h.length
    · rw [x.al n q]; exact u n (x.kd n q m)
    · intro z
      have e2 := x.new n (Nat.le_of_not_lt q) m.lt
      rw [z, e] at e2
      cases e2
theorem Ex.seqT {a : Addr} {xs : List V} (x : Ex α H h α' H' h') (s : TpL K H a xs) : TpL K H' a xs := by
  rcases s with s | s
  · exact .inl (x.tups _ _ s)
  · exact .inr s
theorem TpL.seq {a : Addr} {xs : List V} (s : TpL K H a xs) : SqT K H a xs := by
  rcases s with s | s
  · exact SqT.of s
  · exact s H
theorem Ex.fzL {a : Addr} {xs : List V} (x : Ex α H h α' H' h') (s : FzL K H a xs) : FzL K H' a xs := by
  rcases s with ⟨o, s⟩ | s
  · exact .inl ⟨o, x.frzs _ _ _ s⟩
  · exact .inr s
theorem FzL.seq {a : Addr} {xs : List V} (s : FzL K H a xs) : SqL K H a xs := by
  rcases s with ⟨o, s⟩ | s
  · exact .inl (.inr ⟨o, s⟩)
  · exact s H
mutual
theorem rep_mono (hL : L ≤ L') (ha : ∀ n, n < L → α' n = α n) (ht : ∀ a xs, TpL K H a xs → TpL K H' a xs) : ∀ (d : D) (v : V), Rep K α L H d v → Rep K α' L' H' d v
  | .non, _, e => e
  | .bl _, _, e => e
  | .int _, _, e => e
  | .str _, _, e => e
  | .ty _, _, e => e
  | .fn _, _, e => e
  | .exn _, _, e => e
  | .tup ds, _, ⟨a, xs, e, s, r⟩ => ⟨a, xs, e, ht a xs s, reps_mono hL ha ht ds xs r⟩
  | .ref n, _, ⟨l, e⟩ => ⟨Nat.lt_of_lt_of_le l hL, by rw [e, ha n l]⟩
theorem reps_mono (hL : L ≤ L') (ha : ∀ n, n < L → α' n = α n) (ht : ∀ a xs, TpL K H a xs → TpL K H' a xs) : ∀ (ds : List D) (vs : List V), Reps K α L H ds vs → Reps K α' L' H' ds vs
  | [], _, e => e
  | d :: ds, _, ⟨x, ys, e, r, t⟩ => ⟨x, ys, e, rep_mono hL ha ht d x r, reps_mono hL ha ht ds ys t⟩
end
theorem Ex.rep {d : D} {v : V} (x : Ex α H h α' H' h') (r : Rep K α h.length H d v) : Rep K α' h'.length H' d v := rep_mono x.le x.al (fun _ _ s => x.seqT s) d v r
theorem Ex.reps {d : List D} {v : List V} (x : Ex α H h α' H' h') (r : Reps K α h.length H d v) : Reps K α' h'.length H' d v := reps_mono x.le x.al (fun _ _ s => x.seqT s) d v r
theorem Ex.repKV {d : List (Key × D)} {v : List (Key × V)} (x : Ex α H h α' H' h') (r : RepKV K α h.length H d v) : RepKV K α' h'.length H' d v := ⟨r.1, x.reps r.2⟩
theorem Ex.repTV {d : List (List Key × D)} {v : List (List Key × V)} (x : Ex α H h α' H' h') (r : RepTV K α h.length H d v) : RepTV K α' h'.length H' d v := ⟨r.1, x.reps r.2⟩
theorem Ex.repF {d : List (Str × D)} {v : List (Str × V)} (x : Ex α H h α' H' h') (r : RepF K α h.length H d v) : RepF K α' h'.length H' d v := ⟨r.1, x.reps r.2⟩
theorem Reps.length : ∀ {ds : List D} {vs : List V}, Reps K α L H ds vs → vs.length = ds.length
  | [], _, e => by rw [show _ = [] from e]; rfl
  | d :: ds, _, ⟨x, ys, e, _, t⟩ => by rw [e, List.length_cons, List.length_cons, Reps.length t]
theorem Reps.nil : Reps K α L H [] [] := rfl
theorem Reps.cons {d : D} {ds : List D} {x : V} {xs : List V} (a : Rep K α L H d x) (b : Reps K α L H ds xs) : Reps K α L H (d :: ds) (x :: xs) := ⟨x, xs, rfl, a, b⟩
theorem Reps.get : ∀ {ds : List D} {vs : List V} {i : Nat} {d : D}, Reps K α L H ds vs → ds[i]? = some d → ∃ v, vs[i]? = some v ∧ Rep K α L H d v
  | [], _, _, _, _, e => by simp at e
  | d :: ds, _, 0, d', ⟨x, ys, e, r, _⟩, e2 => by
    have : d = d' := by simpa using e2
    subst this; subst e; exact ⟨x, rfl, r⟩
  | d :: ds, _, i + 1, d', ⟨x, ys, e, _, t⟩, e2 => by
    subst e
    obtain ⟨v, a, b⟩ := Reps.get (i := i) t (by simpa using e2)
    exact ⟨v, by simpa using a, b⟩
theorem Reps.append : ∀ {ds es : List D} {vs ws : List V}, Reps K α L H ds vs → Reps K α L H es ws → Reps K α L H (ds ++ es) (vs ++ ws)
  | [], _, _, _, e, t => by rw [e]; exact t
  | d :: ds, _, _, _, ⟨x, ys, e, r, t⟩, u => by subst e; exact ⟨x, _, rfl, r, Reps.append t u⟩
theorem Reps.take : ∀ {ds : List D} {vs : List V} (n : Nat), Reps K α L H ds vs → Reps K α L H (ds.take n) (vs.take n)
  | _, _, 0, _ => rfl
  | [], _, n + 1, e => by rw [e]; rfl
  | d :: ds, _, n + 1, ⟨x, ys, e, r, t⟩ => by subst e; exact ⟨x, _, rfl, r, Reps.take n t⟩
theorem Reps.drop : ∀ {ds : List D} {vs : List V} (n : Nat), Reps K α L H ds vs → Reps K α L H (ds.drop n) (vs.drop n)
  | _, _, 0, r => r
  | [], _, n + 1, e => by rw [e]; rfl
  | d :: ds, _, n + 1, ⟨x, ys, e, r, t⟩ => by subst e; exact Reps.drop n t
theorem Reps.set {d : D} {x : V} (r : Rep K α L H d x) : ∀ {ds : List D} {vs : List V} (i : Nat), Reps K α L H ds vs → Reps K α L H (ds.set i d) (vs.set i x)
  | [], _, _, e => by rw [e]; rfl
  | _ :: ds, _, 0, ⟨y, ys, e, _, t⟩ => by subst e; exact ⟨x, ys, rfl, r, t⟩
  | d' :: ds, _, i + 1, ⟨y, ys, e, q, t⟩ => by subst e; exact ⟨y, _, rfl, q, Reps.set r i t⟩
theorem Reps.ints : ∀ {ns : List Int} {vs : List V}, Reps K α L H (ns.map D.int) vs → vs = ns.map V.int
  | [], _, e => e
  | n :: ns, _, ⟨x, ys, e, r, t⟩ => by rw [e, show x = .int n from r, Reps.ints t]; rfl
theorem Reps.bls : ∀ {ns : List Bool} {vs : List V}, Reps K α L H (ns.map D.bl) vs → vs = ns.map V.bl
  | [], _, e => e
  | n :: ns, _, ⟨x, ys, e, r, t⟩ => by rw [e, show x = .bl n from r, Reps.bls t]; rfl
theorem Reps.of_ints : ∀ (ns : List Int), Reps K α L H (ns.map D.int) (ns.map V.int)
  | [] => rfl
  | n :: ns => ⟨_, _, rfl, rfl, Reps.of_ints ns⟩
/-! ### the moves -/
theorem Mt.some_of (m : Mt K α H h) {n : Nat} (u : Mu h n) : ∃ o, H (α n) = some o ∧ Mut (some o) := by
  obtain ⟨o, e, q⟩ := u
  have a := m.at_ n o e
  cases o with
  | lst ds => obtain ⟨xs, e1, _⟩ := a; exact ⟨_, e1, trivial⟩
  | ext xt ds => obtain ⟨xs, e1, _⟩ := a; exact ⟨_, e1, trivial⟩
  | fz ds => cases q
  | fzd kvs => cases q
  | fzt kvs => cases q
  | dt kvs => obtain ⟨xs, e1, _⟩ := a; exact ⟨_, e1, trivial⟩
  | dct kvs => obtain ⟨xs, e1, _⟩ := a; exact ⟨_, e1, trivial⟩
  | ins nm fs => obtain ⟨C, dx, ys, _, e1, _⟩ := a; exact ⟨_, e1, trivial⟩
theorem Mt.own (m : Mt K α H h) {dx a : Addr} (e : H dx = some (.own a)) : ∀ n, Mu h n → α n ≠ dx := fun n u z => by
  obtain ⟨o, e1, q⟩ := m.some_of u
  rw [z, e] at e1; cases e1; exact q
theorem Mt.stay (m : Mt K α H h) (x : Ex α H h α H' h) (k : ∀ n, Mu h n → H' (α n) = H (α n)) : Mt K α H' h where
  inj := m.inj
  at_ := fun n o e => by
    have a := m.at_ n o e
    cases o with
    | lst ds =>
      obtain ⟨xs, e1, r⟩ := a
      exact ⟨xs, (k n ⟨_, e, rfl⟩).trans e1, x.reps r⟩
    | ext xt ds =>
      obtain ⟨xs, e1, r⟩ := a
      exact ⟨xs, (k n ⟨_, e, rfl⟩).trans e1, x.reps r⟩
    | fz ds =>
      obtain ⟨xs, f, r⟩ := a
      exact ⟨xs, x.fzL f, x.reps r⟩
    | fzd kvs =>
      obtain ⟨ob, ys, e1, r⟩ := a
      exact ⟨ob, ys, x.frzs _ _ _ e1, x.repKV r⟩
    | fzt kvs =>
      obtain ⟨ob, ys, e1, r⟩ := a
      exact ⟨ob, ys, x.frzs _ _ _ e1, x.repTV r⟩
    | dct kvs =>
      obtain ⟨ys, e1, r⟩ := a
      exact ⟨ys, (k n ⟨_, e, rfl⟩).trans e1, x.repKV r⟩
    | dt kvs =>
      obtain ⟨ys, e1, r⟩ := a
      exact ⟨ys, (k n ⟨_, e, rfl⟩).trans e1, x.repTV r⟩
    | ins nm fs =>
      obtain ⟨C, dx, ys, c, e1, e2, r⟩ := a
      exact ⟨C, dx, ys, c, (k n ⟨_, e, rfl⟩).trans e1, x.fr _ _ e2 (m.own e2), x.repF r⟩
theorem Ex.grow {p : Addr} {o : HO} (hp : H p = none) : Ex α H h α (upd H p o) h where
  le := Nat.le_refl _
  al := fun _ _ => rfl
  kd := fun _ _ m => m
  lk := fun _ _ m => m
  tups := fun b xs e => by rw [upd_ne (ne_of_none e hp)]; exact e
  frzs := fun b o u e => by rw [upd_ne (ne_of_none e hp)]; exact e
  dom := fun b e => by
    by_cases q : b = p
    · rw [q]; exact hp
    · rw [upd_ne q] at e; exact e
  new := fun n a b => absurd (Nat.lt_of_lt_of_le b a) (Nat.lt_irrefl _)
  fr := fun b o e _ => by rw [upd_ne (ne_of_none e hp)]; exact e
theorem Mt.grow {p : Addr} {o : HO} (m : Mt K α H h) (hp : H p = none) : Mt K α (upd H p o) h := m.stay (Ex.grow hp) fun n u => by
  obtain ⟨o, e, _⟩ := m.some_of u
  rw [upd_ne (ne_of_none e hp)]
def al1 (α : Al) (n : Nat) (p : Addr) : Al := fun m => if m = n then p else α m
theorem al1_same {n : Nat} {p : Addr} : al1 α n p n = p := by unfold al1; rw [if_pos rfl]
theorem al1_ne {n m : Nat} {p : Addr} (e : m ≠ n) : al1 α n p m = α m := by unfold al1; rw [if_neg e]
theorem get_snoc {h : Hs} {o u : AO} {n : Nat} (e : (h ++ [o])[n]? = some u) : (n < h.length ∧ h[n]? = some u) ∨ (n = h.length ∧ u = o) := by
  by_cases q : n < h.length
  · rw [List.getElem?_append_left q] at e; exact .inl ⟨q, e⟩
  · rw [List.getElem?_append_right (Nat.le_of_not_lt q)] at e
    have : n - h.length = 0 := by
      by_cases z : n - h.length = 0
      · exact z
      · rw [List.getElem?_eq_none (by simp; omega)] at e; cases e
    rw [this] at e
    exact .inr ⟨by omega, by simpa using e.symm⟩
theorem Ex.alloc {p : Addr} {o : HO} {ao : AO} (hp : H p = none) : Ex α H h (al1 α h.length p) (upd H p o) (h ++ [ao]) where
  le := by simp
  al := fun n l => al1_ne (Nat.ne_of_lt l)
  kd := fun n l ⟨u, e, q⟩ => by
    rw [List.getElem?_append_left l] at e; exact ⟨u, e, q⟩
  lk := fun n l ⟨u, e, q⟩ => by
    rw [List.getElem?_append_left l] at e; exact ⟨u, e, q⟩
  tups := fun b xs e => by rw [upd_ne (ne_of_none e hp)]; exact e
  frzs := fun b o u e => by rw [upd_ne (ne_of_none e hp)]; exact e
  dom := fun b e => by
    by_cases q : b = p
    · rw [q]; exact hp
    · rw [upd_ne q] at e; exact e
  new := fun n a b => by
    have : n = h.length := by simp at b; omega
    rw [this, al1_same]; exact hp
  fr := fun b o e _ => by rw [upd_ne (ne_of_none e hp)]; exact e
theorem Mt.alloc {p : Addr} {o : HO} {ao : AO} (m : Mt K α H h) (hp : H p = none) (hn : AtO K (al1 α h.length p) (h ++ [ao]).length (upd H p o) p ao) : Mt K (al1 α h.length p) (upd H p o) (h ++ [ao]) where
  at_ := fun n u e => by
    have x : Ex α H h (al1 α h.length p) (upd H p o) (h ++ [ao]) := Ex.alloc hp
    rcases get_snoc e with ⟨l, e⟩ | ⟨l, rfl⟩
    · rw [x.al n l]
      have a := m.at_ n u e
      cases u with
      | lst ds =>
        obtain ⟨xs, e1, r⟩ := a
        exact ⟨xs, by rw [upd_ne (ne_of_none e1 hp)]; exact e1, x.reps r⟩
      | ext xt ds =>
        obtain ⟨xs, e1, r⟩ := a
        exact ⟨xs, by rw [upd_ne (ne_of_none e1 hp)]; exact e1, x.reps r⟩
      | fz ds =>
        obtain ⟨xs, f, r⟩ := a
        exact ⟨xs, x.fzL f, x.reps r⟩
      | fzd kvs =>
        obtain ⟨ob, ys, e1, r⟩ := a
        exact ⟨ob, ys, x.frzs _ _ _ e1, x.repKV r⟩
      | fzt kvs =>
        obtain ⟨ob, ys, e1, r⟩ := a
        exact ⟨ob, ys, x.frzs _ _ _ e1, x.repTV r⟩
      | dct kvs =>
        obtain ⟨ys, e1, r⟩ := a
        exact ⟨ys, by rw [upd_ne (ne_of_none e1 hp)]; exact e1, x.repKV r⟩
      | dt kvs =>
        obtain ⟨ys, e1, r⟩ := a
        exact ⟨ys, by rw [upd_ne (ne_of_none e1 hp)]; exact e1, x.repTV r⟩
      | ins nm fs =>
        obtain ⟨C, dx, ys, c, e1, e2, r⟩ := a
        exact ⟨C, dx, ys, c, by rw [upd_ne (ne_of_none e1 hp)]; exact e1, by rw [upd_ne (ne_of_none e2 hp)]; exact e2, x.repF r⟩
    · rw [l, al1_same]; exact hn
  inj := fun n k a b e => by
    have x : Ex α H h (al1 α h.length p) (upd H p o) (h ++ [ao]) := Ex.alloc hp
    have key : ∀ i, Mu (h ++ [ao]) i → i ≠ h.length → Mu h i ∧ al1 α h.length p i = α i := fun i u q => by
      have l : i < h.length := by have := u.lt; simp at this; omega
      exact ⟨x.kd i l u, al1_ne q⟩
    by_cases hn : n = h.length
    · by_cases hk : k = h.length
      · rw [hn, hk]
      · obtain ⟨u, q⟩ := key k b hk
        rw [hn, al1_same, q] at e
        obtain ⟨o', e', _⟩ := m.some_of u
        rw [← e, hp] at e'; cases e'
    · obtain ⟨u, q⟩ := key n a hn
      by_cases hk : k = h.length
      · rw [hk, al1_same, q] at e
        obtain ⟨o', e', _⟩ := m.some_of u
        rw [e, hp] at e'; cases e'
      · obtain ⟨u2, q2⟩ := key k b hk
        rw [q, q2] at e
        exact m.inj n k u u2 e
theorem Mu.set {n k : Nat} {ao : AO} (u : Mu h n) (hk : ao.mu = true) : Mu (h.set n ao) k ↔ Mu h k := by
  by_cases e : k = n
  · subst e
    constructor
    · intro _; exact u
    · intro _; exact ⟨ao, by rw [List.getElem?_set_self u.lt], hk⟩
  · constructor
    · rintro ⟨o, a, b⟩; rw [List.getElem?_set_ne (Ne.symm e)] at a; exact ⟨o, a, b⟩
    · rintro ⟨o, a, b⟩; exact ⟨o, by rw [List.getElem?_set_ne (Ne.symm e)]; exact a, b⟩
theorem Ex.write {n : Nat} {o : HO} {ao : AO} (m : Mt K α H h) (u : Mu h n) (hk : ao.mu = true) : Ex α H h α (upd H (α n) o) (h.set n ao) where
  le := by simp
  al := fun _ _ => rfl
  kd := fun k _ q => (Mu.set u hk).mp q
  lk := fun k _ ⟨w, e, q⟩ => by
    by_cases z : k = n
    · rw [z, List.getElem?_set_self u.lt] at e
      cases e; exact (AO.mu_lk hk q).elim
    · rw [List.getElem?_set_ne (Ne.symm z)] at e
      exact ⟨w, e, q⟩
  tups := fun b xs e => by
    obtain ⟨o', e', mm⟩ := m.some_of u
    have : b ≠ α n := fun z => by rw [z, e'] at e; cases e; exact mm
    rw [upd_ne this]; exact e
  frzs := fun b o u' e => by
    obtain ⟨o', e', mm⟩ := m.some_of u
    have : b ≠ α n := fun z => by rw [z, e'] at e; cases e; exact mm
    rw [upd_ne this]; exact e
  dom := fun b e => by
    by_cases q : b = α n
    · rw [q, upd_same] at e; cases e
    · rw [upd_ne q] at e; exact e
  new := fun k a b => by simp at b; omega
  fr := fun b o e q => by rw [upd_ne (fun z => q n u z.symm)]; exact e
theorem Mt.write {n : Nat} {o : HO} {ao : AO} (m : Mt K α H h) (u : Mu h n) (hk : ao.mu = true) (hn : AtO K α (h.set n ao).length (upd H (α n) o) (α n) ao) : Mt K α (upd H (α n) o) (h.set n ao) where
  at_ := fun k v e => by
    have x : Ex α H h α (upd H (α n) o) (h.set n ao) := Ex.write m u hk
    by_cases q : k = n
    · subst q
      rw [List.getElem?_set_self u.lt] at e
      cases e; exact hn
    · rw [List.getElem?_set_ne (Ne.symm q)] at e
      have a := m.at_ k v e
      cases v with
      | lst ds =>
        obtain ⟨xs, e1, r⟩ := a
        exact ⟨xs, by rw [upd_ne (fun z => q (m.inj k n ⟨_, e, rfl⟩ u z))]; exact e1, x.reps r⟩
      | ext xt ds =>
        obtain ⟨xs, e1, r⟩ := a
        exact ⟨xs, by rw [upd_ne (fun z => q (m.inj k n ⟨_, e, rfl⟩ u z))]; exact e1, x.reps r⟩
      | fz ds =>
        obtain ⟨xs, f, r⟩ := a
        exact ⟨xs, x.fzL f, x.reps r⟩
      | fzd kvs =>
        obtain ⟨ob, ys, e1, r⟩ := a
        exact ⟨ob, ys, x.frzs _ _ _ e1, x.repKV r⟩
      | fzt kvs =>
        obtain ⟨ob, ys, e1, r⟩ := a
        exact ⟨ob, ys, x.frzs _ _ _ e1, x.repTV r⟩
      | dct kvs =>
        obtain ⟨ys, e1, r⟩ := a
        exact ⟨ys, by rw [upd_ne (fun z => q (m.inj k n ⟨_, e, rfl⟩ u z))]; exact e1, x.repKV r⟩
      | dt kvs =>
        obtain ⟨ys, e1, r⟩ := a
        exact ⟨ys, by rw [upd_ne (fun z => q (m.inj k n ⟨_, e, rfl⟩ u z))]; exact e1, x.repTV r⟩
      | ins nm fs =>
        obtain ⟨C, dx, ys, c, e1, e2, r⟩ := a
        exact ⟨C, dx, ys, c, by rw [upd_ne (fun z => q (m.inj k n ⟨_, e, rfl⟩ u z))]; exact e1, by rw [upd_ne (fun z => m.own e2 n u z.symm)]; exact e2, x.repF r⟩
  inj := fun k l a b e => m.inj k l ((Mu.set u hk).mp a) ((Mu.set u hk).mp b) e
end
/-! ### the slots -/
def RepS (K : PySem.W.Frag) (α : Al) (L : Nat) (H : Hp) : Rho → L2.St → Prop
  | [], σ => σ = []
  | o :: ρ, σ => ∃ x τ, σ = x :: τ ∧ (∀ d, o = some d → ∃ v, x = some v ∧ Rep K α L H d v) ∧ RepS K α L H ρ τ
section
variable {K : PySem.W.Frag} {α α' : Al} {H H' : Hp} {h h' : Hs} {L : Nat}
theorem RepS.mono (x : Ex α H h α' H' h') : ∀ {ρ : Rho} {σ : L2.St}, RepS K α h.length H ρ σ → RepS K α' h'.length H' ρ σ
  | [], _, e => e
  | o :: ρ, _, ⟨a, τ, e, r, t⟩ => ⟨a, τ, e, fun d q => let ⟨v, e1, r1⟩ := r d q; ⟨v, e1, x.rep r1⟩, RepS.mono x t⟩
theorem RepS.get : ∀ {ρ : Rho} {σ : L2.St} {i : Nat} {d : D}, RepS K α L H ρ σ → ρ[i]? = some (some d) → ∃ v, σ[i]? = some (some v) ∧ Rep K α L H d v
  | [], _, _, _, _, e => by simp at e
  | o :: ρ, _, 0, d, ⟨a, τ, e, r, t⟩, q => by
    have : o = some d := by simpa using q
    obtain ⟨v, e1, r1⟩ := r d this
    subst e; subst e1; exact ⟨v, rfl, r1⟩
  | o :: ρ, _, i + 1, d, ⟨a, τ, e, r, t⟩, q => by
    subst e
    obtain ⟨v, e1, r1⟩ := RepS.get (i := i) t (by simpa using q)
    exact ⟨v, by simpa using e1, r1⟩
theorem RepS.set {d : D} {v : V} (q : Rep K α L H d v) : ∀ {ρ : Rho} {σ : L2.St} (i : Nat), RepS K α L H ρ σ → RepS K α L H (ρ.set i (some d)) (σ.set i (some v))
  | [], _, _, e => by rw [e]; rfl
  | o :: ρ, _, 0, ⟨a, τ, e, r, t⟩ => by subst e; exact ⟨some v, τ, rfl, fun d' z => by cases z; exact ⟨v, rfl, q⟩, t⟩
  | o :: ρ, _, i + 1, ⟨a, τ, e, r, t⟩ => by subst e; exact ⟨a, _, rfl, r, RepS.set q i t⟩
theorem RepS.clear {x : Option V} : ∀ {ρ : Rho} {σ : L2.St} (i : Nat), RepS K α L H ρ σ → RepS K α L H (ρ.set i none) (σ.set i x)
  | [], _, _, e => by rw [e]; rfl
  | o :: ρ, _, 0, ⟨a, τ, e, r, t⟩ => by subst e; exact ⟨x, τ, rfl, (fun d' z => nomatch z), t⟩
  | o :: ρ, _, i + 1, ⟨a, τ, e, r, t⟩ => by subst e; exact ⟨a, _, rfl, r, RepS.clear i t⟩
def wipeR (ρ : Rho) : List Nat → Rho
  | [] => ρ
  | v :: vs => (wipeR ρ vs).set v none
theorem RepS.wipe {ρ : Rho} {σ : L2.St} (r : RepS K α L H ρ σ) : ∀ vs : List Nat, RepS K α L H (wipeR ρ vs) (L2.wipe σ vs)
  | [] => r
  | v :: vs => RepS.clear v (RepS.wipe r vs)
theorem RepS.start {n : Nat} : ∀ {ds : List D} {vs : List V}, Reps K α L H ds vs → RepS K α L H (ds.map some ++ List.replicate n none) (vs.map some ++ List.replicate n Option.none)
  | [], _, e => by
    rw [e]
    show RepS K α L H (List.replicate n Option.none) (List.replicate n Option.none)
    induction n with
    | zero => rfl
    | succ n ih => exact ⟨Option.none, _, rfl, (fun _ z => nomatch z), ih⟩
  | d :: ds, _, ⟨x, ys, e, r, t⟩ => by subst e; exact ⟨some x, _, rfl, fun d' z => by cases z; exact ⟨x, rfl, r⟩, RepS.start t⟩
end
end SL
namespace SL
open PySem PySem.Spec PyProof.Rows L2
/-! ### what a piece of text means on plain data -/
def bd {α β : Type} (x : Option (α × Hs)) (f : α → Hs → Option (β × Hs)) : Option (β × Hs) :=
  match x with
  | none => none
  | some (a, h) => f a h
theorem bd_some {α β : Type} {x : Option (α × Hs)} {f : α → Hs → Option (β × Hs)} {r : β × Hs} (e : bd x f = some r) : ∃ a h, x = some (a, h) ∧ f a h = some r := by
  cases x with
  | none => cases e
  | some p => exact ⟨p.1, p.2, rfl, e⟩
@[simp] theorem bd_ok {α β : Type} {a : α} {h : Hs} {f : α → Hs → Option (β × Hs)} : bd (some (a, h)) f = f a h := rfl
@[simp] theorem bd_none {α β : Type} {f : α → Hs → Option (β × Hs)} : bd (none : Option (α × Hs)) f = none := rfl
abbrev MR (R : Type) := Rho → Hs → Option (R × Hs)
abbrev ME := MR D
abbrev MT := MR Bool
abbrev MA := MR (List D)
inductive Out | nx | rt (d : D) | bk | ct
abbrev MS := MR (Out × Rho)
section
variable {R T : Type}
abbrev Rl (R T : Type) := Al → Nat → Hp → R → T → Prop
def lift (rel : Rl R T) (K : PySem.W.Frag) (m : MR R) : L2.St → Hp → (T → Hp → Prop) → Prop := fun σ H Q =>
  ∃ ρ h α d h', RepS K α h.length H ρ σ ∧ Mt K α H h ∧ m ρ h = some (d, h') ∧ ∀ α' H' v, Ex α H h α' H' h' → Mt K α' H' h' → rel α' h'.length H' d v → Q v H'
def lE (K : PySem.W.Frag) (m : ME) : TE := lift (Rep K) K m
def lT (K : PySem.W.Frag) (m : MT) : TT := lift (fun _ _ _ d v => v = d) K m
def lA (K : PySem.W.Frag) (m : MA) : TA := lift (Reps K) K m
end
def CE (X : Cx) (e : Expr) (m : ME) : Prop := PE X e (lE X.K m)
def CT (X : Cx) (e : Expr) (m : MT) : Prop := PT X e (lT X.K m)
def CW (X : Cx) (e : Expr) (m : MT) : Prop := PW X e (lT X.K m)
def lS (K : PySem.W.Frag) (m : MS) : TS := fun E σ H =>
  ∃ ρ h α o ρ' h', RepS K α h.length H ρ σ ∧ Mt K α H h ∧ m ρ h = some ((o, ρ'), h') ∧ ∀ α' H' σ', Ex α H h α' H' h' → Mt K α' H' h' → RepS K α' h'.length H' ρ' σ' →
    match o with
    | .nx => E.nx σ' H'
    | .rt d => ∀ v, Rep K α' h'.length H' d v → E.rt v H'
    | .bk => E.bk σ' H'
    | .ct => E.ct σ' H'
def CS (X : Cx) (st : Stmt) (m : MS) : Prop := PS X st (lS X.K m)
def CSs (X : Cx) (st : List Stmt) (m : MS) : Prop := PSs X st (lS X.K m)
section
variable {X : Cx} {e a b c : Expr}
theorem PE.imp {t t' : TE} (h : PE X e t) (i : ∀ σ H Q, t' σ H Q → t σ H Q) : PE X e t' := ⟨fun pins s σ H Q I q => h.run pins s σ H Q I (i _ _ _ q)⟩
theorem PT.imp {t t' : TT} (h : PT X e t) (i : ∀ σ H Q, t' σ H Q → t σ H Q) : PT X e t' := ⟨fun pins s σ H Q I q => h.run pins s σ H Q I (i _ _ _ q)⟩
theorem PW.imp {t t' : TT} (h : PW X e t) (i : ∀ σ H Q, t' σ H Q → t σ H Q) : PW X e t' := ⟨fun w pins s σ H Q I q => h.run w pins s σ H Q I (i _ _ _ q)⟩
theorem PA.imp {es : List Expr} {t t' : TA} (h : PA X es t) (i : ∀ σ H Q, t' σ H Q → t σ H Q) : PA X es t' := ⟨fun p pins s σ H Q I q => h.run p pins s σ H Q I (i _ _ _ q)⟩
theorem PS.imp {st : Stmt} {t t' : TS} (h : PS X st t) (i : ∀ E σ H, t' E σ H → t E σ H) : PS X st t' := ⟨fun pins s σ H E I q => h.run pins s σ H E I (i _ _ _ q)⟩
theorem PSs.imp {st : List Stmt} {t t' : TS} (h : PSs X st t) (i : ∀ E σ H, t' E σ H → t E σ H) : PSs X st t' := ⟨fun pins s σ H E I q => h.run pins s σ H E I (i _ _ _ q)⟩
/-! ### names, constants -/
def eVar (i : Nat) : ME := fun ρ h => match ρ[i]? with
  | some (some d) => some (d, h)
  | _ => none
def eC (d : D) : ME := fun _ h => some (d, h)
theorem c_var (i : Nat) {x : Str} {pos : Pos} (hN : X.N[i]? = some x := by rfl) (hv : Vis X.env.scope x := by first | exact Or.inl rfl | exact Or.inr (Or.inl rfl) | exact Or.inr (Or.inr rfl)) (hd : (x == ("__debug__" : Str)) = false := by decide)
    (hcd : (x == ("__classdict__" : Str)) = false := by decide) : CE X (.Name x pos) (eVar i) :=
  PE.imp (pe_var (i := i) hN hv hd hcd) fun σ H Q ⟨ρ, h, α, d, h', rs, mt, e, q⟩ => by
    unfold eVar at e
    split at e
    · next d' e' =>
      cases e
      obtain ⟨v, e1, r⟩ := rs.get e'
      exact ⟨v, e1, q α H v Ex.refl mt r⟩
    · cases e
theorem c_const {d : D} {v : V} (hp : PE X e (tC v)) (r : ∀ α L H, Rep X.K α L H d v) : CE X e (eC d) :=
  PE.imp hp fun σ H Q ⟨ρ, h, α, d', h', rs, mt, e, q⟩ => by
    cases e
    exact q α H v Ex.refl mt (r _ _ _)
theorem c_int {i : Int} {j pos} : CE X (.Constant (.int i) j pos) (eC (.int i)) := c_const pe_int fun _ _ _ => rfl
theorem c_bl {b j pos} : CE X (.Constant (.bool b) j pos) (eC (.bl b)) := c_const pe_bl fun _ _ _ => rfl
theorem c_non {j pos} : CE X (.Constant .none j pos) (eC .non) := c_const pe_non fun _ _ _ => rfl
theorem c_str {x j pos} : CE X (.Constant (.str x) j pos) (eC (.str x)) := c_const pe_str fun _ _ _ => rfl
structure Kon (K : PySem.W.Frag) (mg : Str → Option Value) (x : Str) (d : D) : Prop where
  ex : ∃ u v, mg x = some u ∧ RelV v u ∧ ∀ α L H, Rep K α L H d v
theorem c_glob {x : Str} {d : D} {pos : Pos} (k : Kon X.K X.mg x d) (hg : Gl X x := by rfl) (hd : (x == ("__debug__" : Str)) = false := by decide) : CE X (.Name x pos) (eC d) := by
  obtain ⟨u, v, h1, h2, h3⟩ := k.ex
  exact c_const (pe_glob hg h1 h2 hd) h3
theorem c_bty {x : Str} {T : String} {pos : Pos} (hm : X.mg x = none) (hv : bootBuiltins x = some (.type T)) (hg : Gl X x := by rfl) (hn : x ≠ "__name__" := by decide) (hd : (x == ("__debug__" : Str)) = false := by decide) : CE X (.Name x pos) (eC (.ty T)) :=
  c_const (pe_bltn hg hm hv (v := .ty T) rfl hn hd) fun _ _ _ => rfl
/-! ### operators by values -/
abbrev GO := D → D → Hs → Option (D × Hs)
def lO (K : PySem.W.Frag) (g : GO) : R2 := fun x y H Q =>
  ∃ h α dx dy d h', Mt K α H h ∧ Rep K α h.length H dx x ∧ Rep K α h.length H dy y ∧ g dx dy h = some (d, h') ∧ ∀ α' H' v, Ex α H h α' H' h' → Mt K α' H' h' → Rep K α' h'.length H' d v → Q v H'
def CO (X : Cx) (f : Value → Value → Sem Value) (g : GO) : Prop := OpR X f (lO X.K g)
theorem OpR.imp {f : Value → Value → Sem Value} {r r' : R2} (h : OpR X f r) (i : ∀ x y H Q, r' x y H Q → r x y H Q) : OpR X f r' := fun pins s σ H x y v u Q I rx ry q => h pins s σ H x y v u Q I rx ry (i _ _ _ _ q)
def eOp (g : GO) (ma mb : ME) : ME := fun ρ h => bd (ma ρ h) fun x h1 => bd (mb ρ h1) fun y h2 => g x y h2
theorem op_seq {g : GO} {ma mb : ME} {K : PySem.W.Frag} {σ : L2.St} {H : Hp} {Q : VK} (t : lE K (eOp g ma mb) σ H Q) : tOp (lO K g) (lE K ma) (lE K mb) σ H Q := by
  obtain ⟨ρ, h, α, d, h', rs, mt, e, q⟩ := t
  obtain ⟨d1, h1, e1, e⟩ := bd_some e
  obtain ⟨d2, h2, e2, e3⟩ := bd_some e
  exact ⟨ρ, h, α, d1, h1, rs, mt, e1, fun α1 H1 v1 x1 m1 r1 => ⟨ρ, h1, α1, d2, h2, rs.mono x1, m1, e2, fun α2 H2 v2 x2 m2 r2 =>
    ⟨h2, α2, d1, d2, d, h', m2, x2.rep r1, r2, e3, fun α3 H3 v3 x3 m3 r3 => q α3 H3 v3 (x1.trans (x2.trans x3)) m3 r3⟩⟩⟩
variable {ma mb mc : ME} {pos : Pos}
theorem c_op {op : Operator} {g : GO} (ho : CO X (binaryOp op) g) (ha : CE X a ma) (hb : CE X b mb) : CE X (.BinOp a op b pos) (eOp g ma mb) :=
  PE.imp (pe_op ho ha hb) fun _ _ _ t => op_seq t
abbrev GU := D → Hs → Option (D × Hs)
def lU (K : PySem.W.Frag) (g : GU) : V → Hp → VK → Prop := fun x H Q =>
  ∃ h α dx d h', Mt K α H h ∧ Rep K α h.length H dx x ∧ g dx h = some (d, h') ∧ ∀ α' H' v, Ex α H h α' H' h' → Mt K α' H' h' → Rep K α' h'.length H' d v → Q v H'
def eUn (g : GU) (ma : ME) : ME := fun ρ h => bd (ma ρ h) fun x h1 => g x h1
theorem un_seq {g : GU} {K : PySem.W.Frag} {σ : L2.St} {H : Hp} {Q : VK} (t : lE K (eUn g ma) σ H Q) : lE K ma σ H fun x H1 => lU K g x H1 Q := by
  obtain ⟨ρ, h, α, d, h', rs, mt, e, q⟩ := t
  obtain ⟨d1, h1, e1, e2⟩ := bd_some e
  exact ⟨ρ, h, α, d1, h1, rs, mt, e1, fun α1 H1 v1 x1 m1 r1 => ⟨h1, α1, d1, d, h', m1, r1, e2, fun α3 H3 v3 x3 m3 r3 => q α3 H3 v3 (x1.trans x3) m3 r3⟩⟩
/-! ### ints -/
def addG : GO
  | .int i, .int j, h => some (.int (i + j), h)
  | .int i, .bl k, h => some (.int (i + b2i k), h)
  | .str x, .str y, h => if x.length + y.length ≤ sizeLine then some (.str (x ++ y), h) else none
  | .tup xs, .tup ys, h => if xs.length + ys.length ≤ sizeLine then some (.tup (xs ++ ys), h) else none
  | .ref n, .ref m, h => match h[n]?, h[m]? with
    | some (.lst xs), some (.lst ys) => if xs.length + ys.length ≤ sizeLine then some (.ref h.length, h ++ [.lst (xs ++ ys)]) else none
    | _, _ => none
  | _, _, _ => none
def subG : GO
  | .int i, .int j, h => some (.int (i - j), h)
  | _, _, _ => none
def mulG : GO
  | .int i, .int j, h => if Builtin.Int.intBits i + Builtin.Int.intBits j ≤ 134217728 then some (.int (i * j), h) else none
  | .ref n, .int k, h => match h[n]? with
    | some (.lst xs) => if xs.length * k.toNat ≤ sizeLine ∧ -(2 ^ 63) ≤ k ∧ k < 2 ^ 63 then some (.ref h.length, h ++ [.lst (List.replicate k.toNat xs).flatten]) else none
    | _ => none
  | _, _, _ => none
def fdivG : GO
  | .int i, .int j, h => if j ≠ 0 ∧ j.natAbs.log2 < 9000 then some (.int (i.fdiv j), h) else none
  | _, _, _ => none
def modG : GO
  | .int i, .int j, h => if j ≠ 0 then some (.int (i.fmod j), h) else none
  | _, _, _ => none
def powG : GO
  | .int i, .int j, h => if 0 ≤ j ∧ (Builtin.Int.intBits i : Int) * j ≤ 2 ^ 27 then some (.int (i ^ j.toNat), h) else none
  | _, _, _ => none
def shlG : GO
  | .int i, .int j, h => if 0 ≤ j ∧ (Builtin.Int.intBits i : Int) + j ≤ 2 ^ 27 then some (.int (i * 2 ^ j.toNat), h) else none
  | _, _, _ => none
theorem op_fdivX : OpR X (binaryOp .FloorDiv) (rI (fun _ j => j ≠ 0 ∧ j.natAbs.log2 < 9000) fun i j => .int (i.fdiv j)) := opI fun i j _ _ _ _ _ hc q =>
  floordiv_int hc.1 q (.inl (PyProof.noPylong_of_log2 hc.2))
theorem op_powX : OpR X (binaryOp .Pow) (rI (fun i j => 0 ≤ j ∧ (Builtin.Int.intBits i : Int) * j ≤ 2 ^ 27) fun i j => .int (i ^ j.toNat)) := opI fun i j _ _ _ _ _ hc q => pow_int hc.1 hc.2 q
theorem co_ints {f : Value → Value → Sem Value} {C : Int → Int → Prop} {g : Int → Int → Int} {G : GO} (ho : OpR X f (rI C fun i j => .int (g i j)))
    (hG : ∀ x y h r, G x y h = some r → ∃ i j, x = .int i ∧ y = .int j ∧ C i j ∧ r = (.int (g i j), h)) : CO X f G := OpR.imp ho fun x y H Q ⟨h, α, dx, dy, d, h', mt, rx, ry, e, q⟩ => by
  obtain ⟨i, j, rfl, rfl, c, er⟩ := hG _ _ _ _ e
  cases er
  exact ⟨i, j, rx, ry, c, q α H _ Ex.refl mt rfl⟩
theorem co_sub : CO X (binaryOp .Sub) subG := OpR.imp op_sub fun x y H Q ⟨h, α, dx, dy, d, h', mt, rx, ry, e, q⟩ => by
  unfold subG at e
  split at e
  · cases e
    exact ⟨_, _, rx, ry, q α H _ Ex.refl mt rfl⟩
  · cases e
theorem co_fdiv : CO X (binaryOp .FloorDiv) fdivG := co_ints op_fdivX fun x y h r e => by
  unfold fdivG at e
  split at e
  · split at e
    · next c => cases e; exact ⟨_, _, rfl, rfl, c, rfl⟩
    · cases e
  · cases e
theorem co_mod : CO X (binaryOp .Mod) modG := co_ints op_modN fun x y h r e => by
  unfold modG at e
  split at e
  · split at e
    · next c => cases e; exact ⟨_, _, rfl, rfl, c, rfl⟩
    · cases e
  · cases e
theorem co_pow : CO X (binaryOp .Pow) powG := co_ints op_powX fun x y h r e => by
  unfold powG at e
  split at e
  · split at e
    · next c => cases e; exact ⟨_, _, rfl, rfl, c, rfl⟩
    · cases e
  · cases e
theorem Mt.lst {K : PySem.W.Frag} {α : Al} {H : Hp} {h : Hs} {n : Nat} {ds : List D} (m : Mt K α H h) (e : h[n]? = some (.lst ds)) : ∃ xs, H (α n) = some (.lst xs) ∧ Reps K α h.length H ds xs := m.at_ n _ e
theorem seqT_same {K : PySem.W.Frag} {H : Hp} {p : Addr} {xs : List V} : TpL K (upd H p (.tup xs)) p xs := .inl upd_same
theorem len_snoc {h : Hs} {o : AO} : (h ++ [o]).length = h.length + 1 := by simp
theorem new_lst {K : PySem.W.Frag} {α : Al} {H : Hp} {h : Hs} {ds : List D} {xs : List V} {p : Addr} (mt : Mt K α H h) (hp : H p = none) (r : Reps K α h.length H ds xs) :
    ∃ α', Ex α H h α' (upd H p (.lst xs)) (h ++ [.lst ds]) ∧ Mt K α' (upd H p (.lst xs)) (h ++ [.lst ds]) ∧ Rep K α' (h ++ [AO.lst ds]).length (upd H p (.lst xs)) (.ref h.length) (.ref p) := by
  have x : Ex α H h (al1 α h.length p) (upd H p (.lst xs)) (h ++ [.lst ds]) := Ex.alloc hp
  exact ⟨_, x, mt.alloc hp ⟨xs, upd_same, x.reps r⟩, by rw [len_snoc]; exact Nat.lt_succ_self _, by rw [al1_same]⟩
theorem new_tup {K : PySem.W.Frag} {α : Al} {H : Hp} {h : Hs} {ds : List D} {xs : List V} {p : Addr} (hp : H p = none) (r : Reps K α h.length H ds xs) : Rep K α h.length (upd H p (.tup xs)) (.tup ds) (.ref p) :=
  ⟨p, xs, rfl, seqT_same, (Ex.grow (h := h) hp).reps r⟩
theorem co_add : CO X (binaryOp .Add) addG := by
  have hr := OpR.or (X := X) op_add (OpR.or op_add_ib (OpR.or op_add_str (OpR.or op_catA op_cat)))
  refine OpR.imp hr fun x y H Q ⟨h, α, dx, dy, d, h', mt, rx, ry, e, q⟩ => ?_
  unfold addG at e
  split at e
  · cases e
    exact .inl ⟨_, _, rx, ry, q α H _ Ex.refl mt rfl⟩
  · cases e
    exact .inr (.inl ⟨_, _, rx, ry, q α H _ Ex.refl mt rfl⟩)
  · split at e
    · next c =>
      cases e
      exact .inr (.inr (.inl ⟨_, _, rx, ry, c, q α H _ Ex.refl mt rfl⟩))
    · cases e
  · next xs ys =>
    split at e
    · next c =>
      cases e
      obtain ⟨a, vs, ea, sa, ra⟩ := rx
      obtain ⟨b, ws, eb, sb, rb⟩ := ry
      refine .inr (.inr (.inr (.inl ⟨a, b, vs, ws, ea, eb, sa.seq, sb.seq, ?_, ?_, ?_, ?_⟩)))
      · rw [ra.length, rb.length]; exact c
      · intro z
        subst z
        have : xs = [] := by
          have := ra.length
          cases xs with
          | nil => rfl
          | cons _ _ => simp at this
        subst this
        exact q α H _ Ex.refl mt ⟨b, ws, rfl, sb, rb⟩
      · intro _ z
        subst z
        have : ys = [] := by
          have := rb.length
          cases ys with
          | nil => rfl
          | cons _ _ => simp at this
        subst this
        refine q α H _ Ex.refl mt ⟨a, vs, rfl, sa, ?_⟩
        rw [List.append_nil]; exact ra
      · intro _ _ p hp
        exact q α _ _ (Ex.grow hp) (mt.grow hp) (new_tup hp (ra.append rb))
    · cases e
  · split at e
    · next e1 e2 =>
      split at e
      · next c =>
        cases e
        obtain ⟨_, rx⟩ := rx
        obtain ⟨_, ry⟩ := ry
        obtain ⟨vs, s1, r1⟩ := mt.lst e1
        obtain ⟨ws, s2, r2⟩ := mt.lst e2
        refine .inr (.inr (.inr (.inr ⟨_, _, vs, ws, rx, ry, s1, s2, by rw [r1.length, r2.length]; exact c, fun p hp => ?_⟩)))
        obtain ⟨α', x1, m1, r3⟩ := new_lst mt hp (r1.append r2)
        exact q α' _ _ x1 m1 r3
      · cases e
    · cases e
  · cases e
theorem co_mul : CO X (binaryOp .Mult) mulG := by
  have hr := OpR.or (X := X) op_mulX op_rep
  refine OpR.imp hr fun x y H Q ⟨h, α, dx, dy, d, h', mt, rx, ry, e, q⟩ => ?_
  unfold mulG at e
  split at e
  · split at e
    · next c =>
      cases e
      exact .inl ⟨_, _, rx, ry, by unfold CMulX; omega, q α H _ Ex.refl mt rfl⟩
    · cases e
  · split at e
    · next e1 =>
      split at e
      · next c =>
        cases e
        obtain ⟨_, rx⟩ := rx
        obtain ⟨vs, s1, r1⟩ := mt.lst e1
        refine .inr ⟨_, _, vs, rx, ry, s1, c.2.1, c.2.2, by rw [r1.length]; exact c.1, fun p hp => ?_⟩
        have r2 : ∀ n, Reps X.K α h.length H (List.replicate n _).flatten (List.replicate n vs).flatten := fun n => by
          induction n with
          | zero => exact Reps.nil
          | succ n ih => rw [List.replicate_succ, List.replicate_succ, List.flatten_cons, List.flatten_cons]; exact r1.append ih
        obtain ⟨α', x1, m1, r3⟩ := new_lst mt hp (r2 _)
        exact q α' _ _ x1 m1 r3
      · cases e
    · cases e
  · cases e
end
end SL
namespace SL
open PySem PySem.Spec PyProof.Rows L2
/-! ### data as a whole, for == and in -/
def mapO {α β : Type} (f : α → Option β) : List α → Option (List β)
  | [] => some []
  | a :: as => match f a, mapO f as with
    | some b, some bs => some (b :: bs)
    | _, _ => none
def getL (h : Hs) (n : Nat) : Option (List D) := match h[n]? with
  | some (.lst ds) => some ds
  | some (.fz ds) => some ds
  | _ => none
def toP : Nat → Hs → D → Option PyData
  | _, _, .non => some .none
  | _, _, .bl b => some (.bool b)
  | _, _, .int i => some (.int i)
  | _, _, .str s => some (.str s)
  | _, _, .ty _ => none
  | _, _, .fn _ => none
  | _, _, .exn _ => none
  | 0, _, .tup _ => none
  | 0, _, .ref _ => none
  | n + 1, h, .tup ds => match mapO (toP n h) ds with
    | some ps => some (.tuple ps)
    | none => none
  | n + 1, h, .ref k => match getL h k with
    | some ds => match mapO (toP n h) ds with
      | some ps => some (.list ps)
      | none => none
    | none => none
section
variable {K : PySem.W.Frag} {α : Al} {H : Hp} {h : Hs} {L : Nat}
theorem Mt.getL {n : Nat} {ds : List D} (m : Mt K α H h) (e : getL h n = some ds) : ∃ xs, SqL K H (α n) xs ∧ Reps K α h.length H ds xs := by
  unfold SL.getL at e
  split at e
  · next e1 => cases e; obtain ⟨xs, a, b⟩ := m.at_ n _ e1; exact ⟨xs, SqL.of a, b⟩
  · next e1 => cases e; obtain ⟨xs, a, b⟩ := m.at_ n _ e1; exact ⟨xs, a.seq, b⟩
  · cases e
theorem mapO_dp {f : D → Option PyData} (hf : ∀ d p v, f d = some p → Rep K α L H d v → Dp K H v p) : ∀ {ds : List D} {ps : List PyData} {vs : List V}, mapO f ds = some ps → Reps K α L H ds vs → DpAll K H vs ps
  | [], ps, vs, e, r => by cases e; rw [show vs = [] from r]; exact .nil
  | d :: ds, ps, vs, e, ⟨x, ys, ev, r, t⟩ => by
    unfold mapO at e
    split at e
    · next e1 e2 => cases e; subst ev; exact .cons (hf _ _ _ e1 r) (mapO_dp hf e2 t)
    · cases e
theorem toP_dp (m : Mt K α H h) : ∀ (n : Nat) (d : D) (p : PyData) (v : V), toP n h d = some p → Rep K α h.length H d v → Dp K H v p := by
  intro n
  induction n with
  | zero =>
    intro d p v e r
    cases d <;> unfold toP at e <;> cases e <;> cases r
    · exact .non
    · exact .bl _
    · exact .int _
    · exact .str _
  | succ n ih =>
    intro d p v e r
    cases d with
    | non => cases e; cases r; exact .non
    | bl b => cases e; cases r; exact .bl _
    | int i => cases e; cases r; exact .int _
    | str s => cases e; cases r; exact .str _
    | ty t => cases e
    | fn t => cases e
    | exn t => cases e
    | tup ds =>
      unfold toP at e
      split at e
      · next e1 => cases e; obtain ⟨a, xs, rfl, s, q⟩ := r; exact .tup s.seq (mapO_dp ih e1 q)
      · cases e
    | ref k =>
      unfold toP at e
      split at e
      · next e0 =>
        split at e
        · next e1 => cases e; obtain ⟨_, rfl⟩ := r; obtain ⟨xs, s, q⟩ := m.getL e0; exact .lst s (mapO_dp ih e1 q)
        · cases e
      · cases e
theorem mapO_depth {f : D → Option PyData} {n : Nat} (hf : ∀ d p, f d = some p → p.depth ≤ n ∧ p.plain = true) : ∀ {ds : List D} {ps : List PyData}, mapO f ds = some ps → PyData.depthAll ps ≤ n ∧ PyData.plainAll ps = true
  | [], ps, e => by cases e; exact ⟨Nat.zero_le _, rfl⟩
  | d :: ds, ps, e => by
    unfold mapO at e
    split at e
    · next e1 e2 =>
      cases e
      have a := hf _ _ e1
      have b := mapO_depth hf e2
      refine ⟨Nat.max_le.mpr ⟨a.1, b.1⟩, ?_⟩
      simp only [PyData.plainAll, a.2, b.2, Bool.and_self]
    · cases e
theorem toP_depth : ∀ (n : Nat) (h : Hs) (d : D) (p : PyData), toP n h d = some p → p.depth ≤ n ∧ p.plain = true := by
  intro n
  induction n with
  | zero =>
    intro h d p e
    cases d <;> unfold toP at e <;> cases e <;> exact ⟨Nat.zero_le _, rfl⟩
  | succ n ih =>
    intro h d p e
    cases d with
    | non => cases e; exact ⟨Nat.zero_le _, rfl⟩
    | bl b => cases e; exact ⟨Nat.zero_le _, rfl⟩
    | int i => cases e; exact ⟨Nat.zero_le _, rfl⟩
    | str s => cases e; exact ⟨Nat.zero_le _, rfl⟩
    | ty t => cases e
    | fn t => cases e
    | exn t => cases e
    | tup ds =>
      unfold toP at e
      split at e
      · next e1 => cases e; have a := mapO_depth (fun d p => ih h d p) e1; exact ⟨Nat.succ_le_succ a.1, a.2⟩
      · cases e
    | ref k =>
      unfold toP at e
      split at e
      · split at e
        · next e1 => cases e; have a := mapO_depth (fun d p => ih h d p) e1; exact ⟨Nat.succ_le_succ a.1, a.2⟩
        · cases e
      · cases e
end
def eqB (h : Hs) (x y : D) : Option Bool := match toP 32 h x, toP 32 h y with
  | some a, some b => some (PyData.eqv a b)
  | _, _ => none
def eqG : GO := fun x y h => match eqB h x y with
  | some k => some (.bl k, h)
  | none => none
def neG : GO := fun x y h => match eqB h x y with
  | some k => some (.bl (!k), h)
  | none => none
def ltG : GO
  | .int i, .int j, h => some (.bl (decide (i < j)), h)
  | .str i, .str j, h => some (.bl (decide (i.cps.toList < j.cps.toList)), h)
  | _, _, _ => none
def leG : GO
  | .int i, .int j, h => some (.bl (decide (i ≤ j)), h)
  | .str i, .str j, h => some (.bl (!decide (j.cps.toList < i.cps.toList)), h)
  | _, _, _ => none
def gtG : GO
  | .int i, .int j, h => some (.bl (decide (j < i)), h)
  | _, _, _ => none
def geG : GO
  | .int i, .int j, h => some (.bl (decide (j ≤ i)), h)
  | _, _, _ => none
def isNonD : D → Bool
  | .non => true
  | _ => false
def isG : GO
  | x, .non, h => some (.bl (isNonD x), h)
  | .bl a, .bl b, h => some (.bl (decide (a = b)), h)
  | _, _, _ => none
def isNotG : GO
  | x, .non, h => some (.bl (!isNonD x), h)
  | .bl a, .bl b, h => some (.bl (!decide (a = b)), h)
  | _, _, _ => none
/-! ### dicts -/
def keyOf : D → Option Key
  | .int i => some (.inl i)
  | .str s => some (.inr s)
  | _ => none
def valD (kvs : List (Key × D)) (k : Key) : Option D := (kvs.find? fun kv => decide (kv.1 = k)).map (·.2)
def putD (kvs : List (Key × D)) (k : Key) (v : D) : List (Key × D) :=
  if (kvs.any fun kv => decide (kv.1 = k)) = true then kvs.map (fun kv => if kv.1 = k then (kv.1, v) else kv) else kvs ++ [(k, v)]
def memB (h : Hs) (x : D) (ds : List D) : Option Bool := match toP 32 h x, mapO (toP 32 h) ds with
  | some a, some bs => some (bs.any fun y => PyData.eqv y a)
  | _, _ => none
def inB : D → D → Hs → Option Bool
  | .str x, .str z, h => match x.cps.toList with
    | [c] => some (decide (c ∈ z.cps.toList))
    | _ => some (!(Builtin.Str.occurrences z x 0 z.length 1).isEmpty)
  | x, .tup ds, h => memB h x ds
  | x, .ref n, h => match h[n]? with
    | some (.dct kvs) => match keyOf x with
      | some k => some (valD kvs k).isSome
      | none => none
    | some (.lst ds) => memB h x ds
    | some (.fz ds) => memB h x ds
    | _ => none
  | _, _, _ => none
def inG : GO := fun x y h => match inB x y h with
  | some k => some (.bl k, h)
  | none => none
def notInG : GO := fun x y h => match inB x y h with
  | some k => some (.bl (!k), h)
  | none => none
section
variable {K : PySem.W.Frag} {α : Al} {H : Hp} {h : Hs} {L : Nat}
theorem repKV_val : ∀ {kvs : List (Key × D)} {ys : List (Key × V)} {k : Key}, RepKV K α L H kvs ys → (match valD kvs k with | some d => ∃ v, valV ys k = some v ∧ Rep K α L H d v | none => valV ys k = none)
  | [], ys, k, ⟨a, b⟩ => by
    have : ys = [] := by
      cases ys with
      | nil => rfl
      | cons _ _ => cases a
    rw [this]; rfl
  | (k1, d) :: r, [], k, ⟨a, b⟩ => nomatch a
  | (k1, d) :: r, (k2, v) :: t, k, ⟨a, b⟩ => by
    simp only [List.map_cons, List.cons.injEq] at a
    obtain ⟨x, ys, e, r1, r2⟩ := b
    simp only [List.map_cons, List.cons.injEq] at e
    obtain ⟨e1, e2⟩ := e
    have ih := repKV_val (k := k) (kvs := r) (ys := t) ⟨a.2, by rw [e2]; exact r2⟩
    by_cases c : k1 = k
    · have c2 : k2 = k := by rw [← a.1]; exact c
      have z1 : valD ((k1, d) :: r) k = some d := by unfold valD; rw [List.find?_cons]; simp [c]
      rw [z1, valV_pos (p := (k2, v)) c2]
      exact ⟨v, rfl, by show Rep K α L H d v; rw [show v = x from e1]; exact r1⟩
    · have c2 : ¬ k2 = k := by rw [← a.1]; exact c
      have z1 : valD ((k1, d) :: r) k = valD r k := by unfold valD; rw [List.find?_cons]; simp [c]
      rw [z1, valV_neg (p := (k2, v)) c2]
      exact ih
theorem repKV_len {kvs : List (Key × D)} {ys : List (Key × V)} (r : RepKV K α L H kvs ys) : ys.length = kvs.length := by
  have := congrArg List.length r.1
  simpa using this.symm
theorem repKV_any {kvs : List (Key × D)} {ys : List (Key × V)} {k : Key} (r : RepKV K α L H kvs ys) : (kvs.any fun kv => decide (kv.1 = k)) = (ys.any fun kv => decide (kv.1 = k)) := by
  have e : ∀ {T : Type} (l : List (Key × T)), (l.any fun kv => decide (kv.1 = k)) = (l.map (·.1)).any fun q => decide (q = k) := fun l => by rw [List.any_map]; rfl
  rw [e, e, r.1]
theorem repKV_map {k : Key} {d : D} {v : V} (q : Rep K α L H d v) : ∀ {kvs : List (Key × D)} {ys : List (Key × V)}, RepKV K α L H kvs ys →
    RepKV K α L H (kvs.map fun kv => if kv.1 = k then (kv.1, d) else kv) (ys.map fun kv => if kv.1 = k then (kv.1, v) else kv)
  | [], ys, ⟨a, b⟩ => by
    have : ys = [] := by
      cases ys with
      | nil => rfl
      | cons _ _ => cases a
    rw [this]; exact ⟨rfl, rfl⟩
  | (k1, d1) :: r, [], ⟨a, b⟩ => nomatch a
  | (k1, d1) :: r, (k2, v1) :: t, ⟨a, b⟩ => by
    simp only [List.map_cons, List.cons.injEq] at a
    obtain ⟨x, ys, e, r1, r2⟩ := b
    simp only [List.map_cons, List.cons.injEq] at e
    have ih := repKV_map (k := k) q (kvs := r) (ys := t) ⟨a.2, by rw [e.2]; exact r2⟩
    have a1 : k1 = k2 := a.1
    subst a1
    by_cases c : k1 = k
    · refine ⟨?_, ?_⟩
      · simp only [List.map_cons, c, if_true]; rw [ih.1]
      · simp only [List.map_cons, c, if_true]; exact ⟨_, _, rfl, q, ih.2⟩
    · refine ⟨?_, ?_⟩
      · simp only [List.map_cons, c, if_false]; rw [ih.1]
      · simp only [List.map_cons, c, if_false]; exact ⟨_, _, rfl, by rw [show v1 = x from e.1]; exact r1, ih.2⟩
theorem repKV_put {kvs : List (Key × D)} {ys : List (Key × V)} {k : Key} {d : D} {v : V} (r : RepKV K α L H kvs ys) (q : Rep K α L H d v) : RepKV K α L H (putD kvs k d) (putK ys k v) := by
  unfold putD putK
  rw [repKV_any r]
  split
  · exact repKV_map q r
  · refine ⟨by rw [List.map_append, List.map_append, r.1]; rfl, ?_⟩
    rw [List.map_append, List.map_append]
    exact r.2.append (Reps.cons q Reps.nil)
end
section
variable {X : Cx} {e a b c : Expr} {ma mb mc : ME} {pos : Pos}
theorem op_eqP (hu : X.A.units + 64 < cLine) : OpR X (compareOp .Eq) (fun x y H Q => ∃ d e, Dp X.K H x d ∧ Dp X.K H y e ∧ (d.depth ≤ 32 ∧ d.plain = true) ∧ (e.depth ≤ 32 ∧ e.plain = true) ∧ Q (.bl (PyData.eqv d e)) H) := by
  intro pins s σ H x y v u Q I rx ry h
  obtain ⟨d, e, hd, he, ⟨sd, pd⟩, ⟨se, pe⟩, q⟩ := h
  obtain ⟨as, r1⟩ := Dp.reads I d x v hd rx
  obtain ⟨bs, r2⟩ := Dp.reads I e y u he ry
  exact SeqAt.eq_plain r1 r2 pd pe (by omega) ⟨.bl _, H, I, rfl, q⟩
theorem op_neP (hu : X.A.units + 64 < cLine) : OpR X (compareOp .NotEq) (fun x y H Q => ∃ d e, Dp X.K H x d ∧ Dp X.K H y e ∧ (d.depth ≤ 32 ∧ d.plain = true) ∧ (e.depth ≤ 32 ∧ e.plain = true) ∧ Q (.bl (!PyData.eqv d e)) H) := by
  intro pins s σ H x y v u Q I rx ry h
  obtain ⟨d, e, hd, he, ⟨sd, pd⟩, ⟨se, pe⟩, q⟩ := h
  obtain ⟨as, r1⟩ := Dp.reads I d x v hd rx
  obtain ⟨bs, r2⟩ := Dp.reads I e y u he ry
  exact SeqAt.ne_plain r1 r2 pd pe (by omega) ⟨.bl _, H, I, rfl, q⟩
theorem eqB_some {h : Hs} {x y : D} {k : Bool} (e : eqB h x y = some k) : ∃ a b, toP 32 h x = some a ∧ toP 32 h y = some b ∧ k = PyData.eqv a b := by
  unfold eqB at e
  split at e
  · next e1 e2 => cases e; exact ⟨_, _, e1, e2, rfl⟩
  · cases e
theorem co_eq (hu : X.A.units + 64 < cLine) : CO X (compareOp .Eq) eqG := OpR.imp (op_eqP hu) fun x y H Q ⟨h, α, dx, dy, d, h', mt, rx, ry, e, q⟩ => by
  unfold eqG at e
  split at e
  · next e0 =>
    cases e
    obtain ⟨a, b, e1, e2, rfl⟩ := eqB_some e0
    exact ⟨a, b, toP_dp mt _ _ _ _ e1 rx, toP_dp mt _ _ _ _ e2 ry, toP_depth _ _ _ _ e1, toP_depth _ _ _ _ e2, q α H _ Ex.refl mt rfl⟩
  · cases e
theorem co_ne (hu : X.A.units + 64 < cLine) : CO X (compareOp .NotEq) neG := OpR.imp (op_neP hu) fun x y H Q ⟨h, α, dx, dy, d, h', mt, rx, ry, e, q⟩ => by
  unfold neG at e
  split at e
  · next e0 =>
    cases e
    obtain ⟨a, b, e1, e2, rfl⟩ := eqB_some e0
    exact ⟨a, b, toP_dp mt _ _ _ _ e1 rx, toP_dp mt _ _ _ _ e2 ry, toP_depth _ _ _ _ e1, toP_depth _ _ _ _ e2, q α H _ Ex.refl mt rfl⟩
  · cases e
theorem co_lt : CO X (compareOp .Lt) ltG := OpR.imp (OpR.or op_lt op_lt_str) fun x y H Q ⟨h, α, dx, dy, d, h', mt, rx, ry, e, q⟩ => by
  unfold ltG at e
  split at e
  · cases e; exact .inl ⟨_, _, rx, ry, q α H _ Ex.refl mt rfl⟩
  · cases e; exact .inr ⟨_, _, rx, ry, q α H _ Ex.refl mt rfl⟩
  · cases e
theorem co_le : CO X (compareOp .LtE) leG := OpR.imp (OpR.or op_le op_le_str) fun x y H Q ⟨h, α, dx, dy, d, h', mt, rx, ry, e, q⟩ => by
  unfold leG at e
  split at e
  · cases e; exact .inl ⟨_, _, rx, ry, q α H _ Ex.refl mt rfl⟩
  · cases e; exact .inr ⟨_, _, rx, ry, q α H _ Ex.refl mt rfl⟩
  · cases e
theorem co_gt : CO X (compareOp .Gt) gtG := OpR.imp op_gt fun x y H Q ⟨h, α, dx, dy, d, h', mt, rx, ry, e, q⟩ => by
  unfold gtG at e
  split at e
  · cases e; exact ⟨_, _, rx, ry, q α H _ Ex.refl mt rfl⟩
  · cases e
theorem co_ge : CO X (compareOp .GtE) geG := OpR.imp op_ge fun x y H Q ⟨h, α, dx, dy, d, h', mt, rx, ry, e, q⟩ => by
  unfold geG at e
  split at e
  · cases e; exact ⟨_, _, rx, ry, q α H _ Ex.refl mt rfl⟩
  · cases e
theorem rep_non {K : PySem.W.Frag} {α : Al} {L : Nat} {H : Hp} {d : D} {v : V} (r : Rep K α L H d v) : decide (v = .non) = isNonD d := by
  cases d with
  | non => rw [show v = .non from r]; rfl
  | bl _ => rw [show v = _ from r]; rfl
  | int _ => rw [show v = _ from r]; rfl
  | str _ => rw [show v = _ from r]; rfl
  | ty _ => rw [show v = _ from r]; rfl
  | fn _ => obtain ⟨_, rfl, _⟩ := r; rfl
  | exn _ => exact r.elim
  | tup _ => obtain ⟨a, xs, rfl, _⟩ := r; rfl
  | ref _ => obtain ⟨_, rfl⟩ := r; rfl
theorem co_is : CO X (compareOp .Is) isG := OpR.imp (OpR.or op_isN op_isBl) fun x y H Q ⟨h, α, dx, dy, d, h', mt, rx, ry, e, q⟩ => by
  unfold isG at e
  split at e
  · cases e; exact .inl ⟨ry, by rw [rep_non rx]; exact q α H _ Ex.refl mt rfl⟩
  · cases e; exact .inr ⟨_, _, rx, ry, q α H _ Ex.refl mt rfl⟩
  · cases e
theorem co_isNot : CO X (compareOp .IsNot) isNotG := OpR.imp (OpR.or op_notN op_notBl) fun x y H Q ⟨h, α, dx, dy, d, h', mt, rx, ry, e, q⟩ => by
  unfold isNotG at e
  split at e
  · cases e; exact .inl ⟨ry, by rw [rep_non rx]; exact q α H _ Ex.refl mt rfl⟩
  · cases e; exact .inr ⟨_, _, rx, ry, q α H _ Ex.refl mt rfl⟩
  · cases e
/-! in -/
theorem op_inSeq (hu : X.A.units + 64 < cLine) : OpR X (compareOp .In) (fun x y H Q => ∃ a xs ps d, y = .ref a ∧ (SqL X.K H a xs ∨ SqT X.K H a xs) ∧ DpAll X.K H xs ps ∧ Dp X.K H x d ∧ (PyData.depthAll ps ≤ 32 ∧ PyData.plainAll ps = true) ∧ (d.depth ≤ 32 ∧ d.plain = true) ∧
    Q (.bl (ps.any fun z => PyData.eqv z d)) H) := by
  intro pins s σ H x y v u Q I rx ry h
  obtain ⟨a, xs, ps, d, rfl, hs, hp, hd, ⟨s1, p1⟩, ⟨s2, p2⟩, q⟩ := h
  obtain ⟨bs, r2⟩ := Dp.reads I d x v hd rx
  rcases hs with hs | hs
  · obtain ⟨as, r1⟩ := Dp.reads I (.list ps) _ u (.lst hs hp) ry
    exact SeqAt.in_list_data r1 r2 p1 p2 (by omega) ⟨.bl _, H, I, rfl, q⟩
  · obtain ⟨as, r1⟩ := Dp.reads I (.tuple ps) _ u (.tup hs hp) ry
    exact SeqAt.in_tuple_data r1 r2 p1 p2 (by omega) ⟨.bl _, H, I, rfl, q⟩
theorem op_notInSeq (hu : X.A.units + 64 < cLine) : OpR X (compareOp .NotIn) (fun x y H Q => ∃ a xs ps d, y = .ref a ∧ (SqL X.K H a xs ∨ SqT X.K H a xs) ∧ DpAll X.K H xs ps ∧ Dp X.K H x d ∧ (PyData.depthAll ps ≤ 32 ∧ PyData.plainAll ps = true) ∧ (d.depth ≤ 32 ∧ d.plain = true) ∧
    Q (.bl (!ps.any fun z => PyData.eqv z d)) H) := by
  intro pins s σ H x y v u Q I rx ry h
  obtain ⟨a, xs, ps, d, rfl, hs, hp, hd, ⟨s1, p1⟩, ⟨s2, p2⟩, q⟩ := h
  obtain ⟨bs, r2⟩ := Dp.reads I d x v hd rx
  rcases hs with hs | hs
  · obtain ⟨as, r1⟩ := Dp.reads I (.list ps) _ u (.lst hs hp) ry
    exact SeqAt.notIn_list_data r1 r2 p1 p2 (by omega) ⟨.bl _, H, I, rfl, q⟩
  · obtain ⟨as, r1⟩ := Dp.reads I (.tuple ps) _ u (.tup hs hp) ry
    exact SeqAt.notIn_tuple_data r1 r2 p1 p2 (by omega) ⟨.bl _, H, I, rfl, q⟩
theorem op_inDct (hu : X.A.units + 64 < cLine) : OpR X (compareOp .In) (fun x y H Q => ∃ a o, y = .ref a ∧ DGet H a x o ∧ Q (.bl o.isSome) H) := by
  intro pins s σ H x y v u Q I rx ry h
  obtain ⟨a, o, rfl, g, q⟩ := h
  cases ry
  exact d_in (by omega) I g rx fun s' I' => ⟨.bl _, H, I', rfl, q⟩
theorem op_notInDct (hu : X.A.units + 64 < cLine) : OpR X (compareOp .NotIn) (fun x y H Q => ∃ a o, y = .ref a ∧ DGet H a x o ∧ Q (.bl (!o.isSome)) H) := by
  intro pins s σ H x y v u Q I rx ry h
  obtain ⟨a, o, rfl, g, q⟩ := h
  cases ry
  exact d_notIn (by omega) I g rx fun s' I' => ⟨.bl _, H, I', rfl, q⟩
theorem memB_some {h : Hs} {x : D} {ds : List D} {k : Bool} (e : memB h x ds = some k) : ∃ a bs, toP 32 h x = some a ∧ mapO (toP 32 h) ds = some bs ∧ k = (bs.any fun y => PyData.eqv y a) := by
  unfold memB at e
  split at e
  · next e1 e2 => cases e; exact ⟨_, _, e1, e2, rfl⟩
  · cases e
theorem key_rep {K : PySem.W.Frag} {α : Al} {L : Nat} {H : Hp} {d : D} {k : Key} {v : V} (e : keyOf d = some k) (r : Rep K α L H d v) : v = kV k := by
  unfold keyOf at e
  split at e
  · cases e; exact r
  · cases e; exact r
  · cases e
theorem val_some {K : PySem.W.Frag} {α : Al} {L : Nat} {H : Hp} {kvs : List (Key × D)} {ys : List (Key × V)} {k : Key} (r : RepKV K α L H kvs ys) : (valV ys k).isSome = (valD kvs k).isSome := by
  have := repKV_val (k := k) r
  split at this
  · next e => obtain ⟨v, a, _⟩ := this; rw [a, e]; rfl
  · next e => rw [this, e]; rfl
theorem in_cases {x y : D} {h : Hs} {k : Bool} (e : inB x y h = some k) : (∃ s z, x = .str s ∧ y = .str z ∧ ((∃ c, s = ⟨#[c]⟩ ∧ k = decide (c ∈ z.cps.toList)) ∨ k = !(Builtin.Str.occurrences z s 0 z.length 1).isEmpty)) ∨
    (∃ ds, y = .tup ds ∧ memB h x ds = some k) ∨ (∃ n ds, y = .ref n ∧ getL h n = some ds ∧ memB h x ds = some k) ∨ (∃ n kvs q, y = .ref n ∧ h[n]? = some (.dct kvs) ∧ keyOf x = some q ∧ k = (valD kvs q).isSome) := by
  unfold inB at e
  split at e
  · split at e
    · next s z _ _ e1 =>
      cases e
      refine .inl ⟨_, _, rfl, rfl, .inl ⟨_, ?_, rfl⟩⟩
      have h1 : s = ⟨s.cps.toList.toArray⟩ := by cases s; simp
      rw [h1, e1]
    · cases e; exact .inl ⟨_, _, rfl, rfl, .inr rfl⟩
  · exact .inr (.inl ⟨_, rfl, e⟩)
  · split at e
    · next e1 =>
      split at e
      · next e2 => cases e; exact .inr (.inr (.inr ⟨_, _, _, rfl, e1, e2, rfl⟩))
      · cases e
    · next e1 => exact .inr (.inr (.inl ⟨_, _, rfl, by unfold getL; rw [e1], e⟩))
    · next e1 => exact .inr (.inr (.inl ⟨_, _, rfl, by unfold getL; rw [e1], e⟩))
    · cases e
  · cases e
theorem co_in (hu : X.A.units + 64 < cLine) : CO X (compareOp .In) inG := OpR.imp (OpR.or op_in_sign (OpR.or op_in_str (OpR.or (op_inSeq hu) (op_inDct hu)))) fun x y H Q ⟨h, α, dx, dy, d, h', mt, rx, ry, e, q⟩ => by
  unfold inG at e
  split at e
  · next e0 =>
    cases e
    rcases in_cases e0 with ⟨s, z, rfl, rfl, ⟨c, rfl, rfl⟩ | rfl⟩ | ⟨ds, rfl, e1⟩ | ⟨n, ds, rfl, e1, e2⟩ | ⟨n, kvs, q', rfl, e1, e2, rfl⟩
    · exact .inl ⟨_, _, rx, ry, q α H _ Ex.refl mt rfl⟩
    · exact .inr (.inl ⟨_, _, rx, ry, q α H _ Ex.refl mt rfl⟩)
    · obtain ⟨a, bs, e2, e3, rfl⟩ := memB_some e1
      obtain ⟨p, xs, rfl, sq, rr⟩ := ry
      exact .inr (.inr (.inl ⟨p, xs, bs, a, rfl, .inr sq.seq, mapO_dp (toP_dp mt 32) e3 rr, toP_dp mt _ _ _ _ e2 rx, mapO_depth (fun d p => toP_depth 32 h d p) e3, toP_depth _ _ _ _ e2, q α H _ Ex.refl mt rfl⟩))
    · obtain ⟨a, bs, e3, e4, rfl⟩ := memB_some e2
      obtain ⟨_, rfl⟩ := ry
      obtain ⟨xs, sq, rr⟩ := mt.getL e1
      exact .inr (.inr (.inl ⟨_, xs, bs, a, rfl, .inl sq, mapO_dp (toP_dp mt 32) e4 rr, toP_dp mt _ _ _ _ e3 rx, mapO_depth (fun d p => toP_depth 32 h d p) e4, toP_depth _ _ _ _ e3, q α H _ Ex.refl mt rfl⟩))
    · obtain ⟨_, rfl⟩ := ry
      obtain ⟨ys, a1, rr⟩ := mt.at_ n _ e1
      refine .inr (.inr (.inr ⟨_, valV ys q', rfl, by rw [key_rep e2 rx]; exact DGet.k a1, ?_⟩))
      rw [val_some rr]
      exact q α H _ Ex.refl mt rfl
  · cases e
theorem co_notIn (hu : X.A.units + 64 < cLine) : CO X (compareOp .NotIn) notInG := OpR.imp (OpR.or op_notIn_sign (OpR.or op_notIn_str (OpR.or (op_notInSeq hu) (op_notInDct hu)))) fun x y H Q ⟨h, α, dx, dy, d, h', mt, rx, ry, e, q⟩ => by
  unfold notInG at e
  split at e
  · next e0 =>
    cases e
    rcases in_cases e0 with ⟨s, z, rfl, rfl, ⟨c, rfl, rfl⟩ | rfl⟩ | ⟨ds, rfl, e1⟩ | ⟨n, ds, rfl, e1, e2⟩ | ⟨n, kvs, q', rfl, e1, e2, rfl⟩
    · exact .inl ⟨_, _, rx, ry, q α H _ Ex.refl mt rfl⟩
    · exact .inr (.inl ⟨_, _, rx, ry, q α H _ Ex.refl mt rfl⟩)
    · obtain ⟨a, bs, e2, e3, rfl⟩ := memB_some e1
      obtain ⟨p, xs, rfl, sq, rr⟩ := ry
      exact .inr (.inr (.inl ⟨p, xs, bs, a, rfl, .inr sq.seq, mapO_dp (toP_dp mt 32) e3 rr, toP_dp mt _ _ _ _ e2 rx, mapO_depth (fun d p => toP_depth 32 h d p) e3, toP_depth _ _ _ _ e2, q α H _ Ex.refl mt rfl⟩))
    · obtain ⟨a, bs, e3, e4, rfl⟩ := memB_some e2
      obtain ⟨_, rfl⟩ := ry
      obtain ⟨xs, sq, rr⟩ := mt.getL e1
      exact .inr (.inr (.inl ⟨_, xs, bs, a, rfl, .inl sq, mapO_dp (toP_dp mt 32) e4 rr, toP_dp mt _ _ _ _ e3 rx, mapO_depth (fun d p => toP_depth 32 h d p) e4, toP_depth _ _ _ _ e3, q α H _ Ex.refl mt rfl⟩))
    · obtain ⟨_, rfl⟩ := ry
      obtain ⟨ys, a1, rr⟩ := mt.at_ n _ e1
      refine .inr (.inr (.inr ⟨_, valV ys q', rfl, by rw [key_rep e2 rx]; exact DGet.k a1, ?_⟩))
      rw [val_some rr]
      exact q α H _ Ex.refl mt rfl
  · cases e
theorem c_cmp {op : CmpOp} {g : GO} (ho : CO X (compareOp op) g) (ha : CE X a ma) (hb : CE X b mb) (hm : behindInMarks op b = false := by first | exact nomark _ | rfl) : CE X (.Compare a [op] [b] pos) (eOp g ma mb) :=
  PE.imp (pe_cmpR ho ha hb hm) fun _ _ _ t => op_seq t
/-! ### tests -/
def tV (m : ME) : MT := fun ρ h => match m ρ h with
  | some (.bl b, h1) => some (b, h1)
  | _ => none
theorem tV_some {m : ME} {ρ : Rho} {h h' : Hs} {b : Bool} (e : tV m ρ h = some (b, h')) : m ρ h = some (.bl b, h') := by
  unfold tV at e
  split at e
  · next e1 => cases e; exact e1
  · cases e
theorem t_cmp {op : CmpOp} {g : GO} (ho : CO X (compareOp op) g) (ha : CE X a ma) (hb : CE X b mb) (hm : behindInMarks op b = false := by first | exact nomark _ | rfl) : CT X (.Compare a [op] [b] pos) (tV (eOp g ma mb)) :=
  PT.imp (pt_cmpR ho ha hb hm) fun σ H Q t => by
    obtain ⟨ρ, h, α, d, h', rs, mt, e, q⟩ := t
    exact op_seq ⟨ρ, h, α, _, h', rs, mt, tV_some e, fun α1 H1 v1 x1 m1 r1 => ⟨d, r1, q α1 H1 d x1 m1 rfl⟩⟩
def eChain (g g' : GO) (ma mb mc : ME) : ME := fun ρ h => bd (ma ρ h) fun x h1 => bd (mb ρ h1) fun y h2 => bd (g x y h2) fun z h3 => match z with
  | .bl true => bd (mc ρ h3) fun w h4 => g' y w h4
  | .bl false => some (.bl false, h3)
  | _ => none
theorem chain_seq {g g' : GO} {K : PySem.W.Frag} {σ : L2.St} {H : Hp} {Q : VK} (t : lE K (eChain g g' ma mb mc) σ H Q) : tChain (lO K g) (lO K g') (lE K ma) (lE K mb) (lE K mc) σ H Q := by
  obtain ⟨ρ, h, α, d, h', rs, mt, e, q⟩ := t
  obtain ⟨d1, h1, e1, e⟩ := bd_some e
  obtain ⟨d2, h2, e2, e⟩ := bd_some e
  obtain ⟨d3, h3, e3, e⟩ := bd_some e
  refine ⟨ρ, h, α, d1, h1, rs, mt, e1, fun α1 H1 v1 x1 m1 r1 => ⟨ρ, h1, α1, d2, h2, rs.mono x1, m1, e2, fun α2 H2 v2 x2 m2 r2 =>
    ⟨h2, α2, d1, d2, d3, h3, m2, x2.rep r1, r2, e3, fun α3 H3 v3 x3 m3 r3 => ?_⟩⟩⟩
  split at e
  · obtain ⟨d4, h4, e4, e⟩ := bd_some e
    refine ⟨true, r3, ?_⟩
    rw [if_pos rfl]
    exact ⟨ρ, h3, α3, d4, h4, ((rs.mono x1).mono x2).mono x3, m3, e4, fun α4 H4 v4 x4 m4 r4 => ⟨h4, α4, d2, d4, d, h', m4, (x3.trans x4).rep r2, r4, e, fun α5 H5 v5 x5 m5 r5 => q α5 H5 v5 (x1.trans (x2.trans (x3.trans (x4.trans x5)))) m5 r5⟩⟩
  · cases e
    refine ⟨false, r3, ?_⟩
    rw [if_neg (by decide)]
    exact q α3 H3 _ (x1.trans (x2.trans x3)) m3 rfl
  · cases e
theorem c_chain {op op' : CmpOp} {g g' : GO} (ho : CO X (compareOp op) g) (ho' : CO X (compareOp op') g') (ha : CE X a ma) (hb : CE X b mb) (hc : CE X c mc)
    (hm : lastMarks [op, op'] [b, c] = false := by with_unfolding_all rfl) : CE X (.Compare a [op, op'] [b, c] pos) (eChain g g' ma mb mc) :=
  PE.imp (pe_chain ho ho' ha hb hc hm) fun _ _ _ t => chain_seq t
theorem t_chain {op op' : CmpOp} {g g' : GO} (ho : CO X (compareOp op) g) (ho' : CO X (compareOp op') g') (ha : CE X a ma) (hb : CE X b mb) (hc : CE X c mc)
    (hm : lastMarks [op, op'] [b, c] = false := by with_unfolding_all rfl) : CT X (.Compare a [op, op'] [b, c] pos) (tV (eChain g g' ma mb mc)) :=
  PT.imp (pt_chain ho ho' ha hb hc hm) fun σ H Q t => by
    obtain ⟨ρ, h, α, d, h', rs, mt, e, q⟩ := t
    exact chain_seq ⟨ρ, h, α, _, h', rs, mt, tV_some e, fun α1 H1 v1 x1 m1 r1 => ⟨d, r1, q α1 H1 d x1 m1 rfl⟩⟩
def truD (h : Hs) : D → Option Bool
  | .non => some false
  | .bl b => some b
  | .int i => some (i != 0)
  | .str s => if s.length ≤ sizeLine then some ((s.length : Int) != 0) else none
  | .ty _ => none
  | .fn _ => none
  | .exn _ => none
  | .tup ds => some (!ds.isEmpty)
  | .ref n => match h[n]? with
    | some (.lst ds) => some (!ds.isEmpty)
    | some (.fz ds) => some (!ds.isEmpty)
    | some (.dct kvs) => some (!kvs.isEmpty)
    | _ => none
theorem empty_len {A B : Type} {xs : List A} {ys : List B} (e : ys.length = xs.length) : xs.isEmpty = ys.isEmpty := by
  cases xs <;> cases ys <;> first | rfl | (simp at e)
theorem truD_ok {K : PySem.W.Frag} {α : Al} {H : Hp} {h : Hs} {d : D} {v : V} {k : Bool} (mt : Mt K α H h) (r : Rep K α h.length H d v) (e : truD h d = some k) : TruV K v H k := by
  cases d with
  | non => cases e; cases r; rfl
  | bl b => cases e; cases r; rfl
  | int i => cases e; cases r; rfl
  | str s =>
    cases r
    simp only [truD] at e
    split at e
    · next c => cases e; exact ⟨c, rfl⟩
    · cases e
  | ty _ => cases e
  | fn _ => cases e
  | exn _ => cases e
  | tup ds => cases e; obtain ⟨a, xs, rfl, s, q⟩ := r; exact .inr (.inl ⟨xs, s.seq, by rw [empty_len q.length]⟩)
  | ref n =>
    obtain ⟨_, rfl⟩ := r
    simp only [truD] at e
    split at e
    · next e1 => cases e; obtain ⟨xs, s, q⟩ := mt.at_ n _ e1; exact .inl ⟨xs, SqL.of s, by rw [empty_len q.length]⟩
    · next e1 => cases e; obtain ⟨xs, s, q⟩ := mt.at_ n _ e1; exact .inl ⟨xs, s.seq, by rw [empty_len q.length]⟩
    · next e1 => cases e; obtain ⟨xs, s, q⟩ := mt.at_ n _ e1; exact .inr (.inr ⟨xs, s, by rw [empty_len (repKV_len q)]⟩)
    · cases e
def tTru (m : ME) : MT := fun ρ h => bd (m ρ h) fun d h1 => match truD h1 d with
  | some k => some (k, h1)
  | none => none
theorem tTru_lift {K : PySem.W.Frag} {m : ME} {σ : L2.St} {H : Hp} {Q : Bool → Hp → Prop} (t : lT K (tTru m) σ H Q) : lE K m σ H fun x H' => ∃ k, TruV K x H' k ∧ Q k H' := by
  obtain ⟨ρ, h, α, d, h', rs, mt, e, q⟩ := t
  obtain ⟨d1, h1, e1, e⟩ := bd_some e
  split at e
  · next e2 => cases e; exact ⟨ρ, h, α, d1, _, rs, mt, e1, fun α1 H1 v1 x1 m1 r1 => ⟨_, truD_ok m1 r1 e2, q α1 H1 _ x1 m1 rfl⟩⟩
  · cases e
theorem t_tru (ha : CE X a ma) (he : ∀ whole, isTrue a X.env whole = (do let v ← whole; standAt a.pos; holding [v] (truthy v)) := by intro _; rfl) : CT X a (tTru ma) :=
  PT.imp (pt_truth ha he) fun _ _ _ t => tTru_lift t
def tAnd2 (t u : MT) : MT := fun ρ h => bd (t ρ h) fun k h1 => if k = true then u ρ h1 else some (false, h1)
def tOr2 (t u : MT) : MT := fun ρ h => bd (t ρ h) fun k h1 => if k = true then some (true, h1) else u ρ h1
def tNot1 (t : MT) : MT := fun ρ h => bd (t ρ h) fun k h1 => some (!k, h1)
variable {ta tb : MT} {rest : List Expr}
theorem t_and1 (ha : CT X a ta) : CW X (.BoolOp .And [a] pos) ta := pw_and1 ha
theorem t_or1 (ha : CT X a ta) : CW X (.BoolOp .Or [a] pos) ta := pw_or1 ha
theorem t_and (ha : CT X a ta) (hb : CW X (.BoolOp .And (b :: rest) pos) tb) : CW X (.BoolOp .And (a :: b :: rest) pos) (tAnd2 ta tb) :=
  PW.imp (pw_and ha hb) fun σ H Q ⟨ρ, h, α, d, h', rs, mt, e, q⟩ => by
    obtain ⟨d1, h1, e1, e⟩ := bd_some e
    refine ⟨ρ, h, α, d1, h1, rs, mt, e1, fun α1 H1 v1 x1 m1 r1 => ?_⟩
    subst r1
    split at e
    · next c => subst c; exact ⟨ρ, h1, α1, d, h', rs.mono x1, m1, e, fun α2 H2 v2 x2 m2 r2 => q α2 H2 v2 (x1.trans x2) m2 r2⟩
    · next c => cases e; rw [if_neg c]; exact q α1 H1 _ x1 m1 rfl
theorem t_or (ha : CT X a ta) (hb : CW X (.BoolOp .Or (b :: rest) pos) tb) : CW X (.BoolOp .Or (a :: b :: rest) pos) (tOr2 ta tb) :=
  PW.imp (pw_or ha hb) fun σ H Q ⟨ρ, h, α, d, h', rs, mt, e, q⟩ => by
    obtain ⟨d1, h1, e1, e⟩ := bd_some e
    refine ⟨ρ, h, α, d1, h1, rs, mt, e1, fun α1 H1 v1 x1 m1 r1 => ?_⟩
    subst r1
    split at e
    · next c => cases e; subst c; exact q α1 H1 _ x1 m1 rfl
    · next c => rw [if_neg c]; exact ⟨ρ, h1, α1, d, h', rs.mono x1, m1, e, fun α2 H2 v2 x2 m2 r2 => q α2 H2 v2 (x1.trans x2) m2 r2⟩
theorem CW.pt {t : MT} (h : CW X e t) : CT X e t := PW.pt h
theorem t_not (ha : CT X a ta) : CT X (.UnaryOp .Not a pos) (tNot1 ta) :=
  PT.imp (pt_not ha) fun σ H Q ⟨ρ, h, α, d, h', rs, mt, e, q⟩ => by
    obtain ⟨d1, h1, e1, e⟩ := bd_some e
    cases e
    exact ⟨ρ, h, α, d1, _, rs, mt, e1, fun α1 H1 v1 x1 m1 r1 => by subst r1; exact q α1 H1 _ x1 m1 rfl⟩
def eAnd2 (ma mb : ME) : ME := fun ρ h => bd (ma ρ h) fun d h1 => match truD h1 d with
  | some true => mb ρ h1
  | some false => some (d, h1)
  | none => none
def eOr2 (ma mb : ME) : ME := fun ρ h => bd (ma ρ h) fun d h1 => match truD h1 d with
  | some true => some (d, h1)
  | some false => mb ρ h1
  | none => none
def eNot1 (ma : ME) : ME := fun ρ h => bd (ma ρ h) fun d h1 => match truD h1 d with
  | some k => some (.bl (!k), h1)
  | none => none
theorem c_one {op} (ha : CE X a ma) : CE X (.BoolOp op [a] pos) ma := pe_one ha
theorem c_and (ha : CE X a ma) (hb : CE X (.BoolOp .And (b :: rest) pos) mb) : CE X (.BoolOp .And (a :: b :: rest) pos) (eAnd2 ma mb) :=
  PE.imp (pe_andT ha hb) fun σ H Q ⟨ρ, h, α, d, h', rs, mt, e, q⟩ => by
    obtain ⟨d1, h1, e1, e⟩ := bd_some e
    refine ⟨ρ, h, α, d1, h1, rs, mt, e1, fun α1 H1 v1 x1 m1 r1 => ?_⟩
    split at e
    · next c => exact ⟨true, truD_ok m1 r1 c, by rw [if_pos rfl]; exact ⟨ρ, h1, α1, d, h', rs.mono x1, m1, e, fun α2 H2 v2 x2 m2 r2 => q α2 H2 v2 (x1.trans x2) m2 r2⟩⟩
    · next c => cases e; exact ⟨false, truD_ok m1 r1 c, by rw [if_neg (by decide)]; exact q α1 H1 _ x1 m1 r1⟩
    · cases e
theorem c_not (ha : CE X a ma) : CE X (.UnaryOp .Not a pos) (eNot1 ma) :=
  PE.imp (pe_notT ha) fun σ H Q ⟨ρ, h, α, d, h', rs, mt, e, q⟩ => by
    obtain ⟨d1, h1, e1, e⟩ := bd_some e
    refine ⟨ρ, h, α, d1, h1, rs, mt, e1, fun α1 H1 v1 x1 m1 r1 => ?_⟩
    split at e
    · next c => cases e; exact ⟨_, truD_ok m1 r1 c, q α1 H1 _ x1 m1 rfl⟩
    · cases e
def eIf (t : MT) (ma mb : ME) : ME := fun ρ h => bd (t ρ h) fun k h1 => if k = true then ma ρ h1 else mb ρ h1
theorem c_if {t : MT} (hc : CT X c t) (ha : CE X a ma) (hb : CE X b mb) : CE X (.IfExp c a b pos) (eIf t ma mb) :=
  PE.imp (pe_ifExp hc ha hb) fun σ H Q ⟨ρ, h, α, d, h', rs, mt, e, q⟩ => by
    obtain ⟨d1, h1, e1, e⟩ := bd_some e
    refine ⟨ρ, h, α, d1, h1, rs, mt, e1, fun α1 H1 v1 x1 m1 r1 => ?_⟩
    subst r1
    split at e
    · next c => rw [if_pos c]; exact ⟨ρ, h1, α1, d, h', rs.mono x1, m1, e, fun α2 H2 v2 x2 m2 r2 => q α2 H2 v2 (x1.trans x2) m2 r2⟩
    · next c => rw [if_neg c]; exact ⟨ρ, h1, α1, d, h', rs.mono x1, m1, e, fun α2 H2 v2 x2 m2 r2 => q α2 H2 v2 (x1.trans x2) m2 r2⟩
def negG : GU
  | .int i, h => some (.int (-i), h)
  | _, _ => none
theorem c_neg (ha : CE X a ma) : CE X (.UnaryOp .USub a pos) (eUn negG ma) :=
  PE.imp (pe_un un_neg ha) fun σ H Q t => by
    obtain ⟨ρ, h, α, d, h', rs, mt, e, q⟩ := un_seq t
    refine ⟨ρ, h, α, d, h', rs, mt, e, fun α1 H1 v1 x1 m1 r1 => ?_⟩
    obtain ⟨h2, α2, dx, d2, h3, m2, r2, e2, q2⟩ := q α1 H1 v1 x1 m1 r1
    unfold negG at e2
    split at e2
    · cases e2; exact ⟨_, r2, q2 α2 H1 _ Ex.refl m2 rfl⟩
    · cases e2
end
end SL
namespace SL
open PySem PySem.Spec PyProof.Rows L2
section
variable {K : PySem.W.Frag} {α α1 α2 : Al} {H H1 H2 : Hp} {h h1 h2 : Hs}
/-! ### a thing laid early, tracked late -/
def Aside (α : Al) (H : Hp) (h : Hs) (p : Addr) : Prop := (∀ n, Mu h n → α n ≠ p) ∧ (∀ xs, H p ≠ some (.tup xs)) ∧ (∀ o u, H p ≠ some (.frz o u)) ∧ ∀ a, H p ≠ some (.own a)
theorem Aside.new {p : Addr} {o : HO} (mt : Mt K α H h) (hp : H p = none) (ho : ∀ xs, o ≠ .tup xs) (hf : ∀ b u, o ≠ .frz b u) (hw : ∀ a, o ≠ .own a) : Aside α (upd H p o) h p :=
  ⟨(fun n m e => by
    obtain ⟨u, e1, _⟩ := mt.some_of m
    rw [e, hp] at e1
    cases e1), (fun xs e => by
    rw [upd_same] at e
    exact ho xs (Option.some.inj e)), (fun b u e => by
    rw [upd_same] at e
    exact hf b u (Option.some.inj e)), fun b e => by
    rw [upd_same] at e
    exact hw b (Option.some.inj e)⟩
theorem Aside.later {p : Addr} {o : HO} (a : Aside α H h p) (hp : H p = some o) (x : Ex α H h α1 H1 h1) : H1 p = some o ∧ Aside α1 H1 h1 p := by
  have e := x.fr p o hp a.1
  refine ⟨e, fun n m z => ?_, fun xs z => ?_, fun b u z => ?_, fun b z => ?_⟩
  · by_cases q : n < h.length
    · rw [x.al n q] at z; exact a.1 n (x.kd n q m) z
    · have := x.new n (Nat.le_of_not_lt q) m.lt
      rw [z, hp] at this; cases this
  · rw [e] at z; exact a.2.1 xs (hp.trans z)
  · rw [e] at z; exact a.2.2.1 b u (hp.trans z)
  · rw [e] at z; exact a.2.2.2 b (hp.trans z)
theorem Aside.ex {p : Addr} {o : HO} (a : Aside α H h p) (hp : ∃ u, H p = some u) : (∀ b xs, H b = some (.tup xs) → upd H p o b = some (.tup xs)) ∧ (∀ b ob u, H b = some (.frz ob u) → upd H p o b = some (.frz ob u)) ∧ (∀ b, upd H p o b = none → H b = none) := by
  refine ⟨fun b xs e => ?_, fun b ob u e => ?_, fun b e => ?_⟩
  · have : b ≠ p := fun z => by subst z; exact a.2.1 xs e
    rw [upd_ne this]; exact e
  · have : b ≠ p := fun z => by subst z; exact a.2.2.1 ob u e
    rw [upd_ne this]; exact e
  · by_cases z : b = p
    · rw [z, upd_same] at e; cases e
    · rw [upd_ne z] at e; exact e
theorem Aside.put {p : Addr} {o : HO} (a : Aside α H h p) (mt : Mt K α H h) (hp : ∃ u, H p = some u) : Mt K α (upd H p o) h ∧ ∀ L d v, Rep K α L H d v → Rep K α L (upd H p o) d v := by
  obtain ⟨t1, t2, _⟩ := a.ex (o := o) hp
  have ts : ∀ b xs, TpL K H b xs → TpL K (upd H p o) b xs := fun b xs s => by
    rcases s with s | s
    · exact .inl (t1 b xs s)
    · exact .inr s
  have rr : ∀ L d v, Rep K α L H d v → Rep K α L (upd H p o) d v := fun L d v r => rep_mono (Nat.le_refl _) (fun _ _ => rfl) ts d v r
  have rs : ∀ L d v, Reps K α L H d v → Reps K α L (upd H p o) d v := fun L d v r => reps_mono (Nat.le_refl _) (fun _ _ => rfl) ts d v r
  refine ⟨⟨fun n u e => ?_, mt.inj⟩, rr⟩
  have b := mt.at_ n u e
  cases u with
  | lst ds => obtain ⟨xs, e1, r⟩ := b; exact ⟨xs, by rw [upd_ne (a.1 n ⟨_, e, rfl⟩)]; exact e1, rs _ _ _ r⟩
  | ext xt ds => obtain ⟨xs, e1, r⟩ := b; exact ⟨xs, by rw [upd_ne (a.1 n ⟨_, e, rfl⟩)]; exact e1, rs _ _ _ r⟩
  | fz ds =>
    obtain ⟨xs, f, r⟩ := b
    refine ⟨xs, ?_, rs _ _ _ r⟩
    rcases f with ⟨ob, f⟩ | f
    · exact .inl ⟨ob, t2 _ _ _ f⟩
    · exact .inr f
  | dct kvs => obtain ⟨xs, e1, r1, r2⟩ := b; exact ⟨xs, by rw [upd_ne (a.1 n ⟨_, e, rfl⟩)]; exact e1, r1, rs _ _ _ r2⟩
  | dt kvs => obtain ⟨xs, e1, r1, r2⟩ := b; exact ⟨xs, by rw [upd_ne (a.1 n ⟨_, e, rfl⟩)]; exact e1, r1, rs _ _ _ r2⟩
  | fzd kvs => obtain ⟨ob, xs, e1, r1, r2⟩ := b; exact ⟨ob, xs, t2 _ _ _ e1, r1, rs _ _ _ r2⟩
  | fzt kvs => obtain ⟨ob, xs, e1, r1, r2⟩ := b; exact ⟨ob, xs, t2 _ _ _ e1, r1, rs _ _ _ r2⟩
  | ins nm fs =>
    obtain ⟨C, dx, xs, c, e1, e2, r1, r2⟩ := b
    exact ⟨C, dx, xs, c, by rw [upd_ne (a.1 n ⟨_, e, rfl⟩)]; exact e1, by rw [upd_ne (fun z => a.2.2.2 (α n) (by rw [← z]; exact e2))]; exact e2, r1, rs _ _ _ r2⟩
theorem Ex.late {p : Addr} {o : HO} {ao : AO} (hp : H p = none) (x : Ex α H h α2 H2 h2) (a : Aside α2 H2 h2 p) (hp2 : ∃ u, H2 p = some u) : Ex α H h (al1 α2 h2.length p) (upd H2 p o) (h2 ++ [ao]) where
  le := by have := x.le; simp; omega
  al := fun n l => by rw [al1_ne (Nat.ne_of_lt (Nat.lt_of_lt_of_le l x.le))]; exact x.al n l
  kd := fun n l ⟨u, e, q⟩ => by
    rw [List.getElem?_append_left (Nat.lt_of_lt_of_le l x.le)] at e; exact x.kd n l ⟨u, e, q⟩
  lk := fun n l ⟨u, e, q⟩ => by
    rw [List.getElem?_append_left (Nat.lt_of_lt_of_le l x.le)] at e; exact x.lk n l ⟨u, e, q⟩
  tups := fun b xs e => (a.ex hp2).1 b xs (x.tups b xs e)
  frzs := fun b ob u e => (a.ex hp2).2.1 b ob u (x.frzs b ob u e)
  dom := fun b e => x.dom b ((a.ex hp2).2.2 b e)
  new := fun n l l' => by
    by_cases q : n = h2.length
    · rw [q, al1_same]; exact hp
    · rw [al1_ne q]; exact x.new n l (by simp at l'; omega)
  fr := fun b o e q => by
    have : b ≠ p := fun z => by rw [z, hp] at e; cases e
    rw [upd_ne this]; exact x.fr b o e q
theorem Mt.late {p : Addr} {o : HO} {ao : AO} (mt : Mt K α H h) (a : Aside α H h p) (hp : ∃ u, H p = some u) (hn : AtO K α h.length (upd H p o) p ao) : Mt K (al1 α h.length p) (upd H p o) (h ++ [ao]) := by
  obtain ⟨m2, _⟩ := a.put (o := o) mt hp
  have mono : ∀ d v, Reps K α h.length (upd H p o) d v → Reps K (al1 α h.length p) (h ++ [ao]).length (upd H p o) d v := fun d v r => reps_mono (by simp) (fun n l => al1_ne (Nat.ne_of_lt l)) (fun _ _ s => s) d v r
  have tr : ∀ b u, AtO K α h.length (upd H p o) b u → AtO K (al1 α h.length p) (h ++ [ao]).length (upd H p o) b u := fun b u q => by
    cases u with
    | lst ds => obtain ⟨xs, e1, r⟩ := q; exact ⟨xs, e1, mono _ _ r⟩
    | ext xt ds => obtain ⟨xs, e1, r⟩ := q; exact ⟨xs, e1, mono _ _ r⟩
    | fz ds => obtain ⟨xs, e1, r⟩ := q; exact ⟨xs, e1, mono _ _ r⟩
    | dct kvs => obtain ⟨xs, e1, r1, r2⟩ := q; exact ⟨xs, e1, r1, mono _ _ r2⟩
    | dt kvs => obtain ⟨xs, e1, r1, r2⟩ := q; exact ⟨xs, e1, r1, mono _ _ r2⟩
    | fzd kvs => obtain ⟨ob, xs, e1, r1, r2⟩ := q; exact ⟨ob, xs, e1, r1, mono _ _ r2⟩
    | fzt kvs => obtain ⟨ob, xs, e1, r1, r2⟩ := q; exact ⟨ob, xs, e1, r1, mono _ _ r2⟩
    | ins nm fs => obtain ⟨C, dx, xs, c, e1, e2, r1, r2⟩ := q; exact ⟨C, dx, xs, c, e1, e2, r1, mono _ _ r2⟩
  refine ⟨fun n u e => ?_, fun n k q1 q2 e => ?_⟩
  · rcases get_snoc e with ⟨l, e⟩ | ⟨l, rfl⟩
    · rw [al1_ne (Nat.ne_of_lt l)]; exact tr _ _ (m2.at_ n u e)
    · rw [l, al1_same]; exact tr _ _ hn
  · have key : ∀ i, Mu (h ++ [ao]) i → i ≠ h.length → Mu h i ∧ al1 α h.length p i = α i := fun i u q => by
      have l : i < h.length := by have := u.lt; simp at this; omega
      obtain ⟨w, e, z⟩ := u
      rw [List.getElem?_append_left l] at e
      exact ⟨⟨w, e, z⟩, al1_ne q⟩
    by_cases hn : n = h.length
    · by_cases hk : k = h.length
      · rw [hn, hk]
      · obtain ⟨u, q⟩ := key k q2 hk
        rw [hn, al1_same, q] at e
        exact absurd e.symm (a.1 k u)
    · obtain ⟨u, q⟩ := key n q1 hn
      by_cases hk : k = h.length
      · rw [hk, al1_same, q] at e
        exact absurd e (a.1 n u)
      · obtain ⟨u2, q2'⟩ := key k q2 hk
        rw [q, q2'] at e
        exact mt.inj n k u u2 e
end
section
variable {X : Cx} {e a b c : Expr} {ma mb mc : ME} {pos : Pos} {es : List Expr}
/-! ### argument lists, displays -/
def CL (X : Cx) (es : List Expr) (m : MA) : Prop := PA X es (lA X.K m) ∧ ∀ ρ h ds h', m ρ h = some (ds, h') → ds.length = es.length
def aNil : MA := fun _ h => some ([], h)
def aCons (ma : ME) (mr : MA) : MA := fun ρ h => bd (ma ρ h) fun d h1 => bd (mr ρ h1) fun ds h2 => some (d :: ds, h2)
theorem a_nil : CL X [] aNil := ⟨PA.imp pa_nil fun σ H Q ⟨ρ, h, α, d, h', rs, mt, e, q⟩ => by cases e; exact q α H [] Ex.refl mt rfl, fun ρ h ds h' e => by cases e; rfl⟩
theorem a_cons {mr : MA} (ha : CE X e ma) (hr : CL X es mr) (hs : starEach (e :: es) X.env = (false, eval e X.env) :: starEach es X.env := by rfl) : CL X (e :: es) (aCons ma mr) :=
  ⟨PA.imp (pa_cons ha hr.1 hs) fun σ H Q ⟨ρ, h, α, d, h', rs, mt, e, q⟩ => by
    obtain ⟨d1, h1, e1, e⟩ := bd_some e
    obtain ⟨d2, h2, e2, e⟩ := bd_some e
    cases e
    exact ⟨ρ, h, α, d1, h1, rs, mt, e1, fun α1 H1 v1 x1 m1 r1 => ⟨ρ, h1, α1, d2, _, rs.mono x1, m1, e2, fun α2 H2 v2 x2 m2 r2 => q α2 H2 _ (x1.trans x2) m2 ⟨_, _, rfl, x2.rep r1, r2⟩⟩⟩,
   fun ρ h ds h' e => by
    obtain ⟨d1, h1, e1, e⟩ := bd_some e
    obtain ⟨d2, h2, e2, e⟩ := bd_some e
    cases e
    rw [List.length_cons, List.length_cons, hr.2 _ _ _ _ e2]⟩
def eTup (m : MA) : ME := fun ρ h => bd (m ρ h) fun ds h1 => some (.tup ds, h1)
def eLst (m : MA) : ME := fun ρ h => bd (m ρ h) fun ds h1 => some (.ref h1.length, h1 ++ [.lst ds])
theorem c_tup {m : MA} {x1} (h : CL X es m) (hl : es.length ≤ sizeLine := by decide) : CE X (.Tuple es x1 pos) (eTup m) :=
  PE.imp (pe_tup h.1) fun σ H Q ⟨ρ, h0, α, d, h', rs, mt, e, q⟩ => by
    obtain ⟨d1, h1, e1, e⟩ := bd_some e
    cases e
    refine ⟨ρ, h0, α, d1, _, rs, mt, e1, fun α1 H1 v1 x1 m1 r1 => ⟨by rw [r1.length, h.2 _ _ _ _ e1]; exact hl, fun p hp => ?_⟩⟩
    exact q α1 _ _ (x1.trans (Ex.grow hp)) (m1.grow hp) (new_tup hp r1)
theorem c_lst {m : MA} (h : CL X es m) (hl : es.length ≤ sizeLine := by decide) : CE X (.List es pos) (eLst m) :=
  PE.imp (pe_lst h.1) fun σ H Q ⟨ρ, h0, α, d, h', rs, mt, e, q⟩ => by
    obtain ⟨d1, h1, e1, e⟩ := bd_some e
    cases e
    refine ⟨ρ, h0, α, d1, _, rs, mt, e1, fun α1 H1 v1 x1 m1 r1 => ⟨by rw [r1.length, h.2 _ _ _ _ e1]; exact hl, fun p hp => ?_⟩⟩
    obtain ⟨α', x2, m2, r2⟩ := new_lst m1 hp r1
    exact q α' _ _ (x1.trans x2) m2 r2
/-! dicts -/
abbrev MP := MR (List (Key × D))
def relP (K : PySem.W.Frag) : Rl (List (Key × D)) (List (V × V)) := fun α L H kvs ps => ∃ ys : List (Key × V), ps = ys.map (fun kv => (kV kv.1, kv.2)) ∧ RepKV K α L H kvs ys
structure CP (X : Cx) (pos : Pos) (keys : List (Option Expr)) (values : List Expr) (m : MP) : Prop where
  ex : ∃ trs, PPs X pos keys values trs ∧ ∀ σ H Q, lift (relP X.K) X.K m σ H Q → tPairs trs σ H Q
  len : ∀ ρ h ds h', m ρ h = some (ds, h') → ds.length = keys.length
def pNil : MP := fun _ h => some ([], h)
def pCons (mk mv : ME) (mr : MP) : MP := fun ρ h => bd (mk ρ h) fun k h1 => bd (mv ρ h1) fun v h2 => bd (mr ρ h2) fun r h3 => match keyOf k with
  | some q => some ((q, v) :: r, h3)
  | none => none
theorem p_nil : CP X pos [] [] pNil := ⟨⟨[], pps_nil, fun σ H Q ⟨ρ, h, α, d, h', rs, mt, e, q⟩ => by cases e; exact q α H [] Ex.refl mt ⟨[], rfl, rfl, rfl⟩⟩, fun ρ h ds h' e => by cases e; rfl⟩
theorem p_cons {k v : Expr} {ks : List (Option Expr)} {vs : List Expr} {mk mv : ME} {mr : MP} (hk : CE X k mk) (hv : CE X v mv) (hr : CP X pos ks vs mr) : CP X pos (some k :: ks) (v :: vs) (pCons mk mv mr) := by
  obtain ⟨trs, ht, hi⟩ := hr.ex
  refine ⟨⟨_, pps_cons hk hv ht, fun σ H Q ⟨ρ, h, α, d, h', rs, mt, e, q⟩ => ?_⟩, fun ρ h ds h' e => ?_⟩
  · obtain ⟨d1, h1, e1, e⟩ := bd_some e
    obtain ⟨d2, h2, e2, e⟩ := bd_some e
    obtain ⟨d3, h3, e3, e⟩ := bd_some e
    split at e
    · next kq eq =>
      cases e
      refine ⟨ρ, h, α, d1, h1, rs, mt, e1, fun α1 H1 v1 x1 m1 r1 => ⟨ρ, h1, α1, d2, h2, rs.mono x1, m1, e2, fun α2 H2 v2 x2 m2 r2 => hi _ _ _ ⟨ρ, h2, α2, d3, _, (rs.mono x1).mono x2, m2, e3, fun α3 H3 v3 x3 m3 r3 => ?_⟩⟩⟩
      obtain ⟨ys, ey, rk⟩ := r3
      refine q α3 H3 _ (x1.trans (x2.trans x3)) m3 ⟨(kq, v2) :: ys, ?_, ?_, ?_⟩
      · rw [List.map_cons, ← ey, key_rep eq r1]
      · rw [List.map_cons, List.map_cons, rk.1]
      · rw [List.map_cons, List.map_cons]; exact ⟨_, _, rfl, x3.rep r2, rk.2⟩
    · cases e
  · obtain ⟨d1, h1, e1, e⟩ := bd_some e
    obtain ⟨d2, h2, e2, e⟩ := bd_some e
    obtain ⟨d3, h3, e3, e⟩ := bd_some e
    split at e
    · cases e; rw [List.length_cons, List.length_cons, hr.len _ _ _ _ e3]
    · cases e
def mergeD (kvs more : List (Key × D)) : List (Key × D) := more.foldl (fun acc kv => putD acc kv.1 kv.2) kvs
theorem repKV_nil_of {K : PySem.W.Frag} {α : Al} {L : Nat} {H : Hp} {ys : List (Key × V)} (r : RepKV K α L H [] ys) : ys = [] := by
  cases ys with
  | nil => rfl
  | cons _ _ => cases r.1
theorem repKV_merge {K : PySem.W.Frag} {α : Al} {L : Nat} {H : Hp} : ∀ {more : List (Key × D)} {my : List (Key × V)} {kvs : List (Key × D)} {ys : List (Key × V)}, RepKV K α L H more my → RepKV K α L H kvs ys → RepKV K α L H (mergeD kvs more) (mergeK ys my)
  | [], my, kvs, ys, r, q => by rw [repKV_nil_of r]; exact q
  | (k, d) :: more, [], kvs, ys, ⟨r, _⟩, q => nomatch r
  | (k, d) :: more, (k2, v) :: my, kvs, ys, ⟨r1, r2⟩, q => by
    simp only [List.map_cons, List.cons.injEq] at r1
    obtain ⟨x, zs, e, r3, r4⟩ := r2
    simp only [List.map_cons, List.cons.injEq] at e
    have k1 : k = k2 := r1.1
    subst k1
    exact repKV_merge (more := more) (my := my) ⟨r1.2, by rw [e.2]; exact r4⟩ (repKV_put q (by rw [show v = x from e.1]; exact r3))
def eDict (m : MP) : ME := fun ρ h => bd (m ρ h) fun kvs h1 => some (.ref h1.length, h1 ++ [.dct (mergeD [] kvs)])
theorem c_dict {keys : List (Option Expr)} {values : List Expr} {m : MP} (hp : CP X pos keys values m) (hall : keys.all (·.isSome) = true := by rfl) (hl : keys.length = values.length := by rfl) (h0 : keys ≠ [] := by exact fun z => nomatch z) (h15 : keys.length ≤ 15 := by decide) : CE X (.Dict keys values pos) (eDict m) := by
  obtain ⟨trs, ht, hi⟩ := hp.ex
  refine PE.imp (pe_disp ht hall hl h0 h15) fun σ H Q ⟨ρ, h, α, d, h', rs, mt, e, q⟩ => ?_
  obtain ⟨kvs, h1, e1, e⟩ := bd_some e
  cases e
  intro p np
  refine hi _ _ _ ⟨ρ, h, α, kvs, _, rs.mono (Ex.grow np), mt.grow np, e1, fun α2 H2 v2 x2 m2 r2 => ?_⟩
  obtain ⟨ys, ey, rk⟩ := r2
  have a0 : Aside α (upd H p (.dK [])) h p := Aside.new mt np (fun _ z => nomatch z) (fun _ _ z => nomatch z) (fun _ z => nomatch z)
  obtain ⟨e2, a2⟩ := a0.later upd_same x2
  refine ⟨e2, ys, ey, by rw [repKV_len rk, hp.len _ _ _ _ e1]; exact h15, ?_⟩
  have hx := Ex.late (o := .dK (mergeK [] ys)) (ao := .dct (mergeD [] kvs)) np ((Ex.grow np).trans x2) a2 ⟨_, e2⟩
  obtain ⟨_, pr⟩ := a2.put (o := .dK (mergeK [] ys)) m2 ⟨_, e2⟩
  have hm := m2.late (o := .dK (mergeK [] ys)) (ao := .dct (mergeD [] kvs)) a2 ⟨_, e2⟩ ⟨_, upd_same, by
    have rk2 : RepKV X.K α2 h1.length (upd H2 p (.dK (mergeK [] ys))) kvs ys := ⟨rk.1, reps_mono (Nat.le_refl _) (fun _ _ => rfl) (fun b xs s => by
      rcases s with s | s
      · exact .inl ((a2.ex ⟨_, e2⟩).1 b xs s)
      · exact .inr s) _ _ rk.2⟩
    exact repKV_merge rk2 ⟨rfl, rfl⟩⟩
  exact q _ _ _ hx hm ⟨by rw [len_snoc]; exact Nat.lt_succ_self _, by rw [al1_same]⟩
theorem c_dict0 : CE X (.Dict [] [] pos) (fun _ h => some (.ref h.length, h ++ [.dct []])) :=
  PE.imp pe_dnewK fun σ H Q ⟨ρ, h, α, d, h', rs, mt, e, q⟩ => by
    cases e
    intro p np
    exact q _ _ _ (Ex.alloc np) (mt.alloc np ⟨[], upd_same, rfl, rfl⟩) ⟨by rw [len_snoc]; exact Nat.lt_succ_self _, by rw [al1_same]⟩
theorem repKV_get {K : PySem.W.Frag} {α : Al} {L : Nat} {H : Hp} {kvs : List (Key × D)} {ys : List (Key × V)} {k : Key} {d : D} (r : RepKV K α L H kvs ys) (e : valD kvs k = some d) : ∃ v, valV ys k = some v ∧ Rep K α L H d v := by
  have := repKV_val (k := k) r
  rw [e] at this
  exact this
/-! ### subscripts, slices -/
def subG' : GO
  | .tup ds, .int i, h => match atI ds i with
    | some d => some (d, h)
    | none => none
  | .str z, .int i, h => if z.length ≤ sizeLine then match atI z.cps.toList i with
    | some c => some (.str ⟨#[c]⟩, h)
    | none => none
    else none
  | .ref n, y, h => match h[n]? with
    | some (.dct kvs) => match keyOf y with
      | some k => match valD kvs k with
        | some d => some (d, h)
        | none => none
      | none => none
    | some (.lst ds) => match y with
      | .int i => match atI ds i with
        | some d => some (d, h)
        | none => none
      | _ => none
    | some (.fz ds) => match y with
      | .int i => match atI ds i with
        | some d => some (d, h)
        | none => none
      | _ => none
    | _ => none
  | _, _, _ => none
theorem atI_rep {K : PySem.W.Frag} {α : Al} {L : Nat} {H : Hp} {ds : List D} {vs : List V} {i : Int} {d : D} (r : Reps K α L H ds vs) (e : atI ds i = some d) : ∃ v, atI vs i = some v ∧ Rep K α L H d v := by
  unfold atI at e ⊢
  rw [r.length]
  cases q : ixN ds.length i with
  | none => rw [q] at e; cases e
  | some j => rw [q] at e; exact r.get e
theorem PE.or {t t' : TE} (h : PE X e t) (h' : PE X e t') : PE X e (fun σ H Q => t σ H Q ∨ t' σ H Q) := ⟨fun pins s σ H Q I q => by
  rcases q with q | q
  · exact h.run pins s σ H Q I q
  · exact h'.run pins s σ H Q I q⟩
theorem c_sub (hu : X.A.units + 64 < cLine) (ha : CE X a ma) (hb : CE X b mb) (hs : PlainIx b := by exact fun _ _ => rfl) (hs2 : NoSl b := by exact fun _ _ => rfl) : CE X (.Subscript a b pos) (eOp subG' ma mb) := by
  refine PE.imp (PE.or (pe_ix ix_seq ha hb hs) (pe_dget (by omega) ha hb hs2)) fun σ H Q t => ?_
  have t2 := t
  obtain ⟨ρ, h, α, d, h', rs, mt, e, q⟩ := t
  obtain ⟨d1, h1, e1, e⟩ := bd_some e
  obtain ⟨d2, h2, e2, e⟩ := bd_some e
  unfold subG' at e
  split at e
  · split at e
    · next e3 =>
      cases e
      refine .inl ⟨ρ, h, α, _, h1, rs, mt, e1, fun α1 H1 v1 x1 m1 r1 => ⟨ρ, h1, α1, _, _, rs.mono x1, m1, e2, fun α2 H2 v2 x2 m2 r2 => ?_⟩⟩
      obtain ⟨p, xs, rfl, sq, rr⟩ := x2.rep r1
      obtain ⟨v, e4, r4⟩ := atI_rep rr e3
      exact .inr (.inl ⟨p, xs, _, v, rfl, r2, sq.seq, e4, q α2 H2 v (x1.trans x2) m2 r4⟩)
    · cases e
  · split at e
    · next c =>
      split at e
      · next e3 =>
        cases e
        refine .inl ⟨ρ, h, α, _, h1, rs, mt, e1, fun α1 H1 v1 x1 m1 r1 => ⟨ρ, h1, α1, _, _, rs.mono x1, m1, e2, fun α2 H2 v2 x2 m2 r2 => ?_⟩⟩
        exact .inr (.inr ⟨_, _, _, r1, r2, c, e3, q α2 H2 _ (x1.trans x2) m2 rfl⟩)
      · cases e
    · cases e
  · split at e
    · next e0 =>
      split at e
      · next e3 =>
        split at e
        · next e4 =>
          cases e
          refine .inr ⟨ρ, h, α, _, h1, rs, mt, e1, fun α1 H1 v1 x1 m1 r1 => ⟨ρ, h1, α1, _, _, rs.mono x1, m1, e2, fun α2 H2 v2 x2 m2 r2 => ?_⟩⟩
          obtain ⟨_, rfl⟩ := x2.rep r1
          obtain ⟨ys, a1, rk⟩ := m2.at_ _ _ e0
          obtain ⟨v, e5, r5⟩ := repKV_get rk e4
          exact ⟨_, v, rfl, by rw [key_rep e3 r2, ← e5]; exact DGet.k a1, q α2 H2 v (x1.trans x2) m2 r5⟩
        · cases e
      · cases e
    · next e0 =>
      split at e
      · split at e
        · next e3 =>
          cases e
          refine .inl ⟨ρ, h, α, _, h1, rs, mt, e1, fun α1 H1 v1 x1 m1 r1 => ⟨ρ, h1, α1, _, _, rs.mono x1, m1, e2, fun α2 H2 v2 x2 m2 r2 => ?_⟩⟩
          obtain ⟨_, rfl⟩ := x2.rep r1
          obtain ⟨xs, a1, rk⟩ := m2.at_ _ _ e0
          obtain ⟨v, e4, r4⟩ := atI_rep rk e3
          exact .inl ⟨_, xs, _, v, rfl, r2, SqL.of a1, e4, q α2 H2 v (x1.trans x2) m2 r4⟩
        · cases e
      · cases e
    · next e0 =>
      split at e
      · split at e
        · next e3 =>
          cases e
          refine .inl ⟨ρ, h, α, _, h1, rs, mt, e1, fun α1 H1 v1 x1 m1 r1 => ⟨ρ, h1, α1, _, _, rs.mono x1, m1, e2, fun α2 H2 v2 x2 m2 r2 => ?_⟩⟩
          obtain ⟨_, rfl⟩ := x2.rep r1
          obtain ⟨xs, a1, rk⟩ := m2.at_ _ _ e0
          obtain ⟨v, e4, r4⟩ := atI_rep rk e3
          exact .inl ⟨_, xs, _, v, rfl, r2, a1.seq, e4, q α2 H2 v (x1.trans x2) m2 r4⟩
        · cases e
      · cases e
    · cases e
  · cases e
abbrev MO := MR (Option Int)
def CPo (X : Cx) (e : Option Expr) (m : MO) : Prop := PO X e (lift (fun _ _ _ d v => v = d) X.K m)
def oNone : MO := fun _ h => some (none, h)
def oSome (m : ME) : MO := fun ρ h => match m ρ h with
  | some (.int i, h1) => some (some i, h1)
  | _ => none
theorem PO.imp {o : Option Expr} {t t' : TO} (h : PO X o t) (i : ∀ σ H Q, t' σ H Q → t σ H Q) : PO X o t' := ⟨fun pins s σ H Q I q => h.run pins s σ H Q I (i _ _ _ q)⟩
theorem o_none : CPo X none oNone := PO.imp po_none fun σ H Q ⟨ρ, h, α, d, h', rs, mt, e, q⟩ => by cases e; exact q α H none Ex.refl mt rfl
theorem o_some (ha : CE X a ma) : CPo X (some a) (oSome ma) := PO.imp (po_some ha) fun σ H Q ⟨ρ, h, α, d, h', rs, mt, e, q⟩ => by
  unfold oSome at e
  split at e
  · next e1 => cases e; exact ⟨ρ, h, α, _, _, rs, mt, e1, fun α1 H1 v1 x1 m1 r1 => ⟨_, r1, q α1 H1 _ x1 m1 rfl⟩⟩
  · cases e
def cutD (xs : List D) (lo hi : Option Int) : List D := (xs.drop (HT.sIx xs.length 0 lo)).take (HT.sIx xs.length xs.length hi - HT.sIx xs.length 0 lo)
theorem reps_cut {K : PySem.W.Frag} {α : Al} {L : Nat} {H : Hp} {ds : List D} {vs : List V} (r : Reps K α L H ds vs) (lo hi : Option Int) : Reps K α L H (cutD ds lo hi) (cutV vs lo hi) := by
  unfold cutD cutV
  rw [r.length]
  exact (r.drop _).take _
def slG : D → Option Int → Option Int → Hs → Option (D × Hs)
  | .ref n, lo, hi, h => match getL h n with
    | some ds => some (.ref h.length, h ++ [.lst (cutD ds lo hi)])
    | none => none
  | .str z, lo, hi, h => if z.length ≤ sizeLine then some (.str (cutS z lo hi), h) else none
  | .tup ds, lo, hi, h => some (.tup (cutD ds lo hi), h)
  | _, _, _, _ => none
def eSl (m : ME) (l u : MO) : ME := fun ρ h => bd (m ρ h) fun d h1 => bd (l ρ h1) fun lo h2 => bd (u ρ h2) fun hi h3 => slG d lo hi h3
theorem c_slice {lo hi : Option Expr} {l u : MO} {p2 : Pos} (ha : CE X a ma) (hl : CPo X lo l) (hh : CPo X hi u) : CE X (.Subscript a (.Slice lo hi none p2) pos) (eSl ma l u) :=
  PE.imp (pe_slice (SlR.or sl_list (SlR.or sl_str sl_tupA)) ha hl hh) fun σ H Q ⟨ρ, h, α, d, h', rs, mt, e, q⟩ => by
    obtain ⟨d1, h1, e1, e⟩ := bd_some e
    obtain ⟨d2, h2, e2, e⟩ := bd_some e
    obtain ⟨d3, h3, e3, e⟩ := bd_some e
    refine ⟨ρ, h, α, d1, h1, rs, mt, e1, fun α1 H1 v1 x1 m1 r1 => ⟨ρ, h1, α1, d2, h2, rs.mono x1, m1, e2, fun α2 H2 v2 x2 m2 r2 => ⟨ρ, h2, α2, d3, h3, (rs.mono x1).mono x2, m2, e3, fun α3 H3 v3 x3 m3 r3 => ?_⟩⟩⟩
    subst r2
    subst r3
    have r4 := (x2.trans x3).rep r1
    unfold slG at e
    split at e
    · split at e
      · next e4 =>
        cases e
        obtain ⟨_, rfl⟩ := r4
        obtain ⟨xs, sq, rr⟩ := m3.getL e4
        refine .inl ⟨_, xs, rfl, sq, fun p hp => ?_⟩
        obtain ⟨α', x4, m4, r5⟩ := new_lst m3 hp (reps_cut rr _ _)
        exact q α' _ _ (x1.trans (x2.trans (x3.trans x4))) m4 r5
      · cases e
    · split at e
      · next c => cases e; exact .inr (.inl ⟨_, r4, c, q α3 H3 _ (x1.trans (x2.trans x3)) m3 rfl⟩)
      · cases e
    · cases e
      obtain ⟨p, xs, rfl, sq, rr⟩ := r4
      refine .inr (.inr ⟨p, xs, rfl, sq.seq, ?_, ?_⟩)
      · intro ⟨c1, c2⟩
        rw [rr.length] at c1 c2
        refine q α3 _ _ (x1.trans (x2.trans x3)) m3 ⟨p, xs, rfl, sq, ?_⟩
        unfold cutD
        rw [c1, c2, List.drop_zero, Nat.sub_zero, List.take_length]
        exact rr
      · intro _ p2 hp
        exact q α3 _ _ (x1.trans (x2.trans (x3.trans (Ex.grow hp)))) (m3.grow hp) (new_tup hp (reps_cut rr _ _))
    · cases e
end
end SL
namespace SL
open PySem PySem.Spec PyProof.Rows L2
/-! ### calls by values -/
abbrev GC := List D → Hs → Option (D × Hs)
abbrev GM := D → List D → Hs → Option (D × Hs)
def lC (K : PySem.W.Frag) (g : GC) : List V → Hp → VK → Prop := fun vs H Q =>
  ∃ h α ds d h', Mt K α H h ∧ Reps K α h.length H ds vs ∧ g ds h = some (d, h') ∧ ∀ α' H' v, Ex α H h α' H' h' → Mt K α' H' h' → Rep K α' h'.length H' d v → Q v H'
def lM (K : PySem.W.Frag) (g : GM) : V → List V → Hp → VK → Prop := fun x vs H Q =>
  ∃ h α dx ds d h', Mt K α H h ∧ Rep K α h.length H dx x ∧ Reps K α h.length H ds vs ∧ g dx ds h = some (d, h') ∧ ∀ α' H' v, Ex α H h α' H' h' → Mt K α' H' h' → Rep K α' h'.length H' d v → Q v H'
def lF (K : PySem.W.Frag) (g : GC) : Sp := fun vs H Q _ => lC K g vs H Q
def CB (X : Cx) (f : Value) (g : GC) : Prop := CallR X f (lC X.K g)
def CM (X : Cx) (id : String) (g : GM) : Prop := MtR X id (lM X.K g)
def eCall (g : GC) (m : MA) : ME := fun ρ h => bd (m ρ h) fun ds h1 => g ds h1
theorem call_seq {K : PySem.W.Frag} {g : GC} {m : MA} {σ : L2.St} {H : Hp} {Q : VK} (t : lE K (eCall g m) σ H Q) : lA K m σ H fun vs H1 => lC K g vs H1 Q := by
  obtain ⟨ρ, h, α, d, h', rs, mt, e, q⟩ := t
  obtain ⟨d1, h1, e1, e2⟩ := bd_some e
  exact ⟨ρ, h, α, d1, h1, rs, mt, e1, fun α1 H1 v1 x1 m1 r1 => ⟨h1, α1, d1, d, h', m1, r1, e2, fun α2 H2 v2 x2 m2 r2 => q α2 H2 v2 (x1.trans x2) m2 r2⟩⟩
structure Cal (P : Program) (w : World) (K : PySem.W.Frag) (mg : Str → Option Value) (base : Heap) (k : Nat) (x : Str) (g : GC) : Prop where
  ex : ∃ (a : Addr) (fd : FuncData) (ps : List Str), FnOk P w K mg base CX0 k a fd ps (lF K g) ∧ mg x = some (.ref a) ∧ PySem.W.keepIn K (.ref a) = true ∧ Binds K fd ps []
theorem Cal.mono {P : Program} {w : World} {K : PySem.W.Frag} {mg : Str → Option Value} {base : Heap} {j k : Nat} {x : Str} {g : GC} (c : Cal P w K mg base j x g) (h : j ≤ k) : Cal P w K mg base k x g := by
  obtain ⟨a, fd, ps, F, e1, e2, e3⟩ := c.ex
  exact ⟨a, fd, ps, F.mono h, e1, e2, e3⟩
section
variable {X : Cx} {e a b c : Expr} {ma mb mc : ME} {pos p : Pos} {es : List Expr} {x : Str} {m : MA} {g : GC} {k : Nat}
theorem c_call (c : Cal X.prog X.w X.K X.mg X.base k x g) (hr : Room k X.A) (ha : CL X (e :: es) m) (hg : Gl X x := by rfl) (hdb : (x == ("__debug__" : Str)) = false := by decide) (he : starEach (e :: es) X.env = (false, eval e X.env) :: starEach es X.env := by rfl)
    (hpl : (backTo pos (starEach es X.env)).any (·.1) = false := by rfl) : CE X (.Call (.Name x p) (e :: es) [] pos) (eCall g m) := by
  obtain ⟨f, fd, ps, F, e1, e2, e3⟩ := c.ex
  refine PE.imp (pe_call F hr hg e1 e2 e3 .nil pass0 ha.1 hdb he hpl) fun σ H Q t => ?_
  have t2 := call_seq t
  show lA X.K m σ H fun vs H1 => lC X.K g (vs ++ []) H1 Q
  obtain ⟨ρ, h, α, d, h', rs, mt, e, q⟩ := t2
  exact ⟨ρ, h, α, d, h', rs, mt, e, fun α1 H1 v1 x1 m1 r1 => by
    show lC X.K g (v1 ++ []) H1 Q
    rw [List.append_nil]; exact q α1 H1 v1 x1 m1 r1⟩
theorem c_callB {id : String} (hc : CB X (.builtin id) g) (hm : X.mg x = none) (hv : bootBuiltins x = some (.builtin id)) (ha : CL X (e :: es) m) (hg : Gl X x := by rfl) (hn : x ≠ "__name__" := by decide) (hdb : (x == ("__debug__" : Str)) = false := by decide)
    (he : starEach (e :: es) X.env = (false, eval e X.env) :: starEach es X.env := by rfl) (hpl : (backTo pos (starEach es X.env)).any (·.1) = false := by rfl) : CE X (.Call (.Name x p) (e :: es) [] pos) (eCall g m) :=
  PE.imp (pe_callB hc hg hm hv ha.1 hn hdb he hpl) fun σ H Q t => call_seq t
theorem c_callTy {T : String} (hc : CB X (.type T) g) (hm : X.mg x = none) (hv : bootBuiltins x = some (.type T)) (ha : CL X (e :: es) m) (hg : Gl X x := by rfl) (hn : x ≠ "__name__" := by decide) (hdb : (x == ("__debug__" : Str)) = false := by decide)
    (he : starEach (e :: es) X.env = (false, eval e X.env) :: starEach es X.env := by rfl) (hpl : (backTo pos (starEach es X.env)).any (·.1) = false := by rfl) : CE X (.Call (.Name x p) (e :: es) [] pos) (eCall g m) :=
  PE.imp (pe_callTy hc hg hm hv ha.1 hn hdb he hpl) fun σ H Q t => call_seq t
theorem CallR.imp {f : Value} {r r' : List V → Hp → VK → Prop} (h : CallR X f r) (i : ∀ xs H Q, r' xs H Q → r xs H Q) : CallR X f r' := fun pins s σ H xs us Q I r q => h pins s σ H xs us Q I r (i _ _ _ q)
theorem MtR.imp {id : String} {r r' : V → List V → Hp → VK → Prop} (h : MtR X id r) (i : ∀ x xs H Q, r' x xs H Q → r x xs H Q) : MtR X id r' := fun pins s σ H x xs v us Q I r rs q => h pins s σ H x xs v us Q I r rs (i _ _ _ _ q)
/-! ### builtins -/
theorem reps1 {K : PySem.W.Frag} {α : Al} {L : Nat} {H : Hp} {d : D} {vs : List V} (r : Reps K α L H [d] vs) : ∃ v, vs = [v] ∧ Rep K α L H d v := by
  obtain ⟨x, ys, rfl, r1, rfl⟩ := r
  exact ⟨x, rfl, r1⟩
theorem reps2 {K : PySem.W.Frag} {α : Al} {L : Nat} {H : Hp} {d d2 : D} {vs : List V} (r : Reps K α L H [d, d2] vs) : ∃ v w, vs = [v, w] ∧ Rep K α L H d v ∧ Rep K α L H d2 w := by
  obtain ⟨x, ys, rfl, r1, y, zs, rfl, r2, rfl⟩ := r
  exact ⟨x, y, rfl, r1, r2⟩
def intsD : List D → Option (List Int)
  | [] => some []
  | .int i :: r => match intsD r with
    | some ns => some (i :: ns)
    | none => none
  | _ :: _ => none
theorem intsD_eq : ∀ {ds : List D} {ns : List Int}, intsD ds = some ns → ds = ns.map D.int
  | [], ns, e => by cases e; rfl
  | d :: ds, ns, e => by
    unfold intsD at e
    split at e
    · next h => cases h
    · next h =>
      cases h
      split at e
      · next e2 => cases e; rw [intsD_eq e2]; rfl
      · cases e
    · cases e
@[simp] theorem intsD_map (ns : List Int) : intsD (ns.map D.int) = some ns := by
  induction ns with
  | nil => rfl
  | cons n ns ih => simp only [List.map_cons, intsD, ih]
def blsD : List D → Option (List Bool)
  | [] => some []
  | .bl i :: r => match blsD r with
    | some ns => some (i :: ns)
    | none => none
  | _ :: _ => none
theorem blsD_eq : ∀ {ds : List D} {ns : List Bool}, blsD ds = some ns → ds = ns.map D.bl
  | [], ns, e => by cases e; rfl
  | d :: ds, ns, e => by
    unfold blsD at e
    split at e
    · next h => cases h
    · next h =>
      cases h
      split at e
      · next e2 => cases e; rw [blsD_eq e2]; rfl
      · cases e
    · cases e
@[simp] theorem blsD_map (ns : List Bool) : blsD (ns.map D.bl) = some ns := by
  induction ns with
  | nil => rfl
  | cons n ns ih => simp only [List.map_cons, blsD, ih]
def strsD : List D → Option (List Str)
  | [] => some []
  | .str i :: r => match strsD r with
    | some ns => some (i :: ns)
    | none => none
  | _ :: _ => none
theorem strsD_eq : ∀ {ds : List D} {ns : List Str}, strsD ds = some ns → ds = ns.map D.str
  | [], ns, e => by cases e; rfl
  | d :: ds, ns, e => by
    unfold strsD at e
    split at e
    · next h => cases h
    · next h =>
      cases h
      split at e
      · next e2 => cases e; rw [strsD_eq e2]; rfl
      · cases e
    · cases e
@[simp] theorem strsD_map (ns : List Str) : strsD (ns.map D.str) = some ns := by
  induction ns with
  | nil => rfl
  | cons n ns ih => simp only [List.map_cons, strsD, ih]
def absG : GC
  | [.int i], h => some (.int (if i < 0 then -i else i), h)
  | _, _ => none
theorem cb_abs : CB X (.builtin "abs") absG := CallR.imp call_abs fun xs H Q ⟨h, α, ds, d, h', mt, r, e, q⟩ => by
  unfold absG at e
  split at e
  · cases e; obtain ⟨v, rfl, r1⟩ := reps1 r; cases r1; exact ⟨_, rfl, q α H _ Ex.refl mt rfl⟩
  · cases e
def lenG : GC
  | [.str s], h => if s.length ≤ sizeLine then some (.int s.length, h) else none
  | [.tup ds], h => some (.int ds.length, h)
  | [.ref n], h => match getL h n with
    | some ds => some (.int ds.length, h)
    | none => match h[n]? with
      | some (.dct kvs) => some (.int kvs.length, h)
      | _ => none
  | _, _ => none
theorem call_lenDct : CallR X (.builtin "len") (fun xs H Q => ∃ a kvs, xs = [.ref a] ∧ H a = some (.dK kvs) ∧ Q (.int kvs.length) H) := by
  intro pins s σ H xs us Q I r h
  obtain ⟨a, kvs, rfl, e, q⟩ := h
  obtain ⟨u, rfl, r1⟩ := vals1 r
  cases r1
  exact d_len I (.inl e) fun t s' I' => ⟨.int kvs.length, H, I', ⟨t, rfl⟩, q⟩
theorem cb_len : CB X (.builtin "len") lenG := CallR.imp (CallR.or call_len call_lenDct) fun xs H Q ⟨h, α, ds, d, h', mt, r, e, q⟩ => by
  unfold lenG at e
  split at e
  · split at e
    · next c => cases e; obtain ⟨v, rfl, r1⟩ := reps1 r; cases r1; exact .inl ⟨_, _, rfl, ⟨c, rfl⟩, q α H _ Ex.refl mt rfl⟩
    · cases e
  · cases e; obtain ⟨v, rfl, a, xs, rfl, sq, rr⟩ := reps1 r; exact .inl ⟨_, _, rfl, .inr ⟨xs, sq.seq, rr.length.symm⟩, q α H _ Ex.refl mt rfl⟩
  · split at e
    · next e1 => cases e; obtain ⟨v, rfl, _, rfl⟩ := reps1 r; obtain ⟨xs, sq, rr⟩ := mt.getL e1; exact .inl ⟨_, _, rfl, .inl ⟨xs, sq, rr.length.symm⟩, q α H _ Ex.refl mt rfl⟩
    · split at e
      · next e1 =>
        cases e; obtain ⟨v, rfl, _, rfl⟩ := reps1 r; obtain ⟨ys, sq, rr⟩ := mt.at_ _ _ e1
        exact .inr ⟨_, ys, rfl, sq, by rw [repKV_len rr]; exact q α H _ Ex.refl mt rfl⟩
      · cases e
  · cases e
def minL : List Int → Int
  | [] => 0
  | x :: xs => xs.foldl (fun a b => if b < a then b else a) x
def maxL : List Int → Int
  | [] => 0
  | x :: xs => xs.foldl (fun a b => if b > a then b else a) x
def minG : GC
  | [.int i, .int j], h => some (.int (if j < i then j else i), h)
  | [.ref n], h => match getL h n with
    | some ds => match intsD ds with
      | some ns => if ns = [] then none else some (.int (minL ns), h)
      | none => none
    | none => none
  | _, _ => none
def maxG : GC
  | [.int i, .int j], h => some (.int (if j > i then j else i), h)
  | [.ref n], h => match getL h n with
    | some ds => match intsD ds with
      | some ns => if ns = [] then none else some (.int (maxL ns), h)
      | none => none
    | none => none
  | _, _ => none
theorem seq_ints {K : PySem.W.Frag} {α : Al} {H : Hp} {h : Hs} {n : Nat} {ds : List D} {ns : List Int} (mt : Mt K α H h) (e : getL h n = some ds) (e2 : intsD ds = some ns) : SqL K H (α n) (ns.map V.int) := by
  obtain ⟨xs, sq, rr⟩ := mt.getL e
  rw [intsD_eq e2] at rr
  rw [rr.ints] at sq
  exact sq
theorem seq_bls {K : PySem.W.Frag} {α : Al} {H : Hp} {h : Hs} {n : Nat} {ds : List D} {ns : List Bool} (mt : Mt K α H h) (e : getL h n = some ds) (e2 : blsD ds = some ns) : SqL K H (α n) (ns.map V.bl) := by
  obtain ⟨xs, sq, rr⟩ := mt.getL e
  rw [blsD_eq e2] at rr
  rw [rr.bls] at sq
  exact sq
def intG : GC
  | [.int i], h => some (.int i, h)
  | [.bl k], h => some (.int (if k then 1 else 0), h)
  | [.str s], h => if s.length ≤ 640 then match PySem.intText? s with
    | some n => some (.int n, h)
    | none => none
    else none
  | _, _ => none
theorem cb_int : CB X (.type "int") intG := CallR.imp (CallR.or call_int1 call_int_str) fun xs H Q ⟨h, α, ds, d, h', mt, r, e, q⟩ => by
  unfold intG at e
  split at e
  · cases e; obtain ⟨v, rfl, r1⟩ := reps1 r; cases r1; exact .inl (.inl ⟨_, rfl, q α H _ Ex.refl mt rfl⟩)
  · cases e; obtain ⟨v, rfl, r1⟩ := reps1 r; cases r1; exact .inl (.inr ⟨_, rfl, q α H _ Ex.refl mt rfl⟩)
  · split at e
    · next c =>
      split at e
      · next e1 => cases e; obtain ⟨v, rfl, r1⟩ := reps1 r; cases r1; exact .inr ⟨_, _, rfl, e1, c, q α H _ Ex.refl mt rfl⟩
      · cases e
    · cases e
  · cases e
def strG : GC
  | [.int i], h => if i.natAbs.log2 < 1920 then some (.str (toString i), h) else none
  | _, _ => none
theorem cb_str : CB X (.type "str") strG := CallR.imp call_str_int fun xs H Q ⟨h, α, ds, d, h', mt, r, e, q⟩ => by
  unfold strG at e
  split at e
  · split at e
    · next c => cases e; obtain ⟨v, rfl, r1⟩ := reps1 r; cases r1; exact ⟨_, rfl, c, q α H _ Ex.refl mt rfl⟩
    · cases e
  · cases e
def sumG : GC
  | [.ref n], h => match getL h n with
    | some ds => match intsD ds with
      | some ns => some (.int ns.sum, h)
      | none => none
    | none => none
  | _, _ => none
theorem cb_sum (hc : X.calm = true) : CB X (.builtin "sum") sumG := CallR.imp (cr_sum hc) fun xs H Q ⟨h, α, ds, d, h', mt, r, e, q⟩ => by
  unfold sumG at e
  split at e
  · split at e
    · next e1 =>
      split at e
      · next e2 => cases e; obtain ⟨v, rfl, _, rfl⟩ := reps1 r; exact ⟨_, _, rfl, seq_ints mt e1 e2, q α H _ Ex.refl mt rfl⟩
      · cases e
    · cases e
  · cases e
def allG : GC
  | [.ref n], h => match getL h n with
    | some ds => match blsD ds with
      | some ns => some (.bl (ns.all id), h)
      | none => none
    | none => none
  | _, _ => none
theorem cb_all (hc : X.calm = true) : CB X (.builtin "all") allG := CallR.imp (cr_all hc) fun xs H Q ⟨h, α, ds, d, h', mt, r, e, q⟩ => by
  unfold allG at e
  split at e
  · split at e
    · next e1 =>
      split at e
      · next e2 => cases e; obtain ⟨v, rfl, _, rfl⟩ := reps1 r; exact ⟨_, _, rfl, seq_bls mt e1 e2, q α H _ Ex.refl mt rfl⟩
      · cases e
    · cases e
  · cases e
/-! isinstance -/
def tyN (h : Hs) : D → Option String
  | .non => some "NoneType"
  | .bl _ => some "bool"
  | .int _ => some "int"
  | .str _ => some "str"
  | .tup _ => some "tuple"
  | .ty _ => none
  | .fn _ => none
  | .exn _ => none
  | .ref n => match h[n]? with
    | some (.lst _) => some "list"
    | some (.fz _) => some "list"
    | some (.dct _) => some "dict"
    | _ => none
def isT (a T : String) : Bool := a == T || (a == "bool" && T == "int")
def okT (T : String) : Bool := ["int", "bool", "str", "tuple", "list", "dict"].contains T
theorem isT_kit : ∀ a ∈ ["NoneType", "bool", "int", "str", "tuple", "list", "dict"], ∀ T ∈ ["int", "bool", "str", "tuple", "list", "dict"], kitB a T = some (isT a T) := by decide +kernel
theorem tyN_mem {h : Hs} {d : D} {a : String} (e : tyN h d = some a) : a ∈ ["NoneType", "bool", "int", "str", "tuple", "list", "dict"] := by
  cases d <;> simp only [tyN] at e
  · cases e; decide
  · cases e; decide
  · cases e; decide
  · cases e; decide
  · cases e
  · cases e
  · cases e
  · cases e; decide
  · split at e <;> first | (cases e; done) | (cases e; decide)
theorem kit_of' {K : PySem.W.Frag} {h : Hs} {d : D} {a T : String} (e : tyN h d = some a) (hT : okT T = true) : PySem.W.kitOne K (.type a) (.type T) = some (isT a T) :=
  kit_ty (isT_kit a (tyN_mem e) T (by unfold okT at hT; simpa using hT))
theorem tyN_ty {K : PySem.W.Frag} {α : Al} {H : Hp} {h : Hs} {d : D} {v : V} {a : String} (mt : Mt K α H h) (r : Rep K α h.length H d v) (e : tyN h d = some a) : TyX K H v (.type a) := by
  cases d with
  | non => cases e; cases r; exact .base .non
  | bl b => cases e; cases r; exact .base (.bl b)
  | int i => cases e; cases r; exact .base (.int i)
  | str s => cases e; cases r; exact .base (.str s)
  | ty t => cases e
  | fn t => cases e
  | exn t => cases e
  | tup ds =>
    cases e
    obtain ⟨p, xs, rfl, sq | sq, rr⟩ := r
    · exact .base (.tup sq)
    · rcases sq (fun _ => none) with (z | ⟨o, z⟩) | ⟨o, its, n, e1, e2, _⟩
      · cases z
      · cases z
      · exact .kTuple e1 e2
  | ref n =>
    obtain ⟨_, rfl⟩ := r
    simp only [tyN] at e
    split at e
    · next e1 => cases e; obtain ⟨xs, s, q⟩ := mt.at_ n _ e1; exact .base (.lst s)
    · next e1 =>
      cases e; obtain ⟨xs, s, q⟩ := mt.at_ n _ e1
      rcases s with ⟨o, s⟩ | s
      · exact .base (.frz s)
      · rcases s (fun _ => none) with (z | ⟨o, z⟩) | ⟨o, its, n, e1, e2, _⟩
        · cases z
        · cases z
        · exact .kList e1 e2
    · next e1 => cases e; obtain ⟨xs, s, q⟩ := mt.at_ n _ e1; exact .base (.dK s)
    · cases e
def isTs (a : String) : List D → Option Bool
  | [] => some false
  | .ty T :: r => if okT T then match isTs a r with
    | some k => some (isT a T || k)
    | none => none
    else none
  | _ :: _ => none
def isiG : GC
  | [x, .ty T], h => match tyN h x with
    | some a => if okT T then some (.bl (isT a T), h) else none
    | none => none
  | [x, .tup ts], h => match tyN h x with
    | some a => match isTs a ts with
      | some k => some (.bl k, h)
      | none => none
    | none => none
  | _, _ => none
theorem isTs_any {K : PySem.W.Frag} {α : Al} {L : Nat} {H : Hp} {h : Hs} {d : D} {a : String} (e0 : tyN h d = some a) : ∀ {ts : List D} {k : Bool} {vs : List V}, isTs a ts = some k → Reps K α L H ts vs →
    ∃ us, Paired ClsV vs us ∧ PySem.W.kitAny K (.type a) us = some k
  | [], k, vs, e, r => by cases e; rw [show vs = [] from r]; exact ⟨[], .nil, kitAny_nil⟩
  | t :: ts, k, vs, e, ⟨x, ys, ev, r, q⟩ => by
    unfold isTs at e
    split at e
    · next z => cases z
    · next z =>
      cases z
      split at e
      · next c =>
        split at e
        · next k' e1 =>
          cases e
          obtain ⟨us, p, z⟩ := isTs_any e0 e1 q
          subst ev
          rw [show x = .ty _ from r]
          refine ⟨_, .cons (.ty _) p, kitAny_cons (kit_of' e0 c) (fun w => ?_) (fun w => ?_)⟩
          · rw [w, Bool.false_or]; exact z
          · rw [w, Bool.true_or]
        · cases e
      · cases e
    · cases e
theorem cb_isi : CB X (.builtin "isinstance") isiG := CallR.imp (CallR.or call_isi (CallR.or call_isiT call_isiK)) fun xs H Q ⟨h, α, ds, d, h', mt, r, e, q⟩ => by
  unfold isiG at e
  split at e
  · split at e
    · next e1 =>
      split at e
      · next c => cases e; obtain ⟨v, w, rfl, r1, r2⟩ := reps2 r; cases r2; exact .inl ⟨v, _, _, _, _, rfl, .ty _, tyN_ty mt r1 e1, kit_of' e1 c, q α H _ Ex.refl mt rfl⟩
      · cases e
    · cases e
  · split at e
    · next e1 =>
      split at e
      · next e2 =>
        cases e; obtain ⟨v, w, rfl, r1, a, cs, rfl, sq, rr⟩ := reps2 r
        obtain ⟨us, p, z⟩ := isTs_any e1 e2 rr
        rcases sq with sq | sq
        · exact .inr (.inl ⟨v, a, cs, _, us, _, rfl, sq, p, tyN_ty mt r1 e1, z, q α H _ Ex.refl mt rfl⟩)
        · rcases sq (fun _ => none) with (y | ⟨o, y⟩) | ⟨o, its, n, e3, e4, e5, e6, e7⟩
          · cases y
          · cases y
          · have : its.toList = us := ClsV.all p e7
            obtain ⟨oc, od, odat, osl⟩ := o
            cases e4
            cases e5
            exact .inr (.inr ⟨v, a, od, us, n, osl, _, _, rfl, by rw [e3, ← this, Array.toArray_toList], tyN_ty mt r1 e1, z, q α H _ Ex.refl mt rfl⟩)
      · cases e
    · cases e
  · cases e
/-! ### methods of builtins -/
def tyD (T : String) (h : Hs) : D → Bool
  | .str _ => T == "str"
  | .int _ => T == "int"
  | .ref n => match h[n]? with
    | some (.lst _) => T == "list"
    | some (.fz _) => T == "list"
    | some (.dct _) => T == "dict"
    | _ => false
  | _ => false
theorem tyD_ok {K : PySem.W.Frag} {α : Al} {H : Hp} {h : Hs} {d : D} {v : V} {T : String} (mt : Mt K α H h) (r : Rep K α h.length H d v) (e : tyD T h d = true) : tyV K T v H := by
  cases d with
  | non => cases e
  | bl b => cases e
  | int i => cases r; exact beq_iff_eq.mp e
  | str s => cases r; exact beq_iff_eq.mp e
  | ty t => cases e
  | fn t => cases e
  | exn t => cases e
  | tup ds => cases e
  | ref n =>
    obtain ⟨_, rfl⟩ := r
    simp only [tyD] at e
    split at e
    · next e1 => obtain ⟨xs, s, q⟩ := mt.at_ n _ e1; exact .inl ⟨beq_iff_eq.mp e, xs, SqL.of s⟩
    · next e1 => obtain ⟨xs, s, q⟩ := mt.at_ n _ e1; exact .inl ⟨beq_iff_eq.mp e, xs, s.seq⟩
    · next e1 => obtain ⟨xs, s, q⟩ := mt.at_ n _ e1; exact .inr (.inr (.inl ⟨beq_iff_eq.mp e, .inl ⟨xs, s⟩⟩))
    · cases e
def eMt (T : String) (g : GM) (mo : ME) (m : MA) : ME := fun ρ h => bd (mo ρ h) fun x h1 => if tyD T h1 x = true then bd (m ρ h1) fun xs h2 => g x xs h2 else none
theorem meth_seq {K : PySem.W.Frag} {T : String} {g : GM} {mo : ME} {m : MA} {σ : L2.St} {H : Hp} {Q : VK} (t : lE K (eMt T g mo m) σ H Q) : lE K mo σ H fun x H1 => tyV K T x H1 ∧ lA K m σ H1 fun xs H2 => lM K g x xs H2 Q := by
  obtain ⟨ρ, h, α, d, h', rs, mt, e, q⟩ := t
  obtain ⟨d1, h1, e1, e⟩ := bd_some e
  split at e
  · next c =>
    obtain ⟨d2, h2, e2, e3⟩ := bd_some e
    exact ⟨ρ, h, α, d1, h1, rs, mt, e1, fun α1 H1 v1 x1 m1 r1 => ⟨tyD_ok m1 r1 c, ρ, h1, α1, d2, h2, rs.mono x1, m1, e2, fun α2 H2 v2 x2 m2 r2 =>
      ⟨h2, α2, d1, d2, d, h', m2, x2.rep r1, r2, e3, fun α3 H3 v3 x3 m3 r3 => q α3 H3 v3 (x1.trans (x2.trans x3)) m3 r3⟩⟩⟩
  · cases e
variable {o : Expr} {mo : ME} {name : Str} {apos cpos : Pos} {T id : String} {gm : GM}
theorem c_meth (pa : PlainAttrs T) (slot : Slot T name id) (hty : typeOf (.builtin id) = pure (.type "method_descriptor")) (hm : CM X id gm) (ho : CE X o mo) (ha : CL X (e :: es) m)
    (hbase : attributeBase o name X.env (eval o X.env) = eval o X.env := by rfl)
    (hfew : ((backTo cpos (starEach (e :: es) X.env)).all (fun x => !x.1) && (backToKw cpos (keywordEach [] X.env)).all (fun x => x.1.isSome)
      && decide ((e :: es).length + ([] : List Keyword).length + (if ([] : List Keyword).isEmpty then 0 else 1) < 30)) = true := by rfl)
    (hline : (apos.endLine == cpos.line) = true := by rfl) (hs : starEach (e :: es) X.env = (false, eval e X.env) :: starEach es X.env := by rfl) (hplain : (backTo cpos (starEach es X.env)).any (·.1) = false := by rfl) :
    CE X (.Call (.Attribute o name apos) (e :: es) [] cpos) (eMt T gm mo m) :=
  PE.imp (pe_bm pa slot hty hm ho ha.1 hbase hfew hline hs hplain) fun σ H Q t => meth_seq t
def appendG : GM
  | .ref n, [y], h => match h[n]? with
    | some (.lst ds) => if ds.length < sizeLine then some (.non, h.set n (.lst (ds ++ [y]))) else none
    | _ => none
  | _, _, _ => none
theorem set_lst {K : PySem.W.Frag} {α : Al} {H : Hp} {h : Hs} {n : Nat} {o : AO} {ds : List D} {xs : List V} (mt : Mt K α H h) (e : h[n]? = some o) (ho : o.mu = true) (r : Reps K α h.length H ds xs) :
    Ex α H h α (upd H (α n) (.lst xs)) (h.set n (.lst ds)) ∧ Mt K α (upd H (α n) (.lst xs)) (h.set n (.lst ds)) := by
  have u : Mu h n := ⟨o, e, ho⟩
  have x : Ex α H h α (upd H (α n) (.lst xs)) (h.set n (.lst ds)) := Ex.write mt u rfl
  exact ⟨x, mt.write u rfl ⟨xs, upd_same, x.reps r⟩⟩
theorem cm_append : CM X "list.append" appendG := MtR.imp mt_append fun x xs H Q ⟨h, α, dx, ds, d, h', mt, rx, r, e, q⟩ => by
  unfold appendG at e
  split at e
  · split at e
    · next e1 =>
      split at e
      · next c =>
        cases e; obtain ⟨_, rfl⟩ := rx; obtain ⟨v, rfl, r1⟩ := reps1 r; obtain ⟨ys, s, rr⟩ := mt.lst e1
        obtain ⟨x2, m2⟩ := set_lst mt e1 rfl (rr.append (Reps.cons r1 Reps.nil))
        exact ⟨_, ys, v, rfl, rfl, s, by rw [rr.length]; exact c, q α _ _ x2 m2 rfl⟩
      · cases e
    · cases e
  · cases e
theorem Reps.dropLast {K : PySem.W.Frag} {α : Al} {L : Nat} {H : Hp} {ds : List D} {vs : List V} (r : Reps K α L H ds vs) : Reps K α L H ds.dropLast vs.dropLast := by
  rw [List.dropLast_eq_take, List.dropLast_eq_take, r.length]
  exact r.take _
def bitsG : GU
  | .int i, h => some (.int (Builtin.Int.intBits i : Nat), h)
  | _, _ => none
end
end SL
namespace SL
open PySem PySem.Spec PyProof.Rows L2
/-! ### loops as functions -/
def itN {S R : Type} (step : S → Option (S ⊕ R)) : Nat → S → Option R
  | 0, _ => none
  | n + 1, s => match step s with
    | none => none
    | some (.inl s') => itN step n s'
    | some (.inr r) => some r
theorem itN_succ {S R : Type} {step : S → Option (S ⊕ R)} : ∀ {n : Nat} {s : S} {r : R}, itN step n s = some r → itN step (n + 1) s = some r
  | 0, s, r, e => by cases e
  | n + 1, s, r, e => by
    unfold itN at e ⊢
    cases q : step s with
    | none => rw [q] at e; cases e
    | some x =>
      rw [q] at e
      cases x with
      | inl s' => exact itN_succ (n := n) e
      | inr r' => exact e
theorem itN_le {S R : Type} {step : S → Option (S ⊕ R)} {n m : Nat} {s : S} {r : R} (h : n ≤ m) (e : itN step n s = some r) : itN step m s = some r := by
  induction h with
  | refl => exact e
  | step _ ih => exact itN_succ ih
noncomputable def itW {S R : Type} (step : S → Option (S ⊕ R)) (s : S) : Option R := by
  classical
  exact if h : ∃ n r, itN step n s = some r then itN step h.choose s else none
theorem itW_some {S R : Type} {step : S → Option (S ⊕ R)} {s : S} {r : R} : itW step s = some r ↔ ∃ n, itN step n s = some r := by
  unfold itW
  constructor
  · intro e
    split at e
    · next h => exact ⟨_, e⟩
    · cases e
  · rintro ⟨n, e⟩
    have h : ∃ n r, itN step n s = some r := ⟨n, r, e⟩
    rw [dif_pos h]
    obtain ⟨r', e'⟩ := h.choose_spec
    rcases Nat.le_total n h.choose with q | q
    · exact itN_le q e
    · have := itN_le q e'
      rw [e] at this
      rw [e', this]
theorem itW_none {S R : Type} {step : S → Option (S ⊕ R)} {s : S} (h : ∀ n, itN step n s = none) : itW step s = none := by
  cases q : itW step s with
  | none => rfl
  | some r => obtain ⟨n, e⟩ := itW_some.mp q; rw [h n] at e; cases e
theorem itW_eq {S R : Type} (step : S → Option (S ⊕ R)) (s : S) : itW step s = match step s with
    | none => none
    | some (.inl s') => itW step s'
    | some (.inr r) => some r := by
  cases q : step s with
  | none =>
    refine itW_none fun n => ?_
    cases n with
    | zero => rfl
    | succ n => unfold itN; rw [q]
  | some x =>
    cases x with
    | inr r => exact itW_some.mpr ⟨1, by unfold itN; rw [q]⟩
    | inl s' =>
      show itW step s = itW step s'
      cases z : itW step s' with
      | some r =>
        obtain ⟨n, e⟩ := itW_some.mp z
        exact itW_some.mpr ⟨n + 1, by unfold itN; rw [q]; exact e⟩
      | none =>
        refine itW_none fun n => ?_
        cases n with
        | zero => rfl
        | succ n =>
          unfold itN
          rw [q]
          cases y : itN step n s' with
          | none => exact y
          | some r => rw [itW_some.mpr ⟨n, y⟩] at z; cases z
/-! ### what is walked -/
abbrev Src := Nat → Hs → Option (Option D)
def ItOk (K : PySem.W.Frag) (α : Al) (H : Hp) (h : Hs) (J : It) (src : Src) : Prop :=
  ∀ α2 H2 h2, Ex α H h α2 H2 h2 → Mt K α2 H2 h2 → ∀ i, (src i h2 = some none → J.stop i H2) ∧ ∀ d, src i h2 = some (some d) → J.go i H2 ∧ ∀ x H3, J.yld i H2 x H3 → Ex α2 H2 h2 α2 H3 h2 ∧ Mt K α2 H3 h2 ∧ Rep K α2 h2.length H3 d x
abbrev MI := MR Src
def lI (K : PySem.W.Frag) (mi : MI) : TI := fun σ H R =>
  ∃ ρ h α src h', RepS K α h.length H ρ σ ∧ Mt K α H h ∧ mi ρ h = some (src, h') ∧ ∀ α' H' J, Ex α H h α' H' h' → Mt K α' H' h' → ItOk K α' H' h' J src → R J H'
def CI (X : Cx) (tg it : Expr) (mi : MI) : Prop := PI X tg it (lI X.K mi)
def srcL (n : Nat) : Src := fun i h => match getL h n with
  | some ds => some ds[i]?
  | none => none
def srcT (ds : List D) : Src := fun i _ => some ds[i]?
def srcS (z : Str) : Src := fun i _ => some (z.cps[i]?.map fun c => .str ⟨#[c]⟩)
def srcR (lo : Int) (n : Nat) : Src := fun i _ => some (if i < n then some (.int (lo + (i : Nat))) else none)
def srcC (lo c : Int) (n : Nat) : Src := fun i _ => some (if i < n then some (.int (lo + (i : Nat) * c)) else none)
def srcE (n : Nat) : Src := fun i h => match getL h n with
  | some ds => some (ds[i]?.map fun d => .tup [.int (i : Nat), d])
  | none => none
def srcZ (n m : Nat) : Src := fun i h => match getL h n, getL h m with
  | some ds, some es => some (match ds[i]?, es[i]? with
    | some d, some e => some (.tup [d, e])
    | _, _ => none)
  | _, _ => none
def srcZT (ds es : List D) : Src := fun i h => some (match ds[i]?, es[i]? with
    | some d, some e => some (.tup [d, e])
    | _, _ => none)
section
variable {K : PySem.W.Frag} {α : Al} {H : Hp} {h : Hs}
theorem itok_L {n : Nat} (l : n < h.length) : ItOk K α H h (Itl K (α n)) (srcL n) := fun α2 H2 h2 x m i => by
  unfold srcL
  cases q : getL h2 n with
  | none => exact ⟨(fun e => nomatch e), (fun d e => nomatch e)⟩
  | some ds =>
    obtain ⟨xs, sq, rr⟩ := m.getL q
    rw [x.al n l] at sq
    refine ⟨fun e => ⟨xs, sq, ?_⟩, fun d e => ?_⟩
    · have : ds[i]? = none := Option.some.inj e
      rw [rr.length]; exact List.getElem?_eq_none_iff.mp this
    · obtain ⟨v, e1, r1⟩ := rr.get (Option.some.inj e)
      refine ⟨⟨xs, v, sq, e1⟩, fun y H3 ⟨e2, e3⟩ => ?_⟩
      subst e2
      have := e3 xs sq
      rw [e1] at this; cases this
      exact ⟨Ex.refl, m, r1⟩
theorem itok_T {a : Addr} {ds : List D} {xs : List V} (s : TpL K H a xs) (r : Reps K α h.length H ds xs) : ItOk K α H h (Itt K a) (srcT ds) := fun α2 H2 h2 x m i => by
  have sq := (x.seqT s).seq
  have rr := x.reps r
  refine ⟨fun e => ⟨xs, sq, ?_⟩, fun d e => ?_⟩
  · have : ds[i]? = none := Option.some.inj e
    rw [rr.length]; exact List.getElem?_eq_none_iff.mp this
  · obtain ⟨v, e1, r1⟩ := rr.get (Option.some.inj e)
    refine ⟨⟨xs, v, sq, e1⟩, fun y H3 ⟨e2, e3⟩ => ?_⟩
    subst e2
    have := e3 xs sq
    rw [e1] at this; cases this
    exact ⟨Ex.refl, m, r1⟩
theorem itok_S {z : Str} : ItOk K α H h (Its z) (srcS z) := fun α2 H2 h2 x m i => by
  unfold srcS
  cases q : z.cps[i]? with
  | none => exact ⟨fun _ => Array.getElem?_eq_none_iff.mp q, (fun d e => nomatch e)⟩
  | some c =>
    refine ⟨(fun e => nomatch e), fun d e => ⟨?_, fun y H3 ⟨e2, c', e3, e4⟩ => ?_⟩⟩
    · have := Array.getElem?_eq_some_iff.mp q
      exact this.1
    · subst e2; subst e4
      rw [q] at e3; cases e3; cases e
      exact ⟨Ex.refl, m, rfl⟩
theorem itok_R {lo : Int} {n : Nat} : ItOk K α H h (Itr lo n) (srcR lo n) := fun α2 H2 h2 x m i => by
  unfold srcR
  by_cases q : i < n
  · rw [if_pos q]
    refine ⟨(fun e => nomatch e), fun d e => ⟨q, fun y H3 ⟨e2, e3⟩ => ?_⟩⟩
    subst e2; subst e3; cases e
    exact ⟨Ex.refl, m, rfl⟩
  · rw [if_neg q]
    exact ⟨fun _ => Nat.le_of_not_lt q, (fun d e => nomatch e)⟩
theorem itok_E {n : Nat} (l : n < h.length) : ItOk K α H h (Ite K (α n)) (srcE n) := fun α2 H2 h2 x m i => by
  unfold srcE
  cases q : getL h2 n with
  | none => exact ⟨(fun e => nomatch e), (fun d e => nomatch e)⟩
  | some ds =>
    obtain ⟨xs, sq, rr⟩ := m.getL q
    rw [x.al n l] at sq
    cases q2 : ds[i]? with
    | none => exact ⟨fun e => ⟨xs, sq, by rw [rr.length]; exact List.getElem?_eq_none_iff.mp q2⟩, fun d e => by simp [q2] at e⟩
    | some d0 =>
      obtain ⟨v, e1, r1⟩ := rr.get q2
      refine ⟨fun e => by simp [q2] at e, fun d e => ⟨⟨xs, v, sq, e1⟩, fun y H3 ⟨T, x', e2, e3, e4, e5⟩ => ?_⟩⟩
      subst e2; subst e4
      have := e5 xs sq
      rw [e1] at this; cases this
      simp [q2] at e
      subst e
      exact ⟨Ex.grow e3, m.grow e3, new_tup e3 ⟨_, _, rfl, rfl, _, _, rfl, r1, rfl⟩⟩
end
section
variable {X : Cx} {tg e e2 e3 a b c : Expr} {ma mb : ME} {m : MA} {pos p : Pos}
theorem PI.imp {t t' : TI} (h : PI X tg e t) (i : ∀ σ H Q, t' σ H Q → t σ H Q) : PI X tg e t' := ⟨fun pins s σ H Q I q => h.run pins s σ H Q I (i _ _ _ q)⟩
theorem PI.or {t t' : TI} (h : PI X tg e t) (h' : PI X tg e t') : PI X tg e (fun σ H Q => t σ H Q ∨ t' σ H Q) := ⟨fun pins s σ H Q I q => by
  rcases q with q | q
  · exact h.run pins s σ H Q I q
  · exact h'.run pins s σ H Q I q⟩
def iSeq (ma : ME) : MI := fun ρ h => bd (ma ρ h) fun d h1 => match d with
  | .ref n => match getL h1 n with
    | some _ => some (srcL n, h1)
    | none => none
  | .tup ds => some (srcT ds, h1)
  | .str z => some (srcS z, h1)
  | _ => none
theorem i_seq (ha : CE X e ma) : CI X tg e (iSeq ma) :=
  PI.imp (PI.or (pi_list ha) (PI.or (pi_tup ha) (pi_str ha))) fun σ H R ⟨ρ, h, α, src, h', rs, mt, e, q⟩ => by
    obtain ⟨d1, h1, e1, e⟩ := bd_some e
    split at e
    · split at e
      · next e2 =>
        cases e
        refine .inl ⟨ρ, h, α, _, _, rs, mt, e1, fun α1 H1 v1 x1 m1 r1 => ?_⟩
        obtain ⟨l, rfl⟩ := r1
        obtain ⟨xs, sq, rr⟩ := m1.getL e2
        exact ⟨_, rfl, ⟨xs, sq⟩, q α1 H1 _ x1 m1 (itok_L l)⟩
      · cases e
    · cases e
      refine .inr (.inl ⟨ρ, h, α, _, _, rs, mt, e1, fun α1 H1 v1 x1 m1 r1 => ?_⟩)
      obtain ⟨p, xs, rfl, sq, rr⟩ := r1
      exact ⟨_, rfl, ⟨xs, sq.seq⟩, q α1 H1 _ x1 m1 (itok_T sq rr)⟩
    · cases e
      refine .inr (.inr ⟨ρ, h, α, _, _, rs, mt, e1, fun α1 H1 v1 x1 m1 r1 => ?_⟩)
      exact ⟨_, r1, q α1 H1 _ x1 m1 itok_S⟩
    · cases e
def inRg (i : Int) : Bool := decide (-(2 ^ 62) ≤ i) && decide (i < 2 ^ 62)
theorem inRg_ok {i : Int} (h : inRg i = true) : -(2 ^ 62) ≤ i ∧ i < 2 ^ 62 := by
  unfold inRg at h
  rw [Bool.and_eq_true] at h
  exact ⟨of_decide_eq_true h.1, of_decide_eq_true h.2⟩
def iRange (m : MA) : MI := fun ρ h => bd (m ρ h) fun ds h1 => match ds with
  | [.int j] => if inRg j = true then some (srcR 0 j.toNat, h1) else none
  | [.int i, .int j] => if inRg i = true ∧ inRg j = true then some (srcR i (j - i).toNat, h1) else none
  | [.int i, .int j, .int c] => if c ≠ 0 ∧ c.natAbs < 1073741824 ∧ Builtin.Range.small i j c = true ∧ 0 ≤ Builtin.Range.rangeSize i j c then some (srcC i c (Builtin.Range.rangeSize i j c).toNat, h1) else none
  | _ => none
theorem i_range1 (hm : X.mg "range" = none) (ha : CL X [a] m) (hg : Gl X "range" := by rfl) (hs : starEach [a] X.env = [(false, eval a X.env)] := by rfl) : CI X tg (.Call (.Name "range" p) [a] [] pos) (iRange m) :=
  PI.imp (pi_range1 hg hm ha.1 hs) fun σ H R ⟨ρ, h, α, src, h', rs, mt, e, q⟩ => by
    obtain ⟨ds, h1, e1, e⟩ := bd_some e
    have hl := ha.2 _ _ _ _ e1
    refine ⟨ρ, h, α, ds, h1, rs, mt, e1, fun α1 H1 v1 x1 m1 r1 => ?_⟩
    split at e
    · split at e
      · next c =>
        cases e
        obtain ⟨v, rfl, r2⟩ := reps1 r1
        cases r2
        exact ⟨_, rfl, (inRg_ok c).1, (inRg_ok c).2, q α1 H1 _ x1 m1 itok_R⟩
      · cases e
    · cases hl
    · cases hl
    · cases e
def iEnumD (m : MA) : MI := fun ρ h => bd (m ρ h) fun ds h1 => match ds with
  | [.ref n] => match getL h1 n with
    | some _ => some (srcE n, h1)
    | none => none
  | _ => none
variable {elts : List Expr} {kk : Nat} {tpos : Pos}
def iZipD (m : MA) : MI := fun ρ h => bd (m ρ h) fun ds h1 => match ds with
  | [.ref n, .ref k] => match getL h1 n, getL h1 k with
    | some _, some _ => some (srcZ n k, h1)
    | _, _ => none
  | [.tup ds, .tup es] => some (srcZT ds es, h1)
  | _ => none
/-! ### targets -/
abbrev GG := D → Rho → Hs → Option (Rho × Hs)
def Off (S : List Nat) (σ σ' : L2.St) : Prop := σ'.length = σ.length ∧ ∀ i, i ∉ S → σ'[i]? = σ[i]?
theorem Off.refl {S : List Nat} {σ : L2.St} : Off S σ σ := ⟨rfl, fun _ _ => rfl⟩
theorem Off.trans {S : List Nat} {σ σ1 σ2 : L2.St} (a : Off S σ σ1) (b : Off S σ1 σ2) : Off S σ σ2 := ⟨b.1.trans a.1, fun i h => (b.2 i h).trans (a.2 i h)⟩
theorem Off.mono {S T : List Nat} {σ σ' : L2.St} (a : Off S σ σ') (h : ∀ i ∈ S, i ∈ T) : Off T σ σ' := ⟨a.1, fun i q => a.2 i fun z => q (h i z)⟩
def lG (K : PySem.W.Frag) (S : List Nat) (g : GG) : TG := fun v σ H Q =>
  ∃ ρ h α d ρ' h', RepS K α h.length H ρ σ ∧ Mt K α H h ∧ Rep K α h.length H d v ∧ g d ρ h = some (ρ', h') ∧ ∀ α' H' σ', Ex α H h α' H' h' → Mt K α' H' h' → RepS K α' h'.length H' ρ' σ' → Off S σ σ' → Q σ' H'
abbrev GGs := List D → Rho → Hs → Option (Rho × Hs)
def lGs (K : PySem.W.Frag) (S : List Nat) (g : GGs) : TGs := fun vs σ H Q =>
  ∃ ρ h α ds ρ' h', RepS K α h.length H ρ σ ∧ Mt K α H h ∧ Reps K α h.length H ds vs ∧ g ds ρ h = some (ρ', h') ∧ ∀ α' H' σ', Ex α H h α' H' h' → Mt K α' H' h' → RepS K α' h'.length H' ρ' σ' → Off S σ σ' → Q σ' H'
def CG (X : Cx) (tg : Expr) (S : List Nat) (g : GG) : Prop := PG X tg (lG X.K S g)
def CGs (X : Cx) (tg : List Expr) (S : List Nat) (g : GGs) : Prop := PGs X tg (lGs X.K S g)
theorem PG.imp {t t' : TG} (h : PG X tg t) (i : ∀ v σ H Q, t' v σ H Q → t v σ H Q) : PG X tg t' := ⟨fun pins s σ H v u Q I r q => h.run pins s σ H v u Q I r (i _ _ _ _ q)⟩
theorem PGs.imp {ts : List Expr} {t t' : TGs} (h : PGs X ts t) (i : ∀ v σ H Q, t' v σ H Q → t v σ H Q) : PGs X ts t' := ⟨fun pins s σ H v u Q I r q => h.run pins s σ H v u Q I r (i _ _ _ _ q)⟩
def gNm (i : Nat) : GG := fun d ρ h => some (ρ.set i (some d), h)
def gsNil : GGs := fun ds ρ h => match ds with
  | [] => some (ρ, h)
  | _ => none
def gsCons (g : GG) (gs : GGs) : GGs := fun ds ρ h => match ds with
  | d :: r => match g d ρ h with
    | some (ρ1, h1) => gs r ρ1 h1
    | none => none
  | _ => none
def gTp (g : GGs) : GG := fun d ρ h => match d with
  | .tup ds => g ds ρ h
  | .ref n => match getL h n with
    | some ds => g ds ρ h
    | none => none
  | _ => none
theorem pg_or {X : Cx} {e : Expr} {t t' : TG} (h : PG X e t) (h' : PG X e t') : PG X e (fun v σ H Q => t v σ H Q ∨ t' v σ H Q) :=
  ⟨fun pins s σ H v u Q I r q => q.elim (h.run pins s σ H v u Q I r) (h'.run pins s σ H v u Q I r)⟩
theorem off_set {i : Nat} {S : List Nat} {σ : L2.St} {v : Option V} (h : i ∈ S) : Off S σ (σ.set i v) := ⟨by simp, fun j q => by
  rw [List.getElem?_set_ne]
  rintro rfl
  exact q h⟩
theorem g_name (i : Nat) {x : Str} (hN : X.N.Nodup) (hi : X.N[i]? = some x := by rfl) (hx : Loc X.env.scope x := by first | exact .inl rfl | exact .inr rfl) (hf : X.fn x = true ∨ X.env.scope.names.lookup x = some .local := by first | exact .inl rfl | exact .inr rfl) : CG X (.Name x pos) [i] (gNm i) :=
  PG.imp (pg_name hN hi hx hf) fun v σ H Q ⟨ρ, h, α, d, ρ', h', rs, mt, r, e, q⟩ => by
    cases e
    exact q α H _ Ex.refl mt (rs.set r i) (off_set (by simp))
theorem gs_nil : CGs X [] [] gsNil := PGs.imp pgs_nil fun vs σ H Q ⟨ρ, h, α, ds, ρ', h', rs, mt, r, e, q⟩ => by
  unfold gsNil at e
  split at e
  · cases e; exact ⟨r, q α H _ Ex.refl mt rs Off.refl⟩
  · cases e
theorem gs_cons {t : Expr} {ts : List Expr} {S T : List Nat} {g : GG} {gs : GGs} (h1 : CG X t S g) (h2 : CGs X ts T gs) (hs : (assignEach (t :: ts) X.env).map (·.2) = assign t X.env :: (assignEach ts X.env).map (·.2) := by rfl) : CGs X (t :: ts) (S ++ T) (gsCons g gs) :=
  PGs.imp (pgs_cons h1 h2 hs) fun vs σ H Q ⟨ρ, h, α, ds, ρ', h', rs, mt, r, e, q⟩ => by
    unfold gsCons at e
    split at e
    · split at e
      · next e1 =>
        obtain ⟨x, ys, rfl, r1, r2⟩ := r
        exact ⟨x, ys, rfl, ρ, h, α, _, _, _, rs, mt, r1, e1, fun α1 H1 σ1 x1 m1 rs1 o1 => ⟨_, _, α1, _, ρ', h', rs1, m1, x1.reps r2, e, fun α2 H2 σ2 x2 m2 rs2 o2 =>
          q α2 H2 σ2 (x1.trans x2) m2 rs2 ((o1.mono fun i z => List.mem_append_left _ z).trans (o2.mono fun i z => List.mem_append_right _ z))⟩⟩
      · cases e
    · cases e
theorem g_tup {ts : List Expr} {k : Nat} {S : List Nat} {gs : GGs} (hc : X.calm = true) (h : CGs X ts S gs) (hl : ∀ ds ρ h r, gs ds ρ h = some r → ds.length = (assignEach ts X.env).length) (hst : (assignEach ts X.env).findIdx? (·.1) = none := by rfl) : CG X (.Tuple ts k pos) S (gTp gs) :=
  PG.imp (pg_or (pg_tup hc h rfl hst) (pg_unl hc h rfl hst)) fun v σ H Q ⟨ρ, h, α, d, ρ', h', rs, mt, r, e, q⟩ => by
    unfold gTp at e
    split at e
    · obtain ⟨a, xs, rfl, sq, rr⟩ := r
      exact .inl ⟨a, xs, rfl, sq.seq, by rw [rr.length]; exact hl _ _ _ _ e, ρ, h, α, _, ρ', h', rs, mt, rr, e, q⟩
    · split at e
      · next e1 =>
        obtain ⟨_, rfl⟩ := r
        obtain ⟨xs, sq, rr⟩ := mt.getL e1
        exact .inr ⟨_, xs, rfl, sq, by rw [rr.length]; exact hl _ _ _ _ e, ρ, h, α, _, ρ', h', rs, mt, rr, e, q⟩
      · cases e
    · cases e
theorem gsl_nil : ∀ ds ρ h r, gsNil ds ρ h = some r → ds.length = 0 := fun ds ρ h r e => by
  unfold gsNil at e
  split at e
  · rfl
  · cases e
theorem gsl_cons {g : GG} {gs : GGs} {n : Nat} (hl : ∀ ds ρ h r, gs ds ρ h = some r → ds.length = n) : ∀ ds ρ h r, gsCons g gs ds ρ h = some r → ds.length = n + 1 := fun ds ρ h r e => by
  unfold gsCons at e
  split at e
  · split at e
    · rw [List.length_cons, hl _ _ _ _ e]
    · cases e
  · cases e
theorem set_dct {K : PySem.W.Frag} {α : Al} {H : Hp} {h : Hs} {n : Nat} {o : AO} {ds : List (Key × D)} {xs : List (Key × V)} (mt : Mt K α H h) (e : h[n]? = some o) (ho : o.mu = true) (r : RepKV K α h.length H ds xs) :
    Ex α H h α (upd H (α n) (.dK xs)) (h.set n (.dct ds)) ∧ Mt K α (upd H (α n) (.dK xs)) (h.set n (.dct ds)) := by
  have u : Mu h n := ⟨o, e, ho⟩
  have x : Ex α H h α (upd H (α n) (.dK xs)) (h.set n (.dct ds)) := Ex.write mt u rfl
  exact ⟨x, mt.write u rfl ⟨xs, upd_same, x.repKV r⟩⟩
/-! o[i] = v -/
def setG (o i v : D) (h : Hs) : Option Hs := match o with
  | .ref n => match h[n]? with
    | some (.lst ds) => match i with
      | .int k => match ixN ds.length k with
        | some j => some (h.set n (.lst (ds.set j v)))
        | none => none
      | _ => none
    | some (.dct kvs) => match keyOf i with
      | some k => if kvs.length < sizeLine then some (h.set n (.dct (putD kvs k v))) else none
      | none => none
    | _ => none
  | _ => none
def gSb (mo mi : ME) : GG := fun v ρ h => bd (mo ρ h) fun o h1 => bd (mi ρ h1) fun i h2 => match setG o i v h2 with
  | some h3 => some (ρ, h3)
  | none => none
theorem set_dctR (hu : X.A.units + 64 < cLine) : PSet X (fun o i v H Q => ∃ a H', o = .ref a ∧ DPut H a i v H' ∧ Q H') := fun pins s σ H o i v ov iv u Q I ro ri rv ⟨a, H', e, g, q⟩ => by
  subst e
  cases ro
  exact d_setItem (by omega) I g ri rv fun s' I' => ⟨H', I', q⟩
theorem PSet.or {t t' : TSet} (h : PSet X t) (h' : PSet X t') : PSet X (fun o i v H Q => t o i v H Q ∨ t' o i v H Q) := fun pins s σ H o i v ov iv u Q I ro ri rv q => by
  rcases q with q | q
  · exact h pins s σ H o i v ov iv u Q I ro ri rv q
  · exact h' pins s σ H o i v ov iv u Q I ro ri rv q
theorem g_sub {o i : Expr} {mo mi : ME} (hu : X.A.units + 64 < cLine) (ho : CE X o mo) (hi : CE X i mi)
    (ha : ∀ v, assign (.Subscript o i pos) X.env v = (do
      let ov ← holding [v] (eval o X.env)
      let iv ← holding [v, ov] (eval i X.env)
      standAt pos
      holding [v, ov, iv] (setItem ov iv v)
      release [v, ov, iv] []) := by intro _; rfl) : CG X (.Subscript o i pos) [] (gSb mo mi) :=
  PG.imp (pg_sub ho hi (PSet.or set_list (set_dctR hu)) ha) fun v σ H Q ⟨ρ, h, α, d, ρ', h', rs, mt, r, e, q⟩ => by
    obtain ⟨d1, h1, e1, e⟩ := bd_some e
    obtain ⟨d2, h2, e2, e⟩ := bd_some e
    refine ⟨ρ, h, α, d1, h1, rs, mt, e1, fun α1 H1 v1 x1 m1 r1 => ⟨ρ, h1, α1, d2, h2, rs.mono x1, m1, e2, fun α2 H2 v2 x2 m2 r2 => ?_⟩⟩
    have x12 := x1.trans x2
    have r0 := x12.rep r
    have r1' := x2.rep r1
    split at e
    · next e3 =>
      cases e
      unfold setG at e3
      split at e3
      · obtain ⟨_, rfl⟩ := r1'
        split at e3
        · next e4 =>
          split at e3
          · split at e3
            · next e5 =>
              cases e3
              obtain ⟨ys, s, rr⟩ := m2.lst e4
              obtain ⟨x3, m3⟩ := set_lst m2 e4 rfl (rr.set r0 _)
              exact .inl ⟨_, ys, _, _, rfl, r2, s, by rw [rr.length]; exact e5, q α2 _ σ (x12.trans x3) m3 ((rs.mono x12).mono x3) Off.refl⟩
            · cases e3
          · cases e3
        · next e4 =>
          split at e3
          · next e5 =>
            split at e3
            · next c =>
              cases e3
              obtain ⟨ys, s, rr⟩ := m2.at_ _ _ e4
              obtain ⟨x3, m3⟩ := set_dct m2 e4 rfl (repKV_put rr r0)
              exact .inr ⟨_, _, rfl, by rw [key_rep e5 r2]; exact DPut.k s (by rw [repKV_len rr]; exact c), q α2 _ σ (x12.trans x3) m3 ((rs.mono x12).mono x3) Off.refl⟩
            · cases e3
          · cases e3
        · cases e3
      · cases e3
    · cases e
end
end SL
namespace SL
open PySem PySem.Spec PyProof.Rows L2
section
variable {X : Cx} {tg e a b c o i : Expr} {ma mb : ME} {pos p : Pos} {st : Stmt} {rest body orelse : List Stmt} {m1 m2 : MS} {t : MT}
/-! ### statements -/
def sNext : MS := fun ρ h => some ((.nx, ρ), h)
def sSeq (m1 m2 : MS) : MS := fun ρ h => match m1 ρ h with
  | some ((.nx, ρ1), h1) => m2 ρ1 h1
  | r => r
theorem s_nil : CSs X [] sNext := PSs.imp pss_nil fun E σ H ⟨ρ, h, α, o, ρ', h', rs, mt, e, q⟩ => by cases e; exact q α H σ Ex.refl mt rs
theorem s_cons (h1 : CS X st m1) (h2 : CSs X rest m2) : CSs X (st :: rest) (sSeq m1 m2) :=
  PSs.imp (pss_cons h1 h2) fun E σ H ⟨ρ, h, α, o, ρ', h', rs, mt, e, q⟩ => by
    unfold sSeq at e
    cases z : m1 ρ h with
    | none => rw [z] at e; cases e
    | some r =>
      obtain ⟨⟨o1, ρ1⟩, h1'⟩ := r
      rw [z] at e
      refine ⟨ρ, h, α, o1, ρ1, h1', rs, mt, z, fun α1 H1 σ1 x1 mt1 rs1 => ?_⟩
      cases o1 with
      | nx => exact ⟨ρ1, h1', α1, o, ρ', h', rs1, mt1, e, fun α2 H2 σ2 x2 mt2 rs2 => q α2 H2 σ2 (x1.trans x2) mt2 rs2⟩
      | rt d => cases e; exact q α1 H1 σ1 x1 mt1 rs1
      | bk => cases e; exact q α1 H1 σ1 x1 mt1 rs1
      | ct => cases e; exact q α1 H1 σ1 x1 mt1 rs1
theorem s_one (h1 : CS X st m1) : CSs X [st] m1 := pss_one h1
def sBreak : MS := fun ρ h => some ((.bk, ρ), h)
def sCont : MS := fun ρ h => some ((.ct, ρ), h)
def sExpr (m : ME) : MS := fun ρ h => match m ρ h with
  | some (_, h1) => some ((.nx, ρ), h1)
  | none => none
theorem s_expr (ha : CE X e ma) (hs : swapsWith e none pos.line X.env = pure false := by rfl) : CS X (.Expr e pos) (sExpr ma) :=
  PS.imp (ps_expr ha hs) fun E σ H ⟨ρ, h, α, o, ρ', h', rs, mt, e, q⟩ => by
    unfold sExpr at e
    split at e
    · next e1 => cases e; exact ⟨ρ, h, α, _, _, rs, mt, e1, fun α1 H1 v1 x1 m1 r1 => q α1 H1 σ x1 m1 (rs.mono x1)⟩
    · cases e
def sRet (m : ME) : MS := fun ρ h => match m ρ h with
  | some (d, h1) => some ((.rt d, ρ), h1)
  | none => none
theorem s_ret (ha : CE X e ma) : CS X (.Return (some e) pos) (sRet ma) :=
  PS.imp (ps_ret ha) fun E σ H ⟨ρ, h, α, o, ρ', h', rs, mt, e, q⟩ => by
    unfold sRet at e
    split at e
    · next e1 => cases e; exact ⟨ρ, h, α, _, _, rs, mt, e1, fun α1 H1 v1 x1 m1 r1 => q α1 H1 σ x1 m1 (rs.mono x1) v1 r1⟩
    · cases e
def sRetN : MS := fun ρ h => some ((.rt .non, ρ), h)
def sIf (t : MT) (m1 m2 : MS) : MS := fun ρ h => match t ρ h with
  | some (k, h1) => if k = true then m1 ρ h1 else m2 ρ h1
  | none => none
theorem s_if (hc : CT X c t) (ha : CSs X body m1) (hb : CSs X orelse m2) : CS X (.If c body orelse pos) (sIf t m1 m2) :=
  PS.imp (ps_if hc ha hb) fun E σ H ⟨ρ, h, α, o, ρ', h', rs, mt, e, q⟩ => by
    unfold sIf at e
    split at e
    · next e1 =>
      refine ⟨ρ, h, α, _, _, rs, mt, e1, fun α1 H1 v1 x1 mt1 r1 => ?_⟩
      subst r1
      split at e
      · next k => rw [if_pos k]; exact ⟨ρ, _, α1, o, ρ', h', rs.mono x1, mt1, e, fun α2 H2 σ2 x2 mt2 rs2 => q α2 H2 σ2 (x1.trans x2) mt2 rs2⟩
      · next k => rw [if_neg k]; exact ⟨ρ, _, α1, o, ρ', h', rs.mono x1, mt1, e, fun α2 H2 σ2 x2 mt2 rs2 => q α2 H2 σ2 (x1.trans x2) mt2 rs2⟩
    · cases e
def sAsg (m : ME) (g : GG) : MS := fun ρ h => match m ρ h with
  | some (d, h1) => match g d ρ h1 with
    | some (ρ1, h2) => some ((.nx, ρ1), h2)
    | none => none
  | none => none
theorem asg_seq {K : PySem.W.Frag} {m : ME} {g : GG} {S : List Nat} {E : Ends} {σ : L2.St} {H : Hp} (t : lS K (sAsg m g) E σ H) : tAsg (lE K m) (lG K S g) E σ H := by
  obtain ⟨ρ, h, α, o, ρ', h', rs, mt, e, q⟩ := t
  unfold sAsg at e
  split at e
  · next e1 =>
    split at e
    · next e2 =>
      cases e
      exact ⟨ρ, h, α, _, _, rs, mt, e1, fun α1 H1 v1 x1 m1 r1 => ⟨ρ, _, α1, _, _, _, rs.mono x1, m1, r1, e2, fun α2 H2 σ2 x2 m2 rs2 _ => q α2 H2 σ2 (x1.trans x2) m2 rs2⟩⟩
    · cases e
  · cases e
theorem s_asg {S : List Nat} {g : GG} (ha : CE X e ma) (hg : CG X tg S g) (hs : swapsWithSole [tg] e pos.line X.env = pure false := by rfl) (hw : swappedStores [tg] e X.env = pure none := by rfl)
    (h1 : (assignEach [tg] X.env).map (·.2) = [assign tg X.env] := by rfl) : CS X (.Assign [tg] e pos) (sAsg ma g) :=
  PS.imp (ps_asg ha hg hs hw h1) fun E σ H t => asg_seq t
theorem s_set (i : Nat) {x : Str} {pos' : Pos} (hN : X.N.Nodup) (ha : CE X e ma) (hi : X.N[i]? = some x := by rfl) (hx : Loc X.env.scope x := by first | exact .inl rfl | exact .inr rfl) (hs : swapsWith e (some (.Name x pos')) pos.line X.env = pure false := by rfl)
    (hf : X.fn x = true ∨ X.env.scope.names.lookup x = some .local := by first | exact .inl rfl | exact .inr rfl) : CS X (.Assign [.Name x pos'] e pos) (sAsg ma (gNm i)) :=
  PS.imp (ps_set hN hi hx ha hs hf) fun E σ H ⟨ρ, h, α, o, ρ', h', rs, mt, e, q⟩ => by
    unfold sAsg at e
    split at e
    · next e1 => cases e; exact ⟨ρ, h, α, _, _, rs, mt, e1, fun α1 H1 v1 x1 m1 r1 => q α1 H1 _ x1 m1 ((rs.mono x1).set r1 i)⟩
    · cases e
def sPar (is : List Nat) (m : MA) : MS := fun ρ h => match m ρ h with
  | some (ds, h1) => if ds.length = is.length then some ((.nx, (is.zip ds).foldl (fun r p => r.set p.1 (some p.2)) ρ), h1) else none
  | none => none
theorem s_par (i j : Nat) {x y : Str} {a b : Expr} {m : MA} {px py pt : Pos} {kt k2 pt2} (hc : X.calm = true) (hN : X.N.Nodup) (ha : CL X [a, b] m) (hi : X.N[i]? = some x := by rfl) (hj : X.N[j]? = some y := by rfl) (hij : i ≠ j := by decide)
    (hx : X.env.scope.names.lookup x = some .local := by rfl) (hy : X.env.scope.names.lookup y = some .local := by rfl)
    (hw : swappedStores [.Tuple [.Name x px, .Name y py] kt pt] (.Tuple [a, b] k2 pt2) X.env = pure (some [x, y]) := by rfl)
    (hs : swapsWithSole [.Tuple [.Name x px, .Name y py] kt pt] (.Tuple [a, b] k2 pt2) pos.line X.env = pure false := by rfl) :
    CS X (.Assign [.Tuple [.Name x px, .Name y py] kt pt] (.Tuple [a, b] k2 pt2) pos) (sPar [i, j] m) :=
  PS.imp (ps_par hc hN hi hj hij hx hy ha.1 hw hs) fun E σ H ⟨ρ, h, α, o, ρ', h', rs, mt, e, q⟩ => by
    unfold sPar at e
    split at e
    · next ds h1 e1 =>
      split at e
      · cases e
        refine ⟨ρ, h, α, _, _, rs, mt, e1, fun α1 H1 v1 x1 m1 r1 => ?_⟩
        have hl := ha.2 _ _ _ _ e1
        match ds, hl with
        | [d1, d2], _ =>
          obtain ⟨v, w, rfl, r2, r3⟩ := reps2 r1
          exact ⟨v, w, rfl, q α1 H1 _ x1 m1 (((rs.mono x1).set r2 i).set r3 j)⟩
      · cases e
    · cases e
/-! ### while -/
def whStep (t : MT) (m : MS) : Rho × Hs → Option ((Rho × Hs) ⊕ ((Out × Rho) × Hs)) := fun s => match t s.1 s.2 with
  | none => none
  | some (false, h1) => some (.inr ((.nx, s.1), h1))
  | some (true, h1) => match m s.1 h1 with
    | none => none
    | some ((.nx, ρ2), h2) => some (.inl (ρ2, h2))
    | some ((.ct, ρ2), h2) => some (.inl (ρ2, h2))
    | some ((.bk, ρ2), h2) => some (.inr ((.nx, ρ2), h2))
    | some ((.rt d, ρ2), h2) => some (.inr ((.rt d, ρ2), h2))
noncomputable def sWh (t : MT) (m : MS) : MS := fun ρ h => itW (whStep t m) (ρ, h)
def FinS (K : PySem.W.Frag) (E : Ends) (α : Al) (H : Hp) (h : Hs) (o : Out) (ρ' : Rho) (h' : Hs) : Prop :=
  ∀ α' H' σ', Ex α H h α' H' h' → Mt K α' H' h' → RepS K α' h'.length H' ρ' σ' → match o with
    | .nx => E.nx σ' H'
    | .rt d => ∀ v, Rep K α' h'.length H' d v → E.rt v H'
    | .bk => E.bk σ' H'
    | .ct => E.ct σ' H'
theorem FinS.from {K : PySem.W.Frag} {E : Ends} {α α1 : Al} {H H1 : Hp} {h h1 : Hs} {o : Out} {ρ' : Rho} {h' : Hs} (f : FinS K E α H h o ρ' h') (x : Ex α H h α1 H1 h1) : FinS K E α1 H1 h1 o ρ' h' := fun α' H' σ' x' m r => f α' H' σ' (x.trans x') m r
theorem s_while (hp : PassesOwn (model X.prog X.w) X.A X.env X.xe) (hc : CT X c t) (hb : CSs X body m1) : CS X (.While c body [] pos) (sWh t m1) :=
  PS.imp (ps_while hp hc hb) fun E σ H ⟨ρ, h, α, o, ρ', h', rs, mt, e, q⟩ => by
    obtain ⟨n, e⟩ := itW_some.mp e
    refine ⟨fun n σ H => ∃ ρ h α o ρ' h', RepS X.K α h.length H ρ σ ∧ Mt X.K α H h ∧ itN (whStep t m1) n (ρ, h) = some ((o, ρ'), h') ∧ FinS X.K E α H h o ρ' h', ⟨n, ρ, h, α, o, ρ', h', rs, mt, e, q⟩, fun n σ H ⟨ρ, h, α, o, ρ', h', rs, mt, e, q⟩ => ?_⟩
    cases n with
    | zero => cases e
    | succ n =>
      unfold itN at e
      unfold whStep at e
      simp only at e
      cases z : t ρ h with
      | none => rw [z] at e; cases e
      | some r =>
        obtain ⟨k, h1⟩ := r
        rw [z] at e
        refine ⟨ρ, h, α, k, h1, rs, mt, z, fun α1 H1 k1 x1 mt1 r1 => ?_⟩
        subst r1
        cases k1 with
        | false =>
          rw [if_neg (by decide)]
          cases e
          exact q α1 H1 σ x1 mt1 (rs.mono x1)
        | true =>
          rw [if_pos rfl]
          simp only at e
          cases z2 : m1 ρ h1 with
          | none => rw [z2] at e; cases e
          | some r =>
            obtain ⟨⟨o2, ρ2⟩, h2⟩ := r
            rw [z2] at e
            refine ⟨fun σ' H' => ∃ ρ h α o ρ' h', RepS X.K α h.length H' ρ σ' ∧ Mt X.K α H' h ∧ itN (whStep t m1) n (ρ, h) = some ((o, ρ'), h') ∧ FinS X.K E α H' h o ρ' h', fun σ' H' w => ⟨n, Nat.lt_succ_self _, w⟩, ρ, h1, α1, o2, ρ2, h2, rs.mono x1, mt1, z2, fun α2 H2 σ2 x2 mt2 rs2 => ?_⟩
            cases o2 with
            | nx => exact ⟨ρ2, h2, α2, o, ρ', h', rs2, mt2, e, FinS.from q (x1.trans x2)⟩
            | ct => exact ⟨ρ2, h2, α2, o, ρ', h', rs2, mt2, e, FinS.from q (x1.trans x2)⟩
            | bk => cases e; exact q α2 H2 σ2 (x1.trans x2) mt2 rs2
            | rt d => cases e; exact q α2 H2 σ2 (x1.trans x2) mt2 rs2
/-! ### for -/
def frStep (src : Src) (g : GG) (m : MS) : Nat × Rho × Hs → Option ((Nat × Rho × Hs) ⊕ ((Out × Rho) × Hs)) := fun s => match src s.1 s.2.2 with
  | none => none
  | some none => some (.inr ((.nx, s.2.1), s.2.2))
  | some (some d) => match g d s.2.1 s.2.2 with
    | none => none
    | some (ρ1, h1) => match m ρ1 h1 with
      | none => none
      | some ((.nx, ρ2), h2) => some (.inl (s.1 + 1, ρ2, h2))
      | some ((.ct, ρ2), h2) => some (.inl (s.1 + 1, ρ2, h2))
      | some ((.bk, ρ2), h2) => some (.inr ((.nx, ρ2), h2))
      | some ((.rt d, ρ2), h2) => some (.inr ((.rt d, ρ2), h2))
noncomputable def sFor (mi : MI) (g : GG) (m : MS) : MS := fun ρ h => match mi ρ h with
  | none => none
  | some (src, h1) => itW (frStep src g m) (0, ρ, h1)
theorem s_for {it : Expr} {mi : MI} {S : List Nat} {g : GG} (hp : PassesOwn (model X.prog X.w) X.A X.env X.xe) (hc : X.calm = true) (hi : CI X tg it mi) (hg : CG X tg S g) (hb : CSs X body m1)
    (hs : ∀ x, foldedSetIterable it X.env x = pure x := by intro _; rfl) : CS X (.For tg it body [] pos) (sFor mi g m1) :=
  PS.imp (ps_for hp hc hi hg hb hs) fun E σ H ⟨ρ, h, α, o, ρ', h', rs, mt, e, q⟩ => by
    unfold sFor at e
    cases z0 : mi ρ h with
    | none => rw [z0] at e; cases e
    | some r =>
      obtain ⟨src, h0⟩ := r
      rw [z0] at e
      obtain ⟨n, e⟩ := itW_some.mp e
      refine ⟨ρ, h, α, src, h0, rs, mt, z0, fun α0 H0 J x0 mt0 ok => ?_⟩
      refine ⟨fun i n σ H => ∃ ρ h α o ρ' h', RepS X.K α h.length H ρ σ ∧ Mt X.K α H h ∧ Ex α0 H0 h0 α H h ∧ itN (frStep src g m1) n (i, ρ, h) = some ((o, ρ'), h') ∧ FinS X.K E α H h o ρ' h',
        ⟨n, ρ, h0, α0, o, ρ', h', rs.mono x0, mt0, Ex.refl, e, FinS.from q x0⟩, fun i n σ H ⟨ρ, h, α, o, ρ', h', rs, mt, xx, e, q⟩ => ?_⟩
      cases n with
      | zero => cases e
      | succ n =>
        unfold itN at e
        unfold frStep at e
        simp only at e
        have okk := ok α H h xx mt i
        cases z : src i h with
        | none => rw [z] at e; cases e
        | some r =>
          rw [z] at e
          cases r with
          | none =>
            cases e
            exact .inl ⟨okk.1 z, q α H σ Ex.refl mt rs⟩
          | some d =>
            simp only at e
            obtain ⟨hgo, hy⟩ := okk.2 d z
            refine .inr ⟨hgo, fun σ' H' => ∃ ρ h α o ρ' h', RepS X.K α h.length H' ρ σ' ∧ Mt X.K α H' h ∧ Ex α0 H0 h0 α H' h ∧ itN (frStep src g m1) n (i + 1, ρ, h) = some ((o, ρ'), h') ∧ FinS X.K E α H' h o ρ' h', fun σ' H' w => ⟨n, Nat.lt_succ_self _, w⟩, fun y H3 yy => ?_⟩
            obtain ⟨x3, mt3, r3⟩ := hy y H3 yy
            cases z1 : g d ρ h with
            | none => rw [z1] at e; cases e
            | some r =>
              obtain ⟨ρ1, h1⟩ := r
              rw [z1] at e
              refine ⟨ρ, h, α, d, ρ1, h1, rs.mono x3, mt3, r3, z1, fun α1 H1 σ1 x1 mt1 rs1 _ => ?_⟩
              simp only at e
              cases z2 : m1 ρ1 h1 with
              | none => rw [z2] at e; cases e
              | some r =>
                obtain ⟨⟨o2, ρ2⟩, h2⟩ := r
                rw [z2] at e
                refine ⟨ρ1, h1, α1, o2, ρ2, h2, rs1, mt1, z2, fun α2 H2 σ2 x2 mt2 rs2 => ?_⟩
                have xa := x3.trans (x1.trans x2)
                cases o2 with
                | nx => exact ⟨ρ2, h2, α2, o, ρ', h', rs2, mt2, xx.trans xa, e, FinS.from q xa⟩
                | ct => exact ⟨ρ2, h2, α2, o, ρ', h', rs2, mt2, xx.trans xa, e, FinS.from q xa⟩
                | bk => cases e; exact q α2 H2 σ2 xa mt2 rs2
                | rt d => cases e; exact q α2 H2 σ2 xa mt2 rs2
/-! ### comprehensions -/
def lcStep (src : Src) (g : GG) (tt : MT) (te : ME) (ρ : Rho) : Nat × List D × Hs → Option ((Nat × List D × Hs) ⊕ (List D × Hs)) := fun s => match src s.1 s.2.2 with
  | none => none
  | some none => some (.inr (s.2.1, s.2.2))
  | some (some d) => match g d ρ s.2.2 with
    | none => none
    | some (ρ1, h1) => match tt ρ1 h1 with
      | none => none
      | some (false, h2) => some (.inl (s.1 + 1, s.2.1, h2))
      | some (true, h2) => match te ρ1 h2 with
        | none => none
        | some (y, h3) => if s.2.1.length < sizeLine then some (.inl (s.1 + 1, s.2.1 ++ [y], h3)) else none
noncomputable def eLc (mi : MI) (g : GG) (tt : MT) (te : ME) (vs : List Nat) : ME := fun ρ h => match mi ρ h with
  | none => none
  | some (src, h1) => match itW (lcStep src g tt te (wipeR ρ vs)) (0, [], h1) with
    | none => none
    | some (acc, h2) => some (.ref h2.length, h2 ++ [.lst acc])
def tYes1 : MT := fun _ h => some (true, h)
theorem wipe_at {σ : L2.St} : ∀ {vs : List Nat} {i : Nat}, (wipe σ vs)[i]? = if i ∈ vs then σ[i]?.map (fun _ => Option.none) else σ[i]?
  | [], i => by simp [wipe]
  | v :: vs, i => by
    unfold wipe
    by_cases c : i = v
    · subst c
      rw [if_pos List.mem_cons_self]
      by_cases l : i < σ.length
      · rw [List.getElem?_set_self (by rw [wipe_length]; exact l), List.getElem?_eq_getElem l]; rfl
      · rw [List.getElem?_eq_none (by simp [wipe_length]; omega), List.getElem?_eq_none (by omega)]; rfl
    · rw [List.getElem?_set_ne (Ne.symm c), wipe_at]
      by_cases q : i ∈ vs
      · rw [if_pos q, if_pos (List.mem_cons_of_mem _ q)]
      · rw [if_neg q, if_neg (fun z => (List.mem_cons.mp z).elim c q)]
theorem wipe_off {S vs : List Nat} {σ σ2 : L2.St} (o : Off S (wipe σ vs) σ2) (h : ∀ i ∈ S, i ∈ vs) : wipe σ2 vs = wipe σ vs := by
  have hl : σ2.length = σ.length := by rw [o.1, wipe_length]
  apply List.ext_getElem?
  intro i
  rw [wipe_at, wipe_at]
  by_cases q : i ∈ vs
  · rw [if_pos q, if_pos q]
    by_cases l : i < σ.length
    · rw [List.getElem?_eq_getElem l, List.getElem?_eq_getElem (by omega)]; rfl
    · rw [List.getElem?_eq_none (by omega), List.getElem?_eq_none (by omega)]
  · rw [if_neg q, if_neg q, o.2 i (fun z => q (h i z)), wipe_at, if_neg q]
theorem Aside.ex1 {α α2 : Al} {H H2 : Hp} {h h2 : Hs} {p : Addr} {u : HO} (hp : H p = none) (x : Ex α H h α2 H2 h2) (a : Aside α2 H2 h2 p) (hp2 : ∃ u, H2 p = some u) : Ex α H h α2 (upd H2 p u) h2 where
  le := x.le
  al := x.al
  kd := x.kd
  lk := x.lk
  tups := fun b xs e => (a.ex hp2).1 b xs (x.tups b xs e)
  frzs := fun b ob u e => (a.ex hp2).2.1 b ob u (x.frzs b ob u e)
  dom := fun b e => x.dom b ((a.ex hp2).2.2 b e)
  new := x.new
  fr := fun b o e q => by
    have : b ≠ p := fun z => by rw [z, hp] at e; cases e
    rw [upd_ne this]; exact x.fr b o e q
theorem upd_id {H : Hp} {p : Addr} {o : HO} (e : H p = some o) : upd H p o = H := by
  funext b; unfold upd; split
  · next q => rw [q, e]
  · rfl
theorem lc_lift {K : PySem.W.Frag} {mi : MI} {S : List Nat} {g : GG} {tt : MT} {te : ME} {vs : List Nat} {σ : L2.St} {H : Hp} {Q : VK} (hv : ∀ i ∈ S, i ∈ vs) (t : lE K (eLc mi g tt te vs) σ H Q) : tLc (lI K mi) (lG K S g) (lT K tt) (lE K te) vs σ H Q := by
  obtain ⟨ρ, h, α, d, h', rs, mt, e, q⟩ := t
  unfold eLc at e
  cases z0 : mi ρ h with
  | none => rw [z0] at e; cases e
  | some r =>
    obtain ⟨src, h0⟩ := r
    rw [z0] at e
    simp only at e
    cases z1 : itW (lcStep src g tt te (wipeR ρ vs)) (0, [], h0) with
    | none => rw [z1] at e; cases e
    | some r =>
      obtain ⟨accF, hF⟩ := r
      rw [z1] at e
      cases e
      obtain ⟨n, e⟩ := itW_some.mp z1
      refine ⟨ρ, h, α, src, h0, rs, mt, z0, fun α0 H0 J x0 mt0 ok => ?_⟩
      intro D np
      have a0 : Aside α0 (upd H0 D (.lst [])) h0 D := Aside.new mt0 np (fun _ z => nomatch z) (fun _ _ z => nomatch z) (fun _ z => nomatch z)
      refine ⟨fun i n H => ∃ acc h α ws, Mt K α H h ∧ Ex α0 H0 h0 α H h ∧ Aside α H h D ∧ H D = some (.lst ws) ∧ Reps K α h.length H acc ws ∧ itN (lcStep src g tt te (wipeR ρ vs)) n (i, acc, h) = some (accF, hF),
        ⟨n, [], h0, α0, [], mt0.grow np, Ex.grow np, a0, upd_same, rfl, e⟩, fun i n H ⟨acc, h, α, ws, mt, xx, as, eD, rr, e⟩ => ?_⟩
      cases n with
      | zero => cases e
      | succ n =>
        unfold itN at e
        unfold lcStep at e
        simp only at e
        have okk := ok α H h xx mt i
        cases z : src i h with
        | none => rw [z] at e; cases e
        | some r =>
          rw [z] at e
          cases r with
          | none =>
            cases e
            refine .inl ⟨okk.1 z, ?_⟩
            have hx := Ex.late (o := .lst ws) (ao := .lst accF) np xx as ⟨_, eD⟩
            have hm := mt.late (o := .lst ws) (ao := .lst accF) as ⟨_, eD⟩ ⟨ws, upd_same, by rw [upd_id eD]; exact rr⟩
            rw [upd_id eD] at hx hm
            exact q _ _ _ (x0.trans hx) hm ⟨by rw [len_snoc]; exact Nat.lt_succ_self _, by rw [al1_same]⟩
          | some d =>
            simp only at e
            obtain ⟨hgo, hy⟩ := okk.2 d z
            refine .inr ⟨hgo, fun H' => ∃ acc h α ws, Mt K α H' h ∧ Ex α0 H0 h0 α H' h ∧ Aside α H' h D ∧ H' D = some (.lst ws) ∧ Reps K α h.length H' acc ws ∧ itN (lcStep src g tt te (wipeR ρ vs)) n (i + 1, acc, h) = some (accF, hF), fun H' w => ⟨n, Nat.lt_succ_self _, w⟩, fun y H3 yy => ?_⟩
            obtain ⟨x3, mt3, r3⟩ := hy y H3 yy
            have rs0 : RepS K α h.length H3 (wipeR ρ vs) (wipe σ vs) := ((rs.mono (x0.trans xx)).mono x3).wipe vs
            cases z1 : g d (wipeR ρ vs) h with
            | none => rw [z1] at e; cases e
            | some r =>
              obtain ⟨ρ1, h1⟩ := r
              rw [z1] at e
              refine ⟨wipeR ρ vs, h, α, d, ρ1, h1, rs0, mt3, r3, z1, fun α1 H1 σ1 x1 mt1 rs1 of1 => ⟨wipe_off of1 hv, ?_⟩⟩
              simp only at e
              cases z2 : tt ρ1 h1 with
              | none => rw [z2] at e; cases e
              | some r =>
                obtain ⟨k, h2⟩ := r
                rw [z2] at e
                refine ⟨ρ1, h1, α1, k, h2, rs1, mt1, z2, fun α2 H2 k2 x2 mt2 rk => ?_⟩
                subst rk
                have xa := x3.trans (x1.trans x2)
                obtain ⟨eD2, as2⟩ := as.later eD xa
                cases k2 with
                | false =>
                  rw [if_neg (by decide)]
                  exact ⟨acc, h2, α2, ws, mt2, xx.trans xa, as2, eD2, xa.reps rr, e⟩
                | true =>
                  rw [if_pos rfl]
                  simp only at e
                  cases z3 : te ρ1 h2 with
                  | none => rw [z3] at e; cases e
                  | some r =>
                    obtain ⟨y2, h3⟩ := r
                    rw [z3] at e
                    simp only at e
                    refine ⟨ρ1, h2, α2, y2, h3, rs1.mono x2, mt2, z3, fun α3 H3' v3 x4 mt4 r4 => ?_⟩
                    obtain ⟨eD3, as3⟩ := as2.later eD2 x4
                    by_cases c : acc.length < sizeLine
                    · rw [if_pos c] at e
                      have rr3 := (xa.trans x4).reps rr
                      refine ⟨ws, eD3, by rw [rr.length]; exact c, acc ++ [y2], h3, α3, ws ++ [v3], ?_, ?_, ?_, upd_same, ?_, e⟩
                      · exact (as3.put mt4 ⟨_, eD3⟩).1
                      · exact Aside.ex1 np (xx.trans (xa.trans x4)) as3 ⟨_, eD3⟩
                      · exact ⟨as3.1, (fun xs z => by rw [upd_same] at z; cases z), (fun b u z => by rw [upd_same] at z; cases z), (fun b z => by rw [upd_same] at z; cases z)⟩
                      · have ap := rr3.append (Reps.cons r4 Reps.nil)
                        refine reps_mono (Nat.le_refl _) (fun _ _ => rfl) (fun b xs s => ?_) _ _ ap
                        rcases s with s | s
                        · exact .inl ((as3.ex ⟨_, eD3⟩).1 b xs s)
                        · exact .inr s
                    · rw [if_neg c] at e
                      cases e
variable {elt : Expr} {ifs : List Expr} {scope : Scope} {own : List (Str × Nat)} {mi : MI} {S : List Nat} {g : GG} {tt : MT} {te : ME}
def CTs (X : Cx) (ifs : List Expr) (t : MT) : Prop := PTs X ifs (lT X.K t)
theorem PTs.imp {t t' : TT} (h : PTs X ifs t) (i : ∀ σ H Q, t' σ H Q → t σ H Q) : PTs X ifs t' := ⟨fun pins s σ H Q I q => h.run pins s σ H Q I (i _ _ _ q)⟩
theorem ts_nil : CTs X [] tYes1 := PTs.imp pts_nil fun σ H Q ⟨ρ, h, α, d, h', rs, mt, e, q⟩ => by cases e; exact q α H true Ex.refl mt rfl
theorem ts_one {t : MT} (h : CT X c t) : CTs X [c] t := pts_one h
theorem c_lc {it : Expr} (hc : X.calm = true) (hN : X.N.Nodup) (hi : CI X tg it mi) (ok : BlkOk X.N X.env.scope scope own) (hv : ∀ i ∈ S, i ∈ own.map (·.2))
    (hg : ∀ (s : Shared) (H : Hp) (C : Addr) (cl : List (Str × Addr)) (fp : List Addr), CG (X.blk s H scope (compEnvC scope cl C X.env) fp) tg S g) (ht : ∀ (s : Shared) (H : Hp) (C : Addr) (cl : List (Str × Addr)) (fp : List Addr), CTs (X.blk s H scope (compEnvC scope cl C X.env) fp) ifs tt)
    (he : ∀ (s : Shared) (H : Hp) (C : Addr) (cl : List (Str × Addr)) (fp : List Addr), CE (X.blk s H scope (compEnvC scope cl C X.env) fp) elt te) (hs : ∀ x, foldedSetIterable it X.env x = pure x := by intro _; rfl) :
    CE X (.ListComp elt [⟨tg, it, ifs, 0⟩] scope pos) (eLc mi g tt te (own.map (·.2))) :=
  PE.imp (pe_lc (g := lG X.K S g) (tt := lT X.K tt) (te := lE X.K te) hc hN hi ok hg ht he hs) fun σ H Q t => lc_lift hv t
theorem s_setLc (i : Nat) {y : Str} {py spos : Pos} {it : Expr} (hc : X.calm = true) (hN : X.N.Nodup) (hi : CI X tg it mi) (ok : BlkOk X.N X.env.scope scope own) (hv : ∀ i ∈ S, i ∈ own.map (·.2))
    (hg : ∀ (s : Shared) (H : Hp) (C : Addr) (cl : List (Str × Addr)) (fp : List Addr), CG (X.blk s H scope (compEnvC scope cl C X.env) fp) tg S g) (ht : ∀ (s : Shared) (H : Hp) (C : Addr) (cl : List (Str × Addr)) (fp : List Addr), CTs (X.blk s H scope (compEnvC scope cl C X.env) fp) ifs tt)
    (he : ∀ (s : Shared) (H : Hp) (C : Addr) (cl : List (Str × Addr)) (fp : List Addr), CE (X.blk s H scope (compEnvC scope cl C X.env) fp) elt te)
    (hsw : swapsWith (.ListComp elt [⟨tg, it, ifs, 0⟩] scope pos) (some (.Name y py)) spos.line X.env = pure true) (hy : X.N[i]? = some y := by rfl) (hyl : X.env.scope.names.lookup y = some .local := by rfl) (hs : ∀ x, foldedSetIterable it X.env x = pure x := by intro _; rfl) :
    CS X (.Assign [.Name y py] (.ListComp elt [⟨tg, it, ifs, 0⟩] scope pos) spos) (sAsg (eLc mi g tt te (own.map (·.2))) (gNm i)) :=
  PS.imp (ps_setLc (g := lG X.K S g) (tt := lT X.K tt) (te := lE X.K te) hc hN hy hyl hsw hi ok hg ht he hs) fun E σ H ⟨ρ, h, α, o, ρ', h', rs, mt, e, q⟩ => by
    unfold sAsg at e
    split at e
    · next e1 =>
      cases e
      exact lc_lift hv ⟨ρ, h, α, _, _, rs, mt, e1, fun α1 H1 v1 x1 m1 r1 => q α1 H1 _ x1 m1 ((rs.mono x1).set r1 i)⟩
    · cases e
end
/-! ### a def -/
def outB : Option ((Out × Rho) × Hs) → Option (D × Hs)
  | some ((.nx, _), h1) => some (.non, h1)
  | some ((.rt d, _), h1) => some (d, h1)
  | _ => none
def runB (m : MS) (n N : Nat) : GC := fun ds h => if ds.length = n then outB (m (ds.map some ++ List.replicate (N - n) none) h) else none
section
variable {P : Program} {w : World} {K : PySem.W.Frag} {mg : Str → Option Value} {base : Heap}
theorem ok_def {x qual : Str} {st : Stmt} {f : Addr} {fd : FuncData} {N ps : List Str} {k : Nat} {m : MS} (F : Fun K x qual st f fd) (S : FnScope N ps (defScope st))
    (hbody : ∀ (cdv : Value) (A : Around) (outer : List Env) (s : Shared) (H : Hp) (E : XK), Room k (A.deeper (envOfC qual (defScope st) s.heap.objs.size f cdv)) →
      CSs (cxOf CX0 P w K mg base N qual (defScope st) f cdv A outer s H E).nox (defBody st) m) : FnOk P w K mg base CX0 (k + 1) f fd ps (lF K (runB m ps.length N.length)) := by
  refine F.ok S (fun vs H Q E h => ?_) (fun cdv A outer s H vs Q E hr h => ⟨_, hbody cdv A outer s H E hr, ?_⟩)
  · obtain ⟨h0, α, ds, d, h', mt, r, e, q⟩ := h
    unfold runB at e
    split at e
    · next c => rw [r.length]; exact c
    · cases e
  · obtain ⟨h0, α, ds, d, h', mt, r, e, q⟩ := h
    unfold runB at e
    split at e
    · next c =>
      cases z : m (ds.map some ++ List.replicate (N.length - ps.length) none) h0 with
      | none => rw [z] at e; cases e
      | some p =>
        obtain ⟨⟨o, ρ'⟩, h1⟩ := p
        rw [z] at e
        refine ⟨_, h0, α, o, ρ', h1, ?_, mt, z, fun α1 H1 σ1 x1 m1 rs1 => ?_⟩
        · unfold L2.start
          rw [r.length, c]
          exact RepS.start r
        · cases o with
          | nx => cases e; exact q α1 H1 .non x1 m1 rfl
          | rt d => cases e; exact fun v rv => q α1 H1 v x1 m1 rv
          | bk => cases e
          | ct => cases e
    · cases e
theorem cal_of {x : Str} {f : Addr} {fd : FuncData} {ps : List Str} {k : Nat} {g : GC} (F : FnOk P w K mg base CX0 k f fd ps (lF K g)) (hm : mg x = some (.ref f)) (hk : PySem.W.keepIn K (.ref f) = true) (hb : Binds K fd ps []) : Cal P w K mg base k x g := ⟨f, fd, ps, F, hm, hk, hb⟩
theorem Cal.by {k : Nat} {x : Str} {g g' : GC} (c : Cal P w K mg base k x g) (h : ∀ vs H Q, lC K g' vs H Q → lC K g vs H Q) : Cal P w K mg base k x g' := by
  obtain ⟨a, fd, ps, F, e1, e2, e3⟩ := c.ex
  exact ⟨a, fd, ps, F.imp fun vs H Q E q => h vs H Q q, e1, e2, e3⟩
end
end SL
namespace SL
open PySem PySem.Spec PyProof.Rows L2
/-! ### the law's call -/
theorem enter_of {K : PySem.W.Frag} {H : Hp} {a : Addr} {ns : List Int} {f : GC} {h' : Hs} {E : XK} (ho : Only H) (hS : SqL K H a (ns.map V.int)) (e : f [.ref 0] [.fz (ns.map D.int)] = some (.bl true, h')) :
    lF K f [.ref a] H (fun v _ => v = .bl true) E := by
  have fz : FzL K H a (ns.map V.int) := by
    rcases hS with (z | ⟨o, z⟩) | ⟨o, its, n, e1, e2, e3, e4, e5, e6⟩
    · rcases ho a with q | ⟨o, xs, q⟩
      · rw [q] at z; cases z
      · rw [q] at z; cases z
    · exact .inl ⟨o, z⟩
    · exact .inr fun H' => .inr ⟨o, its, n, e1, e2, e3, e4, e5, e6⟩
  refine ⟨[.fz (ns.map D.int)], fun _ => a, [.ref 0], .bl true, h', ⟨fun n o q => ?_, fun n m u _ _ => ?_⟩, ⟨_, _, rfl, ⟨Nat.zero_lt_one, rfl⟩, rfl⟩, e, fun α' H' v x m r => r⟩
  · match n, q with
    | 0, q =>
      cases q
      exact ⟨_, fz, Reps.of_ints ns⟩
    | n + 1, q => cases q
  · obtain ⟨o, q, z⟩ := u
    match n, q with
    | 0, q => cases q; cases z
    | n + 1, q => cases q
end SL
namespace SL
open PySem PySem.Spec PyProof.Rows L2
/-! ### constants of the top -/
mutual
inductive KD (K : PySem.W.Frag) : D → Value → Prop
  | non : KD K .non .none
  | bl {b : Bool} : KD K (.bl b) (.bool b)
  | int {i : Int} {t : Tok} : KD K (.int i) (.int i t)
  | str {s : Str} {t : Tok} : KD K (.str s) (.str s t)
  | tup {ds : List D} {p : Addr} {o : Obj} {its : Array Value} {n : Nat} (hk : K.lookup p = some o) (ht : o.cls = .type "tuple") (hd : o.data = .seq its n) (hs : its.size ≤ sizeLine) (h : KDs K ds its.toList) : KD K (.tup ds) (.ref p)
inductive KDs (K : PySem.W.Frag) : List D → List Value → Prop
  | nil : KDs K [] []
  | cons {d : D} {v : Value} {ds : List D} {vs : List Value} (h : KD K d v) (t : KDs K ds vs) : KDs K (d :: ds) (v :: vs)
end
mutual
theorem KD.rep {K : PySem.W.Frag} : ∀ {d : D} {u : Value}, KD K d u → ∃ v, RelV v u ∧ ∀ α L H, Rep K α L H d v
  | _, _, .non => ⟨.non, rfl, fun _ _ _ => rfl⟩
  | _, _, .bl => ⟨.bl _, rfl, fun _ _ _ => rfl⟩
  | _, _, .int => ⟨.int _, ⟨_, rfl⟩, fun _ _ _ => rfl⟩
  | _, _, .str => ⟨.str _, ⟨_, rfl⟩, fun _ _ _ => rfl⟩
  | _, _, .tup (p := p) (o := o) (its := its) (n := n) hk ht hd hs h => by
    obtain ⟨xs, hv, hr⟩ := KDs.rep h
    exact ⟨.ref p, rfl, fun α L H => ⟨p, xs, rfl, .inr fun H' => .inr ⟨o, its, n, hk, ht, hd, hs, hv⟩, hr α L H⟩⟩
theorem KDs.rep {K : PySem.W.Frag} : ∀ {ds : List D} {us : List Value}, KDs K ds us → ∃ xs, Vals xs us ∧ ∀ α L H, Reps K α L H ds xs
  | _, _, .nil => ⟨[], .nil, fun _ _ _ => rfl⟩
  | _, _, .cons h t => by
    obtain ⟨v, r, e⟩ := KD.rep h
    obtain ⟨xs, rs, es⟩ := KDs.rep t
    exact ⟨v :: xs, .cons r rs, fun α L H => ⟨v, xs, rfl, e α L H, es α L H⟩⟩
end
end SL
namespace SL
open PySem PySem.Spec PyProof.Rows L2
section
variable {X : Cx} {tg : Expr} {pos : Pos}
variable {elt : Expr} {ifs : List Expr} {scope : Scope} {own : List (Str × Nat)} {mi : MI} {S vs : List Nat} {g : GG} {tt : MT} {te : ME}
theorem c_lcv {it : Expr} (hc : X.calm = true) (hN : X.N.Nodup) (hi : CI X tg it mi) (ok : BlkOk X.N X.env.scope scope own) (hv : ∀ i ∈ S, i ∈ vs)
    (hg : ∀ (s : Shared) (H : Hp) (C : Addr) (cl : List (Str × Addr)) (fp : List Addr), CG (X.blk s H scope (compEnvC scope cl C X.env) fp) tg S g) (ht : ∀ (s : Shared) (H : Hp) (C : Addr) (cl : List (Str × Addr)) (fp : List Addr), CTs (X.blk s H scope (compEnvC scope cl C X.env) fp) ifs tt)
    (he : ∀ (s : Shared) (H : Hp) (C : Addr) (cl : List (Str × Addr)) (fp : List Addr), CE (X.blk s H scope (compEnvC scope cl C X.env) fp) elt te) (ho : own.map (·.2) = vs := by rfl) (hs : ∀ x, foldedSetIterable it X.env x = pure x := by intro _; rfl) :
    CE X (.ListComp elt [⟨tg, it, ifs, 0⟩] scope pos) (eLc mi g tt te vs) := by
  subst ho
  exact c_lc hc hN hi ok hv hg ht he hs
theorem s_setLcv (i : Nat) {y : Str} {py spos : Pos} {it : Expr} (hc : X.calm = true) (hN : X.N.Nodup) (hi : CI X tg it mi) (ok : BlkOk X.N X.env.scope scope own) (hv : ∀ i ∈ S, i ∈ vs)
    (hg : ∀ (s : Shared) (H : Hp) (C : Addr) (cl : List (Str × Addr)) (fp : List Addr), CG (X.blk s H scope (compEnvC scope cl C X.env) fp) tg S g) (ht : ∀ (s : Shared) (H : Hp) (C : Addr) (cl : List (Str × Addr)) (fp : List Addr), CTs (X.blk s H scope (compEnvC scope cl C X.env) fp) ifs tt)
    (he : ∀ (s : Shared) (H : Hp) (C : Addr) (cl : List (Str × Addr)) (fp : List Addr), CE (X.blk s H scope (compEnvC scope cl C X.env) fp) elt te)
    (hsw : swapsWith (.ListComp elt [⟨tg, it, ifs, 0⟩] scope pos) (some (.Name y py)) spos.line X.env = pure true) (ho : own.map (·.2) = vs := by rfl) (hy : X.N[i]? = some y := by rfl) (hyl : X.env.scope.names.lookup y = some .local := by rfl) (hs : ∀ x, foldedSetIterable it X.env x = pure x := by intro _; rfl) :
    CS X (.Assign [.Name y py] (.ListComp elt [⟨tg, it, ifs, 0⟩] scope pos) spos) (sAsg (eLc mi g tt te vs) (gNm i)) := by
  subst ho
  exact s_setLc i hc hN hi ok hv hg ht he hsw hy hyl hs
end
end SL
namespace SL
open PySem PySem.Spec PyProof.Rows L2
/-! ### a tuple told with its places -/
abbrev tIt (p : Addr) : Obj := { cls := .type "tuple_iterator", data := .fields #[.ref p, .int 0 0] }
abbrev eOb (c : Addr) : Obj := { cls := .type "enumerate", data := .fields #[.none, .bool false, .ref c, rawInt 0, .none, .none] }
open Sem (wp) in
set_option maxHeartbeats 1000000 in
theorem enumT_meets (p : Addr) (xs : Array Value) :
    Meets (Builtin.«enumerate.__new__» ⟨[.type "enumerate", .ref p], []⟩) (fun _ R z => z.heap.IsTuple p xs ∧ R (.ok (.ret (.ref (z.heap.push (tIt p)).objs.size))) { z with heap := (z.heap.push (tIt p)).push (eOb z.heap.objs.size) }) :=
  .of_wp fun prog w A R z k => by
    obtain ⟨h0, gn, dr, tk, osx⟩ := z
    obtain ⟨ht, k⟩ := k
    have sb := sub_enumerate
    have st : ∀ {B : Around} {E : Value → Shared → Prop} {Q : Value → Shared → Prop}, Q (.ref h0.objs.size) ⟨h0.push (tIt p), gn, dr, tk, osx⟩ → wpAny (model prog w) B (pyIter (.ref p)) Q E ⟨h0, gn, dr, tk, osx⟩ :=
      fun q => (begins_tuple p xs).iter prog w _ _ ⟨h0, gn, dr, tk, osx⟩ _ ht q
    wp_walk using st
    refine wpAny_stack_any fun _ => wpAny_pure ?_
    split
    · rename_i cc _ _ _ _ _
      cases (cc == Value.type "enumerate") <;> (wp_walk using st; exact ⟨_, rfl, k⟩)
    · wp_walk using st
      exact ⟨_, rfl, k⟩
section
variable {prog : Program} {w : World} {A : Around} {E : Value → Shared → Prop} {s : Shared}
theorem call_enumT {p : Addr} {xs : Array Value} {Q : Value → Shared → Prop} (ht : s.heap.IsTuple p xs)
    (k : ∀ h1, IsEnum h1 (s.heap.objs.size + 1) s.heap.objs.size 0 .none → h1.IsTupleIter s.heap.objs.size p 0 → h1.objs.size = s.heap.objs.size + 2 →
      (∀ c o, s.heap.get? c = some o → h1.get? c = some o) → Q (.ref (s.heap.objs.size + 1)) { s with heap := h1 }) :
    wpAny (model prog w) A (call (.type "enumerate") [.ref p]) Q E s := by
  refine callType_new F.called_enumerate (by decide) (F.typeCall_enumerate_1 _) (F.newCall_enumerate_1 _) (fun ob => F.args_object_init_2 ob _) F.entry_enumerate_new (enumT_meets p xs) ⟨ht, ?_⟩
  have z1 : (s.heap.push (tIt p)).objs.size = s.heap.objs.size + 1 := Heap.size_push ..
  rw [z1]
  have e1 : IsEnum ((s.heap.push (tIt p)).push (eOb s.heap.objs.size)) (s.heap.objs.size + 1) s.heap.objs.size 0 .none := by
    have := Heap.get?_push_size (s.heap.push (tIt p)) (o := eOb s.heap.objs.size) rfl
    rw [z1] at this
    exact this
  exact ⟨⟨_, e1, rfl⟩, k _ e1 ⟨_, Heap.get?_push_of_some _ (Heap.get?_push_size _ rfl), rfl, rfl⟩ (by rw [Heap.size_push, z1]) fun c o q => Heap.get?_push_of_some _ (Heap.get?_push_of_some _ q)⟩
end
def IteT (K : PySem.W.Frag) (a : Addr) : It where
  go i H := ∃ (xs : List V) (x : V), SqT K H a xs ∧ xs[i]? = some x
  yld i H v H' := ∃ T x, v = .ref T ∧ H T = none ∧ H' = upd H T (.tup [.int (i : Nat), x]) ∧ ∀ xs, SqT K H a xs → xs[i]? = some x
  stop i H := ∃ xs : List V, SqT K H a xs ∧ xs.length ≤ i
theorem drawn_out {prog : Program} {w : World} {A : Around} (hh : A.handled = none) (c p : Addr) (i : Nat) (xs : Array Value) (hx : xs[i]? = none) :
    Draws prog w A c [c, p] i (fun _ _ => False) (fun j h => j = i ∧ h.IsTupleIter c p j ∧ h.IsTuple p xs) :=
  ⟨fun _ _ st => let ⟨_, ⟨o, q, _⟩, _⟩ := st; ⟨o, q⟩, fun _ _ _ st k => ⟨st.1, st.2.1.at fun o q => k c (by simp) o q, st.2.2.at fun o q => k p (by simp) o q⟩,
    fun j _ _ _ l st _ => absurd st.1 (Nat.ne_of_lt l), fun _ _ _ st k => wpAny_nextOf_tuple_end hh st.2.1 st.2.2 hx k⟩
theorem turn_enumT {P : Program} {w : World} {K : PySem.W.Frag} {elts : List Expr} {kk : Nat} {tp : Pos} (a e c : Addr) (hac : a ≠ c) (hea : e ≠ a) :
    Turn P w K (.Tuple elts kk tp) (IteT K a) [e, c] e (fun i h => (∃ old, IsEnum h e c ((i : Nat) : Int) old) ∧ h.IsTupleIter c a i ∧ e ≠ c) := by
  have two : ∀ {b : Addr}, b ∈ [e, c] → b = e ∨ b = c := fun hb => by simpa using hb
  refine ⟨by simp, fun i h st b hb => ?_, fun i h h' st k => ?_, ?_, ?_, fun A i s Q E st q => ?_⟩
  · obtain ⟨⟨old, he⟩, ⟨o, ho, hc, hd⟩, _⟩ := st
    rcases two hb with rfl | rfl
    · exact ⟨_, he, fun v q => nomatch q⟩
    · exact ⟨o, ho, fun v q => by rw [hd] at q; cases q⟩
  · obtain ⟨⟨old, he⟩, hi, hne⟩ := st
    exact ⟨⟨old, k e (by simp) _ he⟩, hi.at fun o q => k c (by simp) o q, hne⟩
  · intro X hP hw hK hc i pins s σ H E I hf st hg
    subst hP hw hK
    obtain ⟨⟨old, he⟩, hit, hne⟩ := st
    obtain ⟨xs, x, hq, hx⟩ := hg
    obtain ⟨its, rv, p, _⟩ := I.tuple hq
    obtain ⟨u, hu, ru⟩ := rv.get hx
    have lx := rv.length
    have li : i < its.toArray.size := by
      have := (List.getElem?_eq_some_iff.mp hu).1
      simpa using this
    have le : e < s.heap.objs.size := Heap.lt_size he
    have lc : c < s.heap.objs.size := by obtain ⟨_, q, _⟩ := hit; exact Heap.lt_size q
    have pt : s.heap.IsTuple a its.toArray := p
    refine wpAny_pyNext_enum_itemD (Draws.tuple (A := X.A.in1) (I.ok.hd hc) c a hac its.toArray) he ⟨hit, pt⟩ li hne (by simp [hne, hea]) fun y h1 tk py ho ⟨hit1, _⟩ hT sz hk => ?_
    have hy : y = u := by
      have h2 : its.toArray[i]? = some u := by simpa using hu
      rw [h2] at py
      exact (Option.some.inj py).symm
    subst hy
    refine ⟨_, rfl, wpAny_letOwnedTupleGo_enum (s := { s with heap := h1, toks := tk + 1 }) ho fun h2 he2 sb => ?_⟩
    have hT2 : h2.get? s.heap.objs.size = some { cls := .type "tuple", data := .seq #[.int i tk, y] } := (sb.2 _ (Nat.ne_of_gt le)).trans hT
    have new : ObjOk X.prog X.w (upd H s.heap.objs.size (.tup [.int (i : Nat), x])) h2 s.heap.objs.size (.tup [.int (i : Nat), x]) :=
      ⟨by show 2 ≤ sizeLine; decide, [.int i tk, y], .cons ⟨_, rfl⟩ (.cons ru .nil), ⟨_, hT2, rfl, _, rfl⟩⟩
    have I1 : Inv X pins σ (upd H s.heap.objs.size (.tup [.int (i : Nat), x])) { s with heap := h2, toks := tk + 1 } :=
      I.turnedNew (ch := [e, c]) (fun b ob hb q => (sb.2 b (fun z => hb (by simp [z]))).trans (hk b ob (fun z => hb (by simp [z])) (fun z => hb (by simp [z])) q)) hf (Nat.le_refl _) new
    refine ⟨.ref s.heap.objs.size, _, I1, rfl, ⟨_, x, rfl, I.hok.fresh (Nat.le_refl _), rfl, fun ys hy => by rw [I.tuple_inj hy hq]; exact hx⟩, ⟨⟨y, ?_⟩, hit1.at fun o q => (sb.2 c (Ne.symm hne)).trans q, hne⟩, fun b hb => ?_⟩
    · rw [show ((i + 1 : Nat) : Int) = (i : Int) + 1 by omega]
      exact he2
    · have lb : b < s.heap.objs.size := by
        rcases two hb with rfl | rfl
        · exact le
        · exact lc
      rw [upd_ne (Nat.ne_of_lt lb)]
      exact (hf b hb).1
  · intro X hP hw hK hc i pins s σ H E I hf st hg
    subst hP hw hK
    obtain ⟨⟨old, he⟩, hit, hne⟩ := st
    obtain ⟨xs, hq, hx⟩ := hg
    obtain ⟨its, rv, p, _⟩ := I.tuple hq
    obtain ⟨f0, f1, f2, f3, f4, f5⟩ := hf c (by simp)
    have lx := rv.length
    have pt : s.heap.IsTuple a its.toArray := p
    exact wpAny_pyNext_enum_endD (drawn_out (A := X.A.in1) (I.ok.hd hc) c a i its.toArray (by simp; omega)) he ⟨rfl, hit, pt⟩ fun h1 eb => ⟨rfl, I.turned (t' := s.toks) (fun b o hb q => eb b o hb q) f0 f1 f3 f4 f5⟩
  · obtain ⟨⟨_, he⟩, _⟩ := st
    exact wpAny_pyIter_enum he q
def iEnumX (K : PySem.W.Frag) (ta : TA) : TI := fun σ H R => ta σ H fun vs H1 => ∃ a xs, vs = [.ref a] ∧ ((SqL K H1 a xs ∧ R (Ite K a) H1) ∨ (SqT K H1 a xs ∧ R (IteT K a) H1))
theorem pi_enumX {X : Cx} {e : Expr} {ta : TA} {p pos tp : Pos} {elts : List Expr} {kk : Nat} (hg : Gl X "enumerate") (hm : X.mg "enumerate" = none) (ha : PA X [e] ta) (hs : starEach [e] X.env = [(false, eval e X.env)]) :
    PI X (.Tuple elts kk tp) (.Call (.Name "enumerate" p) [e] [] pos) (iEnumX X.K ta) := by
  refine ⟨fun pins s σ H R I k => Call_ (ld_blt I hg hm boot_enumerate (PyProof.Rows.callWith_type1 (thn (ha.run pos pins s σ H _ I k) fun us s1 ⟨vs, H1, I1, r1, q1⟩ => ?_) hs rfl))⟩
  obtain ⟨a, xs, ex, q⟩ := q1
  subst ex
  obtain _ | ⟨r, rr⟩ := r1
  cases rr
  cases r
  have fresh : ∀ b, b ∈ [s1.heap.objs.size + 1, s1.heap.objs.size] → FpOk X pins H1 b := fun b hb => by
    have lb : s1.heap.objs.size ≤ b := by
      have : b = s1.heap.objs.size + 1 ∨ b = s1.heap.objs.size := by simpa using hb
      omega
    exact I1.fpOk lb (I1.hok.fresh lb)
  rcases q with ⟨hq, q⟩ | ⟨hq, q⟩
  · obtain ⟨its, rv, pl, _⟩ := I1.list hq
    exact call_enumerate_list pl.isList fun h1 he hit sz hk => wpAny_pyIter_enum he
      ⟨s1.heap.objs.size + 1, [s1.heap.objs.size + 1, s1.heap.objs.size], _, _, H1, rfl, I1.kept (t' := s1.toks) hk, turn_enum a (s1.heap.objs.size + 1) s1.heap.objs.size, ⟨⟨.none, he⟩, hit, Nat.succ_ne_self _⟩, fresh, q⟩
  · obtain ⟨its, rv, pl, _⟩ := I1.tuple hq
    have pt : s1.heap.IsTuple a its.toArray := pl
    have la : a < s1.heap.objs.size := by obtain ⟨_, z, _⟩ := id pt; exact Heap.lt_size z
    exact call_enumT pt fun h1 he hit sz hk => wpAny_pyIter_enum he
      ⟨s1.heap.objs.size + 1, [s1.heap.objs.size + 1, s1.heap.objs.size], _, _, H1, rfl, I1.kept (t' := s1.toks) hk, turn_enumT a (s1.heap.objs.size + 1) s1.heap.objs.size (Nat.ne_of_lt la) (Nat.ne_of_gt (Nat.lt_succ_of_lt la)), ⟨⟨.none, he⟩, hit, Nat.succ_ne_self _⟩, fresh, q⟩
def srcET (ds : List D) : Src := fun i _ => some (ds[i]?.map fun d => .tup [.int (i : Nat), d])
theorem itok_ET {K : PySem.W.Frag} {α : Al} {H : Hp} {h : Hs} {a : Addr} {ds : List D} {xs : List V} (s : TpL K H a xs) (r : Reps K α h.length H ds xs) : ItOk K α H h (IteT K a) (srcET ds) := fun α2 H2 h2 x m i => by
  have sq := (x.seqT s).seq
  have rr := x.reps r
  unfold srcET
  cases q2 : ds[i]? with
  | none => exact ⟨fun _ => ⟨xs, sq, by rw [rr.length]; exact List.getElem?_eq_none_iff.mp q2⟩, fun d e => by simp [q2] at e⟩
  | some d0 =>
    obtain ⟨v, e1, r1⟩ := rr.get q2
    refine ⟨fun e => by simp [q2] at e, fun d e => ⟨⟨xs, v, sq, e1⟩, fun y H3 ⟨T, z, k2, k3, k4, k5⟩ => ?_⟩⟩
    subst k2 k4
    have k6 := k5 xs sq
    rw [e1] at k6
    cases k6
    simp [q2] at e
    subst e
    exact ⟨Ex.grow k3, m.grow k3, new_tup k3 ⟨_, _, rfl, rfl, _, _, rfl, r1, rfl⟩⟩
def enumV (ds : List D) (h1 : Hs) : Option (Src × Hs) := match ds with
  | [.ref n] => match getL h1 n with
    | some _ => some (srcE n, h1)
    | none => none
  | [.tup es] => some (srcET es, h1)
  | _ => none
def iEnumV (m : MA) : MI := fun ρ h => bd (m ρ h) enumV
theorem i_enumV {X : Cx} {a : Expr} {m : MA} {p pos tp : Pos} {elts : List Expr} {kk : Nat} (hm : X.mg "enumerate" = none) (ha : CL X [a] m) (hg : Gl X "enumerate" := by rfl) (hs : starEach [a] X.env = [(false, eval a X.env)] := by rfl) : CI X (.Tuple elts kk tp) (.Call (.Name "enumerate" p) [a] [] pos) (iEnumV m) :=
  PI.imp (pi_enumX hg hm ha.1 hs) fun σ H R ⟨ρ, h, α, src, h', rs, mt, e, q⟩ => by
    obtain ⟨ds, h1, e1, e⟩ := bd_some e
    refine ⟨ρ, h, α, ds, h1, rs, mt, e1, fun α1 H1 v1 x1 m1 r1 => ?_⟩
    unfold enumV at e
    split at e
    · split at e
      · next e2 =>
        cases e
        obtain ⟨v, rfl, l, rfl⟩ := reps1 r1
        obtain ⟨xs, sq, rr⟩ := m1.getL e2
        exact ⟨_, xs, rfl, .inl ⟨sq, q α1 H1 _ x1 m1 (itok_E l)⟩⟩
      · cases e
    · cases e
      obtain ⟨v, rfl, b, xs, rfl, sq, rr⟩ := reps1 r1
      exact ⟨_, xs, rfl, .inr ⟨sq.seq, q α1 H1 _ x1 m1 (itok_ET sq rr)⟩⟩
    · cases e
theorem ev_iEnumV {m : MA} {ρ : Rho} {h : Hs} : iEnumV m ρ h = bd (m ρ h) enumV := rfl
theorem ev_enumV {ds : List D} {h : Hs} : enumV [.tup ds] h = some (srcET ds, h) := rfl
theorem ev_enumVr {ds : List D} {n : Nat} {h : Hs} (e : getL h n = some ds) : enumV [.ref n] h = some (srcE n, h) := by
  show (match getL h n with | some _ => some (srcE n, h) | none => none) = _
  rw [e]
end SL
namespace SL
open PySem PySem.Spec PyProof.Rows L2
/-! ### xs[::step], step 1 or -1 -/
section
variable {X : Cx} {e st : Expr} {te ts : TE}
/-! the same on plain data -/
variable {ma ms : ME} {a s' : Expr}
theorem Reps.rev {K : PySem.W.Frag} {α : Al} {L : Nat} {H : Hp} {ds : List D} {vs : List V} (r : Reps K α L H ds vs) : Reps K α L H ds.reverse vs.reverse := by
  have key : ∀ {ds : List D} {vs : List V} {es : List D} {us : List V}, Reps K α L H ds vs → Reps K α L H es us → Reps K α L H (ds.reverse ++ es) (vs.reverse ++ us) := by
    intro ds
    induction ds with
    | nil => intro vs es us r q; cases r; exact q
    | cons d ds ih =>
      intro vs es us r q
      obtain ⟨x, ys, rfl, rx, ry⟩ := r
      rw [List.reverse_cons, List.reverse_cons, List.append_assoc, List.append_assoc]
      exact ih ry ⟨x, us, rfl, rx, q⟩
  have := key r (show Reps K α L H [] [] from rfl)
  rwa [List.append_nil, List.append_nil] at this
end
/-! a function of which nothing is said -/
end SL
namespace SL
open PySem PySem.Spec PyProof.Rows L2
/-! ### a promise of a function in one surrounding alone -/
section
variable {P : Program} {w : World} {K : PySem.W.Frag} {mg : Str → Option Value} {base : Heap} {k : Nat} {f : Addr} {ps : List Str} {sp : Sp}
structure FnAt (A : Around) (P : Program) (w : World) (K : PySem.W.Frag) (mg : Str → Option Value) (base : Heap) (k : Nat) (f : Addr) (fd : FuncData) (ps : List Str) (sp : Sp) : Prop where
  go : ∀ (outer : List Env) (s : Shared) (H : Hp) (args : Args) (us : List Value) (vs : List V) (Q : VK) (E : XK), Room k A → Env0 P w K mg base A outer s H → BindsTo s fd args (ps.zip us) → Vals vs us → sp vs H Q E →
    codeAny (model P w) A (.call (.ref f) args) (CR CX0 outer P w H s Q E) s
theorem at_def {A : Around} {x qual : Str} {st : Stmt} {fd : FuncData} {N : List Str} {m : MS} (F : Fun K x qual st f fd) (S : FnScope N ps (defScope st))
    (hbody : ∀ (cdv : Value) (outer : List Env) (s : Shared) (H : Hp) (E : XK), Room k (A.deeper (envOfC qual (defScope st) s.heap.objs.size f cdv)) →
      CSs (cxOf CX0 P w K mg base N qual (defScope st) f cdv A outer s H E).nox (defBody st) m) : FnAt A P w K mg base (k + 1) f fd ps (lF K (runB m ps.length N.length)) := by
  obtain ⟨_, _, _, _, _, _, cv, _, _, rfl, look, rec⟩ := F.ex
  constructor
  intro out sh HH as xs ws QQ EE room env bind rel said
  obtain ⟨hs, al, dd, dx, hs', mt, rp, ev, qq⟩ := said
  have width : dd.length = ps.length := by
    unfold runB at ev
    split at ev
    · next c => exact c
    · cases ev
  have width' : ws.length = ps.length := by rw [← width, rp.length]
  have inK : K.In sh.heap := env.mod.kin.keeps (fun b o e => (env.bs b o e).1)
  have noLim : sh.heap.NoLimit := env.mod.nolimit.keeps (fun b o e => (env.bs b o e).1)
  refine codeAny_call_function room.depth (inK _ _ look) rfl S.co S.gen rfl (PySem.W.codeRec_of inK rec) (bind _ _ _ _ ?_)
  refine wpAny_newFunctionEnv_cells S.kind (fun p hp => ?_) fun fe fe_eq sh1 inC => ?_
  · obtain ⟨nm, vv⟩ := p
    have := S.par nm (List.of_mem_zip hp).1
    exact this.imp id fun c => ⟨c, PySem.W.cellsFrom_some _ _ _ (.inl c)⟩
  · subst fe_eq
    refine ⟨noLim.keeps inC.toInCall.keep, codeAny_func ?_⟩
    have good := hbody cv out sh HH EE (room.deeper _)
    have inv0 : L2.Inv (cxOf CX0 P w K mg base N qual (defScope st) f cv A out sh HH EE) [] (L2.start N ws) HH sh1 := inv_start S room.hd env width' rel inC
    have ended : ∀ {σ : L2.St} {H1 : Hp} {v : V} {u : Value} {sh2 : Shared}, L2.Inv (cxOf CX0 P w K mg base N qual (defScope st) f cv A out sh HH EE) [] σ H1 sh2 → RelV v u → QQ v H1 → L2.CE out P w HH sh QQ u sh2 := fun J rv q => ⟨_, _, J.os, J.bare, J.base, J.hok, rv, q⟩
    have sat : lS K m { nx := fun _ H1 => QQ .non H1, rt := QQ } (L2.start N ws) HH := by
      unfold runB at ev
      rw [if_pos width] at ev
      cases z : m (dd.map some ++ List.replicate (N.length - ps.length) none) hs with
      | none => rw [z] at ev; cases ev
      | some pr =>
        obtain ⟨⟨o, ρ1⟩, hs1⟩ := pr
        rw [z] at ev
        have slots : L2.start N ws = ws.map some ++ List.replicate (N.length - ps.length) none := by
          unfold L2.start
          rw [width']
        refine ⟨_, hs, al, o, ρ1, hs1, slots ▸ (by rw [← slots]; unfold L2.start; rw [rp.length, width]; exact RepS.start rp), mt, z, fun α1 H1 σ1 x1 m1 _ => ?_⟩
        cases o with
        | nx => cases ev; exact qq α1 H1 .non x1 m1 rfl
        | rt d => cases ev; exact fun v rv => qq α1 H1 v x1 m1 rv
        | bk => cases ev
        | ct => cases ev
    refine wpAny_mono (good.nox.run [] sh1 (L2.start N ws) HH _ inv0 sat) (fun fl sh2 out2 => ?_) fun e sh2 bad => bad
    cases fl with
    | next =>
      obtain ⟨σ1, H1, J, q⟩ := out2
      exact ended (v := .non) (u := Value.none) J rfl q
    | ret u =>
      obtain ⟨v, σ1, H1, J, rv, q⟩ := out2
      exact ended J rv q
    | brk =>
      obtain ⟨_, _, _, q⟩ := out2
      cases q
    | cont =>
      obtain ⟨_, _, _, q⟩ := out2
      cases q
end
end SL
namespace SL
open PySem PySem.Spec PyProof.Rows L2
/-! ### repr, where no repr is under way -/
section
variable {X : Cx}
def rShow (K : PySem.W.Frag) : List V → Hp → VK → Prop := fun xs H Q => ∃ (a : Addr) (p : PyData), xs = [.ref a] ∧ Dp K H (.ref a) p ∧ p.depth ≤ 32 ∧ p.showable = true ∧ p.hasDict = false ∧ p.shown.length ≤ sizeLine ∧ Q (.str p.shown) H
theorem call_show (hg : X.A.guards = some []) (hu : X.A.units + 64 < cLine) : CallR X (.builtin "repr") (rShow X.K) := by
  intro pins s σ H xs us Q I r said
  obtain ⟨a, p, rfl, deep, dep, sh, nd, sz, q⟩ := said
  obtain ⟨u, rfl, ru⟩ := vals1 r
  cases ru
  obtain ⟨as, rd⟩ := Dp.reads I p _ _ deep rfl
  exact repr_of_reads' rd sh (PyData.noDict_hsm nd) hg (by omega) (fun b o e => e) (fun h' tk1 tk2 keeps => ⟨.str p.shown, H, I.kept (t' := tk2) keeps, ⟨_, rfl⟩, q⟩) sz
def reprG : GC
  | [.int i], h => if i.natAbs.log2 < 1920 then some (.str (toString i : String), h) else none
  | [.ref n], h => match toP 32 h (.ref n) with
    | some p => if p.showable = true ∧ p.hasDict = false ∧ p.shown.length ≤ sizeLine then some (.str p.shown, h) else none
    | none => none
  | [.tup ds], h => match toP 32 h (.tup ds) with
    | some p => if p.showable = true ∧ p.hasDict = false ∧ p.shown.length ≤ sizeLine then some (.str p.shown, h) else none
    | none => none
  | _, _ => none
theorem cb_repr (hg : X.A.guards = some []) (hu : X.A.units + 64 < cLine) : CB X (.builtin "repr") reprG := CallR.imp (CallR.or (SkE.call_repr_int) (call_show hg hu)) fun xs H Q ⟨h, α, ds, d, h', mt, r, e, q⟩ => by
  unfold reprG at e
  split at e
  · split at e
    · next c =>
      cases e
      obtain ⟨v, rfl, rv⟩ := reps1 r
      exact .inl ⟨_, by rw [show v = .int _ from rv], c, q α H _ Ex.refl mt rfl⟩
    · cases e
  · split at e
    · next p e1 =>
      split at e
      · next c =>
        cases e
        obtain ⟨v, rfl, rv⟩ := reps1 r
        have dp := toP_dp mt 32 _ _ _ e1 rv
        have dd := toP_depth 32 _ _ _ e1
        obtain ⟨_, rfl⟩ := rv
        exact .inr ⟨_, p, rfl, dp, dd.1, c.1, c.2.1, c.2.2, q α H _ Ex.refl mt rfl⟩
      · cases e
    · cases e
  · split at e
    · next p e1 =>
      split at e
      · next c =>
        cases e
        obtain ⟨v, rfl, rv⟩ := reps1 r
        have dp := toP_dp mt 32 _ _ _ e1 rv
        have dd := toP_depth 32 _ _ _ e1
        obtain ⟨_, _, rfl, _⟩ := rv
        exact .inr ⟨_, p, rfl, dp, dd.1, c.1, c.2.1, c.2.2, q α H _ Ex.refl mt rfl⟩
      · cases e
    · cases e
  · cases e
end
end SL
namespace SL
open PySem PySem.Spec PyProof.Rows L2
/-! ### the law called, its promise known where the caller stands -/
section
variable {P : Program} {w : World} {K : PySem.W.Frag} {mg mb : Str → Option Value} {k : Nat} {fa a : Addr} {fd : FuncData} {x : Str} {sp : Sp} {sh : Shared} {us : List Value} {ns : List Int}
structure Ahead (K : PySem.W.Frag) (P : Program) (w : World) (sh : Shared) (a : Addr) (ns : List Int) (H : Hp) : Prop where
  only : Only H
  seq : SqL K H a (ns.map V.int)
  ok : HOk P w H sh.heap
  me : ∀ b, H b ≠ none → b = a ∧ K.lookup a = none
theorem ahead_call {H : Hp} (A : Ahead K P w sh a ns H) (kin : K.In sh.heap) (glob : sh.heap.Ns mainGlobals mg) (blt : sh.heap.Ns builtinsNs mb) (boot : ∀ x : Str, x ≠ "__name__" → mb x = bootBuiltins x) (lim : sh.heap.NoLimit) (gens : sh.gens = #[])
    (scr : sh.heap.get? a = some { cls := .type "list", data := .seq us.toArray }) (room : Room k callerA)
    (F : ∀ base : Heap, K.In base → base.Ns mainGlobals mg → FnAt callerA P w K mg base k fa fd [x] sp) (bind : ∀ (s : Shared) (u : Value), BindsTo s fd ⟨[u], []⟩ [(x, u)]) (said : sp [.ref a] H (fun v _ => v = .bl true) fun _ _ _ => False) :
    codeAny (model P w) callerA (.call (.ref fa) ⟨[.ref a], []⟩) (fun r s' => r = .ok (.ret (.bool true)) ∧ OldK sh.heap s'.heap ∧ s'.os = sh.os ∧ AllBare s'.gens) sh := by
  have free : ∀ {b : Addr} {o : Obj} {es : Array DictEntry} {e : Nat}, sh.heap.get? b = some o → o.data = .dict es e → H b = none := by
    intro b o es e g d
    refine Classical.byContradiction fun t => ?_
    obtain ⟨rfl, _⟩ := A.me b t
    rw [scr] at g
    cases g
    cases d
  have spaces : ∀ {b : Addr} {m : Str → Option Value}, sh.heap.Ns b m → (hidT sh.heap H).Ns b m := by
    rintro b m ⟨o, es, e, g, d, r⟩
    exact ⟨o, es, e, hidT_get g (free g d), d, r⟩
  have frag : K.In (hidT sh.heap H) := by
    intro b o g
    refine hidT_get (kin b o g) (Classical.byContradiction fun t => ?_)
    obtain ⟨rfl, z⟩ := A.me b t
    rw [z] at g
    cases g
  have modK : Mod K mg (hidT sh.heap H) := ⟨frag, spaces glob, ⟨mb, spaces blt, boot⟩, by obtain ⟨mc, h1, h2⟩ := lim; exact ⟨mc, spaces h1, h2⟩⟩
  have env : Env0 P w K mg (hidT sh.heap H) callerA [] sh H := by
    constructor
    · rfl
    · exact modK
    · exact fun b o g => of_hidT g
    · exact Nat.le_of_eq (hidT_size _ _)
    · trivial
    · intro b hb
      cases hb
    · exact A.ok
    · exact .of_eq gens
  refine codeAny_mono ((F _ frag (spaces glob)).go [] sh H ⟨[.ref a], []⟩ [.ref a] [.ref a] _ _ room env (bind sh (.ref a)) (.cons rfl .nil) said) fun res s' fin => ?_
  match res, fin with
  | .ok (.ret u), fin =>
    obtain ⟨v, H2, osE, bareE, un, okE, rel, vt⟩ := fin
    have vt : v = .bl true := vt
    subst vt
    have ut : u = Value.bool true := rel
    subst ut
    refine ⟨rfl, OldK.of_keep (fun b o g => ?_), osE, bareE⟩
    by_cases t : H b = none
    · exact un.keep b o g t (by intro z; cases z) (by simp)
    · rcases A.only b with z | ⟨ob, xs, z⟩
      · exact absurd z t
      · have e1 := (A.ok b _ z).1
        rw [g] at e1
        cases e1
        exact (okE b _ (un.frzs b _ _ z)).1
  | .ok .next, fin => exact False.elim fin
  | .ok .brk, fin => exact False.elim fin
  | .ok .cont, fin => exact False.elim fin
theorem law_at (kin : K.In sh.heap) (glob : sh.heap.Ns mainGlobals mg) (blt : sh.heap.Ns builtinsNs mb) (boot : ∀ x : Str, x ≠ "__name__" → mb x = bootBuiltins x) (lim : sh.heap.NoLimit) (gens : sh.gens = #[])
    (scr : sh.heap.get? a = some { cls := .type "list", data := .seq us.toArray }) (whole : IntsAre us ns) (len : ns.length ≤ sizeLine) (room : Room k callerA)
    (F : ∀ base : Heap, K.In base → base.Ns mainGlobals mg → FnAt callerA P w K mg base k fa fd [x] sp) (bind : ∀ (s : Shared) (u : Value), BindsTo s fd ⟨[u], []⟩ [(x, u)])
    (said : ∀ H : Hp, Only H → SqL K H a (ns.map V.int) → sp [.ref a] H (fun v _ => v = .bl true) fun _ _ _ => False) :
    codeAny (model P w) callerA (.call (.ref fa) ⟨[.ref a], []⟩) (fun r s' => r = .ok (.ret (.bool true)) ∧ OldK sh.heap s'.heap ∧ s'.os = sh.os ∧ AllBare s'.gens) sh := by
  have rel := vals_ints whole
  have wide : us.toArray.size ≤ sizeLine := by rw [List.size_toArray, whole.length]; exact len
  have main : ∃ H, Ahead K P w sh a ns H := by
    by_cases own : K.lookup a = none
    · refine ⟨fun b => if b = a then some (.frz { cls := .type "list", data := .seq us.toArray } (.lst (ns.map V.int))) else none, fun b => ?_, .inl (.inr ⟨_, if_pos rfl⟩), fun b u z => ?_, fun b z => ?_⟩
      · by_cases q : b = a
        · exact .inr ⟨_, _, if_pos q⟩
        · exact .inl (if_neg q)
      · by_cases q : b = a
        · subst q
          rw [if_pos rfl] at z
          cases z
          exact ⟨scr, by rw [List.length_map]; exact len, us, _, rel, scr⟩
        · rw [if_neg q] at z
          cases z
      · by_cases q : b = a
        · exact ⟨q, own⟩
        · exact absurd (if_neg q) z
    · obtain ⟨o, lk⟩ : ∃ o, K.lookup a = some o := by
        cases q : K.lookup a with
        | none => exact absurd q own
        | some o => exact ⟨o, rfl⟩
      have g := kin a o lk
      rw [scr] at g
      cases g
      exact ⟨fun _ => none, fun _ => .inl rfl, .inr ⟨_, us.toArray, _, lk, rfl, rfl, rfl, wide, by simpa using rel⟩, fun b u z => (by cases z), fun b z => absurd rfl z⟩
  obtain ⟨H, A⟩ := main
  exact ahead_call A kin glob blt boot lim gens scr room F bind (said H A.only A.seq)
end
end SL
namespace SL
open PySem PySem.Spec PyProof.Rows L2
/-! ### sizes of numbers -/
def Bd (n : Nat) (i : Int) : Prop := i.natAbs < 2 ^ n
theorem Bd.mono {n m : Nat} {i : Int} (h : Bd n i) (l : n ≤ m) : Bd m i := Nat.lt_of_lt_of_le h (Nat.pow_le_pow_right (by decide) l)
theorem Bd.mul {n m : Nat} {i j : Int} (a : Bd n i) (b : Bd m j) : Bd (n + m) (i * j) := by
  unfold Bd at *
  rw [Int.natAbs_mul, Nat.pow_add]
  exact Nat.mul_lt_mul'' a b
theorem Bd.add {n m : Nat} {i j : Int} (a : Bd n i) (b : Bd m j) : Bd (max n m + 1) (i + j) := by
  have a' : i.natAbs < 2 ^ max n m := a.mono (Nat.le_max_left _ _)
  have b' : j.natAbs < 2 ^ max n m := b.mono (Nat.le_max_right _ _)
  unfold Bd
  rw [Nat.pow_succ]
  omega
theorem Bd.neg {n : Nat} {i : Int} (a : Bd n i) : Bd n (-i) := by unfold Bd at *; rw [Int.natAbs_neg]; exact a
theorem Bd.sub {n m : Nat} {i j : Int} (a : Bd n i) (b : Bd m j) : Bd (max n m + 1) (i - j) := by
  have a' : i.natAbs < 2 ^ max n m := a.mono (Nat.le_max_left _ _)
  have b' : j.natAbs < 2 ^ max n m := b.mono (Nat.le_max_right _ _)
  unfold Bd
  rw [Nat.pow_succ]
  omega
theorem Bd.lit (n : Nat) {i : Int} (h : decide (i.natAbs < 2 ^ n) = true) : Bd n i := show i.natAbs < 2 ^ n from of_decide_eq_true h
theorem Bd.ite {n m : Nat} {i j : Int} {c : Prop} [Decidable c] (a : Bd n i) (b : Bd m j) : Bd (max n m) (if c then i else j) := by
  split
  · exact a.mono (Nat.le_max_left _ _)
  · exact b.mono (Nat.le_max_right _ _)
theorem Bd.sign (i : Int) : Bd 1 i.sign := by
  unfold Bd
  rcases Int.lt_trichotomy i 0 with q | q | q
  · rw [Int.sign_eq_neg_one_of_neg q]; decide
  · subst q; decide
  · rw [Int.sign_eq_one_of_pos q]; decide
theorem Bd.of_le {n : Nat} {i j : Int} (b : Bd n j) (h0 : 0 ≤ i) (h1 : i ≤ j) : Bd n i := by unfold Bd at *; omega
theorem Bd.of_range {n : Nat} {i : Int} (h0 : -(2 ^ n : Nat) < i) (h1 : i < (2 ^ n : Nat)) : Bd n i := by unfold Bd; omega
theorem Bd.bits {n : Nat} {i : Int} (b : Bd n i) : Builtin.Int.intBits i ≤ n := by
  unfold Builtin.Int.intBits
  split
  · exact Nat.zero_le _
  · next h =>
    have h' : i.natAbs ≠ 0 := fun z => h (by simpa using z)
    exact (Nat.log2_lt h').mpr b
theorem Bd.log2 {n : Nat} {i : Int} (b : Bd n i) (h : i ≠ 0) : i.natAbs.log2 < n := (Nat.log2_lt (by omega)).mpr b
theorem fmod_abs (i : Int) {j : Int} (hj : j ≠ 0) : (i.fmod j).natAbs < j.natAbs := by
  rcases Int.lt_or_gt_of_ne hj with q | q
  · have h1 := Int.fmod_nonneg_of_pos (-i) (show 0 < -j by omega)
    have h2 := Int.fmod_lt_of_pos (-i) (show 0 < -j by omega)
    rw [Int.neg_fmod_neg] at h1 h2
    omega
  · have h1 := Int.fmod_nonneg_of_pos i q
    have h2 := Int.fmod_lt_of_pos i q
    omega
theorem Bd.fdiv {n : Nat} {i j : Int} (b : Bd n i) : Bd (n + 1) (i.fdiv j) := by
  have h0 : (i.fdiv j).natAbs ≤ i.natAbs + 1 := by
    by_cases hj : j = 0
    · subst hj; simp
    · have hm : j.natAbs ≥ 1 := by omega
      have e := Int.mul_fdiv_add_fmod i j
      have hl : (i.fmod j).natAbs < j.natAbs := fmod_abs i hj
      have e2 : (j * i.fdiv j).natAbs ≤ i.natAbs + (i.fmod j).natAbs := by omega
      rw [Int.natAbs_mul] at e2
      refine Nat.not_lt.mp fun q => ?_
      have : j.natAbs * (i.natAbs + 2) ≤ j.natAbs * (i.fdiv j).natAbs := Nat.mul_le_mul_left _ q
      have h3 : j.natAbs * (i.natAbs + 2) = j.natAbs * i.natAbs + j.natAbs * 2 := Nat.mul_add _ _ _
      have h4 : i.natAbs ≤ j.natAbs * i.natAbs := by
        have := Nat.mul_le_mul_right i.natAbs hm
        omega
      omega
  unfold Bd at *
  rw [Nat.pow_succ]
  have : 1 ≤ 2 ^ n := Nat.one_le_two_pow
  omega
theorem Bd.fmod {n : Nat} {i j : Int} (b : Bd n j) : Bd n (i.fmod j) ∨ j = 0 := by
  by_cases hj : j = 0
  · exact .inr hj
  · exact .inl (Nat.lt_trans (fmod_abs i hj) b)
theorem Bd.fmod' {n : Nat} {i j : Int} (b : Bd n j) (hj : j ≠ 0) : Bd n (i.fmod j) := (Bd.fmod b).resolve_right hj
def MOk (i j : Int) : Prop := Builtin.Int.intBits i + Builtin.Int.intBits j ≤ 134217728
theorem MOk.of {n m : Nat} {i j : Int} (a : Bd n i) (b : Bd m j) (h : n + m ≤ 134217728) : MOk i j := by
  have := a.bits
  have := b.bits
  unfold MOk
  omega
def DOk (j : Int) : Prop := j ≠ 0 ∧ j.natAbs.log2 < 9000
theorem DOk.of {n : Nat} {j : Int} (a : Bd n j) (h : j ≠ 0) (hn : n ≤ 9000) : DOk j := ⟨h, Nat.lt_of_lt_of_le (a.log2 h) hn⟩
def ShOk (i j : Int) : Prop := 0 ≤ j ∧ (Builtin.Int.intBits i : Int) + j ≤ 2 ^ 27
theorem ShOk.of {n : Nat} {i j : Int} (a : Bd n i) (h0 : 0 ≤ j) (h : (n : Int) + j ≤ 134217728) : ShOk i j := ⟨h0, by have := a.bits; omega⟩
def PwOk (i j : Int) : Prop := 0 ≤ j ∧ (Builtin.Int.intBits i : Int) * j ≤ 2 ^ 27
theorem PwOk.of {n k : Nat} {i : Int} (a : Bd n i) (h : n * k ≤ 134217728) : PwOk i (k : Int) := ⟨Int.natCast_nonneg k, by
  have h1 := Nat.mul_le_mul_right k a.bits
  have h2 : ((Builtin.Int.intBits i * k : Nat) : Int) ≤ ((134217728 : Nat) : Int) := Int.ofNat_le.mpr (Nat.le_trans h1 h)
  rw [Int.natCast_mul] at h2
  exact h2⟩
section
variable {i j : Int} {h : Hs}
theorem ev_add : addG (.int i) (.int j) h = some (.int (i + j), h) := rfl
theorem ev_sub : subG (.int i) (.int j) h = some (.int (i - j), h) := rfl
theorem ev_mul (b : MOk i j) : mulG (.int i) (.int j) h = some (.int (i * j), h) := if_pos b
theorem ev_fdiv (b : DOk j) : fdivG (.int i) (.int j) h = some (.int (i.fdiv j), h) := if_pos b
theorem ev_mod (b : j ≠ 0) : modG (.int i) (.int j) h = some (.int (i.fmod j), h) := if_pos b
theorem ev_pow (b : PwOk i j) : powG (.int i) (.int j) h = some (.int (i ^ j.toNat), h) := if_pos b
theorem ev_shl (b : ShOk i j) : shlG (.int i) (.int j) h = some (.int (i * 2 ^ j.toNat), h) := if_pos b
theorem ev_neg : negG (.int i) h = some (.int (-i), h) := rfl
theorem ev_lt : ltG (.int i) (.int j) h = some (.bl (decide (i < j)), h) := rfl
theorem ev_le : leG (.int i) (.int j) h = some (.bl (decide (i ≤ j)), h) := rfl
theorem ev_gt : gtG (.int i) (.int j) h = some (.bl (decide (j < i)), h) := rfl
theorem ev_ge : geG (.int i) (.int j) h = some (.bl (decide (j ≤ i)), h) := rfl
theorem ev_eqI : eqG (.int i) (.int j) h = some (.bl (decide (i = j)), h) := by
  show some (D.bl (i == j), h) = _
  rw [Bool.beq_eq_decide_eq]
theorem ev_neI : neG (.int i) (.int j) h = some (.bl (!decide (i = j)), h) := by
  show some (D.bl (!(i == j)), h) = _
  rw [Bool.beq_eq_decide_eq]
theorem ev_abs : absG [.int i] h = some (.int (if i < 0 then -i else i), h) := rfl
theorem ev_intB {k : Bool} : intG [.bl k] h = some (.int (if k = true then 1 else 0), h) := rfl
theorem ev_intI : intG [.int i] h = some (.int i, h) := rfl
theorem ev_minI : minG [.int i, .int j] h = some (.int (if j < i then j else i), h) := rfl
theorem ev_maxI : maxG [.int i, .int j] h = some (.int (if j > i then j else i), h) := rfl
theorem ev_bits : bitsG (.int i) h = some (.int (Builtin.Int.intBits i : Nat), h) := rfl
end
/-! ### steps of evaluation, from the front: what comes behind stays shut -/
section
variable {d x y : D} {i n : Nat} {o : Option D} {ρ ρ1 : Rho} {h h1 : Hs} {m m1 m2 : MS} {ma mb mc me : ME} {mr mx : MA} {ds es : List D} {g : GO} {gu : GU} {gc : GC} {gm : GM} {gg : GG} {gs : GGs} {t u : MT} {k b : Bool} {p c : Prop} [Decidable p] [Decidable c] {T : String}
theorem ev_var0 : eVar 0 (some d :: ρ) h = some (d, h) := rfl
theorem ev_varS : eVar (i + 1) (o :: ρ) h = eVar i ρ h := rfl
theorem ev_c : eC d ρ h = some (d, h) := rfl
def opK (g : GO) (mb : ME) (ρ : Rho) (x : D) (h1 : Hs) : Option (D × Hs) := bd (mb ρ h1) (g x)
theorem ev_op : eOp g ma mb ρ h = bd (ma ρ h) (opK g mb ρ) := rfl
theorem ev_opK : opK g mb ρ x h1 = bd (mb ρ h1) (g x) := rfl
theorem ev_un : eUn gu ma ρ h = bd (ma ρ h) gu := rfl
theorem ev_call : eCall gc mr ρ h = bd (mr ρ h) gc := rfl
theorem ev_nil : aNil ρ h = some ([], h) := rfl
def acK (mr : MA) (ρ : Rho) (d : D) (h1 : Hs) : Option (List D × Hs) := bd (mr ρ h1) fun ds h2 => some (d :: ds, h2)
def consK (d : D) (ds : List D) (h : Hs) : Option (List D × Hs) := some (d :: ds, h)
theorem ev_cons : aCons ma mr ρ h = bd (ma ρ h) (acK mr ρ) := rfl
theorem ev_acK : acK mr ρ d h = bd (mr ρ h) (consK d) := rfl
theorem ev_consK : consK d ds h = some (d :: ds, h) := rfl
def tupK (ds : List D) (h : Hs) : Option (D × Hs) := some (.tup ds, h)
def lstK (ds : List D) (h : Hs) : Option (D × Hs) := some (.ref h.length, h ++ [.lst ds])
theorem ev_tup : eTup mr ρ h = bd (mr ρ h) tupK := rfl
theorem ev_tupK : tupK ds h = some (.tup ds, h) := rfl
theorem ev_lst : eLst mr ρ h = bd (mr ρ h) lstK := rfl
theorem ev_lstK : lstK ds h = some (.ref h.length, h ++ [.lst ds]) := rfl
def ifK {R : Type} (m1 m2 : MR R) (ρ : Rho) (k : Bool) (h : Hs) : Option (R × Hs) := if k = true then m1 ρ h else m2 ρ h
theorem ev_ifE : eIf t ma mb ρ h = bd (t ρ h) (ifK ma mb ρ) := rfl
theorem ev_ifS : sIf t m1 m2 ρ h = bd (t ρ h) (ifK m1 m2 ρ) := by
  show (match t ρ h with | some (k, h1) => _ | none => none) = _
  cases t ρ h with
  | none => rfl
  | some p => rfl
theorem ev_ifKT {R : Type} {m1 m2 : MR R} : ifK m1 m2 ρ true h = m1 ρ h := rfl
theorem ev_ifKF {R : Type} {m1 m2 : MR R} : ifK m1 m2 ρ false h = m2 ρ h := rfl
theorem ev_ifK {R : Type} {m1 m2 : MR R} : ifK m1 m2 ρ (decide p) h = if p then m1 ρ h else m2 ρ h := by unfold ifK; by_cases q : p <;> simp [q]
theorem ev_ifKN {R : Type} {m1 m2 : MR R} : ifK m1 m2 ρ (!decide p) h = if p then m2 ρ h else m1 ρ h := by unfold ifK; by_cases q : p <;> simp [q]
def tvK (d : D) (h : Hs) : Option (Bool × Hs) := match d with | .bl b => some (b, h) | _ => none
theorem ev_tV : tV ma ρ h = bd (ma ρ h) tvK := by
  unfold tV
  cases z : ma ρ h with
  | none => rfl
  | some p => obtain ⟨d, h1⟩ := p; cases d <;> rfl
theorem ev_tvK : tvK (.bl b) h = some (b, h) := rfl
def truK (d : D) (h : Hs) : Option (Bool × Hs) := match truD h d with | some k => some (k, h) | none => none
theorem ev_tTru : tTru ma ρ h = bd (ma ρ h) truK := rfl
theorem ev_truB : truK (.bl b) h = some (b, h) := rfl
theorem ev_truN : truK .non h = some (false, h) := rfl
theorem ev_truI {j : Int} : truK (.int j) h = some (!decide (j = 0), h) := by
  show some (j != 0, h) = _
  rw [bne, Bool.beq_eq_decide_eq]
def andK (u : MT) (ρ : Rho) (k : Bool) (h : Hs) : Option (Bool × Hs) := if k = true then u ρ h else some (false, h)
def orK (u : MT) (ρ : Rho) (k : Bool) (h : Hs) : Option (Bool × Hs) := if k = true then some (true, h) else u ρ h
def notK (k : Bool) (h : Hs) : Option (Bool × Hs) := some (!k, h)
theorem ev_and : tAnd2 t u ρ h = bd (t ρ h) (andK u ρ) := rfl
theorem ev_or : tOr2 t u ρ h = bd (t ρ h) (orK u ρ) := rfl
theorem ev_not : tNot1 t ρ h = bd (t ρ h) notK := rfl
theorem ev_notK : notK k h = some (!k, h) := rfl
theorem ev_andT : andK u ρ true h = u ρ h := rfl
theorem ev_andF : andK u ρ false h = some (false, h) := rfl
theorem ev_orT : orK u ρ true h = some (true, h) := rfl
theorem ev_orF : orK u ρ false h = u ρ h := rfl
theorem ev_andK : andK u ρ (decide p) h = if p then u ρ h else some (false, h) := by unfold andK; by_cases q : p <;> simp [q]
theorem ev_andKN : andK u ρ (!decide p) h = if p then some (false, h) else u ρ h := by unfold andK; by_cases q : p <;> simp [q]
theorem ev_orK : orK u ρ (decide p) h = if p then some (true, h) else u ρ h := by unfold orK; by_cases q : p <;> simp [q]
theorem ev_orKN : orK u ρ (!decide p) h = if p then u ρ h else some (true, h) := by unfold orK; by_cases q : p <;> simp [q]
def eAndK (mb : ME) (ρ : Rho) (d : D) (h : Hs) : Option (D × Hs) := match truD h d with | some true => mb ρ h | some false => some (d, h) | none => none
def eOrK (mb : ME) (ρ : Rho) (d : D) (h : Hs) : Option (D × Hs) := match truD h d with | some true => some (d, h) | some false => mb ρ h | none => none
def eNotK (d : D) (h : Hs) : Option (D × Hs) := match truD h d with | some k => some (.bl (!k), h) | none => none
theorem ev_eAnd : eAnd2 ma mb ρ h = bd (ma ρ h) (eAndK mb ρ) := rfl
theorem ev_eOr : eOr2 ma mb ρ h = bd (ma ρ h) (eOrK mb ρ) := rfl
theorem ev_eNot : eNot1 ma ρ h = bd (ma ρ h) eNotK := rfl
theorem ev_eNotB : eNotK (.bl b) h = some (.bl (!b), h) := rfl
theorem ev_eAndT : eAndK mb ρ (.bl true) h = mb ρ h := rfl
theorem ev_eAndF : eAndK mb ρ (.bl false) h = some (.bl false, h) := rfl
theorem ev_eAndB : eAndK mb ρ (.bl (decide p)) h = if p then mb ρ h else some (.bl false, h) := by
  by_cases q : p
  · simp only [q, decide_true, if_true]; rfl
  · simp only [q, decide_false, if_false]; rfl
theorem ev_eAndBN : eAndK mb ρ (.bl (!decide p)) h = if p then some (.bl false, h) else mb ρ h := by
  by_cases q : p
  · simp only [q, decide_true, if_true]; rfl
  · simp only [q, decide_false, if_false]; rfl
theorem ev_eOrT : eOrK mb ρ (.bl true) h = some (.bl true, h) := rfl
theorem ev_eOrF : eOrK mb ρ (.bl false) h = mb ρ h := rfl
theorem ev_eOrN : eOrK mb ρ .non h = mb ρ h := rfl
theorem ev_eOrB : eOrK mb ρ (.bl (decide p)) h = if p then some (.bl true, h) else mb ρ h := by
  by_cases q : p
  · simp only [q, decide_true, if_true]; rfl
  · simp only [q, decide_false, if_false]; rfl
theorem ev_eOrBN : eOrK mb ρ (.bl (!decide p)) h = if p then mb ρ h else some (.bl true, h) := by
  by_cases q : p
  · simp only [q, decide_true, if_true]; rfl
  · simp only [q, decide_false, if_false]; rfl
def chK1 (g g' : GO) (mb mc : ME) (ρ : Rho) (x : D) (h : Hs) : Option (D × Hs) := bd (mb ρ h) fun y h2 => bd (g x y h2) fun z h3 => match z with
  | .bl true => bd (mc ρ h3) fun w h4 => g' y w h4
  | .bl false => some (.bl false, h3)
  | _ => none
def chK2 (g g' : GO) (mc : ME) (ρ : Rho) (x y : D) (h : Hs) : Option (D × Hs) := bd (g x y h) fun z h3 => match z with
  | .bl true => bd (mc ρ h3) fun w h4 => g' y w h4
  | .bl false => some (.bl false, h3)
  | _ => none
def chK3 (g' : GO) (mc : ME) (ρ : Rho) (y z : D) (h : Hs) : Option (D × Hs) := match z with
  | .bl true => bd (mc ρ h) (g' y)
  | .bl false => some (.bl false, h)
  | _ => none
variable {g' : GO}
theorem ev_chain : eChain g g' ma mb mc ρ h = bd (ma ρ h) (chK1 g g' mb mc ρ) := rfl
theorem ev_chK1 : chK1 g g' mb mc ρ x h = bd (mb ρ h) (chK2 g g' mc ρ x) := rfl
theorem ev_chK2 : chK2 g g' mc ρ x y h = bd (g x y h) (chK3 g' mc ρ y) := rfl
theorem ev_chK3 : chK3 g' mc ρ y (.bl (decide p)) h = if p then bd (mc ρ h) (g' y) else some (.bl false, h) := by
  by_cases q : p
  · simp only [q, decide_true, if_true]; rfl
  · simp only [q, decide_false, if_false]; rfl
theorem ev_chK3T : chK3 g' mc ρ y (.bl true) h = bd (mc ρ h) (g' y) := rfl
theorem ev_chK3F : chK3 g' mc ρ y (.bl false) h = some (.bl false, h) := rfl
/-! statements -/
def thnK (m2 : MS) (r : Out × Rho) (h : Hs) : Option ((Out × Rho) × Hs) := match r with
  | (.nx, ρ1) => m2 ρ1 h
  | r => some (r, h)
theorem ev_seq : sSeq m1 m2 ρ h = bd (m1 ρ h) (thnK m2) := by
  unfold sSeq
  cases m1 ρ h with
  | none => rfl
  | some p => obtain ⟨⟨o, ρ1⟩, h1⟩ := p; cases o <;> rfl
theorem ev_thn : thnK m2 (.nx, ρ1) h = m2 ρ1 h := rfl
theorem ev_thnR : thnK m2 (.rt d, ρ1) h = some ((.rt d, ρ1), h) := rfl
theorem ev_thnB : thnK m2 (.bk, ρ1) h = some ((.bk, ρ1), h) := rfl
theorem ev_thnC : thnK m2 (.ct, ρ1) h = some ((.ct, ρ1), h) := rfl
theorem ev_next : sNext ρ h = some ((.nx, ρ), h) := rfl
theorem ev_break : sBreak ρ h = some ((.bk, ρ), h) := rfl
theorem ev_cont : sCont ρ h = some ((.ct, ρ), h) := rfl
def retK (ρ : Rho) (d : D) (h : Hs) : Option ((Out × Rho) × Hs) := some ((.rt d, ρ), h)
theorem ev_ret : sRet ma ρ h = bd (ma ρ h) (retK ρ) := by
  unfold sRet
  cases ma ρ h with
  | none => rfl
  | some p => rfl
theorem ev_retK : retK ρ d h = some ((.rt d, ρ), h) := rfl
theorem ev_retN : sRetN ρ h = some ((.rt .non, ρ), h) := rfl
def exprK (ρ : Rho) (_ : D) (h : Hs) : Option ((Out × Rho) × Hs) := some ((.nx, ρ), h)
theorem ev_expr : sExpr ma ρ h = bd (ma ρ h) (exprK ρ) := by
  unfold sExpr
  cases ma ρ h with
  | none => rfl
  | some p => rfl
theorem ev_exprK : exprK ρ d h = some ((.nx, ρ), h) := rfl
def nxK (ρ : Rho) (h : Hs) : Option ((Out × Rho) × Hs) := some ((.nx, ρ), h)
def asgK (g : GG) (ρ : Rho) (d : D) (h : Hs) : Option ((Out × Rho) × Hs) := bd (g d ρ h) nxK
theorem ev_asg : sAsg ma gg ρ h = bd (ma ρ h) (asgK gg ρ) := by
  unfold sAsg
  cases ma ρ h with
  | none => rfl
  | some p =>
    obtain ⟨d, h1⟩ := p
    show (match gg d ρ h1 with | some (ρ1, h2) => _ | none => none) = bd (gg d ρ h1) nxK
    cases gg d ρ h1 with
    | none => rfl
    | some q => rfl
theorem ev_asgK : asgK gg ρ d h = bd (gg d ρ h) nxK := rfl
theorem ev_nxK : nxK ρ h = some ((.nx, ρ), h) := rfl
theorem ev_gNm : gNm i d ρ h = some (ρ.set i (some d), h) := rfl
theorem ev_gTp : gTp gs (.tup ds) ρ h = gs ds ρ h := rfl
theorem ev_gsNil : gsNil [] ρ h = some (ρ, h) := rfl
def gsK (gs : GGs) (ds : List D) (ρ : Rho) (h : Hs) : Option (Rho × Hs) := gs ds ρ h
theorem ev_gsCons : gsCons gg gs (d :: ds) ρ h = bd (gg d ρ h) (gsK gs ds) := by
  show (match gg d ρ h with | some (ρ1, h1) => gs ds ρ1 h1 | none => none) = _
  cases gg d ρ h with
  | none => rfl
  | some q => rfl
theorem ev_gsK : gsK gs ds ρ h = gs ds ρ h := rfl
def gSbK1 (mi : ME) (v : D) (ρ : Rho) (o : D) (h : Hs) : Option (Rho × Hs) := bd (mi ρ h) fun i h2 => match setG o i v h2 with | some h3 => some (ρ, h3) | none => none
def gSbK2 (o v : D) (ρ : Rho) (i : D) (h : Hs) : Option (Rho × Hs) := match setG o i v h with | some h3 => some (ρ, h3) | none => none
theorem ev_gSb : gSb ma mb d ρ h = bd (ma ρ h) (gSbK1 mb d ρ) := rfl
theorem ev_gSbK1 : gSbK1 mb d ρ x h = bd (mb ρ h) (gSbK2 x d ρ) := rfl
theorem ev_gSbK2 {h3 : Hs} (e : setG x y d h = some h3) : gSbK2 x d ρ y h = some (ρ, h3) := by unfold gSbK2; rw [e]
def parK (is : List Nat) (ρ : Rho) (ds : List D) (h : Hs) : Option ((Out × Rho) × Hs) := if ds.length = is.length then some ((.nx, (is.zip ds).foldl (fun r p => r.set p.1 (some p.2)) ρ), h) else none
theorem ev_par {is : List Nat} : sPar is mr ρ h = bd (mr ρ h) (parK is ρ) := by
  unfold sPar
  cases mr ρ h with
  | none => rfl
  | some p => rfl
theorem ev_parK2 {i j : Nat} : parK [i, j] ρ [x, y] h = some ((.nx, (ρ.set i (some x)).set j (some y)), h) := rfl
theorem ev_parK3 {i j l : Nat} : parK [i, j, l] ρ [x, y, d] h = some ((.nx, ((ρ.set i (some x)).set j (some y)).set l (some d)), h) := rfl
def mtK (T : String) (g : GM) (mr : MA) (ρ : Rho) (x : D) (h : Hs) : Option (D × Hs) := if tyD T h x = true then bd (mr ρ h) (g x) else none
theorem ev_mt : eMt T gm ma mr ρ h = bd (ma ρ h) (mtK T gm mr ρ) := rfl
theorem ev_mtK (e : tyD T h x = true) : mtK T gm mr ρ x h = bd (mr ρ h) (gm x) := by unfold mtK; rw [if_pos e]
theorem runB_ok (hl : ds.length = n) : runB m n i ds h = outB (m (ds.map some ++ List.replicate (i - n) none) h) := by unfold runB; rw [if_pos hl]
theorem out_rt : outB (some ((.rt d, ρ), h)) = some (d, h) := rfl
theorem out_nx : outB (some ((.nx, ρ), h)) = some (.non, h) := rfl
theorem ev_opTup {j : Int} (e : atI ds j = some d) : subG' (.tup ds) (.int j) h = some (d, h) := by
  show (match atI ds j with | some d => some (d, h) | none => none) = _
  rw [e]
theorem ev_get0 : subG' (.tup (d :: ds)) (.int 0) h = some (d, h) := ev_opTup (L2.atI_nat (j := 0) rfl)
theorem ev_get1 : subG' (.tup (x :: d :: ds)) (.int 1) h = some (d, h) := ev_opTup (L2.atI_nat (j := 1) rfl)
theorem ev_get2 : subG' (.tup (x :: y :: d :: ds)) (.int 2) h = some (d, h) := ev_opTup (L2.atI_nat (j := 2) rfl)
end
end SL
namespace SL
open PySem PySem.Spec PyProof.Rows L2
/-! ### the law called, the bits of its numbers told -/
theorem walk_at_lawB {l : PySem.W.OpenLaw} {n k : Nat} {q : Program} {loose : List Str} {XP : (Str → Option Value) → Heap → Prop} {YP : World → Heap → Prop} {d : DefRec} {K : Params → PySem.W.Frag} {sp : World → Sp} {x : Str}
    (many : l.most = some n) (small : n ≤ sizeLine) (nodef : d.params.defaults = []) (room : Room k callerA) (frag : ∀ (w : World) (h : Heap), YP w h → (K w.params).In h)
    (F : ∀ (w : World) (mg : Str → Option Value) (fa : Addr) (h : Heap), (K w.params).In h → h.Ns mainGlobals mg → mg d.name = some (.ref fa) →
      ∃ fd : FuncData, (∀ (s : Shared) (u : Value), BindsTo s fd ⟨[u], []⟩ [(x, u)]) ∧ ∀ base : Heap, (K w.params).In base → base.Ns mainGlobals mg → FnAt callerA l.prog w (K w.params) mg base k fa fd [x] (sp w))
    (said : ∀ (w : World) (H : Hp) (a : Addr) (ns : List Int), ns.length ≤ n → (∀ z ∈ ns, Builtin.Int.intBits z ≤ 1048576) → Only H → SqL (K w.params) H a (ns.map V.int) → sp w [.ref a] H (fun v _ => v = .bl true) fun _ _ _ => False) :
    PySem.W.WalkO q loose XP YP l.row.toRowW d [] (fun f vs => PySem.call f vs) :=
  Att.attach_callB many nodef fun w s₀ s₁ mg mb fa o pm cd doc a vs ns G Y ho hd hcd named scr whole len bits gens => by
    obtain ⟨fd, bind, go⟩ := F w mg fa _ (frag w _ Y) G.T.g named
    exact law_at (frag w _ Y) G.T.g G.T.b G.T.builtins G.T.nolimit gens scr whole (Nat.le_trans len small) room go bind (fun H o S => said w H a ns len bits o S)
end SL
namespace SL
open PySem PySem.Spec PyProof.Rows L2
/-! ### instances of the text's classes -/
theorem ClsN.uniq {K : PySem.W.Frag} {nm : Str} {C C' : Addr} (a : ClsN K nm C) (b : ClsN K nm C') : C = C' := by
  unfold ClsN at a b
  rw [a] at b
  cases b; rfl
section
variable {K : PySem.W.Frag} {α : Al} {L : Nat} {H : Hp}
theorem RepF.look (f : Str) : ∀ {fs : List (Str × D)} {ys : List (Str × V)}, RepF K α L H fs ys → (match fs.lookup f with | some d => ∃ v, ys.lookup f = some v ∧ Rep K α L H d v | none => ys.lookup f = none)
  | [], ys, ⟨a, b⟩ => by
    have : ys = [] := by
      cases ys with
      | nil => rfl
      | cons _ _ => cases a
    rw [this]; rfl
  | (k1, d) :: r, [], ⟨a, b⟩ => nomatch a
  | (k1, d) :: r, (k2, v) :: t, ⟨a, b⟩ => by
    simp only [List.map_cons, List.cons.injEq] at a
    obtain ⟨x, ys, e, r1, r2⟩ := b
    simp only [List.map_cons, List.cons.injEq] at e
    obtain ⟨e1, e2⟩ := e
    obtain ⟨a1, a2⟩ := a
    subst a1
    have ih := RepF.look f (fs := r) (ys := t) ⟨a2, by rw [e2]; exact r2⟩
    rw [List.lookup_cons, List.lookup_cons]
    cases q : f == k1 with
    | true => exact ⟨v, rfl, by rw [e1]; exact r1⟩
    | false => exact ih
theorem RepF.get {f : Str} {fs : List (Str × D)} {ys : List (Str × V)} {d : D} (r : RepF K α L H fs ys) (e : fs.lookup f = some d) : ∃ v, ys.lookup f = some v ∧ Rep K α L H d v := by
  have := RepF.look f r
  rw [e] at this; exact this
theorem RepF.no {f : Str} {fs : List (Str × D)} {ys : List (Str × V)} (r : RepF K α L H fs ys) (e : fs.lookup f = none) : ys.lookup f = none := by
  have := RepF.look f r
  rw [e] at this; exact this
theorem RepF.len {fs : List (Str × D)} {ys : List (Str × V)} (r : RepF K α L H fs ys) : ys.length = fs.length := by
  have := congrArg List.length r.1
  simpa using this.symm
def putFD (f : Str) (v : D) : List (Str × D) → List (Str × D)
  | [] => [(f, v)]
  | p :: r => if p.1 = f then (f, v) :: r else p :: putFD f v r
theorem RepF.put {f : Str} {d : D} {v : V} (q : Rep K α L H d v) : ∀ {fs : List (Str × D)} {ys : List (Str × V)}, RepF K α L H fs ys → RepF K α L H (putFD f d fs) (putF f v ys)
  | [], ys, ⟨a, b⟩ => by
    have : ys = [] := by
      cases ys with
      | nil => rfl
      | cons _ _ => cases a
    rw [this]; exact ⟨rfl, v, [], rfl, q, rfl⟩
  | (k1, d1) :: r, [], ⟨a, b⟩ => nomatch a
  | (k1, d1) :: r, (k2, v1) :: t, ⟨a, b⟩ => by
    simp only [List.map_cons, List.cons.injEq] at a
    obtain ⟨x, ys, e, r1, r2⟩ := b
    simp only [List.map_cons, List.cons.injEq] at e
    obtain ⟨a1, a2⟩ := a
    subst a1
    have rt : RepF K α L H r t := ⟨a2, by rw [e.2]; exact r2⟩
    have ih := RepF.put (f := f) q rt
    unfold putFD putF
    by_cases c : k1 = f
    · rw [if_pos c, if_pos c]
      exact ⟨by simp only [List.map_cons, a2, c], _, _, rfl, q, rt.2⟩
    · rw [if_neg c, if_neg c]
      exact ⟨by simp only [List.map_cons, ih.1], _, _, rfl, by rw [show v1 = x from e.1]; exact r1, ih.2⟩
end
section
variable {X : Cx} {e o a b c : Expr} {ma mb mo : ME} {pos pos' p apos : Pos} {es : List Expr} {m : MA} {g : GC} {k : Nat} {nm f x : Str}
def fldSet (nm f : Str) (v : D) (d : D) (h : Hs) : Option Hs := match d with
  | .ref n => match h[n]? with
    | some (.ins nm' fs) => if nm' = nm ∧ fs.length < 1000 then some (h.set n (.ins nm (putFD f v fs))) else none
    | _ => none
  | _ => none
def sFldSet (nm f : Str) (mo mv : ME) : MS := fun ρ h => bd (mv ρ h) fun v h1 => bd (mo ρ h1) fun d h2 => match fldSet nm f v d h2 with
  | some h3 => some ((.nx, ρ), h3)
  | none => none
/-! ### a method of an own class called, an instance made -/
structure CalM (P : Program) (w : World) (K : PySem.W.Frag) (mg : Str → Option Value) (base : Heap) (k : Nat) (nm x : Str) (g : GC) : Prop where
  ex : ∃ (a : Addr) (fd : FuncData) (ps : List Str), FnOk P w K mg base CX0 k a fd ps (lF K g) ∧ Binds K fd ps [] ∧ ∀ C, ClsN K nm C → Cls K C ∧ Meth K C x a
structure CalI (P : Program) (w : World) (K : PySem.W.Frag) (mg : Str → Option Value) (base : Heap) (k : Nat) (nm : Str) (g : GC) : Prop where
  ex : ∃ (C a : Addr) (fd : FuncData) (ps : List Str), FnOk P w K mg base CX0 k a fd ps (lF K g) ∧ Binds K fd ps [] ∧ ClsN K nm C ∧ mg nm = some (.ref C) ∧ Mk K C a
theorem CalM.mono {P : Program} {w : World} {K : PySem.W.Frag} {mg : Str → Option Value} {base : Heap} {j k : Nat} {nm x : Str} {g : GC} (c : CalM P w K mg base j nm x g) (h : j ≤ k) : CalM P w K mg base k nm x g := by
  obtain ⟨a, fd, ps, F, b, r⟩ := c.ex
  exact ⟨a, fd, ps, F.mono h, b, r⟩
theorem CalI.mono {P : Program} {w : World} {K : PySem.W.Frag} {mg : Str → Option Value} {base : Heap} {j k : Nat} {nm : Str} {g : GC} (c : CalI P w K mg base j nm g) (h : j ≤ k) : CalI P w K mg base k nm g := by
  obtain ⟨C, a, fd, ps, F, b, r⟩ := c.ex
  exact ⟨C, a, fd, ps, F.mono h, b, r⟩
def recv (nm x : Str) (d : D) (h : Hs) : Bool := match d with
  | .ref n => match h[n]? with
    | some (.ins nm' fs) => decide (nm' = nm) && (fs.lookup x).isNone
    | _ => false
  | _ => false
def eOM (nm x : Str) (g : GC) (mo : ME) (m : MA) : ME := fun ρ h => bd (mo ρ h) fun d h1 => if recv nm x d h1 = true then bd (m ρ h1) fun ds h2 => g (d :: ds) h2 else none
def eMake (nm : Str) (g : GC) (m : MA) : ME := fun ρ h => bd (m ρ h) fun ds h1 => match g (.ref h1.length :: ds) (h1 ++ [.ins nm []]) with
  | some (.non, h2) => some (.ref h1.length, h2)
  | _ => none
end
end SL
namespace SL
open PySem PySem.Spec PyProof.Rows L2
/-! ### set of a list of ints -/
section
variable {P : Program} {w : World} {A : Around} {E : Value → Shared → Prop} {s : Shared}
end
end SL
namespace SL
open PySem PySem.Spec PyProof.Rows L2
/-! ### sorted of a set, of a dict's keys, however many -/
section
variable {P : Program} {w : World} {A : Around} {E : Value → Shared → Prop} {s : Shared}
end
section
variable {X : Cx}
end
end SL
namespace SL
open PySem PySem.Spec PyProof.Rows L2
/-! ### d.update(list of pairs) -/
section
variable {X : Cx}
/-! on plain data -/
end
/-! ### sorted -/
def insU (x : Int) : List Int → List Int
  | [] => [x]
  | y :: r => if x < y then x :: y :: r else if x = y then y :: r else y :: insU x r
def ssI (ns : List Int) : List Int := ns.foldr insU []
theorem insU_mem (x : Int) : ∀ (l : List Int) (z : Int), z ∈ insU x l ↔ z = x ∨ z ∈ l
  | [], z => by simp [insU]
  | y :: r, z => by
    unfold insU
    split
    · simp
    · split
      · next c => subst c; simp
      · rw [List.mem_cons, insU_mem x r z, List.mem_cons]
        constructor
        · rintro (q | q | q)
          · exact .inr (.inl q)
          · exact .inl q
          · exact .inr (.inr q)
        · rintro (q | q | q)
          · exact .inr (.inl q)
          · exact .inl q
          · exact .inr (.inr q)
theorem insU_up (x : Int) : ∀ l : List Int, l.Pairwise (· < ·) → (insU x l).Pairwise (· < ·)
  | [], _ => by simp [insU]
  | y :: r, h => by
    obtain ⟨h1, h2⟩ := List.pairwise_cons.mp h
    unfold insU
    split
    · next c => exact List.pairwise_cons.mpr ⟨fun z hz => by rcases List.mem_cons.mp hz with rfl | hz; exact c; exact Int.lt_trans c (h1 z hz), h⟩
    · next c =>
      split
      · exact h
      · next c2 =>
        refine List.pairwise_cons.mpr ⟨fun z hz => ?_, insU_up x r h2⟩
        rcases (insU_mem x r z).mp hz with rfl | hz
        · omega
        · exact h1 z hz
theorem ssI_mem : ∀ (ns : List Int) (z : Int), z ∈ ssI ns ↔ z ∈ ns
  | [], z => by simp [ssI]
  | n :: ns, z => by
    show z ∈ insU n (ssI ns) ↔ _
    rw [insU_mem, ssI_mem ns, List.mem_cons]
theorem ssI_up : ∀ ns : List Int, (ssI ns).Pairwise (· < ·)
  | [] => .nil
  | n :: ns => insU_up n _ (ssI_up ns)
theorem up_one : ∀ {xs ys : List Int}, (∀ z, z ∈ xs ↔ z ∈ ys) → xs.Pairwise (· < ·) → ys.Pairwise (· < ·) → xs = ys
  | [], ys, p, _, _ => by
    cases ys with
    | nil => rfl
    | cons y ys => exact absurd ((p y).mpr List.mem_cons_self) (by simp)
  | x :: xs, [], p, _, _ => absurd ((p x).mp List.mem_cons_self) (by simp)
  | x :: xs, y :: ys, p, hx, hy => by
    obtain ⟨a1, a2⟩ := List.pairwise_cons.mp hx
    obtain ⟨b1, b2⟩ := List.pairwise_cons.mp hy
    have e : x = y := by
      rcases List.mem_cons.mp ((p x).mp List.mem_cons_self) with q | q
      · exact q
      · rcases List.mem_cons.mp ((p y).mpr List.mem_cons_self) with q2 | q2
        · exact q2.symm
        · have := b1 x q; have := a1 y q2; omega
    subst e
    rw [up_one (fun z => ?_) a2 b2]
    constructor
    · intro hz
      rcases List.mem_cons.mp ((p z).mp (List.mem_cons_of_mem _ hz)) with q | q
      · have := a1 z hz; omega
      · exact q
    · intro hz
      rcases List.mem_cons.mp ((p z).mpr (List.mem_cons_of_mem _ hz)) with q | q
      · have := b1 z hz; omega
      · exact q
section
variable {X : Cx} {e : Expr} {ma : ME} {pos : Pos}
/-! sorted(set(xs)) -/
end
end SL
namespace SL
open PySem PySem.Spec PyProof.Rows L2
/-! ### defs that ask for repr, called where none is under way -/
structure CalG (P : Program) (w : World) (K : PySem.W.Frag) (mg : Str → Option Value) (base : Heap) (k : Nat) (x : Str) (g : GC) : Prop where
  ex : ∃ (a : Addr) (fd : FuncData) (ps : List Str), (∀ A : Around, A.guards = some [] → FnAt A P w K mg base k a fd ps (lF K g)) ∧ (∀ ds h r, g ds h = some r → ds.length = ps.length) ∧ mg x = some (.ref a) ∧ PySem.W.keepIn K (.ref a) = true ∧ Binds K fd ps []
theorem FnAt.mono {A : Around} {P : Program} {w : World} {K : PySem.W.Frag} {mg : Str → Option Value} {base : Heap} {j k : Nat} {f : Addr} {fd : FuncData} {ps : List Str} {sp : Sp} (F : FnAt A P w K mg base j f fd ps sp) (h : j ≤ k) : FnAt A P w K mg base k f fd ps sp :=
  ⟨fun outer s H args us vs Q E hr => F.go outer s H args us vs Q E (hr.mono h)⟩
theorem CalG.mono {P : Program} {w : World} {K : PySem.W.Frag} {mg : Str → Option Value} {base : Heap} {j k : Nat} {x : Str} {g : GC} (c : CalG P w K mg base j x g) (h : j ≤ k) : CalG P w K mg base k x g := by
  obtain ⟨a, fd, ps, F, r⟩ := c.ex
  exact ⟨a, fd, ps, fun A z => (F A z).mono h, r⟩
section
variable {X : Cx} {e : Expr} {p pos : Pos} {es : List Expr} {x : Str} {m : MA} {g : GC} {k : Nat} {f : Addr} {fd : FuncData} {ps : List Str}
end
end SL
namespace SL
open PySem PySem.Spec PyProof.Rows L2
/-! ### sorted of lists of tuples that begin with texts -/
theorem nat_irr (a : List Nat) : ¬ a < a := List.lt_irrefl a
theorem nat_asym {a b : List Nat} (h : a < b) : ¬ b < a := fun k => nat_irr a (List.lt_trans h k)
theorem nat_tri {a b : List Nat} (h : a ≠ b) : a < b ∨ b < a := by
  rcases List.le_total a b with k | k
  · by_cases q : a < b
    · exact .inl q
    · exact absurd (List.le_antisymm k (List.not_lt.mp q)) h
  · by_cases q : b < a
    · exact .inr q
    · exact absurd (List.le_antisymm (List.not_lt.mp q) k) h
section
variable {prog : Program} {w : World} {A : Around} {s : Shared} {Q : Bool → Shared → Prop}
end
def IsKt (full : Bool) (h : Heap) (v : Value) (ks : List Str) : Prop := ∃ (a : Addr) (o : Obj) (its : Array Value) (n : Nat) (ps : List (Str × Tok)) (rest : List Value), v = .ref a ∧ h.get? a = some o ∧ o.cls = .type "tuple" ∧ o.data = .seq its n ∧ its.toList = ps.map (fun p => Value.str p.1 p.2) ++ rest ∧ ps.map (·.1) = ks ∧ (full = true → rest = [])
theorem IsKt.keeps {full : Bool} {h h' : Heap} {v : Value} {ks : List Str} (x : IsKt full h v ks) (k : ∀ b o, h.get? b = some o → o.cls = .type "tuple" → h'.get? b = some o) : IsKt full h' v ks := by
  obtain ⟨a, o, its, n, ps, rest, e1, e2, e3, e4⟩ := x
  exact ⟨a, o, its, n, ps, rest, e1, k a o e2 e3, e3, e4⟩
section
variable {prog : Program} {w : World} {A : Around} {s : Shared}
end
/-! ### sorted(list of tuples) as a call -/
/-! on plain data -/
theorem str_of_cps {x y : Str} (z : x.cps.toList = y.cps.toList) : x = y := by
  cases x; cases y
  simp only at z
  congr 1
  exact Array.toList_inj.mp z
inductive KtD (full : Bool) (m : Nat) : D → List Str → Prop
  | mk (ks : List Str) (rest : List D) : ks.length = m → (full = true → rest = []) → KtD full m (.tup (ks.map D.str ++ rest)) ks
end SL
namespace SL
open PySem PySem.Spec PyProof.Rows L2
/-! ### methods of texts -/
section
variable {X : Cx}
def startswithG : GM
  | .str a, [.str b], h => some (.bl (Txt.startswith a b), h)
  | _, _, _ => none
theorem cm_startswith : CM X "str.startswith" startswithG := MtR.imp mt_startswith fun x xs H Q ⟨h, α, dx, ds, d, h', mt, rx, r, e, q⟩ => by
  unfold startswithG at e
  split at e
  · cases e; cases rx; obtain ⟨v, rfl, r1⟩ := reps1 r; cases r1; exact ⟨_, _, rfl, rfl, q α H _ Ex.refl mt rfl⟩
  · cases e
theorem reps_strs {K : PySem.W.Frag} {α : Al} {L : Nat} {H : Hp} : ∀ ys : List Str, Reps K α L H (ys.map D.str) (ys.map V.str)
  | [] => Reps.nil
  | y :: ys => Reps.cons rfl (reps_strs ys)
theorem strs_vs {K : PySem.W.Frag} {α : Al} {L : Nat} {H : Hp} : ∀ {ys : List Str} {vs : List V}, Reps K α L H (ys.map D.str) vs → vs = ys.map V.str
  | [], vs, r => by cases r; rfl
  | y :: ys, vs, r => by
    obtain ⟨w, r0, rfl, r1, r2⟩ := r
    cases r1
    rw [strs_vs r2]
    rfl
def splitG : GM
  | .str a, [.str b], h => if b.length ≠ 0 ∧ a.length + 2 ≤ sizeLine then some (.ref h.length, h ++ [.lst ((Txt.split a b).map D.str)]) else none
  | _, _, _ => none
theorem cm_split : CM X "str.split" splitG := MtR.imp mt_split fun x xs H Q ⟨h, α, dx, ds, d, h', mt, rx, r, e, q⟩ => by
  unfold splitG at e
  split at e
  · split at e
    · next c =>
      cases e; cases rx; obtain ⟨v, rfl, r1⟩ := reps1 r; cases r1
      refine ⟨_, _, rfl, rfl, by simpa using c.1, c.2, fun p hp => ?_⟩
      obtain ⟨α', x1, m1, r3⟩ := new_lst mt hp (reps_strs _)
      exact q α' _ _ x1 m1 r3
    · cases e
  · cases e
def joinG : GM
  | .str a, [.ref n], h => match getL h n with
    | some ds => match strsD ds with
      | some ys => if (ys.map (·.length)).sum + ys.length * a.length ≤ 16777216 then some (.str (Txt.join a ys), h) else none
      | none => none
    | none => none
  | _, _, _ => none
theorem cm_join : CM X "str.join" joinG := MtR.imp mt_join fun x xs H Q ⟨h, α, dx, ds, d, h', mt, rx, r, e, q⟩ => by
  unfold joinG at e
  split at e
  · split at e
    · next e1 =>
      split at e
      · next e2 =>
        split at e
        · next c =>
          cases e; cases rx; obtain ⟨v, rfl, _, rfl⟩ := reps1 r; obtain ⟨vs, sq, rr⟩ := mt.getL e1
          rw [strsD_eq e2] at rr
          have := strs_vs rr
          subst this
          exact ⟨_, _, _, rfl, rfl, .inl sq, c, q α H _ Ex.refl mt rfl⟩
        · cases e
      · cases e
    · cases e
  · cases e
theorem mt_index1 : MtR X "str.index" (fun x xs H Q => ∃ (a b : Str) (k : Nat) (l : List Nat), x = .str a ∧ xs = [.str b] ∧ Builtin.Str.occurrences a b 0 a.length 1 = k :: l ∧ Q (.int (k : Nat)) H) := by
  intro pins s σ H x xs v us Q I rx rs h
  obtain ⟨a, b, k, l, rfl, rfl, e, q⟩ := h
  obtain ⟨t, rfl⟩ := rx
  cases rs with
  | cons r1 rs =>
    cases rs
    obtain ⟨u, rfl⟩ := r1
    exact PySem.SC.index e ⟨.int (k : Nat), H, I.tok _, ⟨_, rfl⟩, q⟩
def indexG : GM
  | .str a, [.str b], h => match Builtin.Str.occurrences a b 0 a.length 1 with
    | k :: _ => some (.int (k : Nat), h)
    | [] => none
  | _, _, _ => none
theorem cm_index : CM X "str.index" indexG := MtR.imp mt_index1 fun x xs H Q ⟨h, α, dx, ds, d, h', mt, rx, r, e, q⟩ => by
  unfold indexG at e
  split at e
  · split at e
    · next e1 => cases e; cases rx; obtain ⟨v, rfl, r1⟩ := reps1 r; cases r1; exact ⟨_, _, _, _, rfl, rfl, e1, q α H _ Ex.refl mt rfl⟩
    · cases e
  · cases e
/-! ### a text so many times -/
theorem op_mul_txt : OpR X (binaryOp .Mult) (fun x y H Q => ∃ a i, x = .str a ∧ y = .int i ∧ MulOk a i ∧ Q (.str (Txt.mul a i)) H) := by
  intro pins s σ H x y v u Q I rx ry h
  obtain ⟨a, i, rfl, rfl, hok, q⟩ := h
  obtain ⟨t, rfl⟩ := rx
  obtain ⟨t', rfl⟩ := ry
  exact PySem.SB.mul hok fun t' k => ⟨.str _, H, I.tok k, ⟨t', rfl⟩, q⟩
def mulSG : GO
  | .str a, .int i, h => if 0 ≤ i ∧ i ≤ 1000000 ∧ a.length ≤ 10 then some (.str (Txt.mul a i), h) else none
  | _, _, _ => none
theorem mulOk_small {a : Str} {i : Int} (h0 : 0 ≤ i) (h1 : i ≤ 1000000) (h2 : a.length ≤ 10) : MulOk a i := by
  refine ⟨by rw [decide_eq_false (by omega), decide_eq_false (by omega)]; rfl, fun c _ => ?_, fun c _ => ?_⟩
  · have : (10 : Int) ≤ (2 ^ 63 - 1) / i := (Int.le_ediv_iff_mul_le (by omega)).mpr (by omega)
    omega
  · unfold Builtin.Str.tooLong sizeLine
    refine decide_eq_false ?_
    have : a.length * i.toNat ≤ 10 * 1000000 := Nat.mul_le_mul h2 (by omega)
    omega
theorem co_mulS : CO X (binaryOp .Mult) mulSG := OpR.imp op_mul_txt fun x y H Q ⟨h, α, dx, dy, d, h', mt, rx, ry, e, q⟩ => by
  unfold mulSG at e
  split at e
  · split at e
    · next c => cases e; exact ⟨_, _, rx, ry, mulOk_small c.1 c.2.1 c.2.2, q α H _ Ex.refl mt rfl⟩
    · cases e
  · cases e
/-! ### "a" + x.replace("b", "c") -/
def eRepl (m : ME) (y z : Str) : ME := fun ρ h => bd (m ρ h) fun d h1 => match d with
  | .str x => if x.length + (x.length + 1) * z.length ≤ 16777216 then some (.str (Txt.replace x y z), h1) else none
  | _ => none
theorem repl_seq {K : PySem.W.Frag} {m : ME} {y z : Str} {σ : L2.St} {H : Hp} {Q : VK} (t : lE K (eRepl m y z) σ H Q) : CwR.tReplC (lE K m) y z σ H Q := by
  obtain ⟨ρ, h, α, d, h', rs, mt, e, q⟩ := t
  obtain ⟨d1, h1, e1, e⟩ := bd_some e
  split at e
  · split at e
    · next c =>
      cases e
      exact ⟨ρ, h, α, _, _, rs, mt, e1, fun α1 H1 v1 x1 m1 r1 => ⟨_, r1, c, q α1 H1 _ x1 m1 rfl⟩⟩
    · cases e
  · cases e
theorem c_addRepl {a y z : Str} {o : Expr} {mo : ME} {j1 j k : Nat} {c1 c2 c3 apos pos pos2 : Pos} (ho : CE X o mo) (hyz : (y == z) = false := by decide)
    (hst : starEach [.Constant (.str y) j c2, .Constant (.str z) k c3] X.env = [(false, eval (.Constant (.str y) j c2) X.env), (false, eval (.Constant (.str z) k c3) X.env)] := by rfl)
    (hbase : attributeBase o "replace" X.env (eval o X.env) = eval o X.env := by rfl) (hline : (apos.endLine == pos.line) = true := by rfl) :
    CE X (.BinOp (.Constant (.str a) j1 c1) .Add (.Call (.Attribute o "replace" apos) [.Constant (.str y) j c2, .Constant (.str z) k c3] [] pos) pos2) (eOp addG (eC (.str a)) (eRepl mo y z)) := by
  refine ⟨fun pins s σ H Q I h => wpAny_BinOp (Calls.Constant_str ?_)⟩
  obtain ⟨ρ, h0, α, d, h', rs, mt, e, q⟩ := h
  obtain ⟨d1, h1, e1, e⟩ := bd_some e
  cases e1
  obtain ⟨d2, h2, e2, e3⟩ := bd_some e
  have t2 : lE X.K (eRepl mo y z) σ H (fun y' H2 => lO X.K addG (.str a) y' H2 Q) := ⟨ρ, h0, α, d2, h2, rs, mt, e2, fun α2 H2 v2 x2 m2 r2 => ⟨h2, α2, .str a, d2, d, h', m2, rfl, r2, e3, fun α3 H3 v3 x3 m3 r3 => q α3 H3 v3 (x2.trans x3) m3 r3⟩⟩
  exact thn (CwR.pet_replC ho hyz hst hbase hline pins { s with toks := s.toks + 1 } σ H _ (by show 1 ≤ s.toks + 1; omega) (I.tok _) (repl_seq t2)) fun u s2 ⟨y', H2, I2, r2, q2⟩ => co_add pins s2 σ H2 (.str a) y' _ u Q I2 ⟨_, rfl⟩ r2 q2
end
end SL
namespace SL
open PySem PySem.Spec PyProof.Rows L2
/-! ### zip of three lists -/
/-! on plain data -/
end SL
namespace K01
open PySem PySem.Spec PyProof.Rows L2 SL
def d_MOST_FIGURES : D := (.int 40)
def d_FIGURES : D := (.str "0123456789")
def d_MOST_LETTERS : D := (.int 8)
def d_LETTERS : D := (.str "abcdefghijklmnopqrstuvwxyz")
noncomputable def m__law_mixed : MS := (sSeq (sAsg (eOp addG (eOp addG (eOp modG (eVar 0) (eC (.int 1000000007))) (eOp mulG (eC (.int 7919)) (eVar 1))) (eC (.int 13))) (gNm 0)) (sRet (eOp modG (eOp mulG (eOp modG (eOp mulG (eVar 0) (eVar 0)) (eC (.int 1000000007))) (eC (.int 48271))) (eC (.int 2147483647)))))
noncomputable def f__law_mixed : GC := runB m__law_mixed 2 2
noncomputable def m__law_draw : MS := (sSeq (sAsg (eCall f__law_mixed (aCons (eVar 0) (aCons (eVar 1) aNil))) (gNm 2)) (sSeq (sAsg (eOp addG (eOp addG (eOp mulG (eCall f__law_mixed (aCons (eVar 2) (aCons (eOp addG (eVar 1) (eC (.int 1))) aNil))) (eOp powG (eC (.int 2147483647)) (eC (.int 2)))) (eOp mulG (eCall f__law_mixed (aCons (eVar 2) (aCons (eOp addG (eVar 1) (eC (.int 2))) aNil))) (eC (.int 2147483647)))) (eVar 2)) (gNm 3)) (sRet (eDict (pCons (eC (.str "left")) (eIf (tV (eOp geG (eVar 0) (eOp powG (eC (.int 10)) (eC (.int 18))))) (eVar 0) (eVar 3)) (pCons (eC (.str "more")) (eIf (tV (eOp geG (eVar 0) (eOp powG (eC (.int 10)) (eC (.int 18))))) (eVar 3) (eC (.int 0))) pNil))))))
noncomputable def f__law_draw : GC := runB m__law_draw 2 4
noncomputable def m__law_digit : MS := (sSeq (sIf (tV (eOp eqG (eOp subG' (eVar 0) (eC (.str "left"))) (eC (.int 0)))) (sAsg (eTup (aCons (eOp subG' (eVar 0) (eC (.str "more"))) (aCons (eC (.int 0)) aNil))) (gTp (gsCons (gSb (eVar 0) (eC (.str "left"))) (gsCons (gSb (eVar 0) (eC (.str "more"))) gsNil)))) sNext) (sSeq (sAsg (eOp modG (eOp subG' (eVar 0) (eC (.str "left"))) (eVar 1)) (gNm 2)) (sSeq (sAsg (eOp fdivG (eOp subG' (eVar 0) (eC (.str "left"))) (eVar 1)) (gSb (eVar 0) (eC (.str "left")))) (sRet (eVar 2)))))
noncomputable def f__law_digit : GC := runB m__law_digit 2 3
noncomputable def m__law_word : MS := (sRet (eMt "str" joinG (eC (.str "")) (aCons (eLc (iRange (aCons (eCall f__law_digit (aCons (eVar 0) (aCons (eC (.int 12)) aNil))) aNil)) (gNm 2) tYes1 (eOp subG' (eVar 1) (eCall f__law_digit (aCons (eVar 0) (aCons (eCall lenG (aCons (eVar 1) aNil)) aNil)))) [2]) aNil)))
noncomputable def f__law_word : GC := runB m__law_word 2 3
noncomputable def m__law_number : MS := (sSeq (sAsg (eIf (tV (eOp eqG (eSl (eVar 0) oNone (oSome (eC (.int 1)))) (eC (.str "-")))) (eSl (eVar 0) (oSome (eC (.int 1))) oNone) (eVar 0)) (gNm 1)) (sSeq (sAsg (eLc (iSeq (eVar 1)) (gNm 4) (tV (eOp notInG (eVar 4) (eC (.str "0123456789")))) (eVar 4) [4]) (gNm 2)) (sSeq (sIf (tOr2 (tNot1 (tV (eChain leG leG (eC (.int 1)) (eCall lenG (aCons (eVar 1) aNil)) (eC (.int 40))))) (tOr2 (tV (eOp neG (eVar 2) (eLst aNil))) (tAnd2 (tV (eOp eqG (eOp subG' (eVar 1) (eC (.int 0))) (eC (.str "0")))) (tV (eOp neG (eVar 0) (eC (.str "0"))))))) (sRet (eC .non)) sNext) (sSeq (sAsg (eC (.int 0)) (gNm 3)) (sSeq (sFor (iSeq (eVar 1)) (gNm 4) (sAsg (eOp addG (eOp mulG (eVar 3) (eC (.int 10))) (eMt "str" indexG (eC (.str "0123456789")) (aCons (eVar 4) aNil))) (gNm 3))) (sRet (eIf (tV (eOp eqG (eVar 1) (eVar 0))) (eVar 3) (eOp subG (eC (.int 0)) (eVar 3)))))))))
noncomputable def f__law_number : GC := runB m__law_number 1 5
noncomputable def m_number_of : MS := (sSeq (sIf (tNot1 (tTru (eCall isiG (aCons (eVar 0) (aCons (eC (.ty "str")) aNil))))) (sRet (eC .non)) sNext) (sSeq (sAsg (eIf (tTru (eMt "str" startswithG (eVar 0) (aCons (eC (.str "-")) aNil))) (eSl (eVar 0) (oSome (eC (.int 1))) oNone) (eVar 0)) (gNm 1)) (sSeq (sIf (tOr2 (tNot1 (tV (eChain leG leG (eC (.int 1)) (eCall lenG (aCons (eVar 1) aNil)) (eC d_MOST_FIGURES)))) (tNot1 (tTru (eCall allG (aCons (eLc (iSeq (eVar 1)) (gNm 2) tYes1 (eOp inG (eVar 2) (eC d_FIGURES)) [2]) aNil))))) (sRet (eC .non)) sNext) (sSeq (sIf (tAnd2 (tV (eOp eqG (eOp subG' (eVar 1) (eC (.int 0))) (eC (.str "0")))) (tV (eOp neG (eVar 0) (eC (.str "0"))))) (sRet (eC .non)) sNext) (sRet (eCall intG (aCons (eVar 0) aNil)))))))
noncomputable def f_number_of : GC := runB m_number_of 1 3
noncomputable def m_is_name : MS := (sSeq (sIf (tOr2 (tNot1 (tTru (eCall isiG (aCons (eVar 0) (aCons (eC (.ty "str")) aNil))))) (tNot1 (tV (eChain leG leG (eC (.int 1)) (eCall lenG (aCons (eVar 0) aNil)) (eC d_MOST_LETTERS))))) (sRet (eC (.bl false))) sNext) (sRet (eCall allG (aCons (eLc (iSeq (eVar 0)) (gNm 1) tYes1 (eOp inG (eVar 1) (eC d_LETTERS)) [1]) aNil))))
noncomputable def f_is_name : GC := runB m_is_name 1 2
noncomputable def m__law_one : MS := (sSeq (sAsg (eLc (iSeq (eVar 0)) (gNm 4) (tV (eOp inG (eVar 4) (eC (.str "abcdefghijklmnopqrstuvwxyz")))) (eVar 4) [4]) (gNm 1)) (sSeq (sAsg (eCall f__law_number (aCons (eVar 0) aNil)) (gNm 2)) (sSeq (sAsg (eCall f_number_of (aCons (eVar 0) aNil)) (gNm 3)) (sSeq (sIf (tOr2 (tTru (eCall isiG (aCons (eVar 3) (aCons (eC (.ty "bool")) aNil)))) (tOr2 (tV (eOp neG (eVar 3) (eVar 2))) (tV (eOp neG (eOp isG (eVar 3) (eC .non)) (eOp isG (eVar 2) (eC .non)))))) (sRet (eC (.bl false))) sNext) (sRet (eOp eqG (eCall f_is_name (aCons (eVar 0) aNil)) (eAnd2 (eOp eqG (eCall lenG (aCons (eVar 1) aNil)) (eCall lenG (aCons (eVar 0) aNil))) (eChain leG leG (eC (.int 1)) (eCall lenG (aCons (eVar 0) aNil)) (eC (.int 8))))))))))
noncomputable def f__law_one : GC := runB m__law_one 1 5
noncomputable def m_common_divisor : MS := (sSeq (sPar [0, 1] (aCons (eCall absG (aCons (eVar 0) aNil)) (aCons (eCall absG (aCons (eVar 1) aNil)) aNil))) (sSeq (sWh (tV (eOp gtG (eVar 1) (eC (.int 0)))) (sPar [0, 1] (aCons (eVar 1) (aCons (eOp modG (eVar 0) (eVar 1)) aNil)))) (sRet (eVar 0))))
noncomputable def f_common_divisor : GC := runB m_common_divisor 2 2
noncomputable def m__law_divided : MS := (sSeq (sAsg (eCall f_common_divisor (aCons (eVar 0) (aCons (eVar 1) aNil))) (gNm 2)) (sSeq (sIf (tOr2 (tV (eOp neG (eVar 2) (eCall f_common_divisor (aCons (eVar 1) (aCons (eVar 0) aNil))))) (tOr2 (tV (eOp neG (eVar 2) (eCall f_common_divisor (aCons (eOp subG (eC (.int 0)) (eVar 0)) (aCons (eVar 1) aNil))))) (tV (eOp ltG (eVar 2) (eC (.int 0)))))) (sRet (eC (.bl false))) sNext) (sSeq (sIf (tTru (eCall isiG (aCons (eVar 2) (aCons (eC (.ty "bool")) aNil)))) (sRet (eC (.bl false))) sNext) (sSeq (sIf (tV (eOp eqG (eTup (aCons (eVar 0) (aCons (eVar 1) aNil))) (eTup (aCons (eC (.int 0)) (aCons (eC (.int 0)) aNil))))) (sRet (eOp eqG (eVar 2) (eC (.int 0)))) sNext) (sSeq (sIf (tOr2 (tV (eOp eqG (eVar 2) (eC (.int 0)))) (tOr2 (tV (eOp neG (eOp modG (eVar 0) (eVar 2)) (eC (.int 0)))) (tV (eOp neG (eOp modG (eVar 1) (eVar 2)) (eC (.int 0)))))) (sRet (eC (.bl false))) sNext) (sSeq (sPar [3, 4] (aCons (eCall absG (aCons (eOp fdivG (eVar 0) (eVar 2)) aNil)) (aCons (eCall absG (aCons (eOp fdivG (eVar 1) (eVar 2)) aNil)) aNil))) (sSeq (sWh (tV (eOp gtG (eVar 4) (eC (.int 0)))) (sPar [3, 4] (aCons (eVar 4) (aCons (eOp modG (eVar 3) (eVar 4)) aNil)))) (sRet (eOp eqG (eVar 3) (eC (.int 1)))))))))))
noncomputable def f__law_divided : GC := runB m__law_divided 2 5
noncomputable def m_whole_root : MS := (sSeq (sAsg (eC (.int 0)) (gNm 1)) (sSeq (sAsg (eC (.int 1)) (gNm 2)) (sSeq (sWh (tV (eOp leG (eOp mulG (eVar 2) (eVar 2)) (eVar 0))) (sAsg (eOp mulG (eVar 2) (eC (.int 2))) (gNm 2))) (sSeq (sWh (tV (eOp gtG (eOp subG (eVar 2) (eVar 1)) (eC (.int 1)))) (sSeq (sAsg (eOp fdivG (eOp addG (eVar 1) (eVar 2)) (eC (.int 2))) (gNm 3)) (sIf (tV (eOp leG (eOp mulG (eVar 3) (eVar 3)) (eVar 0))) (sAsg (eVar 3) (gNm 1)) (sAsg (eVar 3) (gNm 2))))) (sRet (eVar 1))))))
noncomputable def f_whole_root : GC := runB m_whole_root 1 4
noncomputable def m_is_square : MS := (sRet (eAnd2 (eOp geG (eVar 0) (eC (.int 0))) (eOp eqG (eOp mulG (eCall f_whole_root (aCons (eVar 0) aNil)) (eCall f_whole_root (aCons (eVar 0) aNil))) (eVar 0))))
noncomputable def f_is_square : GC := runB m_is_square 1 1
noncomputable def m__law_rooted : MS := (sSeq (sAsg (eCall f_whole_root (aCons (eVar 0) aNil)) (gNm 1)) (sSeq (sAsg (eAnd2 (eOp geG (eVar 1) (eC (.int 0))) (eAnd2 (eChain leG ltG (eOp mulG (eVar 1) (eVar 1)) (eVar 0) (eOp mulG (eOp addG (eVar 1) (eC (.int 1))) (eOp addG (eVar 1) (eC (.int 1))))) (eNot1 (eCall isiG (aCons (eVar 1) (aCons (eC (.ty "bool")) aNil)))))) (gNm 2)) (sRet (eAnd2 (eVar 2) (eAnd2 (eOp eqG (eCall f_is_square (aCons (eVar 0) aNil)) (eOp eqG (eOp mulG (eVar 1) (eVar 1)) (eVar 0))) (eOp isG (eCall f_is_square (aCons (eOp subG (eOp subG (eC (.int 0)) (eC (.int 1))) (eVar 0)) aNil)) (eC (.bl false))))))))
noncomputable def f__law_rooted : GC := runB m__law_rooted 1 3
noncomputable def m_sign_of : MS := (sRet (eOp subG (eCall intG (aCons (eOp gtG (eVar 0) (eC (.int 0))) aNil)) (eCall intG (aCons (eOp ltG (eVar 0) (eC (.int 0))) aNil))))
noncomputable def f_sign_of : GC := runB m_sign_of 1 1
noncomputable def m_words_of : MS := (sSeq (sIf (tNot1 (tTru (eCall isiG (aCons (eVar 0) (aCons (eC (.ty "str")) aNil))))) (sRet (eC .non)) sNext) (sSeq (sAsg (eMt "str" splitG (eVar 0) (aCons (eC (.str " ")) aNil)) (gNm 1)) (sSeq (sIf (tV (eOp inG (eC (.str "")) (eVar 1))) (sRet (eC .non)) sNext) (sRet (eVar 1)))))
noncomputable def f_words_of : GC := runB m_words_of 1 2
noncomputable def m_is_whole : MS := (sRet (eAnd2 (eCall isiG (aCons (eVar 0) (aCons (eC (.ty "int")) aNil))) (eNot1 (eCall isiG (aCons (eVar 0) (aCons (eC (.ty "bool")) aNil))))))
noncomputable def f_is_whole : GC := runB m_is_whole 1 1
noncomputable def m_is_among : MS := (sRet (eAnd2 (eCall f_is_whole (aCons (eVar 0) aNil)) (eChain leG leG (eVar 1) (eVar 0) (eVar 2))))
noncomputable def f_is_among : GC := runB m_is_among 3 3
noncomputable def m_is_number : MS := (sRet (eAnd2 (eCall isiG (aCons (eVar 0) (aCons (eC (.ty "int")) aNil))) (eNot1 (eCall isiG (aCons (eVar 0) (aCons (eC (.ty "bool")) aNil))))))
noncomputable def f_is_number : GC := runB m_is_number 1 1
noncomputable def m__law_row : MS := (sSeq (sAsg (eMt "str" joinG (eC (.str " ")) (aCons (eVar 0) aNil)) (gNm 2)) (sSeq (sFor (iRange (aCons (eC (.int 2)) aNil)) (gNm 3) (sSeq (sAsg (eCall f_words_of (aCons (eVar 2) aNil)) (gNm 4)) (sSeq (sIf (tOr2 (tNot1 (tTru (eCall isiG (aCons (eVar 4) (aCons (eC (.ty "list")) aNil))))) (tV (eOp neG (eVar 4) (eVar 0)))) (sRet (eC (.bl false))) sNext) (sExpr (eMt "list" appendG (eVar 4) (aCons (eC (.str "x")) aNil)))))) (sSeq (sAsg (eOp modG (eVar 1) (eOp addG (eCall lenG (aCons (eVar 2) aNil)) (eC (.int 1)))) (gNm 5)) (sSeq (sAsg (eMt "str" splitG (eOp addG (eOp addG (eSl (eVar 2) oNone (oSome (eVar 5))) (eC (.str " "))) (eSl (eVar 2) (oSome (eVar 5)) oNone)) (aCons (eC (.str " ")) aNil)) (gNm 6)) (sRet (eOp eqG (eCall f_words_of (aCons (eOp addG (eOp addG (eSl (eVar 2) oNone (oSome (eVar 5))) (eC (.str " "))) (eSl (eVar 2) (oSome (eVar 5)) oNone)) aNil)) (eIf (tV (eOp inG (eC (.str "")) (eVar 6))) (eC .non) (eVar 6))))))))
noncomputable def f__law_row : GC := runB m__law_row 2 7
noncomputable def m_law : MS := (sSeq (sAsg (eLst aNil) (gNm 1)) (sSeq (sFor (iEnumV (aCons (eOp addG (eSl (eVar 0) oNone (oSome (eC (.int 63)))) (eLst (aCons (eCall sumG (aCons (eVar 0) aNil)) aNil))) aNil)) (gTp (gsCons (gNm 2) (gsCons (gNm 3) gsNil))) (sSeq (sAsg (eCall f__law_draw (aCons (eVar 3) (aCons (eVar 2) aNil))) (gNm 4)) (sSeq (sAsg (eOp subG' (eLst (aCons (eC (.str "0123456789")) (aCons (eC (.str "abcdefghijklmnopqrstuvwxyz")) (aCons (eC (.str "01-")) (aCons (eC (.str "Aaz_ -\n.1;~\x40[`{/:")) aNil))))) (eCall f__law_digit (aCons (eVar 4) (aCons (eC (.int 4)) aNil)))) (gNm 5)) (sSeq (sAsg (eCall f__law_word (aCons (eVar 4) (aCons (eVar 5) aNil))) (gNm 6)) (sSeq (sPar [7, 8] (aCons (eOp subG (eCall f__law_digit (aCons (eVar 4) (aCons (eC (.int 60)) aNil))) (eC (.int 30))) (aCons (eOp modG (eVar 3) (eOp powG (eC (.int 10)) (eC (.int 40)))) aNil))) (sSeq (sAsg (eOp addG (eC (.str "1")) (eOp mulSG (eC (.str "0")) (eOp addG (eC (.int 37)) (eCall f__law_digit (aCons (eVar 4) (aCons (eC (.int 5)) aNil)))))) (gNm 9)) (sSeq (sFor (iSeq (eLst (aCons (eVar 6) (aCons (eOp addG (eC (.str "-")) (eVar 6)) (aCons (eCall strG (aCons (eVar 7) aNil)) (aCons (eCall strG (aCons (eVar 8) aNil)) (aCons (eVar 9) (aCons (eOp addG (eC (.str "-")) (eVar 9)) (aCons (eOp addG (eC (.str "0")) (eCall strG (aCons (eVar 8) aNil))) (aCons (eOp mulSG (eC (.str "7")) (eC (.int 5000))) aNil)))))))))) (gNm 10) (sIf (tNot1 (tTru (eCall f__law_one (aCons (eVar 10) aNil)))) (sRet (eC (.bl false))) sNext)) (sSeq (sAsg (eOp mulG (eVar 7) (eOp subG (eCall f__law_digit (aCons (eVar 4) (aCons (eC (.int 1000)) aNil))) (eC (.int 400)))) (gNm 11)) (sSeq (sIf (tOr2 (tNot1 (tTru (eCall f__law_divided (aCons (eVar 8) (aCons (eVar 11) aNil))))) (tNot1 (tTru (eCall f__law_divided (aCons (eOp mulG (eVar 7) (eVar 8)) (aCons (eOp mulG (eVar 8) (eVar 11)) aNil)))))) (sRet (eC (.bl false))) sNext) (sSeq (sIf (tOr2 (tNot1 (tTru (eCall f__law_rooted (aCons (eVar 8) aNil)))) (tOr2 (tNot1 (tTru (eCall f__law_rooted (aCons (eOp mulG (eVar 8) (eVar 8)) aNil)))) (tNot1 (tTru (eCall f__law_rooted (aCons (eOp addG (eOp addG (eOp mulG (eVar 8) (eVar 8)) (eOp modG (eVar 8) (eC (.int 3)))) (eC (.int 1))) aNil)))))) (sRet (eC (.bl false))) sNext) (sSeq (sIf (tV (eOp neG (eLst (aCons (eCall f_sign_of (aCons (eVar 7) aNil)) (aCons (eCall f_sign_of (aCons (eOp subG (eOp subG (eC (.int 0)) (eVar 8)) (eC (.int 1))) aNil)) aNil))) (eLst (aCons (eOp subG (eCall intG (aCons (eOp gtG (eVar 7) (eC (.int 0))) aNil)) (eCall intG (aCons (eOp ltG (eVar 7) (eC (.int 0))) aNil))) (aCons (eUn negG (eC (.int 1))) aNil))))) (sRet (eC (.bl false))) sNext) (sSeq (sAsg (eOp addG (eVar 1) (eLst (aCons (eOp addG (eC (.str "a")) (eRepl (eVar 6) " " "")) aNil))) (gNm 1)) (sSeq (sAsg (eOp subG' (eLst (aCons (eC .non) (aCons (eC (.bl true)) (aCons (eC (.int 7)) (aCons (eLst aNil) (aCons (eLst (aCons (eC (.str "a")) aNil)) (aCons (fun _ h => some (.ref h.length, h ++ [.dct []])) (aCons (eTup (aCons (eC (.str "a")) aNil)) (aCons (eUn negG (eC (.int 2))) aNil))))))))) (eOp modG (eVar 3) (eC (.int 8)))) (gNm 12)) (sSeq (sIf (tOr2 (tV (eOp isNotG (eCall f_number_of (aCons (eVar 12) aNil)) (eC .non))) (tOr2 (tV (eOp isNotG (eCall f_words_of (aCons (eVar 12) aNil)) (eC .non))) (tV (eOp isNotG (eCall f_is_name (aCons (eVar 12) aNil)) (eC (.bl false)))))) (sRet (eC (.bl false))) sNext) (sSeq (sAsg (eOp inG (eOp modG (eVar 3) (eC (.int 8))) (eTup (aCons (eC (.int 2)) (aCons (eC (.int 7)) aNil)))) (gNm 13)) (sSeq (sIf (tV (eOp neG (eCall reprG (aCons (eLst (aCons (eCall f_is_whole (aCons (eVar 12) aNil)) (aCons (eCall f_is_number (aCons (eVar 12) aNil)) (aCons (eCall f_is_among (aCons (eVar 12) (aCons (eUn negG (eC (.int 2))) (aCons (eC (.int 7)) aNil)))) aNil)))) aNil)) (eCall reprG (aCons (eLst (aCons (eVar 13) (aCons (eVar 13) (aCons (eVar 13) aNil)))) aNil)))) (sRet (eC (.bl false))) sNext) (sIf (tTru (eCall f_is_among (aCons (eVar 12) (aCons (eUn negG (eC (.int 1))) (aCons (eC (.int 6)) aNil))))) (sRet (eC (.bl false))) sNext))))))))))))))))) (sSeq (sAsg (eLst (aCons (eCall f_is_name (aCons (eC (.str "ab")) aNil)) (aCons (eCall f_is_whole (aCons (eC (.int 5)) aNil)) (aCons (eCall f_is_among (aCons (eC (.int 5)) (aCons (eC (.int 0)) (aCons (eC (.int 9)) aNil)))) (aCons (eCall f_is_number (aCons (eC (.int 7)) aNil)) (aCons (eCall f_is_name (aCons (eC (.str "aB")) aNil)) (aCons (eCall f_is_among (aCons (eC (.int 5)) (aCons (eC (.int 6)) (aCons (eC (.int 9)) aNil)))) aNil))))))) (gNm 14)) (sSeq (sIf (tV (eOp neG (eCall reprG (aCons (eVar 14) aNil)) (eC (.str "[True, True, True, True, False, False]")))) (sRet (eC (.bl false))) sNext) (sSeq (sIf (tOr2 (tNot1 (tTru (eCall f__law_rooted (aCons (eC (.int 0)) aNil)))) (tOr2 (tNot1 (tTru (eCall f__law_rooted (aCons (eC (.int 1)) aNil)))) (tOr2 (tNot1 (tTru (eCall f__law_divided (aCons (eC (.int 0)) (aCons (eC (.int 0)) aNil))))) (tNot1 (tTru (eCall f__law_divided (aCons (eC (.int 2)) (aCons (eC (.int 3)) aNil)))))))) (sRet (eC (.bl false))) sNext) (sRet (eAnd2 (eOp isG (eCall f_words_of (aCons (eC (.str "")) aNil)) (eC .non)) (eCall f__law_row (aCons (eVar 1) (aCons (eCall f__law_mixed (aCons (eCall sumG (aCons (eVar 0) aNil)) (aCons (eC (.int 2)) aNil))) aNil))))))))))
noncomputable def f_law : GC := runB m_law 1 15
end K01
namespace K01
open PySem PySem.Spec PyProof.Rows L2 SL
def topS (i : Nat) : Stmt := PySem.Challenge.pw_nearways_k01_words_and_numbers.main.body.getD i (.Pass ⟨0, 0, 0, 0⟩)
def blts : List Str := ["abs", "all", "bool", "enumerate", "int", "isinstance", "len", "list", "range", "repr", "str", "sum"]
section
variable {P : Program} {w : World} {K : PySem.W.Frag} {mg : Str → Option Value} {base : Heap} {f : Addr} {fd : FuncData} {k : Nat}
abbrev s__law_mixed : Stmt := topS 17
abbrev N__law_mixed : List Str := ["_law_cell", "_law_k"]
theorem sc__law_mixed : FnScope N__law_mixed ["_law_cell", "_law_k"] (defScope s__law_mixed) := ⟨rfl, rfl, rfl, by decide +kernel, rfl, by decide +kernel, by decide +kernel⟩
set_option maxHeartbeats 0 in
theorem ok__law_mixed (F : Fun K "_law_mixed" "_law_mixed" s__law_mixed f fd) (bg : ∀ x, x ∈ blts → mg x = none) : FnOk P w K mg base CX0 (k + 1) f fd ["_law_cell", "_law_k"] (lF K f__law_mixed) := by
  refine ok_def F sc__law_mixed fun cdv A outer s H E hr => ?_
  have nd := (sc__law_mixed).nd
  have hu : (A.deeper (envOfC "_law_mixed" (defScope s__law_mixed) s.heap.objs.size f cdv)).units + 64 < cLine := hr.units
  unfold m__law_mixed
  exact (s_cons (s_set 0 nd (c_op co_add (c_op co_add (c_op co_mod (c_var 0) c_int) (c_op co_mul c_int (c_var 1))) c_int)) (s_one (s_ret (c_op co_mod (c_op co_mul (c_op co_mod (c_op co_mul (c_var 0) (c_var 0)) c_int) c_int) c_int))))
abbrev s__law_draw : Stmt := topS 18
abbrev N__law_draw : List Str := ["_law_cell", "_law_k", "_law_first", "_law_more"]
theorem sc__law_draw : FnScope N__law_draw ["_law_cell", "_law_k"] (defScope s__law_draw) := ⟨rfl, rfl, rfl, by decide +kernel, rfl, by decide +kernel, by decide +kernel⟩
set_option maxHeartbeats 0 in
theorem ok__law_draw (F : Fun K "_law_draw" "_law_draw" s__law_draw f fd) (bg : ∀ x, x ∈ blts → mg x = none) (c__law_mixed : Cal P w K mg base k "_law_mixed" f__law_mixed) : FnOk P w K mg base CX0 (k + 1) f fd ["_law_cell", "_law_k"] (lF K f__law_draw) := by
  refine ok_def F sc__law_draw fun cdv A outer s H E hr => ?_
  have nd := (sc__law_draw).nd
  have hu : (A.deeper (envOfC "_law_draw" (defScope s__law_draw) s.heap.objs.size f cdv)).units + 64 < cLine := hr.units
  unfold m__law_draw
  exact (s_cons (s_set 2 nd (c_call c__law_mixed hr (a_cons (c_var 0) (a_cons (c_var 1) a_nil)))) (s_cons (s_set 3 nd (c_op co_add (c_op co_add (c_op co_mul (c_call c__law_mixed hr (a_cons (c_var 2) (a_cons (c_op co_add (c_var 1) c_int) a_nil))) (c_op co_pow c_int c_int)) (c_op co_mul (c_call c__law_mixed hr (a_cons (c_var 2) (a_cons (c_op co_add (c_var 1) c_int) a_nil))) c_int)) (c_var 2))) (s_one (s_ret (c_dict (p_cons c_str (c_if (t_cmp co_ge (c_var 0) (c_op co_pow c_int c_int)) (c_var 0) (c_var 3)) (p_cons c_str (c_if (t_cmp co_ge (c_var 0) (c_op co_pow c_int c_int)) (c_var 3) c_int) p_nil)))))))
abbrev s__law_digit : Stmt := topS 19
abbrev N__law_digit : List Str := ["_law_state", "_law_many", "_law_found"]
theorem sc__law_digit : FnScope N__law_digit ["_law_state", "_law_many"] (defScope s__law_digit) := ⟨rfl, rfl, rfl, by decide +kernel, rfl, by decide +kernel, by decide +kernel⟩
set_option maxHeartbeats 0 in
theorem ok__law_digit (F : Fun K "_law_digit" "_law_digit" s__law_digit f fd) (bg : ∀ x, x ∈ blts → mg x = none) : FnOk P w K mg base CX0 (k + 1) f fd ["_law_state", "_law_many"] (lF K f__law_digit) := by
  refine ok_def F sc__law_digit fun cdv A outer s H E hr => ?_
  have nd := (sc__law_digit).nd
  have hu : (A.deeper (envOfC "_law_digit" (defScope s__law_digit) s.heap.objs.size f cdv)).units + 64 < cLine := hr.units
  unfold m__law_digit
  exact (s_cons (s_if (t_cmp (co_eq hu) (c_sub hu (c_var 0) c_str) c_int) (s_one (s_asg (c_tup (a_cons (c_sub hu (c_var 0) c_str) (a_cons c_int a_nil))) (g_tup rfl (gs_cons (g_sub hu (c_var 0) c_str) (gs_cons (g_sub hu (c_var 0) c_str) gs_nil)) (gsl_cons (gsl_cons gsl_nil))))) s_nil) (s_cons (s_set 2 nd (c_op co_mod (c_sub hu (c_var 0) c_str) (c_var 1))) (s_cons (s_asg (c_op co_fdiv (c_sub hu (c_var 0) c_str) (c_var 1)) (g_sub hu (c_var 0) c_str)) (s_one (s_ret (c_var 2))))))
abbrev s__law_word : Stmt := topS 20
abbrev N__law_word : List Str := ["_law_state", "_law_signs", "_law_k"]
theorem sc__law_word : FnScope N__law_word ["_law_state", "_law_signs"] (defScope s__law_word) := ⟨rfl, rfl, rfl, by decide +kernel, rfl, by decide +kernel, by decide +kernel⟩
set_option maxHeartbeats 0 in
theorem ok__law_word (F : Fun K "_law_word" "_law_word" s__law_word f fd) (bg : ∀ x, x ∈ blts → mg x = none) (c__law_digit : Cal P w K mg base k "_law_digit" f__law_digit) : FnOk P w K mg base CX0 (k + 1) f fd ["_law_state", "_law_signs"] (lF K f__law_word) := by
  refine ok_def F sc__law_word fun cdv A outer s H E hr => ?_
  have nd := (sc__law_word).nd
  have hu : (A.deeper (envOfC "_law_word" (defScope s__law_word) s.heap.objs.size f cdv)).units + 64 < cLine := hr.units
  unfold m__law_word
  exact (s_one (s_ret (c_meth PySem.F.plainAttrs_str PySem.F.slot_str_join PySem.F.type_str_join cm_join c_str (a_cons (c_lcv rfl nd (i_range1 (bg "range" (by decide)) (a_cons (c_call c__law_digit hr (a_cons (c_var 0) (a_cons c_int a_nil))) a_nil)) (blkOk_by (own := [("_law_k", 2)]) (N := N__law_word) (sc := defScope s__law_word) (by decide +kernel)) (by decide) (fun _ _ _ _ _ => (g_name 2 nd)) (fun _ _ _ _ _ => ts_nil) (fun _ _ _ _ _ => (c_sub hu (c_var 1) (c_call c__law_digit hr (a_cons (c_var 0) (a_cons (c_callB cb_len (bg "len" (by decide)) (by decide +kernel) (a_cons (c_var 1) a_nil)) a_nil)))))) a_nil))))
abbrev s__law_number : Stmt := topS 21
abbrev N__law_number : List Str := ["_law_word_here", "_law_figures", "_law_others", "_law_found", "_law_letter"]
theorem sc__law_number : FnScope N__law_number ["_law_word_here"] (defScope s__law_number) := ⟨rfl, rfl, rfl, by decide +kernel, rfl, by decide +kernel, by decide +kernel⟩
set_option maxHeartbeats 0 in
theorem ok__law_number (F : Fun K "_law_number" "_law_number" s__law_number f fd) (bg : ∀ x, x ∈ blts → mg x = none) : FnOk P w K mg base CX0 (k + 1) f fd ["_law_word_here"] (lF K f__law_number) := by
  refine ok_def F sc__law_number fun cdv A outer s H E hr => ?_
  have nd := (sc__law_number).nd
  have hu : (A.deeper (envOfC "_law_number" (defScope s__law_number) s.heap.objs.size f cdv)).units + 64 < cLine := hr.units
  unfold m__law_number
  exact (s_cons (s_set 1 nd (c_if (t_cmp (co_eq hu) (c_slice (c_var 0) o_none (o_some c_int)) c_str) (c_slice (c_var 0) (o_some c_int) o_none) (c_var 0))) (s_cons (s_setLcv 2 rfl nd (i_seq (c_var 1)) (blkOk_by (own := [("_law_letter", 4)]) (N := N__law_number) (sc := defScope s__law_number) (by decide +kernel)) (by decide) (fun _ _ _ _ _ => (g_name 4 nd)) (fun _ _ _ _ _ => (ts_one (t_cmp (co_notIn hu) (c_var 4) c_str (by rfl)))) (fun _ _ _ _ _ => (c_var 4)) (sw_true rfl rfl rfl (by decide +kernel))) (s_cons (s_if (CW.pt (t_or (t_not (t_chain co_le co_le c_int (c_callB cb_len (bg "len" (by decide)) (by decide +kernel) (a_cons (c_var 1) a_nil)) c_int)) (t_or (t_cmp (co_ne hu) (c_var 2) (c_lst a_nil)) (t_or1 (CW.pt (t_and (t_cmp (co_eq hu) (c_sub hu (c_var 1) c_int) c_str) (t_and1 (t_cmp (co_ne hu) (c_var 0) c_str)))))))) (s_one (s_ret c_non)) s_nil) (s_cons (s_set 3 nd c_int) (s_cons (s_for PassesOwn.never rfl (i_seq (c_var 1)) (g_name 4 nd) (s_one (s_set 3 nd (c_op co_add (c_op co_mul (c_var 3) c_int) (c_meth PySem.F.plainAttrs_str PySem.F.slot_str_index PySem.F.type_str_index cm_index c_str (a_cons (c_var 4) a_nil)))))) (s_one (s_ret (c_if (t_cmp (co_eq hu) (c_var 1) (c_var 0)) (c_var 3) (c_op co_sub c_int (c_var 3))))))))))
abbrev s_number_of : Stmt := topS 14
abbrev N_number_of : List Str := ["word", "plain", "sign"]
theorem sc_number_of : FnScope N_number_of ["word"] (defScope s_number_of) := ⟨rfl, rfl, rfl, by decide +kernel, rfl, by decide +kernel, by decide +kernel⟩
set_option maxHeartbeats 0 in
theorem ok_number_of (F : Fun K "number_of" "number_of" s_number_of f fd) (bg : ∀ x, x ∈ blts → mg x = none) (k_MOST_FIGURES : Kon K mg "MOST_FIGURES" d_MOST_FIGURES) (k_FIGURES : Kon K mg "FIGURES" d_FIGURES) : FnOk P w K mg base CX0 (k + 1) f fd ["word"] (lF K f_number_of) := by
  refine ok_def F sc_number_of fun cdv A outer s H E hr => ?_
  have nd := (sc_number_of).nd
  have hu : (A.deeper (envOfC "number_of" (defScope s_number_of) s.heap.objs.size f cdv)).units + 64 < cLine := hr.units
  unfold m_number_of
  exact (s_cons (s_if (t_not (t_tru (c_callB cb_isi (bg "isinstance" (by decide)) (by decide +kernel) (a_cons (c_var 0) (a_cons (c_bty (bg "str" (by decide)) (by decide +kernel)) a_nil))))) (s_one (s_ret c_non)) s_nil) (s_cons (s_set 1 nd (c_if (t_tru (c_meth PySem.F.plainAttrs_str PySem.F.slot_str_startswith PySem.F.type_str_startswith cm_startswith (c_var 0) (a_cons c_str a_nil))) (c_slice (c_var 0) (o_some c_int) o_none) (c_var 0))) (s_cons (s_if (CW.pt (t_or (t_not (t_chain co_le co_le c_int (c_callB cb_len (bg "len" (by decide)) (by decide +kernel) (a_cons (c_var 1) a_nil)) (c_glob k_MOST_FIGURES))) (t_or1 (t_not (t_tru (c_callB (cb_all rfl) (bg "all" (by decide)) (by decide +kernel) (a_cons (c_lcv rfl nd (i_seq (c_var 1)) (blkOk_by (own := [("sign", 2)]) (N := N_number_of) (sc := defScope s_number_of) (by decide +kernel)) (by decide) (fun _ _ _ _ _ => (g_name 2 nd)) (fun _ _ _ _ _ => ts_nil) (fun _ _ _ _ _ => (c_cmp (co_in hu) (c_var 2) (c_glob k_FIGURES) (by rfl)))) a_nil))))))) (s_one (s_ret c_non)) s_nil) (s_cons (s_if (CW.pt (t_and (t_cmp (co_eq hu) (c_sub hu (c_var 1) c_int) c_str) (t_and1 (t_cmp (co_ne hu) (c_var 0) c_str)))) (s_one (s_ret c_non)) s_nil) (s_one (s_ret (c_callTy cb_int (bg "int" (by decide)) (by decide +kernel) (a_cons (c_var 0) a_nil))))))))
abbrev s_is_name : Stmt := topS 13
abbrev N_is_name : List Str := ["thing", "sign"]
theorem sc_is_name : FnScope N_is_name ["thing"] (defScope s_is_name) := ⟨rfl, rfl, rfl, by decide +kernel, rfl, by decide +kernel, by decide +kernel⟩
set_option maxHeartbeats 0 in
theorem ok_is_name (F : Fun K "is_name" "is_name" s_is_name f fd) (bg : ∀ x, x ∈ blts → mg x = none) (k_MOST_LETTERS : Kon K mg "MOST_LETTERS" d_MOST_LETTERS) (k_LETTERS : Kon K mg "LETTERS" d_LETTERS) : FnOk P w K mg base CX0 (k + 1) f fd ["thing"] (lF K f_is_name) := by
  refine ok_def F sc_is_name fun cdv A outer s H E hr => ?_
  have nd := (sc_is_name).nd
  have hu : (A.deeper (envOfC "is_name" (defScope s_is_name) s.heap.objs.size f cdv)).units + 64 < cLine := hr.units
  unfold m_is_name
  exact (s_cons (s_if (CW.pt (t_or (t_not (t_tru (c_callB cb_isi (bg "isinstance" (by decide)) (by decide +kernel) (a_cons (c_var 0) (a_cons (c_bty (bg "str" (by decide)) (by decide +kernel)) a_nil))))) (t_or1 (t_not (t_chain co_le co_le c_int (c_callB cb_len (bg "len" (by decide)) (by decide +kernel) (a_cons (c_var 0) a_nil)) (c_glob k_MOST_LETTERS)))))) (s_one (s_ret c_bl)) s_nil) (s_one (s_ret (c_callB (cb_all rfl) (bg "all" (by decide)) (by decide +kernel) (a_cons (c_lcv rfl nd (i_seq (c_var 0)) (blkOk_by (own := [("sign", 1)]) (N := N_is_name) (sc := defScope s_is_name) (by decide +kernel)) (by decide) (fun _ _ _ _ _ => (g_name 1 nd)) (fun _ _ _ _ _ => ts_nil) (fun _ _ _ _ _ => (c_cmp (co_in hu) (c_var 1) (c_glob k_LETTERS) (by rfl)))) a_nil)))))
abbrev s__law_one : Stmt := topS 22
abbrev N__law_one : List Str := ["_law_word_here", "_law_letters", "_law_due", "_law_found", "_law_letter"]
theorem sc__law_one : FnScope N__law_one ["_law_word_here"] (defScope s__law_one) := ⟨rfl, rfl, rfl, by decide +kernel, rfl, by decide +kernel, by decide +kernel⟩
set_option maxHeartbeats 0 in
theorem ok__law_one (F : Fun K "_law_one" "_law_one" s__law_one f fd) (bg : ∀ x, x ∈ blts → mg x = none) (c__law_number : Cal P w K mg base k "_law_number" f__law_number) (c_number_of : Cal P w K mg base k "number_of" f_number_of) (c_is_name : Cal P w K mg base k "is_name" f_is_name) : FnOk P w K mg base CX0 (k + 1) f fd ["_law_word_here"] (lF K f__law_one) := by
  refine ok_def F sc__law_one fun cdv A outer s H E hr => ?_
  have nd := (sc__law_one).nd
  have hu : (A.deeper (envOfC "_law_one" (defScope s__law_one) s.heap.objs.size f cdv)).units + 64 < cLine := hr.units
  unfold m__law_one
  exact (s_cons (s_setLcv 1 rfl nd (i_seq (c_var 0)) (blkOk_by (own := [("_law_letter", 4)]) (N := N__law_one) (sc := defScope s__law_one) (by decide +kernel)) (by decide) (fun _ _ _ _ _ => (g_name 4 nd)) (fun _ _ _ _ _ => (ts_one (t_cmp (co_in hu) (c_var 4) c_str (by rfl)))) (fun _ _ _ _ _ => (c_var 4)) (sw_true rfl rfl rfl (by decide +kernel))) (s_cons (s_set 2 nd (c_call c__law_number hr (a_cons (c_var 0) a_nil))) (s_cons (s_set 3 nd (c_call c_number_of hr (a_cons (c_var 0) a_nil))) (s_cons (s_if (CW.pt (t_or (t_tru (c_callB cb_isi (bg "isinstance" (by decide)) (by decide +kernel) (a_cons (c_var 3) (a_cons (c_bty (bg "bool" (by decide)) (by decide +kernel)) a_nil)))) (t_or (t_cmp (co_ne hu) (c_var 3) (c_var 2)) (t_or1 (t_cmp (co_ne hu) (c_cmp co_is (c_var 3) c_non) (c_cmp co_is (c_var 2) c_non)))))) (s_one (s_ret c_bl)) s_nil) (s_one (s_ret (c_cmp (co_eq hu) (c_call c_is_name hr (a_cons (c_var 0) a_nil)) (c_and (c_cmp (co_eq hu) (c_callB cb_len (bg "len" (by decide)) (by decide +kernel) (a_cons (c_var 1) a_nil)) (c_callB cb_len (bg "len" (by decide)) (by decide +kernel) (a_cons (c_var 0) a_nil))) (c_one (c_chain co_le co_le c_int (c_callB cb_len (bg "len" (by decide)) (by decide +kernel) (a_cons (c_var 0) a_nil)) c_int))))))))))
abbrev s_common_divisor : Stmt := topS 2
abbrev N_common_divisor : List Str := ["one", "other"]
theorem sc_common_divisor : FnScope N_common_divisor ["one", "other"] (defScope s_common_divisor) := ⟨rfl, rfl, rfl, by decide +kernel, rfl, by decide +kernel, by decide +kernel⟩
set_option maxHeartbeats 0 in
theorem ok_common_divisor (F : Fun K "common_divisor" "common_divisor" s_common_divisor f fd) (bg : ∀ x, x ∈ blts → mg x = none) : FnOk P w K mg base CX0 (k + 1) f fd ["one", "other"] (lF K f_common_divisor) := by
  refine ok_def F sc_common_divisor fun cdv A outer s H E hr => ?_
  have nd := (sc_common_divisor).nd
  have hu : (A.deeper (envOfC "common_divisor" (defScope s_common_divisor) s.heap.objs.size f cdv)).units + 64 < cLine := hr.units
  unfold m_common_divisor
  exact (s_cons (s_par 0 1 rfl nd (a_cons (c_callB cb_abs (bg "abs" (by decide)) (by decide +kernel) (a_cons (c_var 0) a_nil)) (a_cons (c_callB cb_abs (bg "abs" (by decide)) (by decide +kernel) (a_cons (c_var 1) a_nil)) a_nil))) (s_cons (s_while PassesOwn.never (t_cmp co_gt (c_var 1) c_int) (s_one (s_par 0 1 rfl nd (a_cons (c_var 1) (a_cons (c_op co_mod (c_var 0) (c_var 1)) a_nil))))) (s_one (s_ret (c_var 0)))))
abbrev s__law_divided : Stmt := topS 23
abbrev N__law_divided : List Str := ["_law_one_here", "_law_other", "_law_found", "_law_first", "_law_second"]
theorem sc__law_divided : FnScope N__law_divided ["_law_one_here", "_law_other"] (defScope s__law_divided) := ⟨rfl, rfl, rfl, by decide +kernel, rfl, by decide +kernel, by decide +kernel⟩
set_option maxHeartbeats 0 in
theorem ok__law_divided (F : Fun K "_law_divided" "_law_divided" s__law_divided f fd) (bg : ∀ x, x ∈ blts → mg x = none) (c_common_divisor : Cal P w K mg base k "common_divisor" f_common_divisor) : FnOk P w K mg base CX0 (k + 1) f fd ["_law_one_here", "_law_other"] (lF K f__law_divided) := by
  refine ok_def F sc__law_divided fun cdv A outer s H E hr => ?_
  have nd := (sc__law_divided).nd
  have hu : (A.deeper (envOfC "_law_divided" (defScope s__law_divided) s.heap.objs.size f cdv)).units + 64 < cLine := hr.units
  unfold m__law_divided
  exact (s_cons (s_set 2 nd (c_call c_common_divisor hr (a_cons (c_var 0) (a_cons (c_var 1) a_nil)))) (s_cons (s_if (CW.pt (t_or (t_cmp (co_ne hu) (c_var 2) (c_call c_common_divisor hr (a_cons (c_var 1) (a_cons (c_var 0) a_nil)))) (t_or (t_cmp (co_ne hu) (c_var 2) (c_call c_common_divisor hr (a_cons (c_op co_sub c_int (c_var 0)) (a_cons (c_var 1) a_nil)))) (t_or1 (t_cmp co_lt (c_var 2) c_int))))) (s_one (s_ret c_bl)) s_nil) (s_cons (s_if (t_tru (c_callB cb_isi (bg "isinstance" (by decide)) (by decide +kernel) (a_cons (c_var 2) (a_cons (c_bty (bg "bool" (by decide)) (by decide +kernel)) a_nil)))) (s_one (s_ret c_bl)) s_nil) (s_cons (s_if (t_cmp (co_eq hu) (c_tup (a_cons (c_var 0) (a_cons (c_var 1) a_nil))) (c_tup (a_cons c_int (a_cons c_int a_nil)))) (s_one (s_ret (c_cmp (co_eq hu) (c_var 2) c_int))) s_nil) (s_cons (s_if (CW.pt (t_or (t_cmp (co_eq hu) (c_var 2) c_int) (t_or (t_cmp (co_ne hu) (c_op co_mod (c_var 0) (c_var 2)) c_int) (t_or1 (t_cmp (co_ne hu) (c_op co_mod (c_var 1) (c_var 2)) c_int))))) (s_one (s_ret c_bl)) s_nil) (s_cons (s_par 3 4 rfl nd (a_cons (c_callB cb_abs (bg "abs" (by decide)) (by decide +kernel) (a_cons (c_op co_fdiv (c_var 0) (c_var 2)) a_nil)) (a_cons (c_callB cb_abs (bg "abs" (by decide)) (by decide +kernel) (a_cons (c_op co_fdiv (c_var 1) (c_var 2)) a_nil)) a_nil))) (s_cons (s_while PassesOwn.never (t_cmp co_gt (c_var 4) c_int) (s_one (s_par 3 4 rfl nd (a_cons (c_var 4) (a_cons (c_op co_mod (c_var 3) (c_var 4)) a_nil))))) (s_one (s_ret (c_cmp (co_eq hu) (c_var 3) c_int))))))))))
abbrev s_whole_root : Stmt := topS 3
abbrev N_whole_root : List Str := ["number", "low", "high", "middle"]
theorem sc_whole_root : FnScope N_whole_root ["number"] (defScope s_whole_root) := ⟨rfl, rfl, rfl, by decide +kernel, rfl, by decide +kernel, by decide +kernel⟩
set_option maxHeartbeats 0 in
theorem ok_whole_root (F : Fun K "whole_root" "whole_root" s_whole_root f fd) (bg : ∀ x, x ∈ blts → mg x = none) : FnOk P w K mg base CX0 (k + 1) f fd ["number"] (lF K f_whole_root) := by
  refine ok_def F sc_whole_root fun cdv A outer s H E hr => ?_
  have nd := (sc_whole_root).nd
  have hu : (A.deeper (envOfC "whole_root" (defScope s_whole_root) s.heap.objs.size f cdv)).units + 64 < cLine := hr.units
  unfold m_whole_root
  exact (s_cons (s_set 1 nd c_int) (s_cons (s_set 2 nd c_int) (s_cons (s_while PassesOwn.never (t_cmp co_le (c_op co_mul (c_var 2) (c_var 2)) (c_var 0)) (s_one (s_set 2 nd (c_op co_mul (c_var 2) c_int)))) (s_cons (s_while PassesOwn.never (t_cmp co_gt (c_op co_sub (c_var 2) (c_var 1)) c_int) (s_cons (s_set 3 nd (c_op co_fdiv (c_op co_add (c_var 1) (c_var 2)) c_int)) (s_one (s_if (t_cmp co_le (c_op co_mul (c_var 3) (c_var 3)) (c_var 0)) (s_one (s_set 1 nd (c_var 3))) (s_one (s_set 2 nd (c_var 3))))))) (s_one (s_ret (c_var 1)))))))
abbrev s_is_square : Stmt := topS 4
abbrev N_is_square : List Str := ["number"]
theorem sc_is_square : FnScope N_is_square ["number"] (defScope s_is_square) := ⟨rfl, rfl, rfl, by decide +kernel, rfl, by decide +kernel, by decide +kernel⟩
set_option maxHeartbeats 0 in
theorem ok_is_square (F : Fun K "is_square" "is_square" s_is_square f fd) (bg : ∀ x, x ∈ blts → mg x = none) (c_whole_root : Cal P w K mg base k "whole_root" f_whole_root) : FnOk P w K mg base CX0 (k + 1) f fd ["number"] (lF K f_is_square) := by
  refine ok_def F sc_is_square fun cdv A outer s H E hr => ?_
  have nd := (sc_is_square).nd
  have hu : (A.deeper (envOfC "is_square" (defScope s_is_square) s.heap.objs.size f cdv)).units + 64 < cLine := hr.units
  unfold m_is_square
  exact (s_one (s_ret (c_and (c_cmp co_ge (c_var 0) c_int) (c_one (c_cmp (co_eq hu) (c_op co_mul (c_call c_whole_root hr (a_cons (c_var 0) a_nil)) (c_call c_whole_root hr (a_cons (c_var 0) a_nil))) (c_var 0))))))
abbrev s__law_rooted : Stmt := topS 24
abbrev N__law_rooted : List Str := ["_law_number_here", "_law_root", "_law_good"]
theorem sc__law_rooted : FnScope N__law_rooted ["_law_number_here"] (defScope s__law_rooted) := ⟨rfl, rfl, rfl, by decide +kernel, rfl, by decide +kernel, by decide +kernel⟩
set_option maxHeartbeats 0 in
theorem ok__law_rooted (F : Fun K "_law_rooted" "_law_rooted" s__law_rooted f fd) (bg : ∀ x, x ∈ blts → mg x = none) (c_whole_root : Cal P w K mg base k "whole_root" f_whole_root) (c_is_square : Cal P w K mg base k "is_square" f_is_square) : FnOk P w K mg base CX0 (k + 1) f fd ["_law_number_here"] (lF K f__law_rooted) := by
  refine ok_def F sc__law_rooted fun cdv A outer s H E hr => ?_
  have nd := (sc__law_rooted).nd
  have hu : (A.deeper (envOfC "_law_rooted" (defScope s__law_rooted) s.heap.objs.size f cdv)).units + 64 < cLine := hr.units
  unfold m__law_rooted
  exact (s_cons (s_set 1 nd (c_call c_whole_root hr (a_cons (c_var 0) a_nil))) (s_cons (s_set 2 nd (c_and (c_cmp co_ge (c_var 1) c_int) (c_and (c_chain co_le co_lt (c_op co_mul (c_var 1) (c_var 1)) (c_var 0) (c_op co_mul (c_op co_add (c_var 1) c_int) (c_op co_add (c_var 1) c_int))) (c_one (c_not (c_callB cb_isi (bg "isinstance" (by decide)) (by decide +kernel) (a_cons (c_var 1) (a_cons (c_bty (bg "bool" (by decide)) (by decide +kernel)) a_nil)))))))) (s_one (s_ret (c_and (c_var 2) (c_and (c_cmp (co_eq hu) (c_call c_is_square hr (a_cons (c_var 0) a_nil)) (c_cmp (co_eq hu) (c_op co_mul (c_var 1) (c_var 1)) (c_var 0))) (c_one (c_cmp co_is (c_call c_is_square hr (a_cons (c_op co_sub (c_op co_sub c_int c_int) (c_var 0)) a_nil)) c_bl))))))))
abbrev s_sign_of : Stmt := topS 1
abbrev N_sign_of : List Str := ["number"]
theorem sc_sign_of : FnScope N_sign_of ["number"] (defScope s_sign_of) := ⟨rfl, rfl, rfl, by decide +kernel, rfl, by decide +kernel, by decide +kernel⟩
set_option maxHeartbeats 0 in
theorem ok_sign_of (F : Fun K "sign_of" "sign_of" s_sign_of f fd) (bg : ∀ x, x ∈ blts → mg x = none) : FnOk P w K mg base CX0 (k + 1) f fd ["number"] (lF K f_sign_of) := by
  refine ok_def F sc_sign_of fun cdv A outer s H E hr => ?_
  have nd := (sc_sign_of).nd
  have hu : (A.deeper (envOfC "sign_of" (defScope s_sign_of) s.heap.objs.size f cdv)).units + 64 < cLine := hr.units
  unfold m_sign_of
  exact (s_one (s_ret (c_op co_sub (c_callTy cb_int (bg "int" (by decide)) (by decide +kernel) (a_cons (c_cmp co_gt (c_var 0) c_int) a_nil)) (c_callTy cb_int (bg "int" (by decide)) (by decide +kernel) (a_cons (c_cmp co_lt (c_var 0) c_int) a_nil)))))
abbrev s_words_of : Stmt := topS 15
abbrev N_words_of : List Str := ["row", "found"]
theorem sc_words_of : FnScope N_words_of ["row"] (defScope s_words_of) := ⟨rfl, rfl, rfl, by decide +kernel, rfl, by decide +kernel, by decide +kernel⟩
set_option maxHeartbeats 0 in
theorem ok_words_of (F : Fun K "words_of" "words_of" s_words_of f fd) (bg : ∀ x, x ∈ blts → mg x = none) : FnOk P w K mg base CX0 (k + 1) f fd ["row"] (lF K f_words_of) := by
  refine ok_def F sc_words_of fun cdv A outer s H E hr => ?_
  have nd := (sc_words_of).nd
  have hu : (A.deeper (envOfC "words_of" (defScope s_words_of) s.heap.objs.size f cdv)).units + 64 < cLine := hr.units
  unfold m_words_of
  exact (s_cons (s_if (t_not (t_tru (c_callB cb_isi (bg "isinstance" (by decide)) (by decide +kernel) (a_cons (c_var 0) (a_cons (c_bty (bg "str" (by decide)) (by decide +kernel)) a_nil))))) (s_one (s_ret c_non)) s_nil) (s_cons (s_set 1 nd (c_meth PySem.F.plainAttrs_str PySem.F.slot_str_split PySem.F.type_str_split cm_split (c_var 0) (a_cons c_str a_nil))) (s_cons (s_if (t_cmp (co_in hu) c_str (c_var 1) (by rfl)) (s_one (s_ret c_non)) s_nil) (s_one (s_ret (c_var 1))))))
abbrev s_is_whole : Stmt := topS 11
abbrev N_is_whole : List Str := ["thing"]
theorem sc_is_whole : FnScope N_is_whole ["thing"] (defScope s_is_whole) := ⟨rfl, rfl, rfl, by decide +kernel, rfl, by decide +kernel, by decide +kernel⟩
set_option maxHeartbeats 0 in
theorem ok_is_whole (F : Fun K "is_whole" "is_whole" s_is_whole f fd) (bg : ∀ x, x ∈ blts → mg x = none) : FnOk P w K mg base CX0 (k + 1) f fd ["thing"] (lF K f_is_whole) := by
  refine ok_def F sc_is_whole fun cdv A outer s H E hr => ?_
  have nd := (sc_is_whole).nd
  have hu : (A.deeper (envOfC "is_whole" (defScope s_is_whole) s.heap.objs.size f cdv)).units + 64 < cLine := hr.units
  unfold m_is_whole
  exact (s_one (s_ret (c_and (c_callB cb_isi (bg "isinstance" (by decide)) (by decide +kernel) (a_cons (c_var 0) (a_cons (c_bty (bg "int" (by decide)) (by decide +kernel)) a_nil))) (c_one (c_not (c_callB cb_isi (bg "isinstance" (by decide)) (by decide +kernel) (a_cons (c_var 0) (a_cons (c_bty (bg "bool" (by decide)) (by decide +kernel)) a_nil))))))))
abbrev s_is_among : Stmt := topS 12
abbrev N_is_among : List Str := ["thing", "least", "most"]
theorem sc_is_among : FnScope N_is_among ["thing", "least", "most"] (defScope s_is_among) := ⟨rfl, rfl, rfl, by decide +kernel, rfl, by decide +kernel, by decide +kernel⟩
set_option maxHeartbeats 0 in
theorem ok_is_among (F : Fun K "is_among" "is_among" s_is_among f fd) (bg : ∀ x, x ∈ blts → mg x = none) (c_is_whole : Cal P w K mg base k "is_whole" f_is_whole) : FnOk P w K mg base CX0 (k + 1) f fd ["thing", "least", "most"] (lF K f_is_among) := by
  refine ok_def F sc_is_among fun cdv A outer s H E hr => ?_
  have nd := (sc_is_among).nd
  have hu : (A.deeper (envOfC "is_among" (defScope s_is_among) s.heap.objs.size f cdv)).units + 64 < cLine := hr.units
  unfold m_is_among
  exact (s_one (s_ret (c_and (c_call c_is_whole hr (a_cons (c_var 0) a_nil)) (c_one (c_chain co_le co_le (c_var 1) (c_var 0) (c_var 2))))))
abbrev s_is_number : Stmt := topS 5
abbrev N_is_number : List Str := ["thing"]
theorem sc_is_number : FnScope N_is_number ["thing"] (defScope s_is_number) := ⟨rfl, rfl, rfl, by decide +kernel, rfl, by decide +kernel, by decide +kernel⟩
set_option maxHeartbeats 0 in
theorem ok_is_number (F : Fun K "is_number" "is_number" s_is_number f fd) (bg : ∀ x, x ∈ blts → mg x = none) : FnOk P w K mg base CX0 (k + 1) f fd ["thing"] (lF K f_is_number) := by
  refine ok_def F sc_is_number fun cdv A outer s H E hr => ?_
  have nd := (sc_is_number).nd
  have hu : (A.deeper (envOfC "is_number" (defScope s_is_number) s.heap.objs.size f cdv)).units + 64 < cLine := hr.units
  unfold m_is_number
  exact (s_one (s_ret (c_and (c_callB cb_isi (bg "isinstance" (by decide)) (by decide +kernel) (a_cons (c_var 0) (a_cons (c_bty (bg "int" (by decide)) (by decide +kernel)) a_nil))) (c_one (c_not (c_callB cb_isi (bg "isinstance" (by decide)) (by decide +kernel) (a_cons (c_var 0) (a_cons (c_bty (bg "bool" (by decide)) (by decide +kernel)) a_nil))))))))
abbrev s__law_row : Stmt := topS 25
abbrev N__law_row : List Str := ["_law_words", "_law_number_here", "_law_row_here", "_law_again", "_law_found", "_law_at", "_law_parts"]
theorem sc__law_row : FnScope N__law_row ["_law_words", "_law_number_here"] (defScope s__law_row) := ⟨rfl, rfl, rfl, by decide +kernel, rfl, by decide +kernel, by decide +kernel⟩
set_option maxHeartbeats 0 in
theorem ok__law_row (F : Fun K "_law_row" "_law_row" s__law_row f fd) (bg : ∀ x, x ∈ blts → mg x = none) (c_words_of : Cal P w K mg base k "words_of" f_words_of) : FnOk P w K mg base CX0 (k + 1) f fd ["_law_words", "_law_number_here"] (lF K f__law_row) := by
  refine ok_def F sc__law_row fun cdv A outer s H E hr => ?_
  have nd := (sc__law_row).nd
  have hu : (A.deeper (envOfC "_law_row" (defScope s__law_row) s.heap.objs.size f cdv)).units + 64 < cLine := hr.units
  unfold m__law_row
  exact (s_cons (s_set 2 nd (c_meth PySem.F.plainAttrs_str PySem.F.slot_str_join PySem.F.type_str_join cm_join c_str (a_cons (c_var 0) a_nil))) (s_cons (s_for PassesOwn.never rfl (i_range1 (bg "range" (by decide)) (a_cons c_int a_nil)) (g_name 3 nd) (s_cons (s_set 4 nd (c_call c_words_of hr (a_cons (c_var 2) a_nil))) (s_cons (s_if (CW.pt (t_or (t_not (t_tru (c_callB cb_isi (bg "isinstance" (by decide)) (by decide +kernel) (a_cons (c_var 4) (a_cons (c_bty (bg "list" (by decide)) (by decide +kernel)) a_nil))))) (t_or1 (t_cmp (co_ne hu) (c_var 4) (c_var 0))))) (s_one (s_ret c_bl)) s_nil) (s_one (s_expr (c_meth PySem.F.plainAttrs_list PySem.F.slot_list_append PySem.F.type_list_append cm_append (c_var 4) (a_cons c_str a_nil))))))) (s_cons (s_set 5 nd (c_op co_mod (c_var 1) (c_op co_add (c_callB cb_len (bg "len" (by decide)) (by decide +kernel) (a_cons (c_var 2) a_nil)) c_int))) (s_cons (s_set 6 nd (c_meth PySem.F.plainAttrs_str PySem.F.slot_str_split PySem.F.type_str_split cm_split (c_op co_add (c_op co_add (c_slice (c_var 2) o_none (o_some (c_var 5))) c_str) (c_slice (c_var 2) (o_some (c_var 5)) o_none)) (a_cons c_str a_nil))) (s_one (s_ret (c_cmp (co_eq hu) (c_call c_words_of hr (a_cons (c_op co_add (c_op co_add (c_slice (c_var 2) o_none (o_some (c_var 5))) c_str) (c_slice (c_var 2) (o_some (c_var 5)) o_none)) a_nil)) (c_if (t_cmp (co_in hu) c_str (c_var 6) (by rfl)) c_non (c_var 6)))))))))
abbrev s_law : Stmt := topS 26
abbrev N_law : List Str := ["_law_script", "_law_words", "_law_k", "_law_cell", "_law_state", "_law_signs", "_law_word_here", "_law_small", "_law_great", "_law_long", "_law_one_here", "_law_other", "_law_odd", "_law_due", "_law_found"]
theorem sc_law : FnScope N_law ["_law_script"] (defScope s_law) := ⟨rfl, rfl, rfl, by decide +kernel, rfl, by decide +kernel, by decide +kernel⟩
set_option maxHeartbeats 0 in
theorem ok_law {A : Around} (hA : A.guards = some []) (F : Fun K "law" "law" s_law f fd) (bg : ∀ x, x ∈ blts → mg x = none) (c__law_draw : Cal P w K mg base k "_law_draw" f__law_draw) (c__law_digit : Cal P w K mg base k "_law_digit" f__law_digit) (c__law_word : Cal P w K mg base k "_law_word" f__law_word) (c__law_one : Cal P w K mg base k "_law_one" f__law_one) (c__law_divided : Cal P w K mg base k "_law_divided" f__law_divided) (c__law_rooted : Cal P w K mg base k "_law_rooted" f__law_rooted) (c_sign_of : Cal P w K mg base k "sign_of" f_sign_of) (c_number_of : Cal P w K mg base k "number_of" f_number_of) (c_words_of : Cal P w K mg base k "words_of" f_words_of) (c_is_name : Cal P w K mg base k "is_name" f_is_name) (c_is_among : Cal P w K mg base k "is_among" f_is_among) (c_is_number : Cal P w K mg base k "is_number" f_is_number) (c_is_whole : Cal P w K mg base k "is_whole" f_is_whole) (c__law_mixed : Cal P w K mg base k "_law_mixed" f__law_mixed) (c__law_row : Cal P w K mg base k "_law_row" f__law_row) : FnAt A P w K mg base (k + 1) f fd ["_law_script"] (lF K f_law) := by
  refine at_def F sc_law fun cdv outer s H E hr => ?_
  have nd := (sc_law).nd
  have hu : (A.deeper (envOfC "law" (defScope s_law) s.heap.objs.size f cdv)).units + 64 < cLine := hr.units
  have hg : (A.deeper (envOfC "law" (defScope s_law) s.heap.objs.size f cdv)).guards = some [] := hA
  unfold m_law
  exact (s_cons (s_set 1 nd (c_lst a_nil)) (s_cons (s_for PassesOwn.never rfl (i_enumV (bg "enumerate" (by decide)) (a_cons (c_op co_add (c_slice (c_var 0) o_none (o_some c_int)) (c_lst (a_cons (c_callB (cb_sum rfl) (bg "sum" (by decide)) (by decide +kernel) (a_cons (c_var 0) a_nil)) a_nil))) a_nil)) (g_tup rfl (gs_cons (g_name 2 nd) (gs_cons (g_name 3 nd) gs_nil)) (gsl_cons (gsl_cons gsl_nil))) (s_cons (s_set 4 nd (c_call c__law_draw hr (a_cons (c_var 3) (a_cons (c_var 2) a_nil)))) (s_cons (s_set 5 nd (c_sub hu (c_lst (a_cons c_str (a_cons c_str (a_cons c_str (a_cons c_str a_nil))))) (c_call c__law_digit hr (a_cons (c_var 4) (a_cons c_int a_nil))))) (s_cons (s_set 6 nd (c_call c__law_word hr (a_cons (c_var 4) (a_cons (c_var 5) a_nil)))) (s_cons (s_par 7 8 rfl nd (a_cons (c_op co_sub (c_call c__law_digit hr (a_cons (c_var 4) (a_cons c_int a_nil))) c_int) (a_cons (c_op co_mod (c_var 3) (c_op co_pow c_int c_int)) a_nil))) (s_cons (s_set 9 nd (c_op co_add c_str (c_op co_mulS c_str (c_op co_add c_int (c_call c__law_digit hr (a_cons (c_var 4) (a_cons c_int a_nil))))))) (s_cons (s_for PassesOwn.never rfl (i_seq (c_lst (a_cons (c_var 6) (a_cons (c_op co_add c_str (c_var 6)) (a_cons (c_callTy cb_str (bg "str" (by decide)) (by decide +kernel) (a_cons (c_var 7) a_nil)) (a_cons (c_callTy cb_str (bg "str" (by decide)) (by decide +kernel) (a_cons (c_var 8) a_nil)) (a_cons (c_var 9) (a_cons (c_op co_add c_str (c_var 9)) (a_cons (c_op co_add c_str (c_callTy cb_str (bg "str" (by decide)) (by decide +kernel) (a_cons (c_var 8) a_nil))) (a_cons (c_op co_mulS c_str c_int) a_nil)))))))))) (g_name 10 nd) (s_one (s_if (t_not (t_tru (c_call c__law_one hr (a_cons (c_var 10) a_nil)))) (s_one (s_ret c_bl)) s_nil))) (s_cons (s_set 11 nd (c_op co_mul (c_var 7) (c_op co_sub (c_call c__law_digit hr (a_cons (c_var 4) (a_cons c_int a_nil))) c_int))) (s_cons (s_if (CW.pt (t_or (t_not (t_tru (c_call c__law_divided hr (a_cons (c_var 8) (a_cons (c_var 11) a_nil))))) (t_or1 (t_not (t_tru (c_call c__law_divided hr (a_cons (c_op co_mul (c_var 7) (c_var 8)) (a_cons (c_op co_mul (c_var 8) (c_var 11)) a_nil)))))))) (s_one (s_ret c_bl)) s_nil) (s_cons (s_if (CW.pt (t_or (t_not (t_tru (c_call c__law_rooted hr (a_cons (c_var 8) a_nil)))) (t_or (t_not (t_tru (c_call c__law_rooted hr (a_cons (c_op co_mul (c_var 8) (c_var 8)) a_nil)))) (t_or1 (t_not (t_tru (c_call c__law_rooted hr (a_cons (c_op co_add (c_op co_add (c_op co_mul (c_var 8) (c_var 8)) (c_op co_mod (c_var 8) c_int)) c_int) a_nil)))))))) (s_one (s_ret c_bl)) s_nil) (s_cons (s_if (t_cmp (co_ne hu) (c_lst (a_cons (c_call c_sign_of hr (a_cons (c_var 7) a_nil)) (a_cons (c_call c_sign_of hr (a_cons (c_op co_sub (c_op co_sub c_int (c_var 8)) c_int) a_nil)) a_nil))) (c_lst (a_cons (c_op co_sub (c_callTy cb_int (bg "int" (by decide)) (by decide +kernel) (a_cons (c_cmp co_gt (c_var 7) c_int) a_nil)) (c_callTy cb_int (bg "int" (by decide)) (by decide +kernel) (a_cons (c_cmp co_lt (c_var 7) c_int) a_nil))) (a_cons (c_neg c_int) a_nil)))) (s_one (s_ret c_bl)) s_nil) (s_cons (s_set 1 nd (c_op co_add (c_var 1) (c_lst (a_cons (c_addRepl (c_var 6)) a_nil)))) (s_cons (s_set 12 nd (c_sub hu (c_lst (a_cons c_non (a_cons c_bl (a_cons c_int (a_cons (c_lst a_nil) (a_cons (c_lst (a_cons c_str a_nil)) (a_cons c_dict0 (a_cons (c_tup (a_cons c_str a_nil)) (a_cons (c_neg c_int) a_nil))))))))) (c_op co_mod (c_var 3) c_int))) (s_cons (s_if (CW.pt (t_or (t_cmp co_isNot (c_call c_number_of hr (a_cons (c_var 12) a_nil)) c_non) (t_or (t_cmp co_isNot (c_call c_words_of hr (a_cons (c_var 12) a_nil)) c_non) (t_or1 (t_cmp co_isNot (c_call c_is_name hr (a_cons (c_var 12) a_nil)) c_bl))))) (s_one (s_ret c_bl)) s_nil) (s_cons (s_set 13 nd (c_cmp (co_in hu) (c_op co_mod (c_var 3) c_int) (c_tup (a_cons c_int (a_cons c_int a_nil))) (by rfl))) (s_cons (s_if (t_cmp (co_ne hu) (c_callB (cb_repr hg hu) (bg "repr" (by decide)) (by decide +kernel) (a_cons (c_lst (a_cons (c_call c_is_whole hr (a_cons (c_var 12) a_nil)) (a_cons (c_call c_is_number hr (a_cons (c_var 12) a_nil)) (a_cons (c_call c_is_among hr (a_cons (c_var 12) (a_cons (c_neg c_int) (a_cons c_int a_nil)))) a_nil)))) a_nil)) (c_callB (cb_repr hg hu) (bg "repr" (by decide)) (by decide +kernel) (a_cons (c_lst (a_cons (c_var 13) (a_cons (c_var 13) (a_cons (c_var 13) a_nil)))) a_nil))) (s_one (s_ret c_bl)) s_nil) (s_one (s_if (t_tru (c_call c_is_among hr (a_cons (c_var 12) (a_cons (c_neg c_int) (a_cons c_int a_nil))))) (s_one (s_ret c_bl)) s_nil)))))))))))))))))) (s_cons (s_set 14 nd (c_lst (a_cons (c_call c_is_name hr (a_cons c_str a_nil)) (a_cons (c_call c_is_whole hr (a_cons c_int a_nil)) (a_cons (c_call c_is_among hr (a_cons c_int (a_cons c_int (a_cons c_int a_nil)))) (a_cons (c_call c_is_number hr (a_cons c_int a_nil)) (a_cons (c_call c_is_name hr (a_cons c_str a_nil)) (a_cons (c_call c_is_among hr (a_cons c_int (a_cons c_int (a_cons c_int a_nil)))) a_nil)))))))) (s_cons (s_if (t_cmp (co_ne hu) (c_callB (cb_repr hg hu) (bg "repr" (by decide)) (by decide +kernel) (a_cons (c_var 14) a_nil)) c_str) (s_one (s_ret c_bl)) s_nil) (s_cons (s_if (CW.pt (t_or (t_not (t_tru (c_call c__law_rooted hr (a_cons c_int a_nil)))) (t_or (t_not (t_tru (c_call c__law_rooted hr (a_cons c_int a_nil)))) (t_or (t_not (t_tru (c_call c__law_divided hr (a_cons c_int (a_cons c_int a_nil))))) (t_or1 (t_not (t_tru (c_call c__law_divided hr (a_cons c_int (a_cons c_int a_nil)))))))))) (s_one (s_ret c_bl)) s_nil) (s_one (s_ret (c_and (c_cmp co_is (c_call c_words_of hr (a_cons c_str a_nil)) c_non) (c_one (c_call c__law_row hr (a_cons (c_var 1) (a_cons (c_call c__law_mixed hr (a_cons (c_callB (cb_sum rfl) (bg "sum" (by decide)) (by decide +kernel) (a_cons (c_var 0) a_nil)) (a_cons c_int a_nil))) a_nil))))))))))))
end
end K01
namespace SL
open PySem PySem.Spec PyProof.Rows L2
/-! ### loops, one turn at a time -/
section
variable {t : MT} {m : MS} {ρ ρ1 ρ2 : Rho} {h h1 h2 : Hs} {src : Src} {g : GG} {d : D} {i : Nat} {mi : MI} {tt : MT} {te : ME} {vs : List Nat} {acc : List D}
noncomputable def whK2 (t : MT) (m : MS) (r : Out × Rho) (h : Hs) : Option ((Out × Rho) × Hs) := match r with
  | (.nx, ρ2) => sWh t m ρ2 h
  | (.ct, ρ2) => sWh t m ρ2 h
  | (.bk, ρ2) => some ((.nx, ρ2), h)
  | (.rt d, ρ2) => some ((.rt d, ρ2), h)
noncomputable def whK (t : MT) (m : MS) (ρ : Rho) (k : Bool) (h : Hs) : Option ((Out × Rho) × Hs) := if k = true then bd (m ρ h) (whK2 t m) else some ((.nx, ρ), h)
theorem wh_eq : sWh t m ρ h = bd (t ρ h) (whK t m ρ) := by
  unfold sWh
  rw [itW_eq]
  unfold whStep
  simp only
  cases z : t ρ h with
  | none => rfl
  | some r =>
    obtain ⟨k, h1⟩ := r
    cases k with
    | false => rfl
    | true =>
      simp only [bd_ok, whK, if_true]
      cases z2 : m ρ h1 with
      | none => rfl
      | some r =>
        obtain ⟨⟨o, ρ2⟩, h2⟩ := r
        cases o <;> rfl
theorem ev_whT : whK t m ρ true h = bd (m ρ h) (whK2 t m) := rfl
theorem ev_whF : whK t m ρ false h = some ((.nx, ρ), h) := rfl
theorem ev_whD {p : Prop} [Decidable p] : whK t m ρ (decide p) h = if p then bd (m ρ h) (whK2 t m) else some ((.nx, ρ), h) := by unfold whK; by_cases q : p <;> simp [q]
theorem ev_wh2 : whK2 t m (.nx, ρ) h = sWh t m ρ h := rfl
theorem ev_wh2c : whK2 t m (.ct, ρ) h = sWh t m ρ h := rfl
theorem ev_wh2r : whK2 t m (.rt d, ρ) h = some ((.rt d, ρ), h) := rfl
theorem ev_wh2b : whK2 t m (.bk, ρ) h = some ((.nx, ρ), h) := rfl
noncomputable def frW (src : Src) (g : GG) (m : MS) (i : Nat) (ρ : Rho) (h : Hs) : Option ((Out × Rho) × Hs) := itW (frStep src g m) (i, ρ, h)
noncomputable def frK2 (src : Src) (g : GG) (m : MS) (i : Nat) (r : Out × Rho) (h : Hs) : Option ((Out × Rho) × Hs) := match r with
  | (.nx, ρ2) => frW src g m (i + 1) ρ2 h
  | (.ct, ρ2) => frW src g m (i + 1) ρ2 h
  | (.bk, ρ2) => some ((.nx, ρ2), h)
  | (.rt d, ρ2) => some ((.rt d, ρ2), h)
noncomputable def frK1 (src : Src) (g : GG) (m : MS) (i : Nat) (ρ : Rho) (h : Hs) : Option ((Out × Rho) × Hs) := bd (m ρ h) (frK2 src g m i)
noncomputable def forK (g : GG) (m : MS) (ρ : Rho) (src : Src) (h : Hs) : Option ((Out × Rho) × Hs) := frW src g m 0 ρ h
theorem ev_for : sFor mi g m ρ h = bd (mi ρ h) (forK g m ρ) := by
  unfold sFor
  cases mi ρ h with
  | none => rfl
  | some p => rfl
theorem ev_forK : forK g m ρ src h = frW src g m 0 ρ h := rfl
theorem fr_end (e : src i h = some none) : frW src g m i ρ h = some ((.nx, ρ), h) := by
  unfold frW
  rw [itW_eq]
  unfold frStep
  simp only [e]
theorem fr_turn (e : src i h = some (some d)) : frW src g m i ρ h = bd (g d ρ h) (frK1 src g m i) := by
  unfold frW
  rw [itW_eq]
  unfold frStep
  simp only [e]
  cases z : g d ρ h with
  | none => rfl
  | some r =>
    obtain ⟨ρ1, h1⟩ := r
    simp only [bd_ok, frK1]
    cases z2 : m ρ1 h1 with
    | none => rfl
    | some r =>
      obtain ⟨⟨o, ρ2⟩, h2⟩ := r
      cases o <;> rfl
theorem ev_fr1 : frK1 src g m i ρ h = bd (m ρ h) (frK2 src g m i) := rfl
theorem ev_fr2 : frK2 src g m i (.nx, ρ) h = frW src g m (i + 1) ρ h := rfl
theorem ev_fr2c : frK2 src g m i (.ct, ρ) h = frW src g m (i + 1) ρ h := rfl
theorem ev_fr2r : frK2 src g m i (.rt d, ρ) h = some ((.rt d, ρ), h) := rfl
theorem ev_fr2b : frK2 src g m i (.bk, ρ) h = some ((.nx, ρ), h) := rfl
/-! comprehensions -/
noncomputable def lcW (src : Src) (g : GG) (tt : MT) (te : ME) (ρ : Rho) (i : Nat) (acc : List D) (h : Hs) : Option (List D × Hs) := itW (lcStep src g tt te ρ) (i, acc, h)
noncomputable def lcK (g : GG) (tt : MT) (te : ME) (vs : List Nat) (ρ : Rho) (src : Src) (h : Hs) : Option (D × Hs) := bd (lcW src g tt te (wipeR ρ vs) 0 [] h) lstK
theorem ev_lc : eLc mi g tt te vs ρ h = bd (mi ρ h) (lcK g tt te vs ρ) := by
  unfold eLc
  cases mi ρ h with
  | none => rfl
  | some p =>
    obtain ⟨src, h1⟩ := p
    simp only [bd_ok, lcK, lcW]
    cases itW (lcStep src g tt te (wipeR ρ vs)) (0, [], h1) with
    | none => rfl
    | some q => rfl
theorem ev_lcK : lcK g tt te vs ρ src h = bd (lcW src g tt te (wipeR ρ vs) 0 [] h) lstK := rfl
noncomputable def lcK3 (src : Src) (g : GG) (tt : MT) (te : ME) (ρ : Rho) (i : Nat) (acc : List D) (y : D) (h : Hs) : Option (List D × Hs) := if acc.length < sizeLine then lcW src g tt te ρ (i + 1) (acc ++ [y]) h else none
noncomputable def lcK2 (src : Src) (g : GG) (tt : MT) (te : ME) (ρ : Rho) (i : Nat) (acc : List D) (ρ1 : Rho) (k : Bool) (h : Hs) : Option (List D × Hs) := if k = true then bd (te ρ1 h) (lcK3 src g tt te ρ i acc) else lcW src g tt te ρ (i + 1) acc h
noncomputable def lcK1 (src : Src) (g : GG) (tt : MT) (te : ME) (ρ : Rho) (i : Nat) (acc : List D) (ρ1 : Rho) (h : Hs) : Option (List D × Hs) := bd (tt ρ1 h) (lcK2 src g tt te ρ i acc ρ1)
theorem lc_end (e : src i h = some none) : lcW src g tt te ρ i acc h = some (acc, h) := by
  unfold lcW
  rw [itW_eq]
  unfold lcStep
  simp only [e]
theorem lc_turn (e : src i h = some (some d)) : lcW src g tt te ρ i acc h = bd (g d ρ h) (lcK1 src g tt te ρ i acc) := by
  unfold lcW
  rw [itW_eq]
  unfold lcStep
  simp only [e]
  cases z : g d ρ h with
  | none => rfl
  | some r =>
    obtain ⟨ρ1, h1⟩ := r
    simp only [bd_ok, lcK1]
    cases z2 : tt ρ1 h1 with
    | none => rfl
    | some r =>
      obtain ⟨k, h2⟩ := r
      cases k with
      | false => rfl
      | true =>
        simp only [bd_ok, lcK2, if_true]
        cases z3 : te ρ1 h2 with
        | none => rfl
        | some r =>
          obtain ⟨y, h3⟩ := r
          simp only [bd_ok, lcK3]
          by_cases c : acc.length < sizeLine
          · simp only [if_pos c]; rfl
          · simp only [if_neg c]
theorem ev_lc1 : lcK1 src g tt te ρ i acc ρ1 h = bd (tt ρ1 h) (lcK2 src g tt te ρ i acc ρ1) := rfl
theorem ev_lc2T : lcK2 src g tt te ρ i acc ρ1 true h = bd (te ρ1 h) (lcK3 src g tt te ρ i acc) := rfl
theorem ev_lc2F : lcK2 src g tt te ρ i acc ρ1 false h = lcW src g tt te ρ (i + 1) acc h := rfl
theorem ev_lc2D {p : Prop} [Decidable p] : lcK2 src g tt te ρ i acc ρ1 (decide p) h = if p then bd (te ρ1 h) (lcK3 src g tt te ρ i acc) else lcW src g tt te ρ (i + 1) acc h := by unfold lcK2; by_cases q : p <;> simp [q]
theorem ev_lc3 (c : acc.length < sizeLine) : lcK3 src g tt te ρ i acc d h = lcW src g tt te ρ (i + 1) (acc ++ [d]) h := if_pos c
theorem ev_yes : tYes1 ρ h = some (true, h) := rfl
/-! sources -/
variable {ds : List D} {lo : Int} {n : Nat}
theorem srcR_in (l : i < n) : srcR lo n i h = some (some (.int (lo + (i : Nat)))) := by unfold srcR; rw [if_pos l]
theorem srcR_out (l : n ≤ i) : srcR lo n i h = some none := by unfold srcR; rw [if_neg (Nat.not_lt.mpr l)]
theorem srcL_in (g : getL h n = some ds) (e : ds[i]? = some d) : srcL n i h = some (some d) := by unfold srcL; rw [g]; exact congrArg some e
theorem srcL_out (g : getL h n = some ds) (l : ds.length ≤ i) : srcL n i h = some none := by unfold srcL; rw [g]; exact congrArg some (List.getElem?_eq_none l)
theorem srcE_in (g : getL h n = some ds) (e : ds[i]? = some d) : srcE n i h = some (some (.tup [.int (i : Nat), d])) := by unfold srcE; rw [g]; simp [e]
theorem srcE_out (g : getL h n = some ds) (l : ds.length ≤ i) : srcE n i h = some none := by unfold srcE; rw [g]; simp [List.getElem?_eq_none l]
variable {ma : ME} {mx : MA} {z : Str}
def seqK (d : D) (h1 : Hs) : Option (Src × Hs) := match d with
  | .ref n => match getL h1 n with
    | some _ => some (srcL n, h1)
    | none => none
  | .tup ds => some (srcT ds, h1)
  | .str z => some (srcS z, h1)
  | _ => none
theorem ev_iSeq : iSeq ma ρ h = bd (ma ρ h) seqK := rfl
theorem ev_seqT : seqK (.tup ds) h = some (srcT ds, h) := rfl
theorem ev_seqS : seqK (.str z) h = some (srcS z, h) := rfl
theorem ev_seqL (e : getL h n = some ds) : seqK (.ref n) h = some (srcL n, h) := by
  show (match getL h n with | some _ => some (srcL n, h) | none => none) = _
  rw [e]
def rangeK (ds : List D) (h1 : Hs) : Option (Src × Hs) := match ds with
  | [.int j] => if inRg j = true then some (srcR 0 j.toNat, h1) else none
  | [.int i, .int j] => if inRg i = true ∧ inRg j = true then some (srcR i (j - i).toNat, h1) else none
  | [.int i, .int j, .int c] => if c ≠ 0 ∧ c.natAbs < 1073741824 ∧ Builtin.Range.small i j c = true ∧ 0 ≤ Builtin.Range.rangeSize i j c then some (srcC i c (Builtin.Range.rangeSize i j c).toNat, h1) else none
  | _ => none
theorem ev_iRange : iRange mx ρ h = bd (mx ρ h) rangeK := rfl
theorem ev_range1 {j : Int} (h0 : -(2 ^ 62) ≤ j) (h9 : j < 2 ^ 62) : rangeK [.int j] h = some (srcR 0 j.toNat, h) := by
  show (if inRg j = true then _ else _) = _
  rw [if_pos (by unfold inRg; rw [decide_eq_true h0, decide_eq_true h9]; rfl)]
def enumK (ds : List D) (h1 : Hs) : Option (Src × Hs) := match ds with
  | [.ref n] => match getL h1 n with
    | some _ => some (srcE n, h1)
    | none => none
  | _ => none
theorem ev_iEnum : iEnumD mx ρ h = bd (mx ρ h) enumK := rfl
def zipK (ds : List D) (h1 : Hs) : Option (Src × Hs) := match ds with
  | [.ref n, .ref k] => match getL h1 n, getL h1 k with
    | some _, some _ => some (srcZ n k, h1)
    | _, _ => none
  | [.tup ds, .tup es] => some (srcZT ds es, h1)
  | _ => none
theorem ev_iZip : iZipD mx ρ h = bd (mx ρ h) zipK := rfl
theorem ev_neIS {i : Int} {z : Str} : neG (.int i) (.str z) h = some (.bl true, h) := rfl
theorem ev_eqIS {i : Int} {z : Str} : eqG (.int i) (.str z) h = some (.bl false, h) := rfl
theorem ev_neSS {y z : Str} : neG (.str y) (.str z) h = some (.bl (!decide (y = z)), h) := by
  show some (D.bl (!(y == z)), h) = _
  rw [Bool.beq_eq_decide_eq]
theorem ev_eqSS {y z : Str} : eqG (.str y) (.str z) h = some (.bl (decide (y = z)), h) := by
  show some (D.bl (y == z), h) = _
  rw [Bool.beq_eq_decide_eq]
theorem ev_isN : isG d .non h = some (.bl (isNonD d), h) := by cases d <;> rfl
theorem ev_isNot : isNotG d .non h = some (.bl (!isNonD d), h) := by cases d <;> rfl
theorem isNon_t {ds : List D} : isNonD (.tup ds) = false := rfl
theorem isNon_n : isNonD .non = true := rfl
theorem isNon_i {j : Int} : isNonD (.int j) = false := rfl
theorem isNon_r {j : Nat} : isNonD (.ref j) = false := rfl
end
end SL
namespace RR
/-! ### the real numbers, as rows of fractions -/
def IsC (f : Nat → Rat) : Prop := ∀ e : Rat, 0 < e → ∃ N : Nat, ∀ m n, N ≤ m → N ≤ n → f m - f n < e
structure CS where
  f : Nat → Rat
  c : IsC f
def Le (x y : Nat → Rat) : Prop := ∀ e : Rat, 0 < e → ∃ N : Nat, ∀ n, N ≤ n → x n - y n < e
theorem half_pos {e : Rat} (h : 0 < e) : 0 < e / 2 := by grind
theorem Le.rfl' {x : Nat → Rat} : Le x x := fun e h => ⟨0, fun n _ => by grind⟩
theorem Le.trans' {x y z : Nat → Rat} (a : Le x y) (b : Le y z) : Le x z := fun e h => by
  obtain ⟨N, p⟩ := a (e / 2) (half_pos h)
  obtain ⟨M, q⟩ := b (e / 2) (half_pos h)
  refine ⟨max N M, fun n l => ?_⟩
  have := p n (Nat.le_trans (Nat.le_max_left _ _) l)
  have := q n (Nat.le_trans (Nat.le_max_right _ _) l)
  grind
instance st : Setoid CS where
  r x y := Le x.f y.f ∧ Le y.f x.f
  iseqv := ⟨fun x => ⟨Le.rfl', Le.rfl'⟩, fun h => ⟨h.2, h.1⟩, fun a b => ⟨a.1.trans' b.1, b.2.trans' a.2⟩⟩
theorem isC_const (q : Rat) : IsC fun _ => q := fun e h => ⟨0, fun m n _ _ => by grind⟩
theorem isC_add {f g : Nat → Rat} (a : IsC f) (b : IsC g) : IsC fun n => f n + g n := fun e h => by
  obtain ⟨N, p⟩ := a (e / 2) (half_pos h)
  obtain ⟨M, q⟩ := b (e / 2) (half_pos h)
  refine ⟨max N M, fun m n l l' => ?_⟩
  have := p m n (Nat.le_trans (Nat.le_max_left _ _) l) (Nat.le_trans (Nat.le_max_left _ _) l')
  have := q m n (Nat.le_trans (Nat.le_max_right _ _) l) (Nat.le_trans (Nat.le_max_right _ _) l')
  grind
theorem isC_neg {f : Nat → Rat} (a : IsC f) : IsC fun n => - f n := fun e h => by
  obtain ⟨N, p⟩ := a e h
  refine ⟨N, fun m n l l' => ?_⟩
  have := p n m l' l
  grind
theorem bound_upto (f : Nat → Rat) : ∀ N : Nat, ∃ B : Rat, 0 < B ∧ ∀ n, n < N → f n < B ∧ -B < f n
  | 0 => ⟨1, by decide, fun n h => absurd h (Nat.not_lt_zero n)⟩
  | N + 1 => by
    obtain ⟨B, hB, h⟩ := bound_upto f N
    refine ⟨B + (if f N < 0 then - f N else f N) + 1, by split <;> grind, fun n l => ?_⟩
    by_cases q : n = N
    · subst q; split <;> grind
    · have := h n (by omega)
      split <;> grind
theorem isC_bound {f : Nat → Rat} (a : IsC f) : ∃ B : Rat, 0 < B ∧ ∀ n, f n < B ∧ -B < f n := by
  obtain ⟨N, p⟩ := a 1 (by decide)
  obtain ⟨B, hB, h⟩ := bound_upto f (N + 1)
  refine ⟨B + 1, by grind, fun n => ?_⟩
  by_cases q : n < N + 1
  · have := h n q; grind
  · have h1 := p n N (by omega) (Nat.le_refl _)
    have h2 := p N n (Nat.le_refl _) (by omega)
    have := h N (by omega)
    grind
theorem mul_small {a d B e : Rat} (hB : 0 < B) (h1 : a < B) (h2 : -B < a) (h3 : d < e) (h4 : -e < d) (he : 0 < e) : a * d < B * e ∧ -(B * e) < a * d := by
  have p1 : 0 < (B - a) * (e + d) := Rat.mul_pos (by grind) (by grind)
  have p2 : 0 < (B + a) * (e - d) := Rat.mul_pos (by grind) (by grind)
  have p3 : 0 < (B - a) * (e - d) := Rat.mul_pos (by grind) (by grind)
  have p4 : 0 < (B + a) * (e + d) := Rat.mul_pos (by grind) (by grind)
  constructor <;> grind
theorem div_posQ {a b : Rat} (ha : 0 < a) (hb : 0 < b) : 0 < a / b := by
  rw [Rat.div_def]
  exact Rat.mul_pos ha (Rat.inv_pos.mpr hb)
theorem div_mul_self {e B : Rat} (hB : 0 < B) : B * (e / B) = e := by grind
theorem isC_mul {f g : Nat → Rat} (a : IsC f) (b : IsC g) : IsC fun n => f n * g n := fun e h => by
  obtain ⟨B, hB, p⟩ := isC_bound a
  obtain ⟨C, hC, q⟩ := isC_bound b
  have h1 : 0 < e / 2 / B := div_posQ (half_pos h) hB
  have h2 : 0 < e / 2 / C := div_posQ (half_pos h) hC
  obtain ⟨N, u⟩ := a _ h2
  obtain ⟨M, v⟩ := b _ h1
  refine ⟨max N M, fun m n l l' => ?_⟩
  have u1 := u m n (by omega) (by omega)
  have u2 := u n m (by omega) (by omega)
  have v1 := v m n (by omega) (by omega)
  have v2 := v n m (by omega) (by omega)
  have s1 := mul_small hB (p m).1 (p m).2 (d := g m - g n) v1 (by grind) h1
  have s2 := mul_small hC (q n).1 (q n).2 (d := f m - f n) u1 (by grind) h2
  rw [div_mul_self hB] at s1
  rw [div_mul_self hC] at s2
  grind
theorem le_add {f g f' g' : Nat → Rat} (a : Le f f') (b : Le g g') : Le (fun n => f n + g n) (fun n => f' n + g' n) := fun e h => by
  obtain ⟨N, p⟩ := a (e / 2) (half_pos h)
  obtain ⟨M, q⟩ := b (e / 2) (half_pos h)
  refine ⟨max N M, fun n l => ?_⟩
  have := p n (by omega)
  have := q n (by omega)
  grind
theorem le_neg {f f' : Nat → Rat} (a : Le f f') : Le (fun n => - f' n) (fun n => - f n) := fun e h => by
  obtain ⟨N, p⟩ := a e h
  refine ⟨N, fun n l => ?_⟩
  have := p n l
  grind
theorem eq_mul {f g f' g' : Nat → Rat} (cf : IsC f) (cg' : IsC g') (a : Le f f') (a' : Le f' f) (b : Le g g') (b' : Le g' g) : Le (fun n => f n * g n) (fun n => f' n * g' n) := fun e h => by
  obtain ⟨B, hB, p⟩ := isC_bound cf
  obtain ⟨C, hC, q⟩ := isC_bound cg'
  have h1 : 0 < e / 2 / B := div_posQ (half_pos h) hB
  have h2 : 0 < e / 2 / C := div_posQ (half_pos h) hC
  obtain ⟨N1, u⟩ := a _ h2
  obtain ⟨N2, u'⟩ := a' _ h2
  obtain ⟨M1, v⟩ := b _ h1
  obtain ⟨M2, v'⟩ := b' _ h1
  refine ⟨max (max N1 N2) (max M1 M2), fun n l => ?_⟩
  have u1 := u n (by omega)
  have u2 := u' n (by omega)
  have v1 := v n (by omega)
  have v2 := v' n (by omega)
  have s1 := mul_small hB (p n).1 (p n).2 (d := g n - g' n) v1 (by grind) h1
  have s2 := mul_small hC (q n).1 (q n).2 (d := f n - f' n) u1 (by grind) h2
  rw [div_mul_self hB] at s1
  rw [div_mul_self hC] at s2
  grind
end RR
def RR.Rl : Type := Quotient RR.st
namespace RR
def of (q : Rat) : Rl := Quotient.mk st ⟨fun _ => q, isC_const q⟩
def addR : Rl → Rl → Rl := Quotient.lift₂ (fun x y => Quotient.mk st ⟨fun n => x.f n + y.f n, isC_add x.c y.c⟩) fun a b c d h k => Quotient.sound ⟨le_add h.1 k.1, le_add h.2 k.2⟩
def negR : Rl → Rl := Quotient.lift (fun x => Quotient.mk st ⟨fun n => - x.f n, isC_neg x.c⟩) fun a b h => Quotient.sound ⟨le_neg h.2, le_neg h.1⟩
def mulR : Rl → Rl → Rl := Quotient.lift₂ (fun x y => Quotient.mk st ⟨fun n => x.f n * y.f n, isC_mul x.c y.c⟩) fun a b c d h k => Quotient.sound ⟨eq_mul a.c d.c h.1 h.2 k.1 k.2, eq_mul c.c b.c h.2 h.1 k.2 k.1⟩
def leR : Rl → Rl → Prop := Quotient.lift₂ (fun x y => Le x.f y.f) fun a b c d h k => propext ⟨fun q => h.2.trans' (q.trans' k.1), fun q => h.1.trans' (q.trans' k.2)⟩
instance : Add Rl := ⟨addR⟩
instance : Neg Rl := ⟨negR⟩
instance : Mul Rl := ⟨mulR⟩
instance : Sub Rl := ⟨fun a b => a + -b⟩
instance : LE Rl := ⟨leR⟩
instance : LT Rl := ⟨fun a b => ¬ b ≤ a⟩
instance : NatCast Rl := ⟨fun n => of (n : Rat)⟩
instance : IntCast Rl := ⟨fun n => of (n : Rat)⟩
instance (n : Nat) : OfNat Rl n := ⟨of (n : Rat)⟩
instance : SMul Nat Rl := ⟨fun n a => (n : Rl) * a⟩
instance : SMul Int Rl := ⟨fun n a => (n : Rl) * a⟩
def powR (a : Rl) : Nat → Rl
  | 0 => 1
  | n + 1 => powR a n * a
instance : HPow Rl Nat Rl := ⟨powR⟩
theorem sound' {x y : CS} (h : ∀ n, x.f n = y.f n) : (Quotient.mk st x : Rl) = Quotient.mk st y := Quotient.sound ⟨fun e he => ⟨0, fun n _ => by rw [h n]; grind⟩, fun e he => ⟨0, fun n _ => by rw [h n]; grind⟩⟩
instance : Lean.Grind.CommRing Rl where
  natCast := inferInstance
  ofNat := inferInstance
  nsmul := inferInstance
  npow := inferInstance
  intCast := inferInstance
  zsmul := inferInstance
  add_zero a := by
    induction a using Quotient.ind
    exact sound' fun n => by show _ + ((0 : Nat) : Rat) = _; grind
  add_comm a b := by
    induction a using Quotient.ind
    induction b using Quotient.ind
    exact sound' fun n => by show _ + _ = _ + _; grind
  add_assoc a b c := by
    induction a using Quotient.ind
    induction b using Quotient.ind
    induction c using Quotient.ind
    exact sound' fun n => by show _ + _ + _ = _ + (_ + _); grind
  mul_assoc a b c := by
    induction a using Quotient.ind
    induction b using Quotient.ind
    induction c using Quotient.ind
    exact sound' fun n => by show _ * _ * _ = _ * (_ * _); grind
  mul_one a := by
    induction a using Quotient.ind
    exact sound' fun n => by show _ * ((1 : Nat) : Rat) = _; grind
  mul_comm a b := by
    induction a using Quotient.ind
    induction b using Quotient.ind
    exact sound' fun n => by show _ * _ = _ * _; grind
  left_distrib a b c := by
    induction a using Quotient.ind
    induction b using Quotient.ind
    induction c using Quotient.ind
    exact sound' fun n => by show _ * (_ + _) = _ * _ + _ * _; grind
  one_mul a := by
    induction a using Quotient.ind
    exact sound' fun n => by show ((1 : Nat) : Rat) * _ = _; grind
  right_distrib a b c := by
    induction a using Quotient.ind
    induction b using Quotient.ind
    induction c using Quotient.ind
    exact sound' fun n => by show (_ + _) * _ = _ * _ + _ * _; grind
  mul_zero a := by
    induction a using Quotient.ind
    exact sound' fun n => by show _ * ((0 : Nat) : Rat) = ((0 : Nat) : Rat); grind
  zero_mul a := by
    induction a using Quotient.ind
    exact sound' fun n => by show ((0 : Nat) : Rat) * _ = ((0 : Nat) : Rat); grind
  pow_zero a := rfl
  pow_succ a n := rfl
  ofNat_succ n := sound' fun _ => by show ((n + 1 : Nat) : Rat) = ((n : Nat) : Rat) + ((1 : Nat) : Rat); grind
  ofNat_eq_natCast n := rfl
  nsmul_eq_natCast_mul n a := rfl
  neg_add_cancel a := by
    induction a using Quotient.ind
    exact sound' fun n => by show - _ + _ = ((0 : Nat) : Rat); grind
  sub_eq_add_neg a b := rfl
  neg_zsmul n a := by
    induction a using Quotient.ind
    exact sound' fun k => by show ((-n : Int) : Rat) * _ = -(((n : Int) : Rat) * _); grind
  zsmul_natCast_eq_nsmul n a := by
    induction a using Quotient.ind
    exact sound' fun k => by show (((n : Nat) : Int) : Rat) * _ = ((n : Nat) : Rat) * _; rw [Rat.intCast_natCast]
  intCast_ofNat n := sound' fun _ => by show (((n : Nat) : Int) : Rat) = ((n : Nat) : Rat); rw [Rat.intCast_natCast]
  intCast_neg n := sound' fun _ => by show ((-n : Int) : Rat) = -((n : Int) : Rat); grind
theorem not_le_iff {x y : CS} : ¬ Le x.f y.f ↔ ∃ e : Rat, 0 < e ∧ ∃ N : Nat, ∀ n, N ≤ n → e < x.f n - y.f n := by
  constructor
  · intro h
    have h' : ∃ e : Rat, 0 < e ∧ ∀ N : Nat, ∃ n, N ≤ n ∧ ¬ x.f n - y.f n < e := by
      refine Classical.byContradiction fun q => h fun e he => ?_
      refine Classical.byContradiction fun q2 => q ⟨e, he, fun N => ?_⟩
      refine Classical.byContradiction fun q3 => q2 ⟨N, fun n l => ?_⟩
      refine Classical.byContradiction fun q4 => q3 ⟨n, l, q4⟩
    obtain ⟨e, he, p⟩ := h'
    have he4 : 0 < e / 4 := by grind
    obtain ⟨N, u⟩ := x.c _ he4
    obtain ⟨M, v⟩ := y.c _ he4
    refine ⟨e / 4, he4, max N M, fun n l => ?_⟩
    obtain ⟨m, lm, q⟩ := p (max N M)
    have := u m n (by omega) (by omega)
    have := v n m (by omega) (by omega)
    grind
  · rintro ⟨e, he, N, p⟩ q
    obtain ⟨M, q⟩ := q e he
    have := p (max N M) (by omega)
    have := q (max N M) (by omega)
    grind
instance : Std.IsLinearOrder Rl where
  le_refl a := by
    induction a using Quotient.ind
    exact Le.rfl'
  le_trans a b c := by
    induction a using Quotient.ind
    induction b using Quotient.ind
    induction c using Quotient.ind
    exact fun h k => Le.trans' h k
  le_antisymm a b := by
    induction a using Quotient.ind
    induction b using Quotient.ind
    exact fun h k => Quotient.sound ⟨h, k⟩
  le_total a b := by
    induction a using Quotient.ind with
    | _ x =>
    induction b using Quotient.ind with
    | _ y =>
    show Le x.f y.f ∨ Le y.f x.f
    by_cases q : Le x.f y.f
    · exact .inl q
    · obtain ⟨e, he, N, p⟩ := not_le_iff.mp q
      exact .inr fun e' he' => ⟨N, fun n l => by have := p n l; grind⟩
instance : Std.LawfulOrderLT Rl where
  lt_iff a b := by
    constructor
    · intro h
      exact ⟨(Std.IsLinearPreorder.le_total a b).resolve_right h, h⟩
    · exact fun h => h.2
theorem add_le_left (a b c : Rl) : a ≤ b ↔ a + c ≤ b + c := by
  induction a using Quotient.ind with
  | _ x =>
  induction b using Quotient.ind with
  | _ y =>
  induction c using Quotient.ind with
  | _ z =>
  show Le x.f y.f ↔ Le (fun n => x.f n + z.f n) (fun n => y.f n + z.f n)
  constructor
  · intro h e he
    obtain ⟨N, p⟩ := h e he
    exact ⟨N, fun n l => by have := p n l; grind⟩
  · intro h e he
    obtain ⟨N, p⟩ := h e he
    exact ⟨N, fun n l => by have := p n l; grind⟩
instance : Lean.Grind.OrderedAdd Rl := ⟨fun {a b} c => add_le_left a b c⟩
theorem mul_posR (a b : Rl) (ha : 0 < a) (hb : 0 < b) : 0 < a * b := by
  induction a using Quotient.ind with
  | _ x =>
  induction b using Quotient.ind with
  | _ y =>
  obtain ⟨e, he, N, p⟩ := (not_le_iff (x := x) (y := ⟨fun _ => ((0 : Nat) : Rat), isC_const _⟩)).mp ha
  obtain ⟨e', he', M, q⟩ := (not_le_iff (x := y) (y := ⟨fun _ => ((0 : Nat) : Rat), isC_const _⟩)).mp hb
  refine (not_le_iff (x := ⟨fun n => x.f n * y.f n, isC_mul x.c y.c⟩) (y := ⟨fun _ => ((0 : Nat) : Rat), isC_const _⟩)).mpr ⟨e * e', Rat.mul_pos he he', max N M, fun n l => ?_⟩
  have h1 := p n (by omega)
  have h2 := q n (by omega)
  simp only at h1 h2 ⊢
  have z : ((0 : Nat) : Rat) = 0 := rfl
  rw [z] at h1 h2 ⊢
  have h3 : 0 < (x.f n - e) * e' := Rat.mul_pos (by grind) he'
  have h4 : 0 < x.f n * (y.f n - e') := Rat.mul_pos (by grind) (by grind)
  grind
instance : Lean.Grind.OrderedRing Rl where
  zero_lt_one := by
    refine (not_le_iff (x := ⟨fun _ => ((1 : Nat) : Rat), isC_const _⟩) (y := ⟨fun _ => ((0 : Nat) : Rat), isC_const _⟩)).mpr ⟨1 / 2, by decide +kernel, 0, fun n _ => ?_⟩
    show (1 : Rat) / 2 < ((1 : Nat) : Rat) - ((0 : Nat) : Rat)
    decide +kernel
  mul_lt_mul_of_pos_left {a b c} h k := by
    have h1 : 0 < b - a := by grind
    have := mul_posR c (b - a) k h1
    rw [show c * (b - a) = c * b - c * a by grind] at this
    revert this
    generalize c * b = x
    generalize c * a = y
    intro this
    grind
  mul_lt_mul_of_pos_right {a b c} h k := by
    have h1 : 0 < b - a := by grind
    have := mul_posR (b - a) c h1 k
    rw [show (b - a) * c = b * c - a * c by grind] at this
    revert this
    generalize b * c = x
    generalize a * c = y
    intro this
    grind
/-! ### whole numbers and fractions among them -/
theorem of_add (a b : Rat) : of (a + b) = of a + of b := sound' fun _ => rfl
theorem of_mul (a b : Rat) : of (a * b) = of a * of b := sound' fun _ => rfl
theorem of_le {a b : Rat} : of a ≤ of b ↔ a ≤ b := by
  constructor
  · intro h
    refine Rat.not_lt.mp fun q => ?_
    obtain ⟨N, p⟩ := h (a - b) (by grind)
    have : a - b < a - b := p N (Nat.le_refl _)
    grind
  · intro h e he
    exact ⟨0, fun n _ => by show a - b < e; grind⟩
theorem of_lt {a b : Rat} : of a < of b ↔ a < b := by
  show ¬ of b ≤ of a ↔ _
  rw [of_le]
  exact Rat.not_le
theorem of_inj {a b : Rat} (h : of a = of b) : a = b := by
  have h1 : of a ≤ of b := by rw [h]; exact Std.IsPreorder.le_refl _
  have h2 : of b ≤ of a := by rw [h]; exact Std.IsPreorder.le_refl _
  have := of_le.mp h1
  have := of_le.mp h2
  grind
theorem cast_eq (i : Int) : (i : Rl) = of (i : Rat) := rfl
theorem cast_add (i j : Int) : ((i + j : Int) : Rl) = (i : Rl) + (j : Rl) := by
  rw [cast_eq, cast_eq, cast_eq, ← of_add, Rat.intCast_add]
theorem cast_mul (i j : Int) : ((i * j : Int) : Rl) = (i : Rl) * (j : Rl) := by
  rw [cast_eq, cast_eq, cast_eq, ← of_mul, Rat.intCast_mul]
theorem cast_neg (i : Int) : ((-i : Int) : Rl) = -(i : Rl) := Lean.Grind.Ring.intCast_neg i
theorem cast_sub (i j : Int) : ((i - j : Int) : Rl) = (i : Rl) - (j : Rl) := by
  rw [Int.sub_eq_add_neg, cast_add, cast_neg]; grind
theorem cast_lt {i j : Int} : (i : Rl) < (j : Rl) ↔ i < j := by
  rw [cast_eq, cast_eq, of_lt]; exact Rat.intCast_lt_intCast
theorem cast_le {i j : Int} : (i : Rl) ≤ (j : Rl) ↔ i ≤ j := by
  rw [cast_eq, cast_eq, of_le]; exact Rat.intCast_le_intCast
theorem cast_inj {i j : Int} (h : (i : Rl) = (j : Rl)) : i = j := by
  have := of_inj h
  exact Rat.intCast_inj.mp this
example (a b c : Rl) (h : a < b) (h2 : b ≤ c) : 2 * a + 1 < 2 * c + 1 := by grind
example (a b : Rl) (h : 0 < a) (h2 : a < b) : a * a < b * b := by
  have := mul_posR (b - a) (b + a) (by grind) (by grind)
  grind
end RR
namespace RR
/-! ### roots -/
theorem isq_ex : ∀ n : Nat, ∃ m : Nat, m * m ≤ n ∧ n < (m + 1) * (m + 1)
  | 0 => ⟨0, by decide, by decide⟩
  | n + 1 => by
    obtain ⟨m, a, b⟩ := isq_ex n
    by_cases q : n + 1 < (m + 1) * (m + 1)
    · exact ⟨m, by omega, q⟩
    · exact ⟨m + 1, by omega, by grind⟩
noncomputable def isq (n : Nat) : Nat := (isq_ex n).choose
theorem isq_le (n : Nat) : isq n * isq n ≤ n := (isq_ex n).choose_spec.1
theorem isq_lt (n : Nat) : n < (isq n + 1) * (isq n + 1) := (isq_ex n).choose_spec.2
theorem small_ex {e : Rat} (he : 0 < e) (C : Nat) : ∃ N : Nat, ∀ k : Nat, N ≤ k → (C : Rat) < e * ((k : Rat) + 1) := by
  refine ⟨C * e.den, fun k h => ?_⟩
  have h1 : (C : Rat) * e.den ≤ (k : Rat) := by
    rw [← Rat.natCast_mul]; exact Rat.natCast_le_natCast.mpr h
  have h2 : (1 : Rat) ≤ e * e.den := by
    have hd : e * e.den = (e.num : Rat) := by
      have h0 := Rat.mkRat_self e
      rw [Rat.mkRat_eq_div] at h0
      have hp : (e.den : Rat) ≠ 0 := by
        intro z
        exact e.den_nz (Rat.natCast_inj.mp (z.trans rfl))
      rw [← h0]; grind
    rw [hd]
    have : (1 : Int) ≤ e.num := by
      have h9 : 0 < e.num := by
        refine Int.not_le.mp fun z => ?_
        have hp : (0 : Rat) ≤ (e.den : Rat) := Rat.natCast_nonneg
        have h8 : (e.num : Rat) ≤ 0 := Rat.intCast_le_intCast.mpr z
        have hq : (0 : Rat) < (e.den : Rat) := by
          have := Rat.natCast_lt_natCast.mpr e.den_pos
          exact this
        have := Rat.mul_pos he hq
        grind
      omega
    exact Rat.intCast_le_intCast.mpr this
  have h3 : (0 : Rat) ≤ (C : Rat) := Rat.natCast_nonneg
  have h4 : 0 ≤ (e * e.den - 1) * (C : Rat) := Rat.mul_nonneg (by grind) h3
  have h5 : 0 ≤ e * ((k : Rat) - C * e.den) := Rat.mul_nonneg (by grind) (by grind)
  grind
noncomputable def sq (D k : Nat) : Rat := (isq (D * ((k + 1) * (k + 1))) : Rat) / ((k : Rat) + 1)
theorem kpos (k : Nat) : (0 : Rat) < (k : Rat) + 1 := by
  have : (0 : Rat) ≤ (k : Rat) := Rat.natCast_nonneg
  grind
theorem sq_nn (D k : Nat) : 0 ≤ sq D k := by
  unfold sq
  rw [Rat.div_def]
  exact Rat.mul_nonneg Rat.natCast_nonneg (by have := Rat.inv_pos.mpr (kpos k); grind)
theorem sq_mul (D k : Nat) : sq D k * ((k : Rat) + 1) = (isq (D * ((k + 1) * (k + 1))) : Rat) := by
  have := kpos k
  unfold sq
  grind
theorem cast_k (k : Nat) : ((k + 1 : Nat) : Rat) = (k : Rat) + 1 := by
  rw [Rat.natCast_add]; rfl
theorem sq_le (D k : Nat) : sq D k * sq D k ≤ (D : Rat) := by
  have h1 : ((isq (D * ((k + 1) * (k + 1))) * isq (D * ((k + 1) * (k + 1))) : Nat) : Rat) ≤ ((D * ((k + 1) * (k + 1)) : Nat) : Rat) := Rat.natCast_le_natCast.mpr (isq_le _)
  rw [Rat.natCast_mul, Rat.natCast_mul, Rat.natCast_mul, cast_k, ← sq_mul] at h1
  have h2 := kpos k
  have h3 : 0 < ((k : Rat) + 1) * ((k : Rat) + 1) := Rat.mul_pos h2 h2
  refine Rat.not_lt.mp fun q => ?_
  have := Rat.mul_pos (show 0 < sq D k * sq D k - D by grind) h3
  grind
theorem sq_gt (D k : Nat) : (D : Rat) * (((k : Rat) + 1) * ((k : Rat) + 1)) < (sq D k * ((k : Rat) + 1) + 1) * (sq D k * ((k : Rat) + 1) + 1) := by
  have h1 : ((D * ((k + 1) * (k + 1)) : Nat) : Rat) < (((isq (D * ((k + 1) * (k + 1))) + 1) * (isq (D * ((k + 1) * (k + 1))) + 1) : Nat) : Rat) := Rat.natCast_lt_natCast.mpr (isq_lt _)
  rw [Rat.natCast_mul, Rat.natCast_mul, Rat.natCast_mul, cast_k, cast_k, ← sq_mul] at h1
  exact h1
theorem sq_near (D k j : Nat) : (sq D k - sq D j) * ((j : Rat) + 1) < 1 := by
  refine Rat.not_le.mp fun q => ?_
  have hj := kpos j
  have h1 := sq_nn D k
  have h2 := sq_nn D j
  have h3 := sq_le D k
  have h4 := sq_gt D j
  have h5 : 0 ≤ sq D j * ((j : Rat) + 1) := Rat.mul_nonneg h2 (by grind)
  have h6 : 0 ≤ (sq D k * ((j : Rat) + 1) - (sq D j * ((j : Rat) + 1) + 1)) * (sq D k * ((j : Rat) + 1) + (sq D j * ((j : Rat) + 1) + 1)) :=
    Rat.mul_nonneg (by grind) (by have : 0 ≤ sq D k * ((j : Rat) + 1) := Rat.mul_nonneg h1 (by grind); grind)
  have h7 : 0 ≤ ((D : Rat) - sq D k * sq D k) * (((j : Rat) + 1) * ((j : Rat) + 1)) := Rat.mul_nonneg (by grind) (Rat.mul_nonneg (by grind) (by grind))
  grind
theorem sq_isC (D : Nat) : IsC (sq D) := fun e he => by
  obtain ⟨N, p⟩ := small_ex he 1
  refine ⟨N, fun m n _ l => ?_⟩
  have h1 := sq_near D m n
  have h2 := p n l
  have h3 := kpos n
  refine Rat.not_le.mp fun q => ?_
  have := Rat.mul_nonneg (show 0 ≤ sq D m - sq D n - e by grind) (show 0 ≤ (n : Rat) + 1 by grind)
  have h4 : ((1 : Nat) : Rat) = 1 := rfl
  grind
noncomputable def sqrtN (D : Nat) : Rl := Quotient.mk st ⟨sq D, sq_isC D⟩
theorem sqrtN_nn (D : Nat) : (0 : Rl) ≤ sqrtN D := fun e he => ⟨0, fun n _ => by
  have := sq_nn D n
  show ((0 : Nat) : Rat) - sq D n < e
  have z : ((0 : Nat) : Rat) = 0 := rfl
  rw [z]
  grind⟩
theorem sq_lt (D k : Nat) : sq D k < (D : Rat) + 1 := by
  refine Rat.not_le.mp fun q => ?_
  have h0 : (0 : Rat) ≤ (D : Rat) := Rat.natCast_nonneg
  have h3 := sq_le D k
  have := Rat.mul_nonneg (show 0 ≤ sq D k - (D + 1) by grind) (show 0 ≤ sq D k + (D + 1) by grind)
  have := Rat.mul_nonneg h0 h0
  grind
theorem sqrtN_sq (D : Nat) : sqrtN D * sqrtN D = (D : Rl) := by
  refine Quotient.sound ⟨fun e he => ⟨0, fun n _ => ?_⟩, fun e he => ?_⟩
  · have := sq_le D n
    show sq D n * sq D n - (D : Rat) < e
    grind
  · obtain ⟨N, p⟩ := small_ex he (2 * D + 3)
    refine ⟨N, fun n l => ?_⟩
    show (D : Rat) - sq D n * sq D n < e
    have h1 := p n l
    have h2 := sq_gt D n
    have h3 := sq_lt D n
    have h4 := kpos n
    have h5 : (0 : Rat) ≤ (n : Rat) := Rat.natCast_nonneg
    rw [Rat.natCast_add, Rat.natCast_mul, show ((2 : Nat) : Rat) = 2 from rfl, show ((3 : Nat) : Rat) = 3 from rfl] at h1
    refine Rat.not_le.mp fun q => ?_
    have h6 := Rat.mul_nonneg (show 0 ≤ (D : Rat) - sq D n * sq D n - e by grind) (show 0 ≤ ((n : Rat) + 1) * ((n : Rat) + 1) from Rat.mul_nonneg (by grind) (by grind))
    have h7 := Rat.mul_pos (show 0 < e * ((n : Rat) + 1) - (2 * D + 3) by grind) h4
    have h8 := Rat.mul_pos (show 0 < D + 1 - sq D n by grind) h4
    grind
end RR
namespace RR
/-! ### signs -/
open Classical in
noncomputable def sgR (x : Rl) : Int := if 0 < x then 1 else if x < 0 then -1 else 0
theorem sg_pos {x : Rl} (h : 0 < x) : sgR x = 1 := by unfold sgR; rw [if_pos h]
theorem sg_neg {x : Rl} (h : x < 0) : sgR x = -1 := by
  unfold sgR
  rw [if_neg (by grind), if_pos h]
theorem sg_zero : sgR 0 = 0 := by
  unfold sgR
  rw [if_neg (by grind), if_neg (by grind)]
theorem tri (x : Rl) : 0 < x ∨ x < 0 ∨ x = 0 := by
  by_cases h : 0 < x
  · exact .inl h
  · by_cases k : x < 0
    · exact .inr (.inl k)
    · exact .inr (.inr (by grind))
theorem sg_zero_iff {x : Rl} : sgR x = 0 ↔ x = 0 := by
  constructor
  · intro h
    rcases tri x with q | q | q
    · rw [sg_pos q] at h; cases h
    · rw [sg_neg q] at h; cases h
    · exact q
  · rintro rfl; exact sg_zero
theorem mul_pos {x y : Rl} (h : 0 < x) (k : 0 < y) : 0 < x * y := mul_posR x y h k
theorem mul_nn {x y : Rl} (h : 0 ≤ x) (k : 0 ≤ y) : 0 ≤ x * y := by
  rcases tri x with q | q | q
  · rcases tri y with r | r | r
    · have := mul_pos q r; grind
    · grind
    · subst r; grind
  · grind
  · subst q; grind
theorem sg_mul_pos {x y : Rl} (h : 0 < y) : sgR (y * x) = sgR x := by
  rcases tri x with q | q | q
  · rw [sg_pos q, sg_pos (mul_pos h q)]
  · have := mul_pos h (show 0 < -x by grind)
    rw [sg_neg q, sg_neg (by grind)]
  · subst q; rw [show y * 0 = (0 : Rl) by grind]
theorem sg_neg' (x : Rl) : sgR (-x) = - sgR x := by
  rcases tri x with q | q | q
  · rw [sg_pos q, sg_neg (by grind)]
  · rw [sg_neg q, sg_pos (by grind)]; rfl
  · subst q; rw [show -(0 : Rl) = 0 by grind, sg_zero]; rfl
theorem cast_zero : ((0 : Int) : Rl) = 0 := rfl
theorem cast_one : ((1 : Int) : Rl) = 1 := rfl
theorem cast_pos {i : Int} (h : 0 < i) : (0 : Rl) < (i : Rl) := by rw [← cast_zero, cast_lt]; exact h
theorem cast_nn {i : Int} (h : 0 ≤ i) : (0 : Rl) ≤ (i : Rl) := by rw [← cast_zero, cast_le]; exact h
theorem cast_neg' {i : Int} (h : i < 0) : (i : Rl) < 0 := by rw [← cast_zero, cast_lt]; exact h
theorem sg_int (i : Int) : sgR (i : Rl) = i.sign := by
  rcases Int.lt_trichotomy i 0 with q | q | q
  · rw [sg_neg (cast_neg' q), Int.sign_eq_neg_one_of_neg q]
  · subst q; exact sg_zero
  · rw [sg_pos (cast_pos q), Int.sign_eq_one_of_pos q]
/-! ### the root of a whole number -/
noncomputable def rt (d : Int) : Rl := sqrtN d.toNat
theorem rt_nn (d : Int) : 0 ≤ rt d := sqrtN_nn _
theorem rt_sq {d : Int} (h : 0 ≤ d) : rt d * rt d = (d : Rl) := by
  unfold rt
  rw [sqrtN_sq]
  show of ((d.toNat : Nat) : Rat) = of ((d : Int) : Rat)
  rw [← Rat.intCast_natCast, Int.toNat_of_nonneg h]
theorem rt_pos {d : Int} (h : 0 < d) : 0 < rt d := by
  rcases tri (rt d) with q | q | q
  · exact q
  · have := rt_nn d; grind
  · have h1 := rt_sq (Int.le_of_lt h)
    have h2 := cast_pos h
    rw [q] at h1
    grind
theorem lt_of_sq {x y : Rl} (hy : 0 ≤ y) (h : x * x < y * y) : x < y := by
  refine Classical.byContradiction fun q => ?_
  have := mul_nn (show 0 ≤ x - y by grind) (show 0 ≤ x + y by grind)
  grind
theorem sq_lt_sq {x y : Rl} (hx : 0 ≤ x) (h : x < y) : x * x < y * y := by
  have := mul_pos (show 0 < y - x by grind) (show 0 < y + x by grind)
  grind
def sgnS (p m d : Int) : Int := if 0 ≤ p.sign * m.sign then (p.sign + m.sign).sign else p.sign * (p * p - m * m * d).sign
theorem sgnS_eq {p m d : Int} (h : 0 < d) : sgnS p m d = sgR ((p : Rl) + (m : Rl) * rt d) := by
  have hs := rt_pos h
  have hq := rt_sq (Int.le_of_lt h)
  unfold sgnS
  rcases Int.lt_trichotomy p 0 with hp | hp | hp
  · rw [Int.sign_eq_neg_one_of_neg hp]
    have cp := cast_neg' hp
    rcases Int.lt_trichotomy m 0 with hm | hm | hm
    · rw [Int.sign_eq_neg_one_of_neg hm, if_pos (by decide)]
      have := mul_pos (show 0 < -(m : Rl) by have := cast_neg' hm; grind) hs
      rw [sg_neg (by grind)]; rfl
    · subst hm
      rw [cast_zero, if_pos (by decide), sg_neg (by grind)]; rfl
    · rw [Int.sign_eq_one_of_pos hm, if_neg (by decide), ← sg_int, cast_sub, cast_mul, cast_mul, cast_mul, ← hq]
      have cm := mul_pos (cast_pos hm) hs
      have := mul_pos (show 0 < (m : Rl) * rt d - p by grind) (show 0 < (m : Rl) * rt d - p by grind)
      have e : (p : Rl) * p - m * m * (rt d * rt d) = -(((m : Rl) * rt d - p) * ((p : Rl) + m * rt d)) := by grind
      rw [e, sg_neg', sg_mul_pos (by grind)]
      omega
  · subst hp
    rw [Int.sign_zero, Int.zero_mul, if_pos (Int.le_refl 0), cast_zero, show (0 : Rl) + m * rt d = rt d * m by grind, sg_mul_pos hs, sg_int, Int.zero_add, Int.sign_sign]
  · rw [Int.sign_eq_one_of_pos hp]
    have cp := cast_pos hp
    rcases Int.lt_trichotomy m 0 with hm | hm | hm
    · rw [Int.sign_eq_neg_one_of_neg hm, if_neg (by decide), ← sg_int, cast_sub, cast_mul, cast_mul, cast_mul, ← hq]
      have cm := mul_pos (show 0 < -(m : Rl) by have := cast_neg' hm; grind) hs
      have e : (p : Rl) * p - m * m * (rt d * rt d) = ((p : Rl) - m * rt d) * ((p : Rl) + m * rt d) := by grind
      rw [e, sg_mul_pos (by grind), Int.one_mul]
    · subst hm
      rw [cast_zero, if_pos (by decide), sg_pos (by grind)]; rfl
    · rw [Int.sign_eq_one_of_pos hm, if_pos (by decide)]
      have := mul_pos (cast_pos hm) hs
      rw [sg_pos (by grind)]; rfl
/-! ### parts of a number -/
noncomputable def inv (n : Int) : Rl := of (1 / (n : Rat))
theorem inv_mul {n : Int} (h : n ≠ 0) : (n : Rl) * inv n = 1 := by
  unfold inv
  rw [cast_eq, ← of_mul]
  have : (n : Rat) ≠ 0 := by
    intro z
    exact h (Rat.intCast_inj.mp (z.trans rfl))
  rw [show (n : Rat) * (1 / (n : Rat)) = 1 by grind]
  rfl
theorem inv_pos {n : Int} (h : 0 < n) : 0 < inv n := by
  rcases tri (inv n) with q | q | q
  · exact q
  · have h1 := inv_mul (show n ≠ 0 by omega)
    have := mul_pos (cast_pos h) (show 0 < - inv n by grind)
    grind
  · have h1 := inv_mul (show n ≠ 0 by omega)
    rw [q] at h1
    grind
/-! ### times -/
inductive Tm where
  | fr (p q : Int) | rt (c b a w : Int)
noncomputable def Tm.val : Tm → Rl
  | .fr p q => (p : Rl) * inv q
  | .rt c b a w => (-(b : Rl) + (2 * (w : Rl) - 1) * RR.rt (b * b - 4 * a * c)) * inv (2 * a)
def Tm.Nm : Tm → Prop
  | .fr p q => 0 < q ∧ Int.gcd p q = 1
  | .rt c b a w => 0 < a ∧ Int.gcd (Int.gcd c b) a = 1 ∧ 0 < b * b - 4 * a * c ∧ (∀ r : Int, r * r ≠ b * b - 4 * a * c) ∧ (w = 0 ∨ w = 1)
theorem val_fr {p q : Int} (h : 0 < q) : (q : Rl) * (Tm.fr p q).val = (p : Rl) := by
  have := inv_mul (show q ≠ 0 by omega)
  show (q : Rl) * ((p : Rl) * inv q) = p
  grind
theorem val_rt {c b a w : Int} (h : 0 < a) : 2 * (a : Rl) * (Tm.rt c b a w).val + (b : Rl) = (2 * (w : Rl) - 1) * RR.rt (b * b - 4 * a * c) := by
  have h1 := inv_mul (show 2 * a ≠ 0 by omega)
  rw [cast_mul, show ((2 : Int) : Rl) = 2 from rfl] at h1
  show 2 * (a : Rl) * ((-(b : Rl) + (2 * (w : Rl) - 1) * RR.rt (b * b - 4 * a * c)) * inv (2 * a)) + b = _
  grind
def pv (c b a : Int) (x : Rl) : Rl := (c : Rl) + (b : Rl) * x + (a : Rl) * x * x
theorem side_sq {w : Int} (h : w = 0 ∨ w = 1) : (2 * (w : Rl) - 1) * (2 * (w : Rl) - 1) = 1 := by
  rcases h with rfl | rfl
  · rw [cast_zero]; grind
  · rw [cast_one]; grind
theorem disc_cast (c b a : Int) : ((b * b - 4 * a * c : Int) : Rl) = (b : Rl) * b - 4 * a * c := by
  rw [cast_sub, cast_mul, cast_mul, cast_mul]; rfl
theorem pv_own {c b a w : Int} (h : (Tm.rt c b a w).Nm) : pv c b a (Tm.rt c b a w).val = 0 := by
  obtain ⟨h1, _, h3, _, h5⟩ := h
  have e1 := val_rt (c := c) (b := b) (w := w) h1
  have e2 := rt_sq (Int.le_of_lt h3)
  have e3 := side_sq h5
  rw [disc_cast] at e2
  have ha := cast_pos h1
  generalize (Tm.rt c b a w).val = x at e1 ⊢
  generalize RR.rt (b * b - 4 * a * c) = s at e1 e2
  generalize 2 * (w : Rl) - 1 = z at e1 e3
  have h4 : (4 * (a : Rl)) * pv c b a x = 0 := by
    unfold pv
    have e4 : (2 * (a : Rl) * x + b) * (2 * (a : Rl) * x + b) = z * z * (s * s) := by rw [e1]; grind
    rw [e3, e2] at e4
    grind
  rcases tri (pv c b a x) with q | q | q
  · have := mul_pos (show 0 < 4 * (a : Rl) by grind) q; grind
  · have := mul_pos (show 0 < 4 * (a : Rl) by grind) (show 0 < -pv c b a x by grind); grind
  · exact q
end RR
namespace RR
def Tm.sg (c b a : Int) : Tm → Int
  | .fr p q => ((a * p + b * q) * p + c * q * q).sign
  | .rt c' b' a' w => sgnS (2 * a' * (c * a' - a * c') - (b * a' - a * b') * b') ((b * a' - a * b') * (2 * w - 1)) (b' * b' - 4 * a' * c')
/-! ### what is alike is told alike -/
theorem cop_dvd {k n m : Int} (h : Int.gcd k m = 1) (d : k ∣ n * m) : k ∣ n := by
  have := Int.dvd_mul_gcd_iff_dvd_mul.mpr d
  rw [h] at this
  simpa using this
theorem fr_inj {p q r s : Int} (h : (Tm.fr p q).Nm) (k : (Tm.fr r s).Nm) (e : p * s = r * q) : p = r ∧ q = s := by
  obtain ⟨h1, h2⟩ := h
  obtain ⟨k1, k2⟩ := k
  have d1 : q ∣ s := by
    have : q ∣ p * s := ⟨r, by rw [e]; grind⟩
    exact cop_dvd (m := p) (by rw [Int.gcd_comm]; exact h2) (by rw [Int.mul_comm]; exact this)
  have d2 : s ∣ q := by
    have : s ∣ r * q := ⟨p, by rw [← e]; grind⟩
    exact cop_dvd (m := r) (by rw [Int.gcd_comm]; exact k2) (by rw [Int.mul_comm]; exact this)
  have e2 : q = s := Int.dvd_antisymm (by omega) (by omega) d1 d2
  subst e2
  exact ⟨Int.eq_of_mul_eq_mul_right (by omega) e, rfl⟩
theorem no_root {d : Int} (hd : ∀ r : Int, r * r ≠ d) {m n : Int} (e : m * m = n * n * d) : n = 0 := by
  refine Classical.byContradiction fun hn => ?_
  have h1 : n * n ∣ m * m := ⟨d, e⟩
  have h2 : n ∣ m := by
    have : n ^ 2 ∣ m ^ 2 := by rw [Int.pow_succ, Int.pow_succ, Int.pow_zero, Int.pow_succ, Int.pow_succ, Int.pow_zero]; simpa using h1
    exact (Int.pow_dvd_pow_iff (by decide)).mp this
  obtain ⟨k, rfl⟩ := h2
  refine hd k ?_
  have : n * n * (k * k) = n * n * d := by rw [← e]; grind
  exact Int.eq_of_mul_eq_mul_left (Int.mul_ne_zero hn hn) this
end RR
namespace RR
/-! ### within bounds -/
def Ab (B x : Rl) : Prop := x ≤ B ∧ -x ≤ B
theorem Ab.nn {B x : Rl} (h : Ab B x) : 0 ≤ B := by obtain ⟨a, b⟩ := h; grind
theorem Ab.add {A B x y : Rl} (h : Ab A x) (k : Ab B y) : Ab (A + B) (x + y) := by
  obtain ⟨a, b⟩ := h
  obtain ⟨c, d⟩ := k
  constructor <;> grind
theorem Ab.neg {A x : Rl} (h : Ab A x) : Ab A (-x) := by
  obtain ⟨a, b⟩ := h
  constructor <;> grind
theorem Ab.sub {A B x y : Rl} (h : Ab A x) (k : Ab B y) : Ab (A + B) (x - y) := by
  obtain ⟨a, b⟩ := h
  obtain ⟨c, d⟩ := k
  constructor <;> grind
theorem Ab.mul {A B x y : Rl} (h : Ab A x) (k : Ab B y) : Ab (A * B) (x * y) := by
  have hA := h.nn
  have hB := k.nn
  obtain ⟨a, b⟩ := h
  obtain ⟨c, d⟩ := k
  have p1 := mul_nn (show 0 ≤ A - x by grind) (show 0 ≤ B + y by grind)
  have p2 := mul_nn (show 0 ≤ A + x by grind) (show 0 ≤ B - y by grind)
  have p3 := mul_nn (show 0 ≤ A - x by grind) (show 0 ≤ B - y by grind)
  have p4 := mul_nn (show 0 ≤ A + x by grind) (show 0 ≤ B + y by grind)
  constructor <;> grind
theorem Ab.mono {A B x : Rl} (h : Ab A x) (k : A ≤ B) : Ab B x := by
  obtain ⟨a, b⟩ := h
  constructor <;> grind
theorem Ab.of_int {N i : Int} (h : i.natAbs ≤ N) : Ab (N : Rl) (i : Rl) := by
  constructor
  · rw [cast_le]; omega
  · rw [← cast_neg, cast_le]; omega
theorem int_one {i : Int} {B : Rl} (h : i ≠ 0) (k : Ab B (i : Rl)) : 1 ≤ B := by
  obtain ⟨a, b⟩ := k
  rcases Int.lt_or_gt_of_ne h with q | q
  · have : ((1 : Int) : Rl) ≤ ((-i : Int) : Rl) := by rw [cast_le]; omega
    rw [cast_neg, cast_one] at this
    grind
  · have : ((1 : Int) : Rl) ≤ (i : Rl) := by rw [cast_le]; omega
    rw [cast_one] at this
    grind
theorem root_le {N : Rl} {c b a : Int} {y : Rl} (hN : 1 ≤ N) (ha : 0 < a) (hb : Ab N (b : Rl)) (hc : Ab N (c : Rl)) (h : pv c b a y = 0) : Ab (2 * N) y := by
  have a1 : (1 : Rl) ≤ a := by rw [← cast_one, cast_le]; omega
  unfold pv at h
  have key : ∀ z β : Rl, Ab N β → (c : Rl) + β * z + a * z * z = 0 → z ≤ 2 * N := fun z β hβ e => by
    refine Classical.byContradiction fun q => ?_
    obtain ⟨b1, b2⟩ := hβ
    obtain ⟨c1, c2⟩ := hc
    have p1 := mul_nn (show 0 ≤ (a : Rl) - 1 by grind) (show 0 ≤ z * z from mul_nn (by grind) (by grind))
    have p2 := mul_nn (show 0 ≤ N + β by grind) (show 0 ≤ z by grind)
    have p3 := mul_pos (show 0 < z - 2 * N by grind) (show 0 < z by grind)
    have p4 := mul_nn (show 0 ≤ N by grind) (show 0 ≤ z - 1 by grind)
    grind
  refine ⟨key y b hb h, ?_⟩
  exact key (-y) (-b) hb.neg (by grind)
def Tm.In (N : Int) : Tm → Prop
  | .fr p q => p.natAbs ≤ N ∧ q.natAbs ≤ N
  | .rt c b a w => c.natAbs ≤ N ∧ b.natAbs ≤ N ∧ a.natAbs ≤ N
theorem one_le_of {N : Int} (h : 1 ≤ N) : (1 : Rl) ≤ (N : Rl) := by rw [← cast_one, cast_le]; exact h
theorem pow_up {N : Rl} (h : 1 ≤ N) : 1 ≤ N * N ∧ N ≤ N * N := by
  have := mul_nn (show 0 ≤ N - 1 by grind) (show 0 ≤ N by grind)
  constructor <;> grind
noncomputable def big (N : Rl) : Rl := 40 * (N * N * N * N * N * N * N)
theorem big_le {N e : Rl} (hN : 1 ≤ N) (he : 0 ≤ e) : N * N * e ≤ big N * e ∧ 4 * (N * N * N * N) * e ≤ big N * e ∧ N * e ≤ big N * e := by
  have h0 : 0 ≤ N := by grind
  obtain ⟨u1, u2⟩ := pow_up hN
  have n2 := mul_nn h0 h0
  have n4 := mul_nn n2 n2
  have s4 := mul_nn (show 0 ≤ N * N - 1 by grind) n2
  have s7 : N * N * N * N ≤ N * N * N * N * N * N * N := by
    have t1 := mul_nn (show 0 ≤ N * N - 1 by grind) n4
    have t2 := mul_nn (show 0 ≤ N - 1 by grind) (mul_nn n4 n2)
    grind
  have n7 : 0 ≤ N * N * N * N * N * N * N := by
    have := mul_nn (mul_nn n4 n2) h0
    grind
  have r1 := mul_nn (show 0 ≤ big N - N * N by unfold big; grind) he
  have r2 := mul_nn (show 0 ≤ big N - 4 * (N * N * N * N) by unfold big; grind) he
  have r3 := mul_nn (show 0 ≤ big N - N by unfold big; grind) he
  grind
theorem sep_ff {N : Int} {p q r s : Int} {e : Rl} (hN : 1 ≤ N) (h : (Tm.fr p q).Nm) (k : (Tm.fr r s).Nm) (hi : (Tm.fr p q).In N) (ki : (Tm.fr r s).In N) (he : Ab e ((Tm.fr p q).val - (Tm.fr r s).val)) :
    Tm.fr p q = Tm.fr r s ∨ 1 ≤ big N * e := by
  have e1 := val_fr (p := p) h.1
  have e2 := val_fr (p := r) k.1
  by_cases z : p * s = r * q
  · obtain ⟨rfl, rfl⟩ := fr_inj h k z
    exact .inl rfl
  · right
    have hz : p * s - r * q ≠ 0 := by omega
    have c1 : ((p * s - r * q : Int) : Rl) = (q : Rl) * s * ((Tm.fr p q).val - (Tm.fr r s).val) := by
      rw [cast_sub, cast_mul, cast_mul, ← e1, ← e2]; grind
    have hq := Ab.of_int hi.2
    have hs := Ab.of_int ki.2
    have := int_one hz (B := (N : Rl) * N * e) (by rw [c1]; exact (hq.mul hs).mul he)
    have := (big_le (one_le_of hN) he.nn).1
    grind
theorem fr_le {N p q : Int} (hN : 1 ≤ N) (h : (Tm.fr p q).Nm) (hi : (Tm.fr p q).In N) : Ab (N : Rl) (Tm.fr p q).val := by
  have e1 := val_fr (p := p) h.1
  have hp := Ab.of_int hi.1
  have q1 : (1 : Rl) ≤ q := by rw [← cast_one, cast_le]; have := h.1; omega
  have n1 := one_le_of hN
  obtain ⟨a, b⟩ := hp
  generalize (Tm.fr p q).val = x at e1 ⊢
  constructor
  · refine Classical.byContradiction fun z => ?_
    have := mul_nn (show 0 ≤ (q : Rl) - 1 by grind) (show 0 ≤ x by grind)
    grind
  · refine Classical.byContradiction fun z => ?_
    have := mul_nn (show 0 ≤ (q : Rl) - 1 by grind) (show 0 ≤ -x by grind)
    grind
theorem rt_le {N c b a w : Int} (hN : 1 ≤ N) (h : (Tm.rt c b a w).Nm) (hi : (Tm.rt c b a w).In N) : Ab (2 * (N : Rl)) (Tm.rt c b a w).val :=
  root_le (one_le_of hN) h.1 (Ab.of_int hi.2.1) (Ab.of_int hi.1) (pv_own h)
theorem pv_fr {c b a p q : Int} (h : 0 < q) : (((a * p + b * q) * p + c * q * q : Int) : Rl) = (q : Rl) * q * pv c b a (Tm.fr p q).val := by
  have e := val_fr (p := p) h
  rw [cast_add, cast_mul, cast_add, cast_mul, cast_mul, cast_mul, cast_mul]
  generalize (Tm.fr p q).val = x at e ⊢
  unfold pv; rw [← e]; grind
theorem sep_fr {N : Int} {p q c b a w : Int} {e : Rl} (hN : 1 ≤ N) (h : (Tm.fr p q).Nm) (k : (Tm.rt c b a w).Nm) (hi : (Tm.fr p q).In N) (ki : (Tm.rt c b a w).In N) (he : Ab e ((Tm.fr p q).val - (Tm.rt c b a w).val)) :
    1 ≤ big N * e := by
  have n1 := one_le_of hN
  have hx := fr_le hN h hi
  have hy := rt_le hN k ki
  have ho := pv_own k
  have hz : (a * p + b * q) * p + c * q * q ≠ 0 := fun z => by
    have := no_root k.2.2.2.1 (m := 2 * a * p + b * q) (n := q) (by grind)
    have := h.1
    omega
  have c1 := pv_fr (c := c) (b := b) (a := a) (p := p) h.1
  have hq := Ab.of_int hi.2
  have hb := Ab.of_int ki.2.1
  have ha := Ab.of_int ki.2.2
  generalize (Tm.fr p q).val = x at *
  generalize (Tm.rt c b a w).val = y at *
  have c2 : pv c b a x = (x - y) * (a * (x + y) + b) := by unfold pv at ho ⊢; grind
  rw [c2] at c1
  have := int_one hz (by rw [c1]; exact (hq.mul hq).mul (he.mul ((ha.mul (hx.add hy)).add hb)))
  have h4 : (N : Rl) * N * (e * (N * (N + 2 * N) + N)) ≤ 4 * (N * N * N * N) * e := by
    have := mul_nn (mul_nn (mul_nn (show (0 : Rl) ≤ N by grind) (show (0 : Rl) ≤ N by grind)) (mul_nn (show 0 ≤ (N : Rl) - 1 by grind) (show (0 : Rl) ≤ N by grind))) he.nn
    grind
  have := (big_le n1 he.nn).2.1
  grind
theorem sq_eq_zero {x : Int} (h : x * x = 0) : x = 0 := by
  rcases Int.mul_eq_zero.mp h with q | q <;> exact q
theorem prim_eq {c b a c' b' a' : Int} (h : 0 < a) (h' : 0 < a') (g : Int.gcd (Int.gcd c b) a = 1) (g' : Int.gcd (Int.gcd c' b') a' = 1) (e1 : c' * a = a' * c) (e2 : b' * a = a' * b) : c = c' ∧ b = b' ∧ a = a' := by
  have key : ∀ {c b a c' b' a' : Int}, Int.gcd (Int.gcd c b) a = 1 → c' * a = a' * c → b' * a = a' * b → a ∣ a' := fun {c b a c' b' a'} g e1 e2 => by
    have d1 : a ∣ a' * c := ⟨c', by rw [← e1]; grind⟩
    have d2 : a ∣ a' * b := ⟨b', by rw [← e2]; grind⟩
    have d3 : a ∣ a' * a := ⟨a', by grind⟩
    have d4 : a ∣ a' * (Int.gcd c b : Int) := by
      have := Int.dvd_coe_gcd d1 d2
      rw [Int.gcd_mul_left] at this
      have h2 : a ∣ (a'.natAbs : Int) * (Int.gcd c b : Int) := by rw [← Int.natCast_mul]; exact this
      rcases Int.natAbs_eq a' with q | q
      · rw [← q] at h2; exact h2
      · rw [q]
        obtain ⟨t, ht⟩ := h2
        exact ⟨-t, by grind⟩
    exact cop_dvd (m := (Int.gcd c b : Int)) (by rw [Int.gcd_comm]; exact g) d4
  have d1 := key g e1 e2
  have d2 := key g' (c' := c) (b' := b) (a' := a) (by grind) (by grind)
  have e3 : a = a' := Int.dvd_antisymm (by omega) (by omega) d1 d2
  subst e3
  refine ⟨?_, ?_, rfl⟩
  · exact Int.eq_of_mul_eq_mul_right (show a ≠ 0 by omega) (by grind)
  · exact Int.eq_of_mul_eq_mul_right (show a ≠ 0 by omega) (by grind)
theorem norm_id {p m a b c y : Rl} (h : c + b * y + a * y * y = 0) : a * p * p - p * m * b + m * m * c = (p + m * y) * (a * p - m * b - a * m * y) := by
  have : m * m * (c + b * y + a * y * y) = 0 := by rw [h]; grind
  grind
theorem sep_rr {N : Int} {c b a w c' b' a' w' : Int} {e : Rl} (hN : 1 ≤ N) (h : (Tm.rt c b a w).Nm) (k : (Tm.rt c' b' a' w').Nm) (hi : (Tm.rt c b a w).In N) (ki : (Tm.rt c' b' a' w').In N)
    (he : Ab e ((Tm.rt c b a w).val - (Tm.rt c' b' a' w').val)) : Tm.rt c b a w = Tm.rt c' b' a' w' ∨ 1 ≤ big N * e := by
  have n1 := one_le_of hN
  have n0 : (0 : Rl) ≤ N := by grind
  have en := he.nn
  have hy := rt_le hN h hi
  have hz := rt_le hN k ki
  have oy := pv_own h
  have oz := pv_own k
  have vy := val_rt (c := c) (b := b) (w := w) h.1
  have vz := val_rt (c := c') (b := b') (w := w') k.1
  have ia := Ab.of_int hi.2.2
  have ib := Ab.of_int hi.2.1
  have ic := Ab.of_int hi.1
  have ia' := Ab.of_int ki.2.2
  have ib' := Ab.of_int ki.2.1
  have ic' := Ab.of_int ki.1
  by_cases z : a * (c' * a - a' * c) * (c' * a - a' * c) - (c' * a - a' * c) * (b' * a - a' * b) * b + (b' * a - a' * b) * (b' * a - a' * b) * c = 0
  · have hm : b' * a - a' * b = 0 := no_root h.2.2.2.1 (m := 2 * a * (c' * a - a' * c) - b * (b' * a - a' * b)) (by grind)
    have hp : c' * a - a' * c = 0 := by
      rw [hm] at z
      have : a * ((c' * a - a' * c) * (c' * a - a' * c)) = 0 := by grind
      rcases Int.mul_eq_zero.mp this with q | q
      · have := h.1; omega
      · exact sq_eq_zero q
    obtain ⟨rfl, rfl, rfl⟩ := prim_eq h.1 k.1 h.2.1 k.2.1 (by omega) (by omega)
    by_cases hw : w = w'
    · subst hw; exact .inl rfl
    · right
      have sp := rt_sq (Int.le_of_lt h.2.2.1)
      have s0 := rt_nn (b * b - 4 * a * c)
      have s1 : (1 : Rl) ≤ RR.rt (b * b - 4 * a * c) := by
        refine Classical.byContradiction fun q => ?_
        have : ((1 : Int) : Rl) ≤ ((b * b - 4 * a * c : Int) : Rl) := by rw [cast_le]; have := h.2.2.1; omega
        rw [cast_one, ← sp] at this
        have := sq_lt_sq s0 (show RR.rt (b * b - 4 * a * c) < 1 by grind)
        grind
      generalize RR.rt (b * b - 4 * a * c) = s at *
      have am := ia.mul he
      generalize (Tm.rt c b a w).val = y at *
      generalize (Tm.rt c b a w').val = z at *
      have := (big_le n1 en).2.2
      obtain ⟨am1, am2⟩ := am
      rcases h.2.2.2.2 with rfl | rfl <;> rcases k.2.2.2.2 with rfl | rfl
      · exact absurd rfl hw
      · rw [cast_zero] at vy
        rw [cast_one] at vz
        grind
      · rw [cast_one] at vy
        rw [cast_zero] at vz
        grind
      · exact absurd rfl hw
  · right
    generalize (Tm.rt c b a w).val = y at *
    generalize (Tm.rt c' b' a' w').val = t at *
    have ip : Ab ((N : Rl) * N + N * N) (((c' * a - a' * c : Int)) : Rl) := by
      rw [cast_sub, cast_mul, cast_mul]; exact (ic'.mul ia).sub (ia'.mul ic)
    have im : Ab ((N : Rl) * N + N * N) (((b' * a - a' * b : Int)) : Rl) := by
      rw [cast_sub, cast_mul, cast_mul]; exact (ib'.mul ia).sub (ia'.mul ib)
    generalize hp : c' * a - a' * c = p at *
    generalize hm : b' * a - a' * b = m at *
    have q1 : (p : Rl) + m * y = a * ((y - t) * (a' * (y + t) + b')) := by
      rw [← hp, ← hm, cast_sub, cast_mul, cast_mul, cast_sub, cast_mul, cast_mul]
      unfold pv at oy oz
      grind
    have q2 : ((a * p * p - p * m * b + m * m * c : Int) : Rl) = (p + m * y) * ((a : Rl) * p - m * b - a * m * y) := by
      rw [cast_add, cast_sub, cast_mul, cast_mul, cast_mul, cast_mul, cast_mul, cast_mul]
      exact norm_id oy
    have i1 := ia.mul (he.mul ((ia'.mul (hy.add hz)).add ib'))
    rw [← q1] at i1
    have i2 := ((ia.mul ip).sub (im.mul ib)).sub ((ia.mul im).mul hy)
    have := int_one z (by rw [q2]; exact i1.mul i2)
    have l1 : (N : Rl) * (N * (2 * N + 2 * N) + N) ≤ 5 * (N * N * N) := by
      have := mul_nn (mul_nn n0 n0) (show 0 ≤ (N : Rl) - 1 by grind)
      grind
    have l2 : (N : Rl) * (N * N + N * N) + (N * N + N * N) * N + N * (N * N + N * N) * (2 * N) ≤ 8 * (N * N * N * N) := by
      have := mul_nn (mul_nn (mul_nn n0 n0) n0) (show 0 ≤ (N : Rl) - 1 by grind)
      grind
    have b1 : 0 ≤ (N : Rl) * (N * (2 * N + 2 * N) + N) := by
      have := mul_nn n0 n0
      exact mul_nn n0 (by have := mul_nn n0 (show 0 ≤ 2 * (N : Rl) + 2 * N by grind); grind)
    have b2 : 0 ≤ 8 * ((N : Rl) * N * N * N) := by
      have := mul_nn (mul_nn (mul_nn n0 n0) n0) n0
      grind
    have l3 := mul_nn b1 (show 0 ≤ 8 * ((N : Rl) * N * N * N) - ((N : Rl) * (N * N + N * N) + (N * N + N * N) * N + N * (N * N + N * N) * (2 * N)) by grind)
    have l4 := mul_nn (show 0 ≤ 5 * ((N : Rl) * N * N) - (N : Rl) * (N * (2 * N + 2 * N) + N) by grind) b2
    have l5 : (N : Rl) * (N * (2 * N + 2 * N) + N) * (N * (N * N + N * N) + (N * N + N * N) * N + N * (N * N + N * N) * (2 * N)) ≤ 40 * (N * N * N * N * N * N * N) := by grind
    have l6 := mul_nn (show 0 ≤ 40 * ((N : Rl) * N * N * N * N * N * N) - (N : Rl) * (N * (2 * N + 2 * N) + N) * (N * (N * N + N * N) + (N * N + N * N) * N + N * (N * N + N * N) * (2 * N)) by grind) en
    unfold big
    grind
theorem sep {N : Int} {t u : Tm} {e : Rl} (hN : 1 ≤ N) (h : t.Nm) (k : u.Nm) (hi : t.In N) (ki : u.In N) (he : Ab e (t.val - u.val)) : t = u ∨ 1 ≤ big N * e := by
  cases t with
  | fr p q =>
    cases u with
    | fr r s => exact sep_ff hN h k hi ki he
    | rt c b a w => exact .inr (sep_fr hN h k hi ki he)
  | rt c b a w =>
    cases u with
    | fr r s => exact .inr (sep_fr hN k h ki hi (by have := he.neg; rw [show -((Tm.rt c b a w).val - (Tm.fr r s).val) = (Tm.fr r s).val - (Tm.rt c b a w).val by grind] at this; exact this))
    | rt c' b' a' w' => exact sep_rr hN h k hi ki he
theorem Tm.in_ex (t u : Tm) : ∃ N : Int, 1 ≤ N ∧ t.In N ∧ u.In N := by
  have key : ∀ t : Tm, ∃ N : Int, ∀ M : Int, N ≤ M → t.In M := fun t => by
    cases t with
    | fr p q => exact ⟨p.natAbs + q.natAbs, fun M h => ⟨by omega, by omega⟩⟩
    | rt c b a w => exact ⟨c.natAbs + b.natAbs + a.natAbs, fun M h => ⟨by omega, by omega, by omega⟩⟩
  obtain ⟨N, h⟩ := key t
  obtain ⟨M, k⟩ := key u
  exact ⟨max 1 (max N M), by omega, h _ (by omega), k _ (by omega)⟩
theorem val_inj {t u : Tm} (h : t.Nm) (k : u.Nm) (e : t.val = u.val) : t = u := by
  obtain ⟨N, h1, h2, h3⟩ := Tm.in_ex t u
  rcases sep h1 h k h2 h3 (e := 0) ⟨by rw [e]; grind, by rw [e]; grind⟩ with q | q
  · exact q
  · grind
end RR
namespace SL
open RR
/-! ### times as data -/
def TD : Tm → D
  | .fr p q => .tup [.int p, .int q]
  | .rt c b a w => .tup [.str "root", .tup [.int c, .int b, .int a], .int w]
def TB (n : Nat) : Tm → Prop
  | .fr p q => Bd n p ∧ Bd n q
  | .rt c b a w => Bd n c ∧ Bd n b ∧ Bd n a
theorem TB.mono {n m : Nat} {t : Tm} (h : TB n t) (l : n ≤ m) : TB m t := by
  cases t with
  | fr p q => exact ⟨h.1.mono l, h.2.mono l⟩
  | rt c b a w => exact ⟨h.1.mono l, h.2.1.mono l, h.2.2.mono l⟩
end SL
namespace RR
/-! ### the greatest number whose square is no greater -/
def IsRt (n r : Int) : Prop := 0 ≤ r ∧ r * r ≤ n ∧ n < (r + 1) * (r + 1)
theorem le_of_sq {x y : Int} (hy : 0 ≤ y) (h : x * x < (y + 1) * (y + 1)) : x ≤ y := by
  refine Int.not_lt.mp fun q => ?_
  have : (y + 1) * (y + 1) ≤ x * x := Int.mul_le_mul (by omega) (by omega) (by omega) (by omega)
  omega
theorem isRt_ex {n : Int} (h : 0 ≤ n) : ∃ r, IsRt n r := by
  have key : ∀ k : Nat, ∃ r : Int, IsRt (k : Int) r := fun k => by
    induction k with
    | zero => exact ⟨0, by decide, by decide, by decide⟩
    | succ k ih =>
      obtain ⟨r, a, b, c⟩ := ih
      by_cases q : ((k + 1 : Nat) : Int) < (r + 1) * (r + 1)
      · exact ⟨r, a, by omega, q⟩
      · refine ⟨r + 1, by omega, by omega, ?_⟩
        have : (r + 1 + 1) * (r + 1 + 1) = (r + 1) * (r + 1) + 2 * r + 3 := by grind
        omega
  obtain ⟨k, rfl⟩ := Int.eq_ofNat_of_zero_le h
  exact key k
theorem IsRt.unique {n r s : Int} (h : IsRt n r) (k : IsRt n s) : r = s := by
  obtain ⟨a, b, c⟩ := h
  obtain ⟨d, e, f⟩ := k
  have := le_of_sq (x := r) d (by omega)
  have := le_of_sq (x := s) a (by omega)
  omega
theorem IsRt.sq_iff {n r : Int} (h : IsRt n r) : r * r = n ↔ ∃ x : Int, x * x = n := by
  constructor
  · exact fun e => ⟨r, e⟩
  · rintro ⟨x, e⟩
    have key : ∀ x : Int, 0 ≤ x → x * x = n → r * r = n := fun x hx e => by
      have : IsRt n x := ⟨hx, by omega, by have : (x + 1) * (x + 1) = x * x + 2 * x + 1 := by grind
                                           omega⟩
      rw [h.unique this]; exact e
    rcases Int.le_total 0 x with q | q
    · exact key x q e
    · exact key (-x) (by omega) (by rw [Int.neg_mul_neg]; exact e)
/-! ### Euclid -/
theorem gcd_step {a b : Int} (hb : 0 < b) : Int.gcd b (a.fmod b) = Int.gcd a b := by
  rw [Int.fmod_eq_emod_of_nonneg _ (by omega)]
  have h1 : a = a % b + b * (a / b) := by have := Int.mul_ediv_add_emod a b; omega
  have h2 := Int.gcd_add_mul_left_left b (a % b) (a / b)
  rw [← h1] at h2
  rw [h2, Int.gcd_comm]
end RR
namespace SL
open RR
/-! ### what a call leaves as it was -/
def Keep (P : Nat → Prop) (h h' : Hs) : Prop := h.length ≤ h'.length ∧ ∀ k, k < h.length → P k → h'[k]? = h[k]?
theorem Keep.refl {P : Nat → Prop} {h : Hs} : Keep P h h := ⟨Nat.le_refl _, fun _ _ _ => rfl⟩
theorem Keep.trans {P : Nat → Prop} {h h1 h2 : Hs} (a : Keep P h h1) (b : Keep P h1 h2) : Keep P h h2 :=
  ⟨Nat.le_trans a.1 b.1, fun k l p => (b.2 k (Nat.lt_of_lt_of_le l a.1) p).trans (a.2 k l p)⟩
theorem Keep.app {P : Nat → Prop} {h G : Hs} : Keep P h (h ++ G) := ⟨by simp, fun k l _ => List.getElem?_append_left l⟩
theorem Keep.set {P : Nat → Prop} {h : Hs} {n : Nat} {o : AO} (hp : ¬ P n) : Keep P h (h.set n o) := ⟨by simp, fun k _ p => by
  rw [List.getElem?_set_ne]
  rintro rfl
  exact hp p⟩
theorem Keep.weak {P Q : Nat → Prop} {h h' : Hs} (a : Keep P h h') (w : ∀ k, Q k → P k) : Keep Q h h' := ⟨a.1, fun k l q => a.2 k l (w k q)⟩
theorem Keep.get {P : Nat → Prop} {h h' : Hs} {k : Nat} {o : AO} (a : Keep P h h') (e : h[k]? = some o) (p : P k) : h'[k]? = some o := by
  rw [a.2 k (List.getElem?_eq_some_iff.mp e).1 p]; exact e
theorem Keep.getL {P : Nat → Prop} {h h' : Hs} {k : Nat} {ds : List D} (a : Keep P h h') (e : getL h k = some ds) (p : P k) : getL h' k = some ds := by
  have hk : k < h.length := by
    unfold SL.getL at e
    split at e
    · next e1 => exact (List.getElem?_eq_some_iff.mp e1).1
    · next e1 => exact (List.getElem?_eq_some_iff.mp e1).1
    · cases e
  unfold SL.getL at *
  rw [a.2 k hk p]; exact e
theorem getL_lst {h : Hs} {k : Nat} {ds : List D} (e : h[k]? = some (.lst ds)) : getL h k = some ds := by unfold getL; rw [e]
theorem get_last {h : Hs} {o : AO} : (h ++ [o])[h.length]? = some o := by simp
theorem getL_last {h : Hs} {ds : List D} : getL (h ++ [.lst ds]) h.length = some ds := getL_lst get_last
theorem ev_idx {h : Hs} {n : Nat} {ds : List D} {i : Int} {d : D} (e : getL h n = some ds) (a : L2.atI ds i = some d) : subG' (.ref n) (.int i) h = some (d, h) := by
  unfold getL at e
  show (match h[n]? with | some (.dct kvs) => _ | some (.lst ds) => _ | some (.fz ds) => _ | _ => none) = _
  split at e
  · next e1 => cases e; rw [e1]; simp only [a]
  · next e1 => cases e; rw [e1]; simp only [a]
  · cases e
theorem ev_last0 {h : Hs} {d : D} {ds : List D} : subG' (.ref h.length) (.int 0) (h ++ [.lst (d :: ds)]) = some (d, h ++ [.lst (d :: ds)]) := ev_idx getL_last (L2.atI_nat (j := 0) rfl)
theorem ev_last1 {h : Hs} {x d : D} {ds : List D} : subG' (.ref h.length) (.int 1) (h ++ [.lst (x :: d :: ds)]) = some (d, h ++ [.lst (x :: d :: ds)]) := ev_idx getL_last (L2.atI_nat (j := 1) rfl)
theorem PwOk.two {n : Nat} {i : Int} (a : Bd n i) (h : n * 2 ≤ 134217728) : PwOk i 2 := PwOk.of (k := 2) a h
theorem PwOk.lit {n k : Nat} {i j : Int} (a : Bd n i) (e : j = (k : Int)) (h : n * k ≤ 134217728) : PwOk i j := by subst e; exact PwOk.of a h
end SL
namespace RR
/-! ### lowest terms -/
theorem fdiv_mul {x y : Int} (h : y ≠ 0) : (y * x).fdiv y = x := by rw [Int.mul_comm]; exact Int.mul_fdiv_cancel x h
theorem natAbs_le_mul {x y : Int} (h : y ≠ 0) : x.natAbs ≤ (y * x).natAbs := by
  rw [Int.natAbs_mul]
  exact Nat.le_mul_of_pos_left _ (by omega)
theorem low_fr {a b s : Int} (hb : b ≠ 0) (hs : s = if b < 0 then -1 else 1) : ∃ p q, a.fdiv ((Int.gcd a b : Int) * s) = p ∧ b.fdiv ((Int.gcd a b : Int) * s) = q ∧ (Tm.fr p q).Nm ∧ p * b = a * q ∧ p.natAbs ≤ a.natAbs ∧ q.natAbs ≤ b.natAbs ∧ (Int.gcd a b : Int) * s ≠ 0 := by
  have hg : Int.gcd a b ≠ 0 := fun z => hb (Int.gcd_eq_zero_iff.mp z).2
  obtain ⟨x, hx⟩ := Int.gcd_dvd_left a b
  obtain ⟨y, hy⟩ := Int.gcd_dvd_right a b
  have hc : Int.gcd x y = 1 := by
    have e : Int.gcd a b = Int.gcd a b * Int.gcd x y := by
      have := Int.gcd_mul_left (Int.gcd a b : Int) x y
      rw [← hx, ← hy] at this
      simpa using this
    exact Nat.eq_of_mul_eq_mul_left (Nat.pos_of_ne_zero hg) (by rw [← e, Nat.mul_one])
  generalize hgg : (Int.gcd a b : Int) = g at *
  have hg0 : 0 < g := by omega
  have hs2 : s = 1 ∨ s = -1 := by subst hs; split <;> simp
  have hss : s * s = 1 := by rcases hs2 with rfl | rfl <;> rfl
  have hgs : g * s ≠ 0 := Int.mul_ne_zero (by omega) (by rcases hs2 with rfl | rfl <;> decide)
  have e1 : a = (g * s) * (s * x) := by rw [hx]; grind
  have e2 : b = (g * s) * (s * y) := by rw [hy]; grind
  refine ⟨s * x, s * y, by conv => lhs; rw [e1]
                           exact fdiv_mul hgs, by conv => lhs; rw [e2]
                                                  exact fdiv_mul hgs, ⟨?_, ?_⟩, by rw [hx, hy]; grind, by conv => rhs; rw [e1]
                                                                                                          exact natAbs_le_mul hgs, by conv => rhs; rw [e2]
                                                                                                                                      exact natAbs_le_mul hgs, hgs⟩
  · have hy0 : y ≠ 0 := fun z => hb (by rw [hy, z]; simp)
    by_cases q : b < 0
    · rw [if_pos q] at hs
      subst hs
      have : y < 0 := by
        refine Int.not_le.mp fun z => ?_
        have := Int.mul_nonneg (Int.le_of_lt hg0) z
        omega
      omega
    · rw [if_neg q] at hs
      subst hs
      have : 0 < y := by
        refine Int.not_le.mp fun z => ?_
        have := Int.mul_pos hg0 (show 0 < -y by omega)
        have e3 : g * -y = -(g * y) := by grind
        omega
      omega
  · rcases hs2 with rfl | rfl
    · simpa using hc
    · rw [show (-1 : Int) * x = -x by omega, show (-1 : Int) * y = -y by omega, Int.gcd_neg, Int.neg_gcd]; exact hc
/-! ### a quadratic told in the one way -/
end RR
namespace SL
open RR
/-! ### powers of ten, dictionaries of two, lists grown -/
section
variable {h h2 : Hs} {n : Nat} {d e v : D} {i j : Int} {ρ : Rho} {ds : List D}
theorem p10_3 : powG (.int 10) (.int 3) h = some (.int 1000, h) := rfl
theorem p10_6 : powG (.int 10) (.int 6) h = some (.int 1000000, h) := rfl
theorem p10_7 : powG (.int 10) (.int 7) h = some (.int 10000000, h) := rfl
theorem p10_8 : powG (.int 10) (.int 8) h = some (.int 100000000, h) := rfl
theorem p10_9 : powG (.int 10) (.int 9) h = some (.int 1000000000, h) := rfl
theorem p10_12 : powG (.int 10) (.int 12) h = some (.int 1000000000000, h) := rfl
theorem p10_15 : powG (.int 10) (.int 15) h = some (.int 1000000000000000, h) := rfl
theorem p10_18 : powG (.int 10) (.int 18) h = some (.int 1000000000000000000, h) := rfl
theorem p10_60 : powG (.int 10) (.int 60) h = some (.int 1000000000000000000000000000000000000000000000000000000000000, h) := rfl
def draw (d m : Int) : AO := .dct [(.inr "digits", .int d), (.inr "number", .int m)]
/-! dictionaries told out -/
def pK1 (mv : ME) (mr : MP) (ρ : Rho) (k : D) (h1 : Hs) : Option (List (L2.Key × D) × Hs) := bd (mv ρ h1) fun v h2 => bd (mr ρ h2) fun r h3 => match keyOf k with
  | some q => some ((q, v) :: r, h3)
  | none => none
def pK2 (mr : MP) (ρ : Rho) (k v : D) (h2 : Hs) : Option (List (L2.Key × D) × Hs) := bd (mr ρ h2) fun r h3 => match keyOf k with
  | some q => some ((q, v) :: r, h3)
  | none => none
def pK3 (k v : D) (r : List (L2.Key × D)) (h3 : Hs) : Option (List (L2.Key × D) × Hs) := match keyOf k with
  | some q => some ((q, v) :: r, h3)
  | none => none
theorem ev_pNil : pNil ρ h = some ([], h) := rfl
theorem ev_pCons {mk mv : ME} {mr : MP} : pCons mk mv mr ρ h = bd (mk ρ h) (pK1 mv mr ρ) := rfl
theorem ev_pK1 {mv : ME} {mr : MP} : pK1 mv mr ρ d h = bd (mv ρ h) (pK2 mr ρ d) := rfl
theorem ev_pK2 {mr : MP} : pK2 mr ρ d v h = bd (mr ρ h) (pK3 d v) := rfl
theorem ev_pK3s {z : PySem.Str} {r : List (L2.Key × D)} : pK3 (.str z) v r h = some ((.inr z, v) :: r, h) := rfl
def dictK (kvs : List (L2.Key × D)) (h1 : Hs) : Option (D × Hs) := some (.ref h1.length, h1 ++ [.dct (mergeD [] kvs)])
theorem ev_dict {m : MP} : eDict m ρ h = bd (m ρ h) dictK := rfl
theorem ev_lenL (e : getL h n = some ds) : lenG [.ref n] h = some (.int ds.length, h) := by
  show (match getL h n with | some ds => _ | none => _) = _
  rw [e]
theorem ev_app (a : h[n]? = some (.lst ds)) (c : ds.length < PySem.sizeLine) : appendG (.ref n) [v] h = some (.non, h.set n (.lst (ds ++ [v]))) := by
  show (match h[n]? with | some (.lst ds) => _ | _ => none) = _
  rw [a]
  exact if_pos c
theorem tyD_lst (a : h[n]? = some (.lst ds)) : tyD "list" h (.ref n) = true := by
  show (match h[n]? with | some (.lst _) => _ | some (.fz _) => _ | some (.dct _) => _ | _ => false) = _
  rw [a]; rfl
theorem set_at {o : AO} (l : n < h.length) : (h.set n o)[n]? = some o := by rw [List.getElem?_set_self l]
theorem get_lt {o : AO} (a : h[n]? = some o) : n < h.length := (List.getElem?_eq_some_iff.mp a).1
end
def St (n : Nat) (h : Hs) : Prop := ∃ d m, h[n]? = some (draw d m) ∧ Bd 500 d ∧ Bd 200 m
def Stp (n : Nat) (h h' : Hs) : Prop := Keep (· ≠ n) h h' ∧ St n h'
theorem Stp.trans {n : Nat} {h h1 h2 : Hs} (a : Stp n h h1) (b : Stp n h1 h2) : Stp n h h2 := ⟨a.1.trans b.1, b.2⟩
theorem St.lt {n : Nat} {h : Hs} (a : St n h) : n < h.length := by
  obtain ⟨d, m, e, _⟩ := a
  exact get_lt e
theorem St.app {n : Nat} {h G : Hs} (a : St n h) : St n (h ++ G) := by
  obtain ⟨d, m, e, b⟩ := a
  exact ⟨d, m, by rw [List.getElem?_append_left (get_lt e)]; exact e, b⟩
theorem Stp.app {n : Nat} {h G : Hs} (a : St n h) : Stp n h (h ++ G) := ⟨Keep.app, a.app⟩
theorem Stp.refl {n : Nat} {h : Hs} (a : St n h) : Stp n h h := ⟨Keep.refl, a⟩
end SL
namespace SL
open RR
/-! ### loops by what stays true -/
theorem St.set {n L : Nat} {h : Hs} {o : AO} (a : St n h) (ne : L ≠ n) : St n (h.set L o) := by
  obtain ⟨d, m, e, b⟩ := a
  exact ⟨d, m, by rw [List.getElem?_set_ne ne]; exact e, b⟩
end SL
namespace SL
open RR
/-! ### more of evaluation, for all laws -/
theorem get_app {h : Hs} {n : Nat} {o : AO} (G : Hs) (e : h[n]? = some o) : (h ++ G)[n]? = some o := by rw [List.getElem?_append_left (get_lt e)]; exact e
theorem wipe_nil {ρ : Rho} : wipeR ρ [] = ρ := rfl
theorem wipe_cons {ρ : Rho} {v : Nat} {vs : List Nat} : wipeR ρ (v :: vs) = (wipeR ρ vs).set v none := rfl
theorem len_tup {ds : List D} {h : Hs} : lenG [.tup ds] h = some (.int ds.length, h) := rfl
theorem isi_str {z : PySem.Str} {h : Hs} : isiG [.str z, .ty "str"] h = some (.bl true, h) := rfl
theorem ev_addL {h : Hs} {n m : Nat} {xs ys : List D} (e1 : h[n]? = some (.lst xs)) (e2 : h[m]? = some (.lst ys)) (l : xs.length + ys.length ≤ PySem.sizeLine) : addG (.ref n) (.ref m) h = some (.ref h.length, h ++ [.lst (xs ++ ys)]) := by
  show (match h[n]?, h[m]? with | some (.lst xs), some (.lst ys) => _ | _, _ => none) = _
  rw [e1, e2]
  exact if_pos l
end SL
namespace SL
open RR
abbrev KA (h h' : Hs) : Prop := Keep (fun _ => True) h h'
theorem KA.getL {h h' : Hs} {k : Nat} {ds : List D} (a : KA h h') (e : getL h k = some ds) : getL h' k = some ds := Keep.getL a e trivial
section
variable {src : Src} {g : GG} {tt : MT} {te : ME} {m : MS} {ds : List D}
end
end SL
namespace SL
open RR
end SL
namespace SL
open RR
/-! ### what is wanted behind -/
def WP {R : Type} (x : Option (R × Hs)) (Q : R → Hs → Prop) : Prop := ∃ r h', x = some (r, h') ∧ Q r h'
section
variable {R T : Type} {x : Option (R × Hs)} {f : R → Hs → Option (T × Hs)} {Q : T → Hs → Prop} {P : R → Hs → Prop} {a : R} {h : Hs}
def Kn (f : R → Hs → Option (T × Hs)) (Q : T → Hs → Prop) (a : R) (h : Hs) : Prop := WP (f a h) Q
theorem kn_eq : Kn f Q a h = WP (f a h) Q := rfl
theorem wp_ok {Q : R → Hs → Prop} : WP (some (a, h)) Q = Q a h := propext ⟨fun ⟨_, _, e, q⟩ => by cases e; exact q, fun q => ⟨_, _, rfl, q⟩⟩
theorem wp_bd (w : WP x (Kn f Q)) : WP (bd x f) Q := by
  obtain ⟨a, h1, e, b, h2, e2, q⟩ := w
  exact ⟨b, h2, by rw [e]; exact e2, q⟩
theorem wp_mono {Q Q' : R → Hs → Prop} (w : WP x Q) (i : ∀ a h, Q a h → Q' a h) : WP x Q' := by
  obtain ⟨a, h, e, q⟩ := w
  exact ⟨a, h, e, i a h q⟩
theorem wp_ite {c : Prop} [Decidable c] {y z : Option (R × Hs)} {Q : R → Hs → Prop} (p : c → WP y Q) (n : ¬ c → WP z Q) : WP (if c then y else z) Q := by
  by_cases q : c
  · rw [if_pos q]; exact p q
  · rw [if_neg q]; exact n q
end
def outQ (Q : D → Hs → Prop) (r : Out × Rho) (h : Hs) : Prop := match r with
  | (.nx, _) => Q .non h
  | (.rt d, _) => Q d h
  | _ => False
section
variable {Q : D → Hs → Prop} {d : D} {ρ : Rho} {h : Hs} {m : MS} {n N : Nat} {ds : List D}
theorem outQ_rt : outQ Q (.rt d, ρ) h = Q d h := rfl
theorem outQ_nx : outQ Q (.nx, ρ) h = Q .non h := rfl
theorem wp_out {x : Option ((Out × Rho) × Hs)} (w : WP x (outQ Q)) : WP (outB x) Q := by
  obtain ⟨⟨o, ρ⟩, h1, e, q⟩ := w
  subst e
  cases o with
  | nx => exact ⟨_, _, rfl, q⟩
  | rt d => exact ⟨_, _, rfl, q⟩
  | bk => exact q.elim
  | ct => exact q.elim
theorem wp_run (hl : ds.length = n) (w : WP (m (ds.map some ++ List.replicate (N - n) none) h) (outQ Q)) : WP (runB m n N ds h) Q := by
  rw [runB_ok hl]
  exact wp_out w
end
/-! loops -/
def turnQ (P : Nat → Rho → Hs → Prop) (Q : Out × Rho → Hs → Prop) (i : Nat) (r : Out × Rho) (h : Hs) : Prop := match r with
  | (.nx, ρ) => P (i + 1) ρ h
  | (.ct, ρ) => P (i + 1) ρ h
  | (.bk, ρ) => Q (.nx, ρ) h
  | (.rt d, ρ) => Q (.rt d, ρ) h
section
variable {P : Nat → Rho → Hs → Prop} {Q : Out × Rho → Hs → Prop} {i : Nat} {ρ : Rho} {h : Hs} {d : D}
theorem turnQ_nx : turnQ P Q i (.nx, ρ) h = P (i + 1) ρ h := rfl
theorem turnQ_ct : turnQ P Q i (.ct, ρ) h = P (i + 1) ρ h := rfl
theorem turnQ_bk : turnQ P Q i (.bk, ρ) h = Q (.nx, ρ) h := rfl
theorem turnQ_rt : turnQ P Q i (.rt d, ρ) h = Q (.rt d, ρ) h := rfl
theorem wp_fr {src : Src} {g : GG} {m : MS} (n : Nat) (P : Nat → Rho → Hs → Prop) (st : P 0 ρ h)
    (turn : ∀ i, i < n → ∀ ρ h, P i ρ h → ∃ d ρ1 h1, src i h = some (some d) ∧ g d ρ h = some (ρ1, h1) ∧ WP (m ρ1 h1) (turnQ P Q i))
    (fin : ∀ ρ h, P n ρ h → src n h = some none ∧ Q (.nx, ρ) h) : WP (frW src g m 0 ρ h) Q := by
  have key : ∀ (j i : Nat) ρ h, i + j = n → P i ρ h → WP (frW src g m i ρ h) Q := by
    intro j
    induction j with
    | zero =>
      intro i ρ h e p
      obtain rfl : i = n := by omega
      obtain ⟨e1, q⟩ := fin ρ h p
      exact ⟨_, _, fr_end e1, q⟩
    | succ j ih =>
      intro i ρ h e p
      obtain ⟨d, ρ1, h1, e1, e2, ⟨o, ρ2⟩, h2, e3, q⟩ := turn i (by omega) ρ h p
      have go : frW src g m i ρ h = frK2 src g m i (o, ρ2) h2 := by rw [fr_turn e1, e2]; show bd (m ρ1 h1) _ = _; rw [e3]; rfl
      rw [go]
      cases o with
      | nx => exact ih (i + 1) ρ2 h2 (by omega) q
      | ct => exact ih (i + 1) ρ2 h2 (by omega) q
      | bk => exact ⟨_, _, rfl, q⟩
      | rt d => exact ⟨_, _, rfl, q⟩
  exact key n 0 ρ h (by omega) st
def whQ (P : Nat → Rho → Hs → Prop) (Q : Out × Rho → Hs → Prop) (k : Nat) (r : Out × Rho) (h : Hs) : Prop := match r with
  | (.nx, ρ) => ∃ j, j < k ∧ P j ρ h
  | (.ct, ρ) => ∃ j, j < k ∧ P j ρ h
  | (.bk, ρ) => Q (.nx, ρ) h
  | (.rt d, ρ) => Q (.rt d, ρ) h
theorem whQ_nx {k : Nat} : whQ P Q k (.nx, ρ) h = ∃ j, j < k ∧ P j ρ h := rfl
theorem whQ_bk {k : Nat} : whQ P Q k (.bk, ρ) h = Q (.nx, ρ) h := rfl
theorem whQ_rt {k : Nat} : whQ P Q k (.rt d, ρ) h = Q (.rt d, ρ) h := rfl
def whT (m : MS) (ρ : Rho) (P : Nat → Rho → Hs → Prop) (Q : Out × Rho → Hs → Prop) (k : Nat) (b : Bool) (h : Hs) : Prop := if b = true then WP (m ρ h) (whQ P Q k) else Q (.nx, ρ) h
theorem whT_t {m : MS} {k : Nat} : whT m ρ P Q k true h = WP (m ρ h) (whQ P Q k) := rfl
theorem whT_f {m : MS} {k : Nat} : whT m ρ P Q k false h = Q (.nx, ρ) h := rfl
theorem whT_d {m : MS} {k : Nat} {c : Prop} [Decidable c] : whT m ρ P Q k (decide c) h = if c then WP (m ρ h) (whQ P Q k) else Q (.nx, ρ) h := by
  unfold whT; by_cases q : c <;> simp [q]
theorem wp_wh {t : MT} {m : MS} (P : Nat → Rho → Hs → Prop) (k : Nat) (st : P k ρ h) (turn : ∀ k ρ h, P k ρ h → WP (t ρ h) (whT m ρ P Q k)) : WP (sWh t m ρ h) Q := by
  induction k using Nat.strongRecOn generalizing ρ h with
  | ind k ih =>
    obtain ⟨b, h1, e1, q⟩ := turn k ρ h st
    rw [wh_eq, e1]
    cases b with
    | false => exact ⟨_, _, rfl, q⟩
    | true =>
      obtain ⟨⟨o, ρ2⟩, h2, e2, q⟩ := q
      show WP (bd (m ρ h1) (whK2 t m)) Q
      rw [e2]
      cases o with
      | nx => obtain ⟨j, l, p⟩ := q; exact ih j l p
      | ct => obtain ⟨j, l, p⟩ := q; exact ih j l p
      | bk => exact ⟨_, _, rfl, q⟩
      | rt d => exact ⟨_, _, rfl, q⟩
end
/-! comprehensions -/
def lcT (te : ME) (ρ : Rho) (P : Nat → List D → Hs → Prop) (i : Nat) (acc : List D) (b : Bool) (h : Hs) : Prop := if b = true then WP (te ρ h) fun d h1 => P (i + 1) (acc ++ [d]) h1 else P (i + 1) acc h
section
variable {P : Nat → List D → Hs → Prop} {Q : D → Hs → Prop} {te : ME} {ρ : Rho} {i : Nat} {acc : List D} {h : Hs}
theorem lcT_t : lcT te ρ P i acc true h = WP (te ρ h) fun d h1 => P (i + 1) (acc ++ [d]) h1 := rfl
theorem lcT_f : lcT te ρ P i acc false h = P (i + 1) acc h := rfl
theorem lcT_d {c : Prop} [Decidable c] : lcT te ρ P i acc (decide c) h = if c then (WP (te ρ h) fun d h1 => P (i + 1) (acc ++ [d]) h1) else P (i + 1) acc h := by
  unfold lcT; by_cases q : c <;> simp [q]
theorem wp_lc {src : Src} {g : GG} {tt : MT} (n : Nat) (ln : n < PySem.sizeLine) (P : Nat → List D → Hs → Prop) (st : P 0 [] h)
    (turn : ∀ i, i < n → ∀ acc h, acc.length ≤ i → P i acc h → ∃ d ρ1 h1, src i h = some (some d) ∧ g d ρ h = some (ρ1, h1) ∧ WP (tt ρ1 h1) (lcT te ρ1 P i acc))
    (fin : ∀ acc h, acc.length ≤ n → P n acc h → src n h = some none ∧ Q (.ref h.length) (h ++ [.lst acc])) : WP (lcW src g tt te ρ 0 [] h) (Kn lstK Q) := by
  have key : ∀ (j i : Nat) acc h, i + j = n → acc.length ≤ i → P i acc h → ∃ acc' h', lcW src g tt te ρ i acc h = some (acc', h') ∧ acc'.length ≤ n ∧ P n acc' h' := by
    intro j
    induction j with
    | zero =>
      intro i acc h e l p
      obtain rfl : i = n := by omega
      obtain ⟨e1, _⟩ := fin acc h l p
      exact ⟨acc, h, lc_end e1, l, p⟩
    | succ j ih =>
      intro i acc h e l p
      obtain ⟨d, ρ1, h1, e1, e2, b, h2, e3, q⟩ := turn i (by omega) acc h l p
      rw [lc_turn e1, e2, bd_ok, ev_lc1, e3, bd_ok]
      cases b with
      | false =>
        rw [ev_lc2F]
        exact ih (i + 1) acc h2 (by omega) (by omega) q
      | true =>
        obtain ⟨y, h3, e4, q⟩ := q
        rw [ev_lc2T, e4, bd_ok, ev_lc3 (by omega)]
        exact ih (i + 1) _ h3 (by omega) (by simp; omega) q
  obtain ⟨acc, h1, e, l, p⟩ := key n 0 [] h (by omega) (Nat.le_refl _) st
  obtain ⟨_, q⟩ := fin acc h1 l p
  exact ⟨_, _, e, _, _, rfl, q⟩
end
end SL
namespace RR
/-! ### the greatest whole number no greater -/
def IsFl (x : Rl) (s : Int) : Prop := (s : Rl) ≤ x ∧ x < (s : Rl) + 1
theorem IsFl.lt_iff {x : Rl} {s n : Int} (h : IsFl x s) : x < (n : Rl) ↔ s < n := by
  obtain ⟨a, b⟩ := h
  constructor
  · intro q
    refine Int.not_le.mp fun z => ?_
    have := cast_le.mpr z
    grind
  · intro q
    have := cast_le.mpr (show s + 1 ≤ n by omega)
    rw [cast_add, cast_one] at this
    grind
theorem IsFl.unique {x : Rl} {s t : Int} (h : IsFl x s) (k : IsFl x t) : s = t := by
  have h1 := (h.lt_iff (n := t + 1)).mp (by rw [cast_add, cast_one]; exact k.2)
  have h2 := (k.lt_iff (n := s + 1)).mp (by rw [cast_add, cast_one]; exact h.2)
  omega
theorem fl_div {x y : Rl} {m n : Int} (hm : 0 < m) (e : (m : Rl) * x = y) (h : IsFl y n) : IsFl x (n.fdiv m) := by
  rw [Int.fdiv_eq_ediv_of_nonneg _ (Int.le_of_lt hm)]
  have h1 := Int.mul_ediv_add_emod n m
  have h2 := Int.emod_nonneg n (show m ≠ 0 by omega)
  have h3 := Int.emod_lt_of_pos n hm
  generalize n / m = s at *
  have hm' := cast_pos hm
  obtain ⟨a, b⟩ := h
  have c1 : ((m * s : Int) : Rl) ≤ (n : Rl) := by rw [cast_le]; omega
  have c2 : ((n + 1 : Int) : Rl) ≤ ((m * s + m : Int) : Rl) := by rw [cast_le]; omega
  rw [cast_mul] at c1
  rw [cast_add, cast_add, cast_mul, cast_one] at c2
  constructor
  · refine Classical.byContradiction fun q => ?_
    have := mul_pos hm' (show 0 < (s : Rl) - x by grind)
    grind
  · refine Classical.byContradiction fun q => ?_
    have := mul_nn (show 0 ≤ (m : Rl) by grind) (show 0 ≤ x - (s + 1) by grind)
    grind
theorem fl_fr {p q P : Int} (hq : 0 < q) : IsFl ((P : Rl) * (Tm.fr p q).val) ((p * P).fdiv q) := by
  have e := val_fr (p := p) hq
  refine fl_div (y := ((p * P : Int) : Rl)) hq (by rw [cast_mul]; grind) ⟨?_, ?_⟩
  · grind
  · grind
theorem fl_root {D P r : Int} (hD : 0 < D) (hP : 0 < P) (hr : IsRt (D * (P * P)) r) : IsFl ((P : Rl) * rt D) r := by
  obtain ⟨a, b, c⟩ := hr
  have sq := rt_sq (Int.le_of_lt hD)
  have s0 := rt_nn D
  have hP' := cast_pos hP
  have b' := cast_le.mpr b
  have c' := cast_lt.mpr c
  rw [cast_mul, cast_mul, cast_mul, ← sq] at b'
  rw [cast_mul, cast_mul, cast_mul, ← sq, cast_add, cast_one] at c'
  have ha := cast_nn a
  have hPs := mul_nn (show 0 ≤ (P : Rl) by grind) s0
  constructor
  · refine Classical.byContradiction fun q => ?_
    have := sq_lt_sq hPs (show (P : Rl) * rt D < r by grind)
    grind
  · refine lt_of_sq (by grind) ?_
    grind
theorem fl_rt1 {c b a P r : Int} (h : (Tm.rt c b a 1).Nm) (hP : 0 < P) (hr : IsRt ((b * b - 4 * a * c) * (P * P)) r) : IsFl ((P : Rl) * (Tm.rt c b a 1).val) (((0 - b) * P + r).fdiv (2 * a)) := by
  have e := val_rt (c := c) (b := b) (w := 1) h.1
  have f := fl_root h.2.2.1 hP hr
  rw [cast_one] at e
  have ha := h.1
  refine fl_div (y := -(b : Rl) * P + (P : Rl) * RR.rt (b * b - 4 * a * c)) (by omega) (by rw [cast_mul, show ((2 : Int) : Rl) = 2 from rfl]; grind) ?_
  obtain ⟨f1, f2⟩ := f
  constructor
  · rw [cast_add, cast_mul, cast_sub, cast_zero]; grind
  · rw [cast_add, cast_mul, cast_sub, cast_zero]; grind
theorem fl_rt0 {c b a P r : Int} (h : (Tm.rt c b a 0).Nm) (hP : 0 < P) (hr : IsRt ((b * b - 4 * a * c) * (P * P)) r) : IsFl ((P : Rl) * (Tm.rt c b a 0).val) (((0 - b) * P - r - 1).fdiv (2 * a)) := by
  have e := val_rt (c := c) (b := b) (w := 0) h.1
  have f := fl_root h.2.2.1 hP hr
  have sq := rt_sq (Int.le_of_lt h.2.2.1)
  rw [cast_zero] at e
  have ha := h.1
  have strict : (r : Rl) ≠ (P : Rl) * RR.rt (b * b - 4 * a * c) := fun z => by
    have : ((r * r : Int) : Rl) = ((P * P * (b * b - 4 * a * c) : Int) : Rl) := by
      rw [cast_mul, cast_mul, cast_mul, ← sq, z]; grind
    have := no_root h.2.2.2.1 (cast_inj this)
    omega
  refine fl_div (y := -(b : Rl) * P - (P : Rl) * RR.rt (b * b - 4 * a * c)) (by omega) (by rw [cast_mul, show ((2 : Int) : Rl) = 2 from rfl]; grind) ?_
  obtain ⟨f1, f2⟩ := f
  constructor
  · rw [cast_sub, cast_sub, cast_mul, cast_sub, cast_zero, cast_one]; grind
  · rw [cast_sub, cast_sub, cast_mul, cast_sub, cast_zero, cast_one]; grind
end RR
namespace RR
/-! ### the sign of a polynomial where it has no root -/
theorem four_pv {c b a : Int} {x : Rl} : (4 * (a : Rl)) * pv c b a x = (2 * a * x + b) * (2 * a * x + b) - ((b : Rl) * b - 4 * a * c) := by unfold pv; grind
theorem two_cast {a : Int} : ((2 * a : Int) : Rl) = 2 * (a : Rl) := by rw [cast_mul]; rfl
theorem solve {a : Int} (ha : a ≠ 0) (y : Rl) : ∃ z : Rl, (a : Rl) * z = y := ⟨inv a * y, by have := inv_mul ha; grind⟩
theorem mul_lt {a x y : Rl} (ha : 0 < a) : a * x < a * y ↔ x < y := by
  constructor
  · intro h
    refine Classical.byContradiction fun q => ?_
    have := mul_nn (show 0 ≤ a by grind) (show 0 ≤ x - y by grind)
    grind
  · intro h
    have := mul_pos ha (show 0 < y - x by grind)
    grind
theorem mul_lt_neg {a x y : Rl} (ha : a < 0) : a * x < a * y ↔ y < x := by
  have := mul_lt (a := -a) (x := y) (y := x) (by grind)
  rw [← this]
  constructor <;> intro h <;> grind
theorem sq_lt_abs {x s : Rl} (hs : 0 ≤ s) (h1 : x < s) (h2 : -s < x) : x * x < s * s := by
  have := mul_pos (show 0 < s - x by grind) (show 0 < s + x by grind)
  grind
theorem sg_mul_neg {x y : Rl} (h : y < 0) : sgR (y * x) = - sgR x := by
  have := sg_mul_pos (x := x) (y := -y) (by grind)
  rw [show y * x = -(-y * x) by grind, sg_neg', this]
theorem sg_same {u v : Rl} (h : 0 < u ∧ 0 < v ∨ u < 0 ∧ v < 0) : sgR u = sgR v := by
  rcases h with ⟨a, b⟩ | ⟨a, b⟩
  · rw [sg_pos a, sg_pos b]
  · rw [sg_neg a, sg_neg b]
theorem pv_between {c b a : Int} {x y : Rl} (hxy : x < y) (no : ∀ z, x ≤ z → z ≤ y → pv c b a z ≠ 0) : sgR (pv c b a x) = sgR (pv c b a y) := by
  have nx := no x (by grind) (by grind)
  have ny := no y (by grind) (by grind)
  by_cases ha : a = 0
  · subst ha
    have e : ∀ z, pv c b 0 z = c + b * z := fun z => by unfold pv; rw [cast_zero]; grind
    by_cases hb : b = 0
    · subst hb
      rw [e, e, cast_zero]; congr 1; grind
    · obtain ⟨z, hz⟩ := solve hb (-(c : Rl))
      rw [e] at nx ny
      rw [e, e]
      refine Classical.byContradiction fun q => ?_
      have key : x ≤ z ∧ z ≤ y := by
        have e1 : (b : Rl) * (x - z) = c + b * x := by grind
        have e2 : (b : Rl) * (y - z) = c + b * y := by grind
        rcases Int.lt_or_gt_of_ne hb with hb' | hb'
        · have hb' := cast_neg' hb'
          refine ⟨Classical.byContradiction fun w => ?_, Classical.byContradiction fun w => ?_⟩
          · exact q (sg_same (.inr (by
              have h1 := mul_pos (show 0 < -(b : Rl) by grind) (show 0 < x - z by grind)
              have h2 := mul_pos (show 0 < -(b : Rl) by grind) (show 0 < y - z by grind)
              constructor <;> grind)))
          · exact q (sg_same (.inl (by
              have h1 := mul_pos (show 0 < -(b : Rl) by grind) (show 0 < z - x by grind)
              have h2 := mul_pos (show 0 < -(b : Rl) by grind) (show 0 < z - y by grind)
              constructor <;> grind)))
        · have hb' := cast_pos hb'
          refine ⟨Classical.byContradiction fun w => ?_, Classical.byContradiction fun w => ?_⟩
          · exact q (sg_same (.inl (by
              have h1 := mul_pos hb' (show 0 < x - z by grind)
              have h2 := mul_pos hb' (show 0 < y - z by grind)
              constructor <;> grind)))
          · exact q (sg_same (.inr (by
              have h1 := mul_pos hb' (show 0 < z - x by grind)
              have h2 := mul_pos hb' (show 0 < z - y by grind)
              constructor <;> grind)))
      exact no z key.1 key.2 (by rw [e]; grind)
  · have key : ∀ u v s : Rl, 0 ≤ s → u < v → (∀ w, u ≤ w → w ≤ v → w * w ≠ s * s) → (0 < u * u - s * s ∧ 0 < v * v - s * s ∨ u * u - s * s < 0 ∧ v * v - s * s < 0) := by
      intro u v s hs huv hw
      by_cases h1 : v < -s
      · left
        have k1 := mul_pos (show 0 < s - u by grind) (show 0 < -s - u by grind)
        have k2 := mul_pos (show 0 < s - v by grind) (show 0 < -s - v by grind)
        constructor <;> grind
      · by_cases h2 : s < u
        · left
          have k1 := mul_pos (show 0 < u - s by grind) (show 0 < u + s by grind)
          have k2 := mul_pos (show 0 < v - s by grind) (show 0 < v + s by grind)
          constructor <;> grind
        · have h3 : ¬ u ≤ -s := fun q => hw (-s) q (by grind) (by grind)
          have h4 : ¬ s ≤ v := fun q => hw s (by grind) q rfl
          right
          have k1 := sq_lt_abs hs (x := u) (by grind) (by grind)
          have k2 := sq_lt_abs hs (x := v) (by grind) (by grind)
          constructor <;> grind
    have main : sgR ((4 * (a : Rl)) * pv c b a x) = sgR ((4 * (a : Rl)) * pv c b a y) := by
      rw [four_pv, four_pv]
      by_cases hD : 0 ≤ b * b - 4 * a * c
      · have e := rt_sq hD
        have s0 := rt_nn (b * b - 4 * a * c)
        rw [disc_cast] at e
        generalize RR.rt (b * b - 4 * a * c) = s at e s0
        rw [← e]
        have hz : ∀ w : Rl, w * w = s * s → ∀ z, (2 * (a : Rl)) * z = w - b → pv c b a z = 0 := fun w hw z ez => by
          have h4 : (4 * (a : Rl)) * pv c b a z = 0 := by
            rw [four_pv, show 2 * (a : Rl) * z + b = w by grind, hw, e]; grind
          have := inv_mul (show 4 * a ≠ 0 by omega)
          rw [cast_mul, show ((4 : Int) : Rl) = 4 from rfl] at this
          have h5 : inv (4 * a) * ((4 * (a : Rl)) * pv c b a z) = 0 := by rw [h4]; grind
          grind
        rcases Int.lt_or_gt_of_ne ha with ha' | ha'
        · have ha2 : 2 * (a : Rl) < 0 := by have := cast_neg' ha'; grind
          have k := key (2 * (a : Rl) * y + b) (2 * a * x + b) s s0 (by have := (mul_lt_neg ha2 (x := y) (y := x)).mpr hxy; grind) (fun w w1 w2 ew => by
            obtain ⟨z, ez⟩ := solve (show 2 * a ≠ 0 by omega) (w - b)
            rw [two_cast] at ez
            refine no z ?_ ?_ (hz w ew z ez)
            · refine Classical.byContradiction fun q => ?_
              have := (mul_lt_neg ha2 (x := x) (y := z)).mpr (by grind)
              grind
            · refine Classical.byContradiction fun q => ?_
              have := (mul_lt_neg ha2 (x := z) (y := y)).mpr (by grind)
              grind)
          exact (sg_same k).symm
        · have ha2 : 0 < 2 * (a : Rl) := by have := cast_pos ha'; grind
          have k := key (2 * (a : Rl) * x + b) (2 * a * y + b) s s0 (by have := (mul_lt ha2 (x := x) (y := y)).mpr hxy; grind) (fun w w1 w2 ew => by
            obtain ⟨z, ez⟩ := solve (show 2 * a ≠ 0 by omega) (w - b)
            rw [two_cast] at ez
            refine no z ?_ ?_ (hz w ew z ez)
            · refine Classical.byContradiction fun q => ?_
              have := (mul_lt ha2 (x := z) (y := x)).mpr (by grind)
              grind
            · refine Classical.byContradiction fun q => ?_
              have := (mul_lt ha2 (x := y) (y := z)).mpr (by grind)
              grind)
          exact sg_same k
      · have hD' := cast_neg' (show b * b - 4 * a * c < 0 by omega)
        rw [disc_cast] at hD'
        have sqn : ∀ u : Rl, 0 ≤ u * u := fun u => by
          rcases tri u with q | q | q
          · have := mul_pos q q; grind
          · have := mul_pos (show 0 < -u by grind) (show 0 < -u by grind); grind
          · rw [q]; grind
        have k1 := sqn (2 * a * x + b)
        have k2 := sqn (2 * a * y + b)
        exact sg_same (.inl (by constructor <;> grind))
    rcases Int.lt_or_gt_of_ne ha with ha' | ha'
    · have ha2 : 4 * (a : Rl) < 0 := by have := cast_neg' ha'; grind
      rw [sg_mul_neg ha2, sg_mul_neg ha2] at main
      omega
    · have ha2 : 0 < 4 * (a : Rl) := by have := cast_pos ha'; grind
      rwa [sg_mul_pos ha2, sg_mul_pos ha2] at main
end RR
namespace RR
/-! ### fractions between two times -/
theorem spot_gt {P s : Int} {x : Rl} (hP : 0 < P) (h : IsFl ((P : Rl) * x) s) : x < (Tm.fr (s + 1) P).val ∧ (P : Rl) * (Tm.fr (s + 1) P).val ≤ (P : Rl) * x + 1 := by
  have e := val_fr (p := s + 1) hP
  rw [cast_add, cast_one] at e
  obtain ⟨h1, h2⟩ := h
  have hP' := cast_pos hP
  rw [← mul_lt hP', e]
  constructor <;> grind
theorem gap {N : Int} {t u : Tm} (hN : 1 ≤ N) (ht : t.Nm) (hu : u.Nm) (ti : t.In N) (ui : u.In N) (lt : t.val < u.val) : 1 ≤ big N * (u.val - t.val) := by
  rcases sep hN ht hu ti ui (e := u.val - t.val) ⟨by grind, by grind⟩ with q | q
  · subst q; grind
  · exact q
theorem spot_mid {N P s : Int} {t u : Tm} (hN : 1 ≤ N) (ht : t.Nm) (hu : u.Nm) (ti : t.In N) (ui : u.In N) (lt : t.val < u.val) (hP : 0 < P) (hb : big N < (P : Rl)) (h : IsFl ((P : Rl) * t.val) s) :
    t.val < (Tm.fr (s + 1) P).val ∧ (Tm.fr (s + 1) P).val < u.val := by
  obtain ⟨a, b⟩ := spot_gt hP h
  have g := gap hN ht hu ti ui lt
  refine ⟨a, ?_⟩
  have hP' := cast_pos hP
  rw [← mul_lt hP']
  have := mul_pos (show 0 < (P : Rl) - big N by grind) (show 0 < u.val - t.val by grind)
  grind
/-! ### steps between two ends -/
def SB (X Y l0 l1 r0 r1 α β : Int) : Prop := 0 ≤ l0 ∧ 0 < l1 ∧ 0 < r0 ∧ 0 ≤ r1 ∧ r0 * l1 - l0 * r1 = 1 ∧ 1 ≤ α ∧ 1 ≤ β ∧ X = α * l0 + β * r0 ∧ Y = α * l1 + β * r1
theorem gcd_of {x y u v : Int} (e : u * x + v * y = 1) : Int.gcd x y = 1 := by
  have h1 : (Int.gcd x y : Int) ∣ x := Int.gcd_dvd_left x y
  have h2 : (Int.gcd x y : Int) ∣ y := Int.gcd_dvd_right x y
  have h3 : (Int.gcd x y : Int) ∣ 1 := by
    rw [← e]
    exact Int.dvd_add (Int.dvd_mul_of_dvd_right h1) (Int.dvd_mul_of_dvd_right h2)
  have := Int.eq_one_of_dvd_one (by omega) h3
  omega
variable {X Y l0 l1 r0 r1 α β m : Int}
theorem SB.nr (h : SB X Y l0 l1 r0 r1 α β) (hm : 1 ≤ m) : (Tm.fr (r0 * m + l0) (r1 * m + l1)).Nm := by
  obtain ⟨a, b, c, d, e, _⟩ := h
  refine ⟨?_, gcd_of (u := - r1) (v := r0) (by grind)⟩
  have := Int.mul_nonneg d (show 0 ≤ m by omega)
  omega
theorem SB.pos (h : SB X Y l0 l1 r0 r1 α β) : 0 < X ∧ 0 < Y := by
  obtain ⟨a, b, c, d, e, f, g, x, y⟩ := h
  have h1 := Int.mul_nonneg (show 0 ≤ α by omega) a
  have h2 := Int.mul_pos (show 0 < α by omega) b
  have h3 := Int.mul_pos (show 0 < β by omega) c
  have h4 := Int.mul_nonneg (show 0 ≤ β by omega) d
  omega
theorem SB.le (h : SB X Y l0 l1 r0 r1 α β) : l0 + r0 ≤ X ∧ l1 + r1 ≤ Y ∧ α ≤ Y ∧ β ≤ X := by
  obtain ⟨a, b, c, d, e, f, g, x, y⟩ := h
  have h1 := Int.mul_nonneg (show 0 ≤ α - 1 by omega) a
  have h2 := Int.mul_nonneg (show 0 ≤ α - 1 by omega) (show 0 ≤ l1 by omega)
  have h3 := Int.mul_nonneg (show 0 ≤ β - 1 by omega) (show 0 ≤ r0 by omega)
  have h4 := Int.mul_nonneg (show 0 ≤ β - 1 by omega) d
  have h5 := Int.mul_nonneg (show 0 ≤ α by omega) (show 0 ≤ l1 - 1 by omega)
  have h6 := Int.mul_nonneg (show 0 ≤ β by omega) (show 0 ≤ r0 - 1 by omega)
  have h7 := Int.mul_nonneg (show 0 ≤ β by omega) d
  have h8 := Int.mul_nonneg (show 0 ≤ α by omega) a
  rw [Int.sub_mul] at h1 h2 h3 h4
  rw [Int.mul_sub] at h5 h6
  omega
theorem SB.left (h : SB X Y l0 l1 r0 r1 α β) (hm : 1 ≤ m) (lt : X * (l1 * m + r1) < (l0 * m + r0) * Y) : m < α ∧ SB X Y l0 l1 (l0 * m + r0) (l1 * m + r1) (α - m * β) β := by
  obtain ⟨a, b, c, d, e, f, g, x, y⟩ := h
  have k : m * β < α := by
    have e1 : (l0 * m + r0) * Y - X * (l1 * m + r1) = (r0 * l1 - l0 * r1) * (α - m * β) := by rw [x, y]; grind
    rw [e, Int.one_mul] at e1
    omega
  have h1 := Int.mul_nonneg (show 0 ≤ m by omega) (show 0 ≤ β - 1 by omega)
  rw [Int.mul_sub] at h1
  have h2 := Int.mul_nonneg a (show 0 ≤ m by omega)
  have h3 := Int.mul_nonneg (show 0 ≤ l1 by omega) (show 0 ≤ m by omega)
  refine ⟨by omega, a, b, by omega, by omega, ?_, by omega, g, ?_, ?_⟩
  · rw [← e]; grind
  · rw [x]; grind
  · rw [y]; grind
theorem SB.right (h : SB X Y l0 l1 r0 r1 α β) (hm : 1 ≤ m) (lt : (r0 * m + l0) * Y < X * (r1 * m + l1)) : m < β ∧ SB X Y (r0 * m + l0) (r1 * m + l1) r0 r1 α (β - m * α) := by
  obtain ⟨a, b, c, d, e, f, g, x, y⟩ := h
  have k : m * α < β := by
    have e1 : X * (r1 * m + l1) - (r0 * m + l0) * Y = (r0 * l1 - l0 * r1) * (β - m * α) := by rw [x, y]; grind
    rw [e, Int.one_mul] at e1
    omega
  have h1 := Int.mul_nonneg (show 0 ≤ m by omega) (show 0 ≤ α - 1 by omega)
  rw [Int.mul_sub] at h1
  have h2 := Int.mul_nonneg (show 0 ≤ r0 by omega) (show 0 ≤ m by omega)
  have h3 := Int.mul_nonneg d (show 0 ≤ m by omega)
  refine ⟨by omega, by omega, by omega, c, d, ?_, f, by omega, ?_, ?_⟩
  · rw [← e]; grind
  · rw [x]; grind
  · rw [y]; grind
theorem SB.start {low : Int} (hl : 0 ≤ low) (hY : 0 < Y) (h : low * Y < X) : SB X Y low 1 1 0 Y (X - low * Y) :=
  ⟨hl, by omega, by omega, by omega, by omega, by omega, by omega, by grind, by grind⟩
end RR
namespace RR
/-! ### where a polynomial is nought -/
theorem mul_zero {x y : Rl} (h : x * y = 0) : x = 0 ∨ y = 0 := by
  rcases tri x with p | p | p
  · right
    rcases tri y with q | q | q
    · have := mul_pos p q; grind
    · have := mul_pos p (show 0 < -y by grind); grind
    · exact q
  · right
    rcases tri y with q | q | q
    · have := mul_pos (show 0 < -x by grind) q; grind
    · have := mul_pos (show 0 < -x by grind) (show 0 < -y by grind); grind
    · exact q
  · exact .inl p
theorem sq_nn' (u : Rl) : 0 ≤ u * u := by
  rcases tri u with q | q | q
  · have := mul_pos q q; grind
  · have := mul_pos (show 0 < -u by grind) (show 0 < -u by grind); grind
  · rw [q]; grind
def RAll (c b a : Int) (ts : List Tm) : Prop := (∀ t ∈ ts, t.Nm ∧ pv c b a t.val = 0) ∧ ∀ x, pv c b a x = 0 → ∃ t ∈ ts, t.val = x
def RPos (c b a : Int) (ts : List Tm) : Prop := (∀ t ∈ ts, t.Nm ∧ pv c b a t.val = 0 ∧ 0 ≤ t.val) ∧ ∀ x, 0 ≤ x → pv c b a x = 0 → ∃ t ∈ ts, t.val = x
theorem RAll.pos {c b a : Int} {ts : List Tm} (h : RAll c b a ts) {f : Tm → Bool} (hf : ∀ t ∈ ts, f t = true ↔ 0 ≤ t.val) : RPos c b a (ts.filter f) := by
  constructor
  · intro t ht
    rw [List.mem_filter] at ht
    exact ⟨(h.1 t ht.1).1, (h.1 t ht.1).2, (hf t ht.1).mp ht.2⟩
  · intro x hx e
    obtain ⟨t, ht, rfl⟩ := h.2 x e
    exact ⟨t, List.mem_filter.mpr ⟨ht, (hf t ht).mpr hx⟩, rfl⟩
/-! ### the sign between two times -/
def Zb (c b a : Int) (t : Tm) (u : Option Tm) : Prop := ∃ x, pv c b a x = 0 ∧ t.val < x ∧ ∀ v, u = some v → x < v.val
end RR
namespace RR
/-! ### a line at a root: never near to nought but nought -/
/-! ### between two whole numbers -/
theorem fl_nn {x : Rl} {s : Int} (h : IsFl x s) (hx : 0 ≤ x) : 0 ≤ s := by
  refine Int.not_lt.mp fun q => ?_
  have := (h.lt_iff (n := 0)).mpr q
  rw [cast_zero] at this
  grind
end RR
namespace RR
open SL
theorem fl_ex {t : Tm} (nm : t.Nm) {P : Int} (hP : 0 < P) : ∃ s, IsFl ((P : Rl) * t.val) s := by
  cases t with
  | fr p q => exact ⟨_, fl_fr nm.1⟩
  | rt c b a w =>
    have h0 : 0 ≤ (b * b - 4 * a * c) * (P * P) := Int.mul_nonneg (Int.le_of_lt nm.2.2.1) (Int.mul_nonneg (Int.le_of_lt hP) (Int.le_of_lt hP))
    obtain ⟨r, hr⟩ := isRt_ex h0
    rcases nm.2.2.2.2 with rfl | rfl
    · exact ⟨_, fl_rt0 nm hP hr⟩
    · exact ⟨_, fl_rt1 nm hP hr⟩
end RR
namespace RR
open SL
end RR
namespace RR
open SL
/-! ### the least fraction between two times -/
end RR
namespace RR
open SL
/-! ### two rising lists as one -/
def Up (ts : List Tm) : Prop := ts.Pairwise fun x y => x.val < y.val
structure MI (ls rs : List Tm) (a i : Nat) (fs : List Tm) : Prop where
  ha : a ≤ ls.length
  up : Up fs
  lo : ∀ x ∈ fs, ∀ l ∈ ls.drop a, x.val < l.val
  ro : ∀ x ∈ fs, ∀ r ∈ rs.drop i, x.val < r.val
  mem : ∀ x, x ∈ fs ↔ x ∈ ls.take a ∨ (x ∈ rs.take i ∧ x ∉ ls)
variable {ls rs fs : List Tm} {a i : Nat}
theorem MI.zero : MI ls rs 0 0 [] := ⟨Nat.zero_le _, List.Pairwise.nil, fun x h => (by cases h), fun x h => (by cases h), fun x => by simp⟩
theorem up_snoc {t : Tm} (h : Up fs) (k : ∀ x ∈ fs, x.val < t.val) : Up (fs ++ [t]) := by
  unfold Up at *
  rw [List.pairwise_append]
  exact ⟨h, List.pairwise_singleton _ _, fun x hx y hy => by cases List.mem_singleton.mp hy; exact k x hx⟩
theorem up_drop (h : Up ls) (l : a < ls.length) : ∀ x ∈ ls.drop (a + 1), ls[a].val < x.val := by
  have e := List.drop_eq_getElem_cons l
  have : Up (ls.drop a) := List.Pairwise.sublist (List.drop_sublist _ _) h
  rw [e] at this
  exact (List.pairwise_cons.mp this).1
theorem mem_drop_lt (l : a < ls.length) : ls[a] ∈ ls.drop a := by rw [List.drop_eq_getElem_cons l]; exact List.mem_cons_self
theorem MI.left (h : MI ls rs a i fs) (ul : Up ls) (ur : Up rs) (l : a < ls.length) (l2 : i < rs.length) (lt : ls[a].val < rs[i].val) : MI ls rs (a + 1) i (fs ++ [ls[a]]) := by
  refine ⟨l, up_snoc h.up fun x hx => h.lo x hx _ (mem_drop_lt l), fun x hx y hy => ?_, fun x hx y hy => ?_, fun x => ?_⟩
  · rcases List.mem_append.mp hx with hx | hx
    · exact h.lo x hx y (by rw [List.drop_eq_getElem_cons l]; exact List.mem_cons_of_mem _ hy)
    · cases List.mem_singleton.mp hx
      exact up_drop ul l y hy
  · rcases List.mem_append.mp hx with hx | hx
    · exact h.ro x hx y hy
    · cases List.mem_singleton.mp hx
      rw [List.drop_eq_getElem_cons l2] at hy
      rcases List.mem_cons.mp hy with rfl | hy
      · exact lt
      · have := up_drop ur l2 y hy
        grind
  · rw [List.mem_append, h.mem, List.mem_singleton, List.take_succ_eq_append_getElem l, List.mem_append, List.mem_singleton]
    constructor
    · rintro ((q | q) | q)
      · exact .inl (.inl q)
      · exact .inr q
      · exact .inl (.inr q)
    · rintro ((q | q) | q)
      · exact .inl (.inl q)
      · exact .inr q
      · exact .inl (.inr q)
theorem MI.skip (h : MI ls rs a i fs) (l : a < ls.length) (l2 : i < rs.length) (e : ls[a] = rs[i]) : MI ls rs a (i + 1) fs := by
  refine ⟨h.ha, h.up, h.lo, fun x hx y hy => h.ro x hx y (by rw [List.drop_eq_getElem_cons l2]; exact List.mem_cons_of_mem _ hy), fun x => ?_⟩
  rw [h.mem, List.take_succ_eq_append_getElem l2, List.mem_append, List.mem_singleton]
  constructor
  · rintro (q | ⟨q, k⟩)
    · exact .inl q
    · exact .inr ⟨.inl q, k⟩
  · rintro (q | ⟨q | q, k⟩)
    · exact .inl q
    · exact .inr ⟨q, k⟩
    · subst q
      exact absurd (by rw [← e]; exact List.getElem_mem l) k
theorem MI.right (h : MI ls rs a i fs) (ul : Up ls) (ur : Up rs) (l2 : i < rs.length) (gt : ∀ x ∈ ls.drop a, rs[i].val < x.val) : MI ls rs a (i + 1) (fs ++ [rs[i]]) := by
  have lt : ∀ x ∈ fs, x.val < rs[i].val := fun x hx => h.ro x hx _ (mem_drop_lt l2)
  have nin : rs[i] ∉ ls := fun z => by
    rw [← List.take_append_drop a ls] at z
    rcases List.mem_append.mp z with z | z
    · have := lt _ ((h.mem _).mpr (.inl z)); grind
    · have := gt _ z; grind
  refine ⟨h.ha, up_snoc h.up lt, fun x hx y hy => ?_, fun x hx y hy => ?_, fun x => ?_⟩
  · rcases List.mem_append.mp hx with hx | hx
    · exact h.lo x hx y hy
    · cases List.mem_singleton.mp hx
      exact gt y hy
  · rcases List.mem_append.mp hx with hx | hx
    · exact h.ro x hx y (by rw [List.drop_eq_getElem_cons l2]; exact List.mem_cons_of_mem _ hy)
    · cases List.mem_singleton.mp hx
      exact up_drop ur l2 y hy
  · rw [List.mem_append, h.mem, List.mem_singleton, List.take_succ_eq_append_getElem l2, List.mem_append, List.mem_singleton]
    constructor
    · rintro ((q | ⟨q, k⟩) | rfl)
      · exact .inl q
      · exact .inr ⟨.inl q, k⟩
      · exact .inr ⟨.inr rfl, nin⟩
    · rintro (q | ⟨q | q, k⟩)
      · exact .inl (.inl q)
      · exact .inl (.inr ⟨q, k⟩)
      · exact .inr q
theorem MI.done (h : MI ls rs a rs.length fs) (ul : Up ls) : Up (fs ++ ls.drop a) ∧ ∀ x, x ∈ fs ++ ls.drop a ↔ x ∈ ls ∨ x ∈ rs := by
  constructor
  · unfold Up
    rw [List.pairwise_append]
    exact ⟨h.up, List.Pairwise.sublist (List.drop_sublist _ _) ul, h.lo⟩
  · intro x
    rw [List.mem_append, h.mem, List.take_length]
    have : x ∈ ls ↔ x ∈ ls.take a ∨ x ∈ ls.drop a := by rw [← List.mem_append, List.take_append_drop]
    constructor
    · rintro ((q | ⟨q, _⟩) | q)
      · exact .inl (this.mpr (.inl q))
      · exact .inr q
      · exact .inl (this.mpr (.inr q))
    · rintro (q | q)
      · rcases this.mp q with q | q
        · exact .inl (.inl q)
        · exact .inr q
      · by_cases z : x ∈ ls
        · rcases this.mp z with q | q
          · exact .inl (.inl q)
          · exact .inr q
        · exact .inl (.inr ⟨q, z⟩)
end RR
namespace SL
open RR
end SL
namespace SL
open RR
open PySem (PyData)
theorem eqvAll_map {α : Type} (f : α → PyData) (hf : ∀ x, PyData.eqv (f x) (f x) = true) : ∀ xs : List α, PyData.eqvAll (xs.map f) (xs.map f) = true
  | [] => rfl
  | x :: xs => by
    show (PyData.eqv (f x) (f x) && PyData.eqvAll (xs.map f) (xs.map f)) = true
    rw [hf, eqvAll_map f hf xs]
    rfl
theorem eqv_int (i j : Int) : PyData.eqv (.int i) (.int j) = (i == j) := rfl
theorem mapO_int (h : Hs) : ∀ xs : List Int, mapO (toP 31 h) (xs.map D.int) = some (xs.map PyData.int)
  | [] => rfl
  | x :: xs => by
    rw [List.map_cons, List.map_cons]
    unfold mapO
    rw [show toP 31 h (.int x) = some (.int x) from rfl, mapO_int h xs]
theorem toP_ints {h : Hs} {n : Nat} {xs : List Int} (e : getL h n = some (xs.map D.int)) : toP 32 h (.ref n) = some (.list (xs.map PyData.int)) := by
  show (match getL h n with | some ds => (match mapO (toP 31 h) ds with | some ps => some (PySem.PyData.list ps) | none => none) | none => none) = _
  rw [e]
  simp only [mapO_int]
theorem eq_ints {h : Hs} {n m : Nat} {xs : List Int} (e1 : getL h n = some (xs.map D.int)) (e2 : getL h m = some (xs.map D.int)) : eqB h (.ref n) (.ref m) = some true := by
  unfold eqB
  rw [toP_ints e1, toP_ints e2]
  show some (PyData.eqvAll (xs.map PyData.int) (xs.map PyData.int)) = _
  rw [eqvAll_map PyData.int (fun x => by rw [eqv_int]; simp)]
theorem ne_ints {h : Hs} {n m : Nat} {xs : List Int} (e1 : getL h n = some (xs.map D.int)) (e2 : getL h m = some (xs.map D.int)) : neG (.ref n) (.ref m) h = some (.bl false, h) := by
  unfold neG
  rw [eq_ints e1 e2]
  rfl
end SL
namespace SL
open RR PySem
/-! ### worlds as they are drawn: the state of the draw, things, rows -/
abbrev NR (n r : Nat) : Nat → Prop := fun i => i ≠ n ∧ i ≠ r
structure Wm (s r n k : Nat) (h : Hs) : Prop where
  ex : ∃ (ns ms : List Int) (k0 : Nat), k0 ≤ k ∧ h[n]? = some (.dct [(.inr "script", .ref s), (.inr "at", .int k0), (.inr "rest", .ref r)]) ∧ h[r]? = some (.lst (ms.map D.int)) ∧ getL h s = some (ns.map D.int) ∧ ms.length = ns.length ∧ ns.length ≤ 63
  sr : s ≠ r
  sn : s ≠ n
theorem Wm.lt {s r n k : Nat} {h : Hs} (a : Wm s r n k h) : n < h.length := by
  obtain ⟨_, _, _, _, e, _⟩ := a.ex
  exact get_lt e
theorem Wm.keep {s r n k : Nat} {h h' : Hs} (a : Wm s r n k h) (kp : KA h h') : Wm s r n k h' := by
  obtain ⟨ns, ms, k0, lk, e1, e2, e3, l1, l2⟩ := a.ex
  exact ⟨⟨ns, ms, k0, lk, kp.get e1 trivial, kp.get e2 trivial, KA.getL kp e3, l1, l2⟩, a.sr, a.sn⟩
theorem Wm.app {s r n k : Nat} {h G : Hs} (a : Wm s r n k h) : Wm s r n k (h ++ G) := a.keep Keep.app
theorem Wm.set {s r n k L : Nat} {h : Hs} {o : AO} (a : Wm s r n k h) (h1 : L ≠ n) (h2 : L ≠ r) (h3 : L ≠ s) : Wm s r n k (h.set L o) := by
  obtain ⟨ns, ms, k0, lk, e1, e2, e3, l1, l2⟩ := a.ex
  refine ⟨⟨ns, ms, k0, lk, by rw [List.getElem?_set_ne h1]; exact e1, by rw [List.getElem?_set_ne h2]; exact e2, ?_, l1, l2⟩, a.sr, a.sn⟩
  unfold getL at e3 ⊢
  rw [List.getElem?_set_ne h3]; exact e3
theorem Wm.up {s r n k k' : Nat} {h : Hs} (a : Wm s r n k h) (l : k ≤ k') : Wm s r n k' h := by
  obtain ⟨ns, ms, k0, lk, e⟩ := a.ex
  exact ⟨⟨ns, ms, k0, Nat.le_trans lk l, e⟩, a.sr, a.sn⟩
theorem ka_nr {n r : Nat} {h h' : Hs} (k : KA h h') : Keep (NR n r) h h' := k.weak fun _ _ => trivial
theorem Bd.fm {i j : Int} (h : (decide (j ≠ 0) && decide (j.natAbs < 2 ^ 64)) = true) : Bd 64 (i.fmod j) := by
  rw [Bool.and_eq_true] at h
  exact Bd.fmod' (show j.natAbs < 2 ^ 64 from of_decide_eq_true h.2) (of_decide_eq_true h.1)
theorem small_line {n : Nat} (h : n < 4000) : n < sizeLine := Nat.lt_of_lt_of_le h (Nat.le_of_ble_eq_true rfl)
structure Row where
  t : Int
  u : Int
  v : Int
  deriving DecidableEq
structure Th where
  nm : Str
  x : Int
  y : Int
  rs : List Row
def Row.D (r : Row) : D := .tup [.int r.t, .int r.u, .int r.v]
def rowsD (rs : List Row) : SL.D := .tup (rs.map Row.D)
def Th.D (a : Th) : SL.D := .tup [.str a.nm, .int a.x, .int a.y, rowsD a.rs]
def Row.P (r : Row) : PyData := .tuple [.int r.t, .int r.u, .int r.v]
def Th.P (a : Th) : PyData := .tuple [.str a.nm, .int a.x, .int a.y, .tuple (a.rs.map Row.P)]
def Rising : Int → List Row → Prop
  | _, [] => True
  | lo, r :: rs => lo ≤ r.t ∧ Rising (r.t + 1) rs
structure RowOk (r : Row) : Prop where
  t : r.t < 2 ^ 30
  u : -1000 ≤ r.u ∧ r.u ≤ 1000
  v : -1000 ≤ r.v ∧ r.v ≤ 1000
def names12 : List Str := ["gull", "ox", "arc", "ar", "root", "f", "gu", "oxen", "wall", "el", "thing", "th"]
def names13 : List Str := names12 ++ (([("bee" : Str), "b", "ab", "zzz", "a", "ca", "m", "kk", "abc", "yes", "d", "xyz", "c"] : List Str) ++ (([("zed" : Str), "aa", "x", "dd", "none", "eight", "far", "so", "ba", "k", "mno", "qrstuvwx", "y", "zz"] : List Str) ++ ([("elm" : Str), "oak", "abcdefgh", "uu", "w", "l", "longname", "no", "q", "xy", "yx", "alone", "twin"] : List Str)))
structure ThOk (a : Th) : Prop where
  x : -1000000 ≤ a.x ∧ a.x ≤ 1000000
  y : -1000000 ≤ a.y ∧ a.y ≤ 1000000
  up : Rising 0 a.rs
  ok : ∀ r ∈ a.rs, RowOk r
  few : a.rs.length ≤ 12
  nm : a.nm ∈ names13
theorem Rising.mono : ∀ {rs : List Row} {a b : Int}, b ≤ a → Rising a rs → Rising b rs
  | [], _, _, _, _ => trivial
  | r :: rs, a, b, l, ⟨h1, h2⟩ => ⟨Int.le_trans l h1, h2⟩
theorem Rising.snoc : ∀ {rs : List Row} {a : Int} {r : Row}, Rising a rs → (∀ q ∈ rs, q.t < r.t) → a ≤ r.t → Rising a (rs ++ [r])
  | [], a, r, _, _, l => ⟨l, trivial⟩
  | q :: rs, a, r, ⟨h1, h2⟩, h, l => ⟨h1, h2.snoc (fun z hz => h z (List.mem_cons_of_mem _ hz)) (h q List.mem_cons_self)⟩
theorem Rising.ge : ∀ {rs : List Row} {a : Int}, Rising a rs → ∀ q ∈ rs, a ≤ q.t
  | [], _, _, q, hq => nomatch hq
  | r :: rs, a, ⟨h1, h2⟩, q, hq => by
    rcases List.mem_cons.mp hq with rfl | hq
    · exact h1
    · have := h2.ge q hq; omega
end SL
namespace SL
/-! ### ways, row by row -/
structure Pc where
  a : Int
  b : Option Int
  x : Int
  u : Int
  y : Int
  v : Int
def lnD (x u : Int) : D := .tup [.int x, .int u, .int 0]
def Pc.pl (p : Pc) : D := .tup [lnD p.x p.u, lnD p.y p.v]
def wayF : Int → Int → Int → Int → Int → List Row → List Pc
  | x, y, s, u, v, [] => [⟨s, none, x - u * s, u, y - v * s, v⟩]
  | x, y, s, u, v, r :: rs => (if s < r.t then [⟨s, some r.t, x - u * s, u, y - v * s, v⟩] else []) ++ wayF (x + u * (r.t - s)) (y + v * (r.t - s)) r.t r.u r.v rs
def wayT (a : Th) : List Pc := wayF a.x a.y 0 0 0 a.rs
def posF (f : Row → Int) : Int → Int → Int → List Row → Int → Int
  | x, s, u, [], T => x + u * (T - s)
  | x, s, u, r :: rs, T => if T < r.t then x + u * (T - s) else posF f (x + u * (r.t - s)) r.t (f r) rs T
def spF (f : Row → Int) : Int → List Row → Int → Int
  | u, [], _ => u
  | u, r :: rs, T => if T < r.t then u else spF f (f r) rs T
def goneF (s T : Int) (rs : List Row) : Int :=
  let e := match rs with
    | [] => T
    | q :: _ => q.t
  let z := (if T < e then T else e) - s
  if z > 0 then z else 0
def lawX (f : Row → Int) : Int → List Row → Int → Int
  | x, [], _ => x
  | x, r :: rs, T => lawX f (x + f r * goneF r.t T rs) rs T
theorem lawX_still (f : Row → Int) : ∀ {rs : List Row} {lo x T : Int}, Rising lo rs → T ≤ lo → lawX f x rs T = x
  | [], _, _, _, _, _ => rfl
  | r :: rs, lo, x, T, ⟨h1, h2⟩, l => by
    have e : goneF r.t T rs = 0 := by
      unfold goneF
      cases rs with
      | nil => simp only; split <;> split <;> omega
      | cons q rs => simp only; split <;> split <;> omega
    show lawX f (x + f r * goneF r.t T rs) rs T = x
    rw [e, Int.mul_zero, Int.add_zero]
    exact lawX_still f h2 (by omega)
theorem lawX_pos (f : Row → Int) : ∀ {rs : List Row} {x s u T : Int}, Rising s rs → s ≤ T → lawX f (x + u * goneF s T rs) rs T = posF f x s u rs T
  | [], x, s, u, T, _, l => by
    have e : goneF s T [] = T - s := by unfold goneF; simp only; split <;> split <;> omega
    rw [e]; rfl
  | r :: rs, x, s, u, T, ⟨h1, h2⟩, l => by
    unfold posF
    by_cases q : T < r.t
    · have e : goneF s T (r :: rs) = T - s := by unfold goneF; simp only; split <;> split <;> omega
      rw [if_pos q, e]
      exact lawX_still f (lo := r.t) ⟨Int.le_refl _, h2⟩ (by omega)
    · have e : goneF s T (r :: rs) = r.t - s := by unfold goneF; simp only; split <;> split <;> omega
      rw [if_neg q, e]
      exact lawX_pos f (h2.mono (by omega)) (by omega)
theorem lawX_at (f : Row → Int) {rs : List Row} {x T : Int} (h : Rising 0 rs) (l : 0 ≤ T) : lawX f x rs T = posF f x 0 0 rs T := by
  rw [← lawX_pos f h l, Int.zero_mul, Int.add_zero]
def pcAt (x y s u v : Int) (rs : List Row) (b : Int) (e : Option Int) : Pc :=
  ⟨b, e, posF (·.u) x s u rs b - spF (·.u) u rs b * b, spF (·.u) u rs b, posF (·.v) y s v rs b - spF (·.v) v rs b * b, spF (·.v) v rs b⟩
def zipU : List Int → List (Int × Option Int)
  | [] => []
  | [a] => [(a, none)]
  | a :: b :: r => (a, some b) :: zipU (b :: r)
theorem zipU_cons (a : Int) {bs : List Int} {b : Int} {r : List Int} (e : bs = b :: r) : zipU (a :: bs) = (a, some b) :: zipU bs := by subst e; rfl
theorem way_strict : ∀ {rs : List Row} {x y s u v : Int}, Rising (s + 1) rs → wayF x y s u v rs = (zipU (s :: rs.map (·.t))).map fun p => pcAt x y s u v rs p.1 p.2
  | [], x, y, s, u, v, _ => by
    show [_] = [_]
    congr 1
    show Pc.mk _ _ _ _ _ _ = Pc.mk _ _ _ _ _ _
    simp only [posF, spF, Int.sub_self, Int.mul_zero, Int.add_zero]
  | r :: rs, x, y, s, u, v, ⟨h1, h2⟩ => by
    have ih := way_strict (x := x + u * (r.t - s)) (y := y + v * (r.t - s)) (u := r.u) (v := r.v) h2
    unfold wayF
    rw [if_pos (by omega), ih, List.map_cons, zipU_cons s rfl, List.map_cons]
    show _ :: _ = _ :: _
    congr 1
    · show Pc.mk _ _ _ _ _ _ = Pc.mk _ _ _ _ _ _
      have c : s < r.t := by omega
      simp only [posF, spF, if_pos c, Int.sub_self, Int.mul_zero, Int.add_zero]
    · refine List.map_congr_left fun p hp => ?_
      have ge : r.t ≤ p.1 := by
        have mem : p.1 ∈ r.t :: rs.map (·.t) := by
          have : ∀ (l : List Int) (p : Int × Option Int), p ∈ zipU l → p.1 ∈ l := fun l => by
            induction l with
            | nil => intro p h; cases h
            | cons a l ih =>
              intro p h
              cases l with
              | nil => rw [show zipU [a] = [(a, none)] from rfl] at h; rw [List.mem_singleton.mp h]; exact List.mem_cons_self
              | cons b l =>
                rw [zipU_cons a rfl] at h
                rcases List.mem_cons.mp h with h | h
                · rw [h]; exact List.mem_cons_self
                · exact List.mem_cons_of_mem _ (ih p h)
          exact this _ p hp
        rcases List.mem_cons.mp mem with q | q
        · omega
        · obtain ⟨z, hz, e⟩ := List.mem_map.mp q
          have := h2.ge z hz
          omega
      have c : ¬ p.1 < r.t := by omega
      unfold pcAt
      simp only [posF, spF, if_neg c]
def begT (rs : List Row) : List Int := match rs with
  | [] => [0]
  | r :: rs => if 0 < r.t then 0 :: r.t :: rs.map (·.t) else r.t :: rs.map (·.t)
def pcT (a : Th) (b : Int) (e : Option Int) : Pc := pcAt a.x a.y 0 0 0 a.rs b e
theorem way_pcs (a : Th) (h : Rising 0 a.rs) : wayT a = (zipU (begT a.rs)).map fun p => pcT a p.1 p.2 := by
  unfold wayT pcT begT
  cases e : a.rs with
  | nil => exact way_strict (rs := []) trivial
  | cons r rs =>
    rw [e] at h
    obtain ⟨h1, h2⟩ := h
    simp only
    by_cases q : 0 < r.t
    · rw [if_pos q]
      exact way_strict (rs := r :: rs) ⟨by omega, h2⟩
    · have z : r.t = 0 := by omega
      rw [if_neg q]
      unfold wayF
      rw [if_neg q, List.nil_append, z]
      rw [z] at h2
      have ih := way_strict (x := a.x + 0 * (0 - 0)) (y := a.y + 0 * (0 - 0)) (u := r.u) (v := r.v) h2
      rw [ih]
      refine List.map_congr_left fun p hp => ?_
      have ge : 0 ≤ p.1 := by
        have mem : p.1 ∈ (0 : Int) :: rs.map (·.t) := by
          have : ∀ (l : List Int) (p : Int × Option Int), p ∈ zipU l → p.1 ∈ l := fun l => by
            induction l with
            | nil => intro p h; cases h
            | cons a l ih =>
              intro p h
              cases l with
              | nil => rw [show zipU [a] = [(a, none)] from rfl] at h; rw [List.mem_singleton.mp h]; exact List.mem_cons_self
              | cons b l =>
                rw [zipU_cons a rfl] at h
                rcases List.mem_cons.mp h with h | h
                · rw [h]; exact List.mem_cons_self
                · exact List.mem_cons_of_mem _ (ih p h)
          exact this _ p hp
        rcases List.mem_cons.mp mem with q | q
        · omega
        · obtain ⟨z, hz, e⟩ := List.mem_map.mp q
          have := h2.ge z hz
          omega
      have c : ¬ p.1 < 0 := by omega
      unfold pcAt
      simp only [posF, spF, z, if_neg c]
theorem Rising.lt : ∀ {rs : List Row} {a : Int}, Rising a rs → (rs.map (·.t)).Pairwise (· < ·)
  | [], _, _ => .nil
  | r :: rs, a, ⟨_, h2⟩ => by
    rw [List.map_cons]
    refine List.pairwise_cons.mpr ⟨fun z hz => ?_, h2.lt⟩
    obtain ⟨q, hq, e⟩ := List.mem_map.mp hz
    have := h2.ge q hq
    omega
theorem beg_ssI {rs : List Row} (h : Rising 0 rs) : ssI (0 :: rs.map (·.t)) = begT rs := by
  refine up_one (fun z => ?_) (ssI_up _) ?_
  · rw [ssI_mem]
    unfold begT
    cases rs with
    | nil => simp
    | cons r rs =>
      simp only
      split
      · simp
      · next q =>
        have e : r.t = 0 := by have := h.1; omega
        simp [e]
  · unfold begT
    cases rs with
    | nil => simp
    | cons r rs =>
      simp only
      have := h.lt
      rw [List.map_cons] at this
      split
      · next q =>
        refine List.pairwise_cons.mpr ⟨fun z hz => ?_, this⟩
        rcases List.mem_cons.mp hz with rfl | hz
        · exact q
        · have := (List.pairwise_cons.mp this).1 z hz
          omega
      · exact this
theorem begT_ge {rs : List Row} (h : Rising 0 rs) : ∀ b ∈ begT rs, 0 ≤ b := fun b hb => by
  rw [← beg_ssI h, ssI_mem] at hb
  rcases List.mem_cons.mp hb with rfl | hb
  · exact Int.le_refl _
  · obtain ⟨q, hq, rfl⟩ := List.mem_map.mp hb
    exact h.ge q hq
theorem pcAt_line : ∀ {rs : List Row} {x y s u v b c : Int}, Rising s rs → s ≤ b → b ≤ c → (∀ r ∈ rs, r.t ≤ c → r.t ≤ b) → ∀ e e', (pcAt x y s u v rs b e).pl = (pcAt x y s u v rs c e').pl
  | [], x, y, s, u, v, b, c, _, _, _, _, e, e' => by
    unfold pcAt Pc.pl
    simp only [posF, spF]
    have : ∀ x u : Int, x + u * (b - s) - u * b = x + u * (c - s) - u * c := fun x u => by rw [Int.mul_sub, Int.mul_sub]; omega
    rw [this, this y v]
  | r :: rs, x, y, s, u, v, b, c, ⟨h1, h2⟩, l1, l2, h, e, e' => by
    by_cases q : b < r.t
    · have q2 : c < r.t := by
        rcases Int.lt_or_le c r.t with z | z
        · exact z
        · have := h r List.mem_cons_self z; omega
      unfold pcAt Pc.pl
      simp only [posF, spF, if_pos q, if_pos q2]
      have : ∀ x u : Int, x + u * (b - s) - u * b = x + u * (c - s) - u * c := fun x u => by rw [Int.mul_sub, Int.mul_sub]; omega
      rw [this, this y v]
    · have q2 : ¬ c < r.t := by omega
      have ih := pcAt_line (s := r.t) (x := x + u * (r.t - s)) (y := y + v * (r.t - s)) (u := r.u) (v := r.v) (b := b) (c := c) (h2.mono (by omega)) (by omega) l2 (fun z hz => h z (List.mem_cons_of_mem _ hz)) e e'
      unfold pcAt Pc.pl at ih ⊢
      simp only [posF, spF, if_neg q, if_neg q2] at ih ⊢
      exact ih
end SL
namespace SL
open RR PySem
/-! ### instances, step by step -/
section
variable {nm f x : Str} {g : GC} {mo mv : ME} {m : MA} {ρ : Rho} {h h1 : Hs} {d v : D} {ds : List D} {fs : List (Str × D)} {n : Nat} {Q : D → Hs → Prop}
def makeK (nm : Str) (g : GC) (ds : List D) (h1 : Hs) : Option (D × Hs) := match g (.ref h1.length :: ds) (h1 ++ [.ins nm []]) with
  | some (.non, h2) => some (.ref h1.length, h2)
  | _ => none
theorem ev_make : eMake nm g m ρ h = bd (m ρ h) (makeK nm g) := rfl
def fsK2 (nm f : Str) (v : D) (ρ : Rho) (d : D) (h2 : Hs) : Option ((Out × Rho) × Hs) := match fldSet nm f v d h2 with
  | some h3 => some ((.nx, ρ), h3)
  | none => none
def fsK1 (nm f : Str) (mo : ME) (ρ : Rho) (v : D) (h1 : Hs) : Option ((Out × Rho) × Hs) := bd (mo ρ h1) (fsK2 nm f v ρ)
theorem ev_fldSet : sFldSet nm f mo mv ρ h = bd (mv ρ h) (fsK1 nm f mo ρ) := rfl
theorem ev_fsK1 : fsK1 nm f mo ρ v h = bd (mo ρ h) (fsK2 nm f v ρ) := rfl
def omK2 (g : GC) (d : D) (ds : List D) (h : Hs) : Option (D × Hs) := g (d :: ds) h
def omK (nm x : Str) (g : GC) (m : MA) (ρ : Rho) (d : D) (h1 : Hs) : Option (D × Hs) := if recv nm x d h1 = true then bd (m ρ h1) (omK2 g d) else none
theorem ev_om : eOM nm x g mo m ρ h = bd (mo ρ h) (omK nm x g m ρ) := rfl
theorem ev_omK2 : omK2 g d ds h = g (d :: ds) h := rfl
/-! more -/
theorem Keep.new {P : Nat → Prop} {h h2 : Hs} {L : Nat} {o : AO} (a : Keep P h h2) (l : h.length ≤ L) : Keep P h (h2.set L o) := ⟨by simpa using a.1, fun k lk p => by
  rw [List.getElem?_set_ne (by omega)]; exact a.2 k lk p⟩
theorem mapO_map {α β : Type} {f : D → Option β} {F : α → D} {G : α → β} : ∀ xs : List α, (∀ x ∈ xs, f (F x) = some (G x)) → mapO f (xs.map F) = some (xs.map G)
  | [], _ => rfl
  | x :: xs, h => by
    show (match f (F x), mapO f (xs.map F) with | some b, some bs => some (b :: bs) | _, _ => none) = _
    rw [h x List.mem_cons_self, mapO_map xs fun y hy => h y (List.mem_cons_of_mem _ hy)]
    rfl
theorem ne_nil {m : Nat} {ps : List PyData} (e1 : getL h n = some ds) (t : mapO (toP 31 h) ds = some ps) (e2 : getL h m = some []) : neG (.ref n) (.ref m) h = some (.bl (!ds.isEmpty), h) := by
  have t1 : toP 32 h (.ref n) = some (.list ps) := by unfold toP; rw [e1]; simp only [t]
  have t2 : toP 32 h (.ref m) = some (.list []) := by unfold toP; rw [e2]; rfl
  unfold neG eqB
  rw [t1, t2]
  have : ds.isEmpty = ps.isEmpty := by
    cases ds with
    | nil => cases t; rfl
    | cons d ds =>
      cases ps with
      | nil => unfold mapO at t; split at t <;> cases t
      | cons p ps => rfl
  rw [this]
  cases ps <;> rfl
end
/-! comprehensions that leave all as it was -/
theorem wp_lcmapT {α : Type} {src : Src} {g : GG} {te : ME} {ρ : Rho} {h0 : Hs} {Q : D → Hs → Prop} (xs : List α) (enc F : α → D) (ln : xs.length < sizeLine) (hs : ∀ h, KA h0 h → ∀ i, src i h = some (xs.map enc)[i]?)
    (turn : ∀ x ∈ xs, ∀ h, KA h0 h → ∃ ρ1, g (enc x) ρ h = some (ρ1, h) ∧ WP (te ρ1 h) fun y h1 => y = F x ∧ KA h h1) (fin : ∀ h, KA h0 h → Q (.ref h.length) (h ++ [.lst (xs.map F)])) : WP (lcW src g tYes1 te ρ 0 [] h0) (Kn lstK Q) := by
  refine wp_lc xs.length ln (fun i acc h => acc = (xs.take i).map F ∧ KA h0 h) ⟨rfl, Keep.refl⟩ (fun i hi acc h _ p => ?_) (fun acc h _ p => ?_)
  · obtain ⟨rfl, k⟩ := p
    obtain ⟨ρ1, e1, w⟩ := turn xs[i] (List.getElem_mem hi) h k
    refine ⟨enc xs[i], ρ1, h, by rw [hs h k i, List.getElem?_map, List.getElem?_eq_getElem hi]; rfl, e1, true, h, rfl, ?_⟩
    refine wp_mono w fun y h1 ⟨ey, k1⟩ => ⟨?_, k.trans k1⟩
    rw [ey, List.take_add_one, List.getElem?_eq_getElem hi, List.map_append]
    rfl
  · obtain ⟨rfl, k⟩ := p
    refine ⟨by rw [hs h k, List.getElem?_eq_none (by simp)], ?_⟩
    rw [List.take_length]
    exact fin h k
section
variable {m : ME} {l u : MO} {ρ : Rho} {h : Hs} {d a b c e : D} {lo hi : Option Int} {i : Int} {ds : List D}
def slK3 (d : D) (lo hi : Option Int) (h : Hs) : Option (D × Hs) := slG d lo hi h
def slK2 (d : D) (u : MO) (ρ : Rho) (lo : Option Int) (h : Hs) : Option (D × Hs) := bd (u ρ h) (slK3 d lo)
def slK1 (l u : MO) (ρ : Rho) (d : D) (h : Hs) : Option (D × Hs) := bd (l ρ h) (slK2 d u ρ)
theorem ev_sl : eSl m l u ρ h = bd (m ρ h) (slK1 l u ρ) := rfl
theorem ev_slK1 : slK1 l u ρ d h = bd (l ρ h) (slK2 d u ρ) := rfl
theorem ev_slK2 : slK2 d u ρ lo h = bd (u ρ h) (slK3 d lo) := rfl
theorem ev_slK3 : slK3 d lo hi h = slG d lo hi h := rfl
def oSomeK (d : D) (h : Hs) : Option (Option Int × Hs) := match d with
  | .int i => some (some i, h)
  | _ => none
theorem ev_oSome : oSome m ρ h = bd (m ρ h) oSomeK := by
  unfold oSome
  cases m ρ h with
  | none => rfl
  | some p => obtain ⟨d, h1⟩ := p; cases d <;> rfl
theorem ev_oSomeK : oSomeK (.int i) h = some (some i, h) := rfl
theorem ev_oNone : oNone ρ h = some (none, h) := rfl
theorem slT4 : slG (.tup [a, b, c, d]) (some 1) none h = some (.tup [b, c, d], h) := rfl
theorem slT3 : slG (.tup [a, b, c]) (some 1) none h = some (.tup [b, c], h) := rfl
theorem slL {n : Nat} (g : getL h n = some ds) : slG (.ref n) lo hi h = some (.ref h.length, h ++ [.lst (cutD ds lo hi)]) := by
  show (match getL h n with | some ds => some (D.ref h.length, h ++ [AO.lst (cutD ds lo hi)]) | none => none) = _
  rw [g]
end
end SL
namespace SL
open RR PySem
/-! ### worlds on the heap -/
structure Wl (W : Nat) (ts ws : List D) (h : Hs) : Prop where
  ex : ∃ A B, h[W]? = some (.ins "World" [("told_things", .ref A), ("told_walls", .ref B)]) ∧ h[A]? = some (.lst ts) ∧ h[B]? = some (.lst ws) ∧ W ≤ A ∧ W ≤ B
theorem Wl.keep {W : Nat} {ts ws : List D} {h h' : Hs} (a : Wl W ts ws h) (k : KA h h') : Wl W ts ws h' := by
  obtain ⟨A, B, e1, e2, e3, l⟩ := a.ex
  exact ⟨A, B, k.get e1 trivial, k.get e2 trivial, k.get e3 trivial, l⟩
theorem Wl.lt {W : Nat} {ts ws : List D} {h : Hs} (a : Wl W ts ws h) : W < h.length := by
  obtain ⟨A, B, e1, _⟩ := a.ex
  exact get_lt e1
theorem KA.new {h h2 : Hs} {L : Nat} {o : AO} (a : KA h h2) (l : h.length ≤ L) : KA h (h2.set L o) := Keep.new a l
theorem KA.nr {n r : Nat} {h h' : Hs} (k : KA h h') : Keep (NR n r) h h' := ka_nr k
theorem adv_bd {x u s t : Int} (hx : -(1000000 + 1000 * s) ≤ x ∧ x ≤ 1000000 + 1000 * s) (hu : -1000 ≤ u ∧ u ≤ 1000) (l : s ≤ t) : -(1000000 + 1000 * t) ≤ x + u * (t - s) ∧ x + u * (t - s) ≤ 1000000 + 1000 * t := by
  have a := Int.mul_le_mul_of_nonneg_right hu.2 (show 0 ≤ t - s by omega)
  have b := Int.mul_le_mul_of_nonneg_right hu.1 (show 0 ≤ t - s by omega)
  omega
theorem Row.bd {r : Row} (h : RowOk r) : Bd 10 r.u ∧ Bd 10 r.v := ⟨Bd.of_range (by have := h.u; omega) (by have := h.u; omega), Bd.of_range (by have := h.v; omega) (by have := h.v; omega)⟩
end SL
namespace SL
open RR PySem
/-! ### loops over what is told by a list -/
theorem wp_lcfilterT {α : Type} {src : Src} {g : GG} {tt : MT} {te : ME} {ρ : Rho} {h0 : Hs} {Q : D → Hs → Prop} (xs : List α) (enc F : α → D) (p : α → Bool) (ln : xs.length < sizeLine) (hs : ∀ h, KA h0 h → ∀ i, src i h = some (xs.map enc)[i]?)
    (turn : ∀ x ∈ xs, ∀ h, KA h0 h → ∃ ρ1, g (enc x) ρ h = some (ρ1, h) ∧ WP (tt ρ1 h) fun b h1 => b = p x ∧ KA h h1 ∧ (p x = true → WP (te ρ1 h1) fun y h2 => y = F x ∧ KA h1 h2))
    (fin : ∀ h, KA h0 h → Q (.ref h.length) (h ++ [.lst ((xs.filter p).map F)])) : WP (lcW src g tt te ρ 0 [] h0) (Kn lstK Q) := by
  refine wp_lc xs.length ln (fun i acc h => acc = ((xs.take i).filter p).map F ∧ KA h0 h) ⟨rfl, Keep.refl⟩ (fun i hi acc h _ q => ?_) (fun acc h _ q => ?_)
  · obtain ⟨rfl, k⟩ := q
    obtain ⟨ρ1, e1, w⟩ := turn xs[i] (List.getElem_mem hi) h k
    refine ⟨enc xs[i], ρ1, h, by rw [hs h k i, List.getElem?_map, List.getElem?_eq_getElem hi]; rfl, e1, ?_⟩
    refine wp_mono w fun b h1 ⟨eb, k1, w2⟩ => ?_
    have et : (xs.take (i + 1)).filter p = (xs.take i).filter p ++ if p xs[i] = true then [xs[i]] else [] := by
      rw [List.take_add_one, List.getElem?_eq_getElem hi, List.filter_append]
      cases z : p xs[i] <;> simp [z]
    cases z : p xs[i] with
    | false =>
      rw [z] at eb
      subst eb
      rw [lcT_f, et, z]
      exact ⟨by simp, k.trans k1⟩
    | true =>
      rw [z] at eb
      subst eb
      rw [lcT_t]
      refine wp_mono (w2 z) fun y h2 ⟨ey, k2⟩ => ⟨?_, (k.trans k1).trans k2⟩
      rw [ey, et, z]
      simp
  · obtain ⟨rfl, k⟩ := q
    refine ⟨by rw [hs h k, List.getElem?_eq_none (by simp)], ?_⟩
    rw [List.take_length]
    exact fin h k
theorem ev_last {h : Hs} {n : Nat} {ds : List D} {d : D} (e : getL h n = some (ds ++ [d])) : subG' (.ref n) (.int (-1)) h = some (d, h) := by
  exact ev_idx e (L2.atI_last ds d)
theorem ev_get3 {a b c d : D} {ds : List D} {h : Hs} : subG' (.tup (a :: b :: c :: d :: ds)) (.int 3) h = some (d, h) := ev_opTup (L2.atI_nat (j := 3) rfl)
theorem ev_get4 {a b c d e : D} {ds : List D} {h : Hs} : subG' (.tup (a :: b :: c :: d :: e :: ds)) (.int 4) h = some (e, h) := ev_opTup (L2.atI_nat (j := 4) rfl)
theorem th_rows {a : Th} {h : Hs} : subG' a.D (.int 3) h = some (.tup (a.rs.map Row.D), h) := ev_get3
theorem th_nm {a : Th} {h : Hs} : subG' a.D (.int 0) h = some (.str a.nm, h) := ev_get0
theorem getLast_snoc {α : Type} {l : List α} (h : l ≠ []) : l.dropLast ++ [l.getLast h] = l := List.dropLast_concat_getLast h
theorem zipU_mem : ∀ {l : List Int} {p : Int × Option Int}, p ∈ zipU l → p.1 ∈ l
  | [], p, h => nomatch h
  | [a], p, h => by rw [show zipU [a] = [(a, none)] from rfl] at h; rw [List.mem_singleton.mp h]; exact List.mem_cons_self
  | a :: b :: l, p, h => by
    rw [zipU_cons a rfl] at h
    rcases List.mem_cons.mp h with h | h
    · rw [h]; exact List.mem_cons_self
    · exact List.mem_cons_of_mem _ (zipU_mem h)
def tms (ths : List Th) : List Int := (ths.map fun a => a.rs.map (·.t)).flatten
end SL
namespace SL
open RR PySem
/-! ### what repr tells is no longer than .. -/
structure RpOk (n : Nat) (p : PyData) : Prop where
  sh : p.showable = true
  nd : p.hasDict = false
  le : p.shown.length ≤ n
structure RpsOk (n : Nat) (ps : List PyData) : Prop where
  sh : PyData.showableAll ps = true
  nd : PyData.hasDictAll ps = false
  le : PySem.piled (PyData.shownAll ps) ≤ n
theorem RpOk.mono {n m : Nat} {p : PyData} (h : RpOk n p) (l : n ≤ m) : RpOk m p := ⟨h.sh, h.nd, Nat.le_trans h.le l⟩
theorem RpsOk.mono {n m : Nat} {p : List PyData} (h : RpsOk n p) (l : n ≤ m) : RpsOk m p := ⟨h.sh, h.nd, Nat.le_trans h.le l⟩
theorem RpOk.int {i : Int} {k : Nat} (b : Bd k i) (hk : k ≤ 1900) : RpOk (k + 2) (.int i) := by
  have l : i.natAbs.log2 < 1920 := by
    by_cases z : i = 0
    · subst z; decide
    · have := b.log2 z; omega
  have l2 : i.natAbs.log2 < k + 1 := by
    by_cases z : i = 0
    · subst z
      show Nat.log2 0 < k + 1
      rw [show Nat.log2 0 = 0 by decide]
      omega
    · have := b.log2 z; omega
  refine ⟨by unfold PyData.showable; exact decide_eq_true l, rfl, ?_⟩
  show (PySem.Str.ofString (toString i)).length ≤ k + 2
  rw [PySem.ofString_length]
  exact PySem.int_text_length_le (k := k + 1) (by omega) l2
theorem RpOk.non : RpOk 4 .none := ⟨rfl, rfl, by decide⟩
theorem RpOk.bool {b : Bool} : RpOk 5 (.bool b) := ⟨rfl, rfl, by cases b <;> decide⟩
theorem RpOk.str {x : Str} {n : Nat} (h : (reprText x).length ≤ n) : RpOk n (.str x) := ⟨rfl, rfl, h⟩
theorem RpsOk.nil : RpsOk 0 [] := ⟨rfl, rfl, Nat.le_refl _⟩
theorem RpsOk.cons {n m : Nat} {p : PyData} {ps : List PyData} (a : RpOk n p) (b : RpsOk m ps) : RpsOk (n + m + 2) (p :: ps) := by
  refine ⟨?_, ?_, ?_⟩
  · unfold PyData.showableAll; rw [a.sh, b.sh]; rfl
  · unfold PyData.hasDictAll; rw [a.nd, b.nd]; rfl
  · unfold PyData.shownAll
    rw [PySem.piled_cons]
    have := a.le
    have := b.le
    omega
theorem RpsOk.all {k : Nat} : ∀ {ps : List PyData}, (∀ p ∈ ps, RpOk k p) → RpsOk (ps.length * (k + 2)) ps
  | [], _ => by simpa using RpsOk.nil
  | p :: ps, h => by
    have := RpsOk.cons (h p List.mem_cons_self) (RpsOk.all fun q hq => h q (List.mem_cons_of_mem _ hq))
    refine this.mono ?_
    rw [List.length_cons, Nat.succ_mul]
    omega
theorem RpsOk.map {α : Type} {k m : Nat} {f : α → PyData} {xs : List α} (h : ∀ x ∈ xs, RpOk k (f x)) (l : xs.length ≤ m) : RpsOk (m * (k + 2)) (xs.map f) := by
  have := RpsOk.all (ps := xs.map f) (k := k) fun p hp => by
    obtain ⟨x, hx, rfl⟩ := List.mem_map.mp hp
    exact h x hx
  refine this.mono ?_
  rw [List.length_map]
  exact Nat.mul_le_mul_right _ l
theorem RpOk.list {n : Nat} {ps : List PyData} (a : RpsOk n ps) : RpOk (n + 2) (.list ps) := by
  refine ⟨by unfold PyData.showable; exact a.sh, by unfold PyData.hasDict; exact a.nd, ?_⟩
  unfold PyData.shown
  have key : (listText (PyData.shownAll ps)).length ≤ piled (PyData.shownAll ps) + 2 := by
    unfold listText
    rw [strLen_append]
    cases PyData.shownAll ps with
    | nil => exact Nat.le_refl _
    | cons t ts =>
      show (textFrom 1 (_ ++ _ ++ t) ts).length + 1 ≤ _
      rw [textFrom_length_pos _ _ _ (by decide), strLen_append, strLen_append, piled_cons]
      have e1 : ("[" : Str).length = 1 := rfl
      have e2 : ((if 0 > 0 then ", " else "" : String) : Str).length = 0 := rfl
      rw [e1, e2]
      omega
  have := a.le
  omega
theorem RpOk.tup {n : Nat} {ps : List PyData} (a : RpsOk n ps) : RpOk (n + 5) (.tuple ps) := by
  refine ⟨by unfold PyData.showable; exact a.sh, by unfold PyData.hasDict; exact a.nd, ?_⟩
  unfold PyData.shown
  have key : (tupleText (PyData.shownAll ps)).length ≤ piled (PyData.shownAll ps) + 5 := by
    unfold tupleText
    rw [strLen_append, strLen_append]
    have e1 : (("(" : String) : Str).length = 1 := rfl
    have e3 : (((if (PyData.shownAll ps).length == 1 then ",)" else ")" : String) : Str)).length ≤ 2 := by split <;> decide
    rw [e1]
    by_cases h : PyData.shownAll ps = []
    · rw [h]; decide
    · have := join_length_add _ h
      omega
  have := a.le
  omega
theorem reprG_ref {h : Hs} {n k : Nat} {p : PyData} (e : toP 32 h (.ref n) = some p) (a : RpOk k p) (l : k ≤ 16000000) : reprG [.ref n] h = some (.str p.shown, h) := by
  show (match toP 32 h (.ref n) with | some p => if p.showable = true ∧ p.hasDict = false ∧ p.shown.length ≤ PySem.sizeLine then some (D.str p.shown, h) else none | none => none) = _
  rw [e]
  exact if_pos ⟨a.sh, a.nd, Nat.le_trans a.le (Nat.le_trans l (Nat.le_of_ble_eq_true rfl))⟩
/-! things, pieces of ways -/
theorem names_rp : ∀ nm ∈ names13, (reprText nm).length ≤ 20 := by decide +kernel
theorem Row.rp {r : Row} (h : RowOk r) (t0 : 0 ≤ r.t) : RpOk 100 r.P := by
  have tb := h.t
  obtain ⟨bu, bv⟩ := Row.bd h
  exact (RpOk.tup (.cons (.int (k := 40) (Bd.of_range (by omega) (by omega)) (by decide)) (.cons (.int bu (by decide)) (.cons (.int bv (by decide)) .nil)))).mono (by decide)
theorem Th.rp {a : Th} (h : ThOk a) : RpOk 1400 a.P := by
  have hx := h.x
  have hy := h.y
  exact (RpOk.tup (.cons (.str (names_rp _ h.nm)) (.cons (.int (k := 40) (Bd.of_range (by omega) (by omega)) (by decide)) (.cons (.int (k := 40) (Bd.of_range (by omega) (by omega)) (by decide)) (.cons (RpOk.tup (RpsOk.map (f := Row.P) (fun r hr => Row.rp (h.ok r hr) (h.up.ge r hr)) h.few)) .nil))))).mono (by decide)
structure PcOk (p : Pc) : Prop where
  a : 0 ≤ p.a ∧ p.a < 2 ^ 31
  b : ∀ e, p.b = some e → 0 ≤ e ∧ e < 2 ^ 31
  x : Bd 45 p.x
  y : Bd 45 p.y
  u : -1000 ≤ p.u ∧ p.u ≤ 1000
  v : -1000 ≤ p.v ∧ p.v ≤ 1000
theorem line_bd {x u s : Int} (s0 : 0 ≤ s) (s1 : s ≤ 2 ^ 30) (bx : -(1000000 + 1000 * s) ≤ x ∧ x ≤ 1000000 + 1000 * s) (bu : -1000 ≤ u ∧ u ≤ 1000) : Bd 45 (x - u * s) := by
  have a := Int.mul_le_mul_of_nonneg_right bu.2 s0
  have b := Int.mul_le_mul_of_nonneg_right bu.1 s0
  exact Bd.of_range (by omega) (by omega)
theorem wayF_ok : ∀ {rs : List Row} {x y s u v : Int}, (∀ r ∈ rs, RowOk r) → Rising s rs → 0 ≤ s → s ≤ 2 ^ 30 → (-(1000000 + 1000 * s) ≤ x ∧ x ≤ 1000000 + 1000 * s) → (-(1000000 + 1000 * s) ≤ y ∧ y ≤ 1000000 + 1000 * s) → (-1000 ≤ u ∧ u ≤ 1000) → (-1000 ≤ v ∧ v ≤ 1000) → ∀ p ∈ wayF x y s u v rs, PcOk p
  | [], x, y, s, u, v, _, _, s0, s1, bx, by', bu, bv, p, hp => by
    rw [List.mem_singleton.mp hp]
    exact ⟨⟨s0, by show s < 2 ^ 31; omega⟩, (fun e z => nomatch z), line_bd s0 s1 bx bu, line_bd s0 s1 by' bv, bu, bv⟩
  | r :: rs, x, y, s, u, v, ok, up, s0, s1, bx, by', bu, bv, p, hp => by
    have okr := ok r List.mem_cons_self
    have tb := okr.t
    obtain ⟨r1, r2⟩ := up
    unfold wayF at hp
    rcases List.mem_append.mp hp with hp | hp
    · split at hp
      · rw [List.mem_singleton.mp hp]
        exact ⟨⟨s0, by show s < 2 ^ 31; omega⟩, (fun e z => by cases z; exact ⟨by omega, by omega⟩), line_bd s0 s1 bx bu, line_bd s0 s1 by' bv, bu, bv⟩
      · cases hp
    · exact wayF_ok (fun q hq => ok q (List.mem_cons_of_mem _ hq)) (r2.mono (by omega)) (by omega) (by omega) (adv_bd bx bu r1) (adv_bd by' bv r1) okr.u okr.v p hp
theorem wayT_ok {a : Th} (h : ThOk a) : ∀ p ∈ wayT a, PcOk p := by
  have hx := h.x
  have hy := h.y
  exact wayF_ok h.ok h.up (Int.le_refl _) (by decide) (by omega) (by omega) (by decide) (by decide)
/-! the told world -/
/-! ### data without lists -/
mutual
def pd : D → PyData
  | .non => .none
  | .bl b => .bool b
  | .int i => .int i
  | .str s => .str s
  | .ty _ => .none
  | .fn _ => .none
  | .exn _ => .none
  | .tup ds => .tuple (pds ds)
  | .ref _ => .none
def pds : List D → List PyData
  | [] => []
  | d :: ds => pd d :: pds ds
end
mutual
def dep : Nat → D → Bool
  | _, .non => true
  | _, .bl _ => true
  | _, .int _ => true
  | _, .str _ => true
  | _, .ty _ => false
  | _, .fn _ => false
  | _, .exn _ => false
  | 0, .tup _ => false
  | n + 1, .tup ds => deps n ds
  | _, .ref _ => false
def deps : Nat → List D → Bool
  | _, [] => true
  | n, d :: ds => dep n d && deps n ds
end
mutual
theorem toP_pd (h : Hs) : ∀ (d : D) (n : Nat), dep n d = true → toP n h d = some (pd d)
  | .non, n, _ => by cases n <;> rfl
  | .bl _, n, _ => by cases n <;> rfl
  | .int _, n, _ => by cases n <;> rfl
  | .str _, n, _ => by cases n <;> rfl
  | .ty _, n, e => by cases n <;> cases e
  | .fn _, n, e => by cases n <;> cases e
  | .exn _, n, e => by cases n <;> cases e
  | .tup ds, 0, e => by cases e
  | .tup ds, n + 1, e => by
    show (match mapO (toP n h) ds with | some ps => some (PyData.tuple ps) | none => none) = _
    rw [mapO_pds h ds n e]
    rfl
  | .ref _, n, e => by cases n <;> cases e
theorem mapO_pds (h : Hs) : ∀ (ds : List D) (n : Nat), deps n ds = true → mapO (toP n h) ds = some (pds ds)
  | [], n, _ => rfl
  | d :: ds, n, e => by
    unfold deps at e
    rw [Bool.and_eq_true] at e
    unfold mapO
    rw [toP_pd h d n e.1, mapO_pds h ds n e.2]
    rfl
end
mutual
theorem dep_mono : ∀ (d : D) (n m : Nat), dep n d = true → n ≤ m → dep m d = true
  | .non, _, m, _, _ => by cases m <;> rfl
  | .bl _, _, m, _, _ => by cases m <;> rfl
  | .int _, _, m, _, _ => by cases m <;> rfl
  | .str _, _, m, _, _ => by cases m <;> rfl
  | .ty _, n, _, e, _ => by cases n <;> cases e
  | .fn _, n, _, e, _ => by cases n <;> cases e
  | .exn _, n, _, e, _ => by cases n <;> cases e
  | .tup ds, 0, _, e, _ => by cases e
  | .tup ds, n + 1, 0, _, l => absurd l (by omega)
  | .tup ds, n + 1, m + 1, e, l => deps_mono ds n m e (by omega)
  | .ref _, n, _, e, _ => by cases n <;> cases e
theorem deps_mono : ∀ (ds : List D) (n m : Nat), deps n ds = true → n ≤ m → deps m ds = true
  | [], _, m, _, _ => by cases m <;> rfl
  | d :: ds, n, m, e, l => by
    unfold deps at e ⊢
    rw [Bool.and_eq_true] at e ⊢
    exact ⟨dep_mono d n m e.1 l, deps_mono ds n m e.2 l⟩
end
mutual
theorem eqv_pd : ∀ d : D, PyData.eqv (pd d) (pd d) = true
  | .non => rfl
  | .bl b => by cases b <;> rfl
  | .int i => by show (i == i) = true; simp
  | .str s => by show (s == s) = true; simp
  | .ty _ => rfl
  | .fn _ => rfl
  | .exn _ => rfl
  | .tup ds => eqv_pds ds
  | .ref _ => rfl
theorem eqv_pds : ∀ ds : List D, PyData.eqvAll (pds ds) (pds ds) = true
  | [] => rfl
  | d :: ds => by
    show (PyData.eqv (pd d) (pd d) && PyData.eqvAll (pds ds) (pds ds)) = true
    rw [eqv_pd d, eqv_pds ds]
    rfl
end
/-! equal lists -/
end SL
namespace SL
open RR PySem
open TL (tl)
open L2 (cutS)
open PySem.NumText (AllDigits digitsVal)
/-! ### words and numbers -/
def sgn1 (c : Nat) : D := .str ⟨#[c]⟩
theorem srcS_map (w : Str) (i : Nat) (h : Hs) : srcS w i h = some ((tl w).map sgn1)[i]? := by
  unfold srcS
  rw [List.getElem?_map]
  show some (w.cps[i]?.map _) = some (w.cps.toList[i]?.map _)
  rw [Array.getElem?_toList]
  rfl
theorem figs_is : (("0123456789" : Str)).cps.toList = [48, 49, 50, 51, 52, 53, 54, 55, 56, 57] := by decide +kernel
theorem letters_is : (("abcdefghijklmnopqrstuvwxyz" : Str)).cps.toList = [97, 98, 99, 100, 101, 102, 103, 104, 105, 106, 107, 108, 109, 110, 111, 112, 113, 114, 115, 116, 117, 118, 119, 120, 121, 122] := by decide +kernel
theorem in_figs (c : Nat) : c ∈ (("0123456789" : Str)).cps.toList ↔ 48 ≤ c ∧ c ≤ 57 := by
  rw [figs_is]; simp only [List.mem_cons, List.not_mem_nil, or_false]; omega
theorem in_letters (c : Nat) : c ∈ (("abcdefghijklmnopqrstuvwxyz" : Str)).cps.toList ↔ 97 ≤ c ∧ c ≤ 122 := by
  rw [letters_is]; simp only [List.mem_cons, List.not_mem_nil, or_false]; omega
theorem ev_inFig {c : Nat} {h : Hs} : inG (sgn1 c) (.str "0123456789") h = some (.bl (decide (48 ≤ c ∧ c ≤ 57)), h) := by
  have : inG (sgn1 c) (.str "0123456789") h = some (.bl (decide (c ∈ (("0123456789" : Str)).cps.toList)), h) := rfl
  rw [this]; congr 3; exact decide_eq_decide.mpr (in_figs c)
theorem ev_notFig {c : Nat} {h : Hs} : notInG (sgn1 c) (.str "0123456789") h = some (.bl (!decide (48 ≤ c ∧ c ≤ 57)), h) := by
  have : notInG (sgn1 c) (.str "0123456789") h = some (.bl (!decide (c ∈ (("0123456789" : Str)).cps.toList)), h) := rfl
  rw [this]; congr 4; exact decide_eq_decide.mpr (in_figs c)
theorem ev_inLet {c : Nat} {h : Hs} : inG (sgn1 c) (.str "abcdefghijklmnopqrstuvwxyz") h = some (.bl (decide (97 ≤ c ∧ c ≤ 122)), h) := by
  have : inG (sgn1 c) (.str "abcdefghijklmnopqrstuvwxyz") h = some (.bl (decide (c ∈ (("abcdefghijklmnopqrstuvwxyz" : Str)).cps.toList)), h) := rfl
  rw [this]; congr 3; exact decide_eq_decide.mpr (in_letters c)
theorem ev_fig {c : Nat} {h : Hs} (a : 48 ≤ c) (b : c ≤ 57) : indexG (.str "0123456789") [sgn1 c] h = some (.int ((c - 48 : Nat) : Int), h) := by
  have hc : c = 48 ∨ c = 49 ∨ c = 50 ∨ c = 51 ∨ c = 52 ∨ c = 53 ∨ c = 54 ∨ c = 55 ∨ c = 56 ∨ c = 57 := by omega
  have key : ∀ c k : Nat, Builtin.Str.occurrences "0123456789" ⟨#[c]⟩ 0 ("0123456789" : Str).length 1 = [k] → indexG (.str "0123456789") [sgn1 c] h = some (.int (k : Nat), h) := fun c k e => by
    show (match Builtin.Str.occurrences "0123456789" ⟨#[c]⟩ 0 ("0123456789" : Str).length 1 with | k :: _ => some (D.int (k : Nat), h) | [] => none) = _
    rw [e]
  rcases hc with rfl | rfl | rfl | rfl | rfl | rfl | rfl | rfl | rfl | rfl <;> exact key _ _ (by decide +kernel)
theorem tl_cut (w : Str) (lo hi : Option Int) : tl (cutS w lo hi) = ((tl w).drop (HT.sIx w.length 0 lo)).take (HT.sIx w.length w.length hi - HT.sIx w.length 0 lo) := rfl
theorem len_tl (w : Str) : w.length = (tl w).length := TL.len_tl w
theorem tl_cut_to (w : Str) (k : Nat) : tl (cutS w none (some (k : Int))) = (tl w).take k := by
  rw [tl_cut, HT.sIx_nat, HT.sIx_none, List.drop_zero, len_tl]
  by_cases q : k ≤ (tl w).length
  · rw [Nat.min_eq_left q]; rfl
  · rw [Nat.min_eq_right (by omega), List.take_of_length_le (by omega), List.take_of_length_le (by omega)]
theorem tl_cut_from (w : Str) (k : Nat) : tl (cutS w (some (k : Int)) none) = (tl w).drop k := by
  rw [tl_cut, HT.sIx_nat, HT.sIx_none, len_tl]
  by_cases q : k ≤ (tl w).length
  · rw [Nat.min_eq_left q]; exact List.take_of_length_le (by simp)
  · rw [Nat.min_eq_right (by omega), List.drop_of_length_le (Nat.le_refl _), List.drop_of_length_le (by omega)]; simp
theorem minus_is : tl ("-" : Str) = [45] := by decide +kernel
theorem nought_is : tl ("0" : Str) = [48] := by decide +kernel
theorem tl_inj {x y : Str} : x = y ↔ tl x = tl y := ⟨fun e => by rw [e], TL.ext_tl⟩
def negT (w : Str) : Bool := decide ((tl w).take 1 = [45])
theorem tx_neg (w : Str) : decide (cutS w none (some 1) = "-") = negT w := by
  unfold negT
  refine decide_eq_decide.mpr ?_
  rw [tl_inj, minus_is]
  exact Iff.of_eq (congrArg (· = [45]) (tl_cut_to w 1))
theorem starts_neg (w : Str) : PySem.Txt.startswith w "-" = negT w := by
  unfold negT PySem.Txt.startswith
  have e := TL.at_iff (x := w) (y := "-") (by rw [minus_is]; simp) 0
  rw [minus_is] at e
  have e2 : (TL.pre [45] ((tl w).drop 0) = true) ↔ (tl w).take 1 = [45] := by
    unfold TL.pre
    rw [List.drop_zero, beq_iff_eq]
    exact Iff.rfl
  rw [Bool.eq_iff_iff, decide_eq_true_iff, ← e2, ← e]
  unfold PySem.StrLaws.At
  simp
def plainT (w : Str) : Str := if negT w = true then cutS w (some 1) none else w
def figsT (w : Str) : List Nat := tl (plainT w)
def NumOk (w : Str) : Prop := (1 ≤ (figsT w).length ∧ (figsT w).length ≤ 40) ∧ (∀ c ∈ figsT w, 48 ≤ c ∧ c ≤ 57) ∧ ¬ ((figsT w).take 1 = [48] ∧ w ≠ "0")
instance (w : Str) : Decidable (NumOk w) := by unfold NumOk; exact inferInstance
def numV (w : Str) : Int := if negT w = true then -((digitsVal (figsT w) : Nat) : Int) else ((digitsVal (figsT w) : Nat) : Int)
def numD (w : Str) : D := if NumOk w then .int (numV w) else .non
theorem figs_neg {w : Str} (e : negT w = true) : figsT w = (tl w).drop 1 ∧ tl w = 45 :: figsT w := by
  have e1 : figsT w = (tl w).drop 1 := by
    unfold figsT plainT
    rw [if_pos e]
    exact tl_cut_from w 1
  refine ⟨e1, ?_⟩
  have e2 : (tl w).take 1 = [45] := of_decide_eq_true e
  rw [e1]
  conv => lhs; rw [← List.take_append_drop 1 (tl w)]
  rw [e2]; rfl
theorem figs_pos {w : Str} (e : negT w = false) : figsT w = tl w := by
  unfold figsT plainT
  rw [if_neg (by rw [e]; exact Bool.false_ne_true)]
theorem int_is {w : Str} (k : NumOk w) : PySem.intText? w = some (numV w) := by
  obtain ⟨⟨a, b⟩, c, d⟩ := k
  unfold numV
  cases e : negT w with
  | true =>
    obtain ⟨e1, e2⟩ := figs_neg e
    rw [if_pos rfl]
    refine PySem.intText_neg e2 c (fun z => by rw [z] at a; exact absurd a (by decide)) ?_
    rw [len_tl, e2, List.length_cons]; omega
  | false =>
    have e1 := figs_pos e
    rw [if_neg Bool.false_ne_true, e1]
    rw [e1] at a b c
    refine PySem.intText_digits c (fun z => ?_) (by rw [len_tl]; omega)
    have : tl w = [] := z
    rw [this] at a; exact absurd a (by decide)
theorem digits_lt : ∀ (l : List Nat), (∀ c ∈ l, 48 ≤ c ∧ c ≤ 57) → ∀ a : Nat, l.foldl (fun acc c => acc * 10 + (c - 48)) a < (a + 1) * 10 ^ l.length
  | [], _, a => by simp
  | c :: l, h, a => by
    have hc := h c (List.mem_cons_self ..)
    have ih := digits_lt l (fun d hd => h d (List.mem_cons_of_mem _ hd)) (a * 10 + (c - 48))
    rw [List.foldl_cons, List.length_cons, Nat.pow_succ]
    refine Nat.lt_of_lt_of_le ih ?_
    have : (a * 10 + (c - 48) + 1) * 10 ^ l.length ≤ ((a + 1) * 10) * 10 ^ l.length := Nat.mul_le_mul_right _ (by omega)
    calc _ ≤ _ := this
      _ = _ := by rw [Nat.mul_assoc, Nat.mul_comm 10]
theorem digitsVal_bd {l : List Nat} (h : ∀ c ∈ l, 48 ≤ c ∧ c ≤ 57) (n : l.length ≤ 40) : Bd 200 ((digitsVal l : Nat) : Int) := by
  have h1 := digits_lt l h 0
  have h2 : (10 : Nat) ^ l.length ≤ 10 ^ 40 := Nat.pow_le_pow_right (by decide) n
  have h3 : digitsVal l < 10 ^ 40 := by
    have : digitsVal l < (0 + 1) * 10 ^ l.length := h1
    omega
  show (((digitsVal l : Nat) : Int)).natAbs < 2 ^ 200
  rw [Int.natAbs_natCast]
  exact Nat.lt_trans h3 (by decide)
theorem digitsVal_snoc (l : List Nat) (c : Nat) : digitsVal (l ++ [c]) = digitsVal l * 10 + (c - 48) := by
  unfold digitsVal
  rw [List.foldl_append]; rfl
end SL
namespace K01
open SL RR
local macro_rules | `(tactic| walk_at "bd") => `(tactic| (first
  | assumption
  | (with_reducible apply Bd.add <;> walk_at "bd")
  | (with_reducible apply Bd.sub <;> walk_at "bd")
  | (with_reducible apply Bd.mul <;> walk_at "bd")
  | (with_reducible apply Bd.neg <;> walk_at "bd")
  | (with_reducible apply Bd.fdiv <;> walk_at "bd")
  | (with_reducible apply Bd.ite <;> walk_at "bd")
  | (with_reducible apply Bd.sign)
  | exact Bd.lit 64 rfl
  | exact Bd.lit 250 rfl))
local macro_rules | `(tactic| walk_at "dis") => `(tactic| (first
  | assumption
  | (with_reducible apply MOk.of <;> first | (walk_at "bd"; done) | exact Nat.le_of_ble_eq_true rfl)
  | (with_reducible apply Bd.mono <;> first | (walk_at "bd"; done) | exact Nat.le_of_ble_eq_true rfl)
  | (with_reducible apply DOk.of <;> first | (walk_at "bd"; done) | omega | exact Nat.le_of_ble_eq_true rfl)
  | omega))
local macro_rules | `(tactic| walk_at "ev") => `(tactic| simp (disch := walk_at "dis") only [ev_var0, ev_varS, ev_c, ev_op, ev_opK, ev_un, ev_call, ev_nil, ev_cons, ev_acK, ev_consK, ev_tup, ev_tupK, ev_lst, ev_lstK, ev_ifE, ev_ifS, ev_ifKT, ev_ifKF, ev_ifK, ev_ifKN,
  ev_tV, ev_tvK, ev_tTru, ev_truB, ev_truN, ev_truI, ev_and, ev_or, ev_not, ev_notK, ev_andT, ev_andF, ev_orT, ev_orF, ev_andK, ev_andKN, ev_orK, ev_orKN, ev_eAnd, ev_eOr, ev_eNot, ev_eNotB, ev_eAndT, ev_eAndF, ev_eAndB, ev_eAndBN, ev_eOrT, ev_eOrF, ev_eOrN, ev_eOrB, ev_eOrBN,
  ev_chain, ev_chK1, ev_chK2, ev_chK3, ev_chK3T, ev_chK3F, ev_seq, ev_thn, ev_thnR, ev_thnB, ev_thnC, ev_next, ev_break, ev_cont, ev_ret, ev_retK, ev_retN, ev_expr, ev_exprK, ev_asg, ev_asgK, ev_nxK, ev_gNm, ev_gTp, ev_gsNil, ev_gsCons, ev_gsK, ev_gSb, ev_gSbK1, ev_par, ev_parK2, ev_parK3, ev_mt,
  ev_add, ev_sub, ev_mul, ev_fdiv, ev_mod, ev_pow, ev_shl, ev_neg, ev_lt, ev_le, ev_gt, ev_ge, ev_eqI, ev_neI, ev_abs, ev_intB, ev_intI, ev_minI, ev_maxI, ev_bits, ev_get0, ev_get1, ev_get2, bd_ok, bd_none, ev_whT, ev_whF, ev_whD, ev_wh2, ev_wh2c, ev_wh2r, ev_wh2b, ev_for, ev_forK, ev_fr1, ev_fr2, ev_fr2c, ev_fr2r, ev_fr2b, ev_lc, ev_lcK, ev_lc1, ev_lc2T, ev_lc2F, ev_lc2D, ev_yes, ev_iSeq, ev_seqT, ev_seqS, ev_iRange, ev_iEnum, ev_iZip,
  ev_neIS, ev_eqIS, ev_neSS, ev_eqSS, ev_isN, ev_isNot, isNon_t, isNon_n, isNon_i, isNon_r, decide_true, decide_false, decide_eq_true_eq, eq_self, if_true, if_false,
  out_rt, out_nx, List.map_cons, List.map_nil, List.cons_append, List.nil_append, List.replicate, List.set_cons_zero, List.set_cons_succ, Nat.reduceSub, Int.reduceEq, Int.reduceLT, Int.reduceLE, Int.reduceMul, Int.reduceAdd, Int.reduceSub, Bool.not_true, Bool.not_false])
local macro_rules | `(tactic| walk_at "go") => `(tactic| repeat (first | walk_at "ev" | walk_at "fs"))
noncomputable def q__law_number_L1 : MS := (sAsg (eOp addG (eOp mulG (eVar 3) (eC (.int 10))) (eMt "str" indexG (eC (.str "0123456789")) (aCons (eVar 4) aNil))) (gNm 3))
theorem m__law_number_q : m__law_number = (sSeq (sAsg (eIf (tV (eOp eqG (eSl (eVar 0) oNone (oSome (eC (.int 1)))) (eC (.str "-")))) (eSl (eVar 0) (oSome (eC (.int 1))) oNone) (eVar 0)) (gNm 1)) (sSeq (sAsg (eLc (iSeq (eVar 1)) (gNm 4) (tV (eOp notInG (eVar 4) (eC (.str "0123456789")))) (eVar 4) [4]) (gNm 2)) (sSeq (sIf (tOr2 (tNot1 (tV (eChain leG leG (eC (.int 1)) (eCall lenG (aCons (eVar 1) aNil)) (eC (.int 40))))) (tOr2 (tV (eOp neG (eVar 2) (eLst aNil))) (tAnd2 (tV (eOp eqG (eOp subG' (eVar 1) (eC (.int 0))) (eC (.str "0")))) (tV (eOp neG (eVar 0) (eC (.str "0"))))))) (sRet (eC .non)) sNext) (sSeq (sAsg (eC (.int 0)) (gNm 3)) (sSeq (sFor (iSeq (eVar 1)) (gNm 4) q__law_number_L1) (sRet (eIf (tV (eOp eqG (eVar 1) (eVar 0))) (eVar 3) (eOp subG (eC (.int 0)) (eVar 3))))))))) := rfl
noncomputable def q__law_divided_L1 : MS := (sPar [3, 4] (aCons (eVar 4) (aCons (eOp modG (eVar 3) (eVar 4)) aNil)))
theorem m__law_divided_q : m__law_divided = (sSeq (sAsg (eCall f_common_divisor (aCons (eVar 0) (aCons (eVar 1) aNil))) (gNm 2)) (sSeq (sIf (tOr2 (tV (eOp neG (eVar 2) (eCall f_common_divisor (aCons (eVar 1) (aCons (eVar 0) aNil))))) (tOr2 (tV (eOp neG (eVar 2) (eCall f_common_divisor (aCons (eOp subG (eC (.int 0)) (eVar 0)) (aCons (eVar 1) aNil))))) (tV (eOp ltG (eVar 2) (eC (.int 0)))))) (sRet (eC (.bl false))) sNext) (sSeq (sIf (tTru (eCall isiG (aCons (eVar 2) (aCons (eC (.ty "bool")) aNil)))) (sRet (eC (.bl false))) sNext) (sSeq (sIf (tV (eOp eqG (eTup (aCons (eVar 0) (aCons (eVar 1) aNil))) (eTup (aCons (eC (.int 0)) (aCons (eC (.int 0)) aNil))))) (sRet (eOp eqG (eVar 2) (eC (.int 0)))) sNext) (sSeq (sIf (tOr2 (tV (eOp eqG (eVar 2) (eC (.int 0)))) (tOr2 (tV (eOp neG (eOp modG (eVar 0) (eVar 2)) (eC (.int 0)))) (tV (eOp neG (eOp modG (eVar 1) (eVar 2)) (eC (.int 0)))))) (sRet (eC (.bl false))) sNext) (sSeq (sPar [3, 4] (aCons (eCall absG (aCons (eOp fdivG (eVar 0) (eVar 2)) aNil)) (aCons (eCall absG (aCons (eOp fdivG (eVar 1) (eVar 2)) aNil)) aNil))) (sSeq (sWh (tV (eOp gtG (eVar 4) (eC (.int 0)))) q__law_divided_L1) (sRet (eOp eqG (eVar 3) (eC (.int 1))))))))))) := rfl
noncomputable def q__law_row_L1 : MS := (sSeq (sAsg (eCall f_words_of (aCons (eVar 2) aNil)) (gNm 4)) (sSeq (sIf (tOr2 (tNot1 (tTru (eCall isiG (aCons (eVar 4) (aCons (eC (.ty "list")) aNil))))) (tV (eOp neG (eVar 4) (eVar 0)))) (sRet (eC (.bl false))) sNext) (sExpr (eMt "list" appendG (eVar 4) (aCons (eC (.str "x")) aNil)))))
theorem m__law_row_q : m__law_row = (sSeq (sAsg (eMt "str" joinG (eC (.str " ")) (aCons (eVar 0) aNil)) (gNm 2)) (sSeq (sFor (iRange (aCons (eC (.int 2)) aNil)) (gNm 3) q__law_row_L1) (sSeq (sAsg (eOp modG (eVar 1) (eOp addG (eCall lenG (aCons (eVar 2) aNil)) (eC (.int 1)))) (gNm 5)) (sSeq (sAsg (eMt "str" splitG (eOp addG (eOp addG (eSl (eVar 2) oNone (oSome (eVar 5))) (eC (.str " "))) (eSl (eVar 2) (oSome (eVar 5)) oNone)) (aCons (eC (.str " ")) aNil)) (gNm 6)) (sRet (eOp eqG (eCall f_words_of (aCons (eOp addG (eOp addG (eSl (eVar 2) oNone (oSome (eVar 5))) (eC (.str " "))) (eSl (eVar 2) (oSome (eVar 5)) oNone)) aNil)) (eIf (tV (eOp inG (eC (.str "")) (eVar 6))) (eC .non) (eVar 6)))))))) := rfl
noncomputable def q_law_L2 : MS := (sIf (tNot1 (tTru (eCall f__law_one (aCons (eVar 10) aNil)))) (sRet (eC (.bl false))) sNext)
noncomputable def q_law_L1 : MS := (sSeq (sAsg (eCall f__law_draw (aCons (eVar 3) (aCons (eVar 2) aNil))) (gNm 4)) (sSeq (sAsg (eOp subG' (eLst (aCons (eC (.str "0123456789")) (aCons (eC (.str "abcdefghijklmnopqrstuvwxyz")) (aCons (eC (.str "01-")) (aCons (eC (.str "Aaz_ -\n.1;~\x40[`{/:")) aNil))))) (eCall f__law_digit (aCons (eVar 4) (aCons (eC (.int 4)) aNil)))) (gNm 5)) (sSeq (sAsg (eCall f__law_word (aCons (eVar 4) (aCons (eVar 5) aNil))) (gNm 6)) (sSeq (sPar [7, 8] (aCons (eOp subG (eCall f__law_digit (aCons (eVar 4) (aCons (eC (.int 60)) aNil))) (eC (.int 30))) (aCons (eOp modG (eVar 3) (eOp powG (eC (.int 10)) (eC (.int 40)))) aNil))) (sSeq (sAsg (eOp addG (eC (.str "1")) (eOp mulSG (eC (.str "0")) (eOp addG (eC (.int 37)) (eCall f__law_digit (aCons (eVar 4) (aCons (eC (.int 5)) aNil)))))) (gNm 9)) (sSeq (sFor (iSeq (eLst (aCons (eVar 6) (aCons (eOp addG (eC (.str "-")) (eVar 6)) (aCons (eCall strG (aCons (eVar 7) aNil)) (aCons (eCall strG (aCons (eVar 8) aNil)) (aCons (eVar 9) (aCons (eOp addG (eC (.str "-")) (eVar 9)) (aCons (eOp addG (eC (.str "0")) (eCall strG (aCons (eVar 8) aNil))) (aCons (eOp mulSG (eC (.str "7")) (eC (.int 5000))) aNil)))))))))) (gNm 10) q_law_L2) (sSeq (sAsg (eOp mulG (eVar 7) (eOp subG (eCall f__law_digit (aCons (eVar 4) (aCons (eC (.int 1000)) aNil))) (eC (.int 400)))) (gNm 11)) (sSeq (sIf (tOr2 (tNot1 (tTru (eCall f__law_divided (aCons (eVar 8) (aCons (eVar 11) aNil))))) (tNot1 (tTru (eCall f__law_divided (aCons (eOp mulG (eVar 7) (eVar 8)) (aCons (eOp mulG (eVar 8) (eVar 11)) aNil)))))) (sRet (eC (.bl false))) sNext) (sSeq (sIf (tOr2 (tNot1 (tTru (eCall f__law_rooted (aCons (eVar 8) aNil)))) (tOr2 (tNot1 (tTru (eCall f__law_rooted (aCons (eOp mulG (eVar 8) (eVar 8)) aNil)))) (tNot1 (tTru (eCall f__law_rooted (aCons (eOp addG (eOp addG (eOp mulG (eVar 8) (eVar 8)) (eOp modG (eVar 8) (eC (.int 3)))) (eC (.int 1))) aNil)))))) (sRet (eC (.bl false))) sNext) (sSeq (sIf (tV (eOp neG (eLst (aCons (eCall f_sign_of (aCons (eVar 7) aNil)) (aCons (eCall f_sign_of (aCons (eOp subG (eOp subG (eC (.int 0)) (eVar 8)) (eC (.int 1))) aNil)) aNil))) (eLst (aCons (eOp subG (eCall intG (aCons (eOp gtG (eVar 7) (eC (.int 0))) aNil)) (eCall intG (aCons (eOp ltG (eVar 7) (eC (.int 0))) aNil))) (aCons (eUn negG (eC (.int 1))) aNil))))) (sRet (eC (.bl false))) sNext) (sSeq (sAsg (eOp addG (eVar 1) (eLst (aCons (eOp addG (eC (.str "a")) (eRepl (eVar 6) " " "")) aNil))) (gNm 1)) (sSeq (sAsg (eOp subG' (eLst (aCons (eC .non) (aCons (eC (.bl true)) (aCons (eC (.int 7)) (aCons (eLst aNil) (aCons (eLst (aCons (eC (.str "a")) aNil)) (aCons (fun _ h => some (.ref h.length, h ++ [.dct []])) (aCons (eTup (aCons (eC (.str "a")) aNil)) (aCons (eUn negG (eC (.int 2))) aNil))))))))) (eOp modG (eVar 3) (eC (.int 8)))) (gNm 12)) (sSeq (sIf (tOr2 (tV (eOp isNotG (eCall f_number_of (aCons (eVar 12) aNil)) (eC .non))) (tOr2 (tV (eOp isNotG (eCall f_words_of (aCons (eVar 12) aNil)) (eC .non))) (tV (eOp isNotG (eCall f_is_name (aCons (eVar 12) aNil)) (eC (.bl false)))))) (sRet (eC (.bl false))) sNext) (sSeq (sAsg (eOp inG (eOp modG (eVar 3) (eC (.int 8))) (eTup (aCons (eC (.int 2)) (aCons (eC (.int 7)) aNil)))) (gNm 13)) (sSeq (sIf (tV (eOp neG (eCall reprG (aCons (eLst (aCons (eCall f_is_whole (aCons (eVar 12) aNil)) (aCons (eCall f_is_number (aCons (eVar 12) aNil)) (aCons (eCall f_is_among (aCons (eVar 12) (aCons (eUn negG (eC (.int 2))) (aCons (eC (.int 7)) aNil)))) aNil)))) aNil)) (eCall reprG (aCons (eLst (aCons (eVar 13) (aCons (eVar 13) (aCons (eVar 13) aNil)))) aNil)))) (sRet (eC (.bl false))) sNext) (sIf (tTru (eCall f_is_among (aCons (eVar 12) (aCons (eUn negG (eC (.int 1))) (aCons (eC (.int 6)) aNil))))) (sRet (eC (.bl false))) sNext))))))))))))))))
theorem m_law_q : m_law = (sSeq (sAsg (eLst aNil) (gNm 1)) (sSeq (sFor (iEnumV (aCons (eOp addG (eSl (eVar 0) oNone (oSome (eC (.int 63)))) (eLst (aCons (eCall sumG (aCons (eVar 0) aNil)) aNil))) aNil)) (gTp (gsCons (gNm 2) (gsCons (gNm 3) gsNil))) q_law_L1) (sSeq (sAsg (eLst (aCons (eCall f_is_name (aCons (eC (.str "ab")) aNil)) (aCons (eCall f_is_whole (aCons (eC (.int 5)) aNil)) (aCons (eCall f_is_among (aCons (eC (.int 5)) (aCons (eC (.int 0)) (aCons (eC (.int 9)) aNil)))) (aCons (eCall f_is_number (aCons (eC (.int 7)) aNil)) (aCons (eCall f_is_name (aCons (eC (.str "aB")) aNil)) (aCons (eCall f_is_among (aCons (eC (.int 5)) (aCons (eC (.int 6)) (aCons (eC (.int 9)) aNil)))) aNil))))))) (gNm 14)) (sSeq (sIf (tV (eOp neG (eCall reprG (aCons (eVar 14) aNil)) (eC (.str "[True, True, True, True, False, False]")))) (sRet (eC (.bl false))) sNext) (sSeq (sIf (tOr2 (tNot1 (tTru (eCall f__law_rooted (aCons (eC (.int 0)) aNil)))) (tOr2 (tNot1 (tTru (eCall f__law_rooted (aCons (eC (.int 1)) aNil)))) (tOr2 (tNot1 (tTru (eCall f__law_divided (aCons (eC (.int 0)) (aCons (eC (.int 0)) aNil))))) (tNot1 (tTru (eCall f__law_divided (aCons (eC (.int 2)) (aCons (eC (.int 3)) aNil)))))))) (sRet (eC (.bl false))) sNext) (sRet (eAnd2 (eOp isG (eCall f_words_of (aCons (eC (.str "")) aNil)) (eC .non)) (eCall f__law_row (aCons (eVar 1) (aCons (eCall f__law_mixed (aCons (eCall sumG (aCons (eVar 0) aNil)) (aCons (eC (.int 2)) aNil))) aNil)))))))))) := rfl
end K01
namespace SL
open RR PySem
open TL (tl)
open L2 (cutS)
theorem line_ok {n : Nat} (l : n ≤ 10000) : n ≤ sizeLine := Nat.le_trans l (Nat.le_of_ble_eq_true rfl)
theorem ev_slS {w : Str} {lo hi : Option Int} {h : Hs} (l : w.length ≤ 10000) : slG (.str w) lo hi h = some (.str (cutS w lo hi), h) := if_pos (line_ok l)
theorem ev_lenS {w : Str} {h : Hs} (l : w.length ≤ 10000) : lenG [.str w] h = some (.int ((tl w).length : Nat), h) := by
  rw [← len_tl]
  exact if_pos (line_ok l)
theorem neg_iff (w : Str) : cutS w none (some 1) = "-" ↔ negT w = true := by
  rw [← tx_neg w, decide_eq_true_iff]
theorem plain_le (w : Str) : (plainT w).length ≤ w.length := by
  unfold plainT
  split
  · exact L2.cutS_length _ _ _
  · exact Nat.le_refl _
theorem plain_eq (w : Str) : plainT w = w ↔ negT w = false := by
  constructor
  · intro e
    cases z : negT w with
    | false => rfl
    | true =>
      have := (figs_neg z).2
      unfold figsT at this
      rw [e] at this
      have := congrArg List.length this
      simp at this
  · intro e; unfold plainT; rw [if_neg (by rw [e]; exact Bool.false_ne_true)]
theorem ev_at0 {w : Str} {h : Hs} (l : w.length ≤ 10000) (n : 1 ≤ (tl w).length) : subG' (.str w) (.int 0) h = some (sgn1 ((tl w)[0]'n), h) := by
  have e : L2.atI w.cps.toList 0 = some ((tl w)[0]'n) := L2.atI_nat (j := 0) (List.getElem?_eq_getElem n)
  show (if w.length ≤ sizeLine then match L2.atI w.cps.toList 0 with | some c => some (D.str ⟨#[c]⟩, h) | none => none else none) = _
  rw [if_pos (line_ok l), e]
  rfl
theorem at0_iff {w : Str} (n : 1 ≤ (tl w).length) : (⟨#[(tl w)[0]'n]⟩ : Str) = "0" ↔ (tl w).take 1 = [48] := by
  rw [tl_inj, nought_is]
  show [(tl w)[0]] = [48] ↔ _
  generalize tl w = l at n
  cases l with
  | nil => exact absurd n (by decide)
  | cons c l => simp
end SL
namespace SL
open RR PySem
open TL (tl)
open L2 (cutS)
theorem plain_ifS {w : Str} {h : Hs} : (if cutS w none (some 1) = "-" then some (D.str (cutS w (some 1) none), h) else some (D.str w, h)) = some (D.str (plainT w), h) := by
  unfold plainT
  by_cases z : negT w = true
  · rw [if_pos ((neg_iff w).mpr z), if_pos z]
  · rw [if_neg (fun k => z ((neg_iff w).mp k)), if_neg z]
end SL
namespace SL
open RR PySem
open TL (tl)
open L2 (cutS)
theorem mapO_sgns (h : Hs) : ∀ l : List Nat, mapO (toP 31 h) (l.map sgn1) = some (l.map fun c => PyData.str ⟨#[c]⟩)
  | [] => rfl
  | c :: l => by
    rw [List.map_cons]
    unfold mapO
    rw [mapO_sgns h l]
    rfl
theorem ne_sgns {h : Hs} {n m : Nat} {l : List Nat} (e1 : getL h n = some (l.map sgn1)) (e2 : getL h m = some []) : neG (.ref n) (.ref m) h = some (.bl (!l.isEmpty), h) := by
  rw [ne_nil e1 (mapO_sgns h l) e2, List.isEmpty_map]
theorem numD_non {w : Str} (k : ¬ NumOk w) : numD w = .non := if_neg k
theorem numD_int {w : Str} (k : NumOk w) : numD w = .int (numV w) := if_pos k
theorem odd_none {l : List Nat} : (!(l.filter fun c => !decide (48 ≤ c ∧ c ≤ 57)).isEmpty) = !decide (∀ c ∈ l, 48 ≤ c ∧ c ≤ 57) := by
  congr 1
  rw [Bool.eq_iff_iff, List.isEmpty_iff, List.filter_eq_nil_iff, decide_eq_true_iff]
  simp
theorem sgn1_eq0 {c : Nat} {h : Hs} : eqG (sgn1 c) (.str "0") h = some (.bl (decide ((⟨#[c]⟩ : Str) = "0")), h) := ev_eqSS
end SL
namespace SL
open RR PySem
open TL (tl)
open L2 (cutS)
theorem ev_starts {w : Str} {h : Hs} : startswithG (.str w) [.str "-"] h = some (.bl (decide (negT w = true)), h) := by
  rw [Bool.decide_eq_true, ← starts_neg]; rfl
theorem ev_allB {α : Type} {h : Hs} {n : Nat} {l : List α} {p : α → Prop} [DecidablePred p] (e : getL h n = some (l.map fun x => D.bl (decide (p x)))) : allG [.ref n] h = some (.bl (decide (∀ x ∈ l, p x)), h) := by
  show (match getL h n with | some ds => (match blsD ds with | some ns => some (D.bl (ns.all id), h) | none => none) | none => none) = _
  rw [e]
  have : (l.map fun x => D.bl (decide (p x))) = (l.map fun x => decide (p x)).map D.bl := by rw [List.map_map]; rfl
  rw [this]
  simp only [blsD_map]
  congr 3
  rw [Bool.eq_iff_iff, List.all_eq_true, decide_eq_true_iff]
  simp
def NameOk (w : Str) : Prop := (1 ≤ (tl w).length ∧ (tl w).length ≤ 8) ∧ ∀ c ∈ tl w, 97 ≤ c ∧ c ≤ 122
instance (w : Str) : Decidable (NameOk w) := by unfold NameOk; exact inferInstance
end SL
namespace SL
open RR PySem
open TL (tl)
open L2 (cutS)
theorem ifS_plain {w : Str} {h : Hs} : (if negT w = true then some (D.str (cutS w (some 1) none), h) else some (D.str w, h)) = some (D.str (plainT w), h) := by
  unfold plainT
  by_cases z : negT w = true
  · rw [if_pos z, if_pos z]
  · rw [if_neg z, if_neg z]
end SL
namespace K01
open SL RR
local macro_rules | `(tactic| walk_at "bd") => `(tactic| (first
  | assumption
  | (with_reducible apply Bd.add <;> walk_at "bd")
  | (with_reducible apply Bd.sub <;> walk_at "bd")
  | (with_reducible apply Bd.mul <;> walk_at "bd")
  | (with_reducible apply Bd.neg <;> walk_at "bd")
  | (with_reducible apply Bd.fdiv <;> walk_at "bd")
  | (with_reducible apply Bd.ite <;> walk_at "bd")
  | (with_reducible apply Bd.sign)
  | exact Bd.lit 64 rfl
  | exact Bd.lit 250 rfl))
local macro_rules | `(tactic| walk_at "dis") => `(tactic| (first
  | assumption
  | (with_reducible apply MOk.of <;> first | (walk_at "bd"; done) | exact Nat.le_of_ble_eq_true rfl)
  | (with_reducible apply Bd.mono <;> first | (walk_at "bd"; done) | exact Nat.le_of_ble_eq_true rfl)
  | (with_reducible apply DOk.of <;> first | (walk_at "bd"; done) | omega | exact Nat.le_of_ble_eq_true rfl)
  | omega))
local macro_rules | `(tactic| walk_at "ev") => `(tactic| simp (disch := walk_at "dis") only [ev_var0, ev_varS, ev_c, ev_op, ev_opK, ev_un, ev_call, ev_nil, ev_cons, ev_acK, ev_consK, ev_tup, ev_tupK, ev_lst, ev_lstK, ev_ifE, ev_ifS, ev_ifKT, ev_ifKF, ev_ifK, ev_ifKN,
  ev_tV, ev_tvK, ev_tTru, ev_truB, ev_truN, ev_truI, ev_and, ev_or, ev_not, ev_notK, ev_andT, ev_andF, ev_orT, ev_orF, ev_andK, ev_andKN, ev_orK, ev_orKN, ev_eAnd, ev_eOr, ev_eNot, ev_eNotB, ev_eAndT, ev_eAndF, ev_eAndB, ev_eAndBN, ev_eOrT, ev_eOrF, ev_eOrN, ev_eOrB, ev_eOrBN,
  ev_chain, ev_chK1, ev_chK2, ev_chK3, ev_chK3T, ev_chK3F, ev_seq, ev_thn, ev_thnR, ev_thnB, ev_thnC, ev_next, ev_break, ev_cont, ev_ret, ev_retK, ev_retN, ev_expr, ev_exprK, ev_asg, ev_asgK, ev_nxK, ev_gNm, ev_gTp, ev_gsNil, ev_gsCons, ev_gsK, ev_gSb, ev_gSbK1, ev_par, ev_parK2, ev_parK3, ev_mt,
  ev_add, ev_sub, ev_mul, ev_fdiv, ev_mod, ev_pow, ev_shl, ev_neg, ev_lt, ev_le, ev_gt, ev_ge, ev_eqI, ev_neI, ev_abs, ev_intB, ev_intI, ev_minI, ev_maxI, ev_bits, ev_get0, ev_get1, ev_get2, bd_ok, bd_none, ev_whT, ev_whF, ev_whD, ev_wh2, ev_wh2c, ev_wh2r, ev_wh2b, ev_for, ev_forK, ev_fr1, ev_fr2, ev_fr2c, ev_fr2r, ev_fr2b, ev_lc, ev_lcK, ev_lc1, ev_lc2T, ev_lc2F, ev_lc2D, ev_yes, ev_iSeq, ev_seqT, ev_seqS, ev_iRange, ev_iEnum, ev_iZip,
  ev_neIS, ev_eqIS, ev_neSS, ev_eqSS, ev_isN, ev_isNot, isNon_t, isNon_n, isNon_i, isNon_r, decide_true, decide_false, decide_eq_true_eq, eq_self, if_true, if_false,
  out_rt, out_nx, List.map_cons, List.map_nil, List.cons_append, List.nil_append, List.replicate, List.set_cons_zero, List.set_cons_succ, Nat.reduceSub, Int.reduceEq, Int.reduceLT, Int.reduceLE, Int.reduceMul, Int.reduceAdd, Int.reduceSub, Bool.not_true, Bool.not_false])
local macro_rules | `(tactic| walk_at "go") => `(tactic| repeat (first | walk_at "ev" | walk_at "fs"))
local macro_rules | `(tactic| walk_at "wv") => `(tactic| simp only [wp_ok, kn_eq, outQ_rt, outQ_nx, turnQ_nx, turnQ_ct, turnQ_bk, turnQ_rt, whQ_nx, whQ_bk, whQ_rt, whT_t, whT_f, whT_d, lcT_t, lcT_f, lcT_d])
local macro_rules | `(tactic| walk_at "wb") => `(tactic| with_reducible refine wp_bd ?_)
local macro_rules | `(tactic| walk_at "w") => `(tactic| repeat (first | walk_at "ev" | walk_at "wv" | walk_at "fs" | walk_at "wb"))
local macro_rules | `(tactic| walk_at "bd") => `(tactic| exact Bd.fm rfl)
local macro_rules | `(tactic| walk_at "fs") => `(tactic| simp only [p10_3, p10_6, p10_7, p10_8, p10_9, p10_12, p10_15, p10_18, p10_60])
local macro_rules | `(tactic| walk_at "fs") => `(tactic| simp only [ev_pNil, ev_pCons, ev_pK1, ev_pK2, ev_pK3s, ev_dict, ev_gSb, ev_gSbK1])
local macro_rules | `(tactic| walk_at "fs") => `(tactic| simp only [wipe_nil, wipe_cons])
local macro_rules | `(tactic| walk_at "fs") => `(tactic| simp only [ev_make, ev_fldSet, ev_fsK1, ev_om, ev_omK2, ev_intB])
local macro_rules | `(tactic| walk_at "fs") => `(tactic| simp only [ev_iEnumV, ev_enumV, isi_str, ev_isN, ev_isNot])
local macro_rules | `(tactic| walk_at "fs") => `(tactic| simp only [ev_sl, ev_slK1, ev_slK2, ev_slK3, ev_oSome, ev_oSomeK, ev_oNone, slT4, slT3, len_tup, ev_get3, ev_get4, th_rows, th_nm])
local macro_rules | `(tactic| walk_at "fs") => `(tactic| simp only [List.isEmpty_nil, List.isEmpty_cons])
local macro_rules | `(tactic| walk_at "fs") => `(tactic| simp (disch := assumption) only [ev_slS, ev_lenS, ev_seqS])
theorem law_number_wp {w : PySem.Str} {h : Hs} {Q : D → Hs → Prop} (lw : w.length ≤ 10000) (q : ∀ h', KA h h' → Q (numD w) h') : WP (f__law_number [.str w] h) Q := by
  have lp : (plainT w).length ≤ 10000 := Nat.le_trans (plain_le w) lw
  unfold f__law_number
  refine wp_run rfl ?_
  rw [m__law_number_q]
  walk_at "w"
  rw [plain_ifS]
  walk_at "w"
  refine wp_lcfilterT (figsT w) sgn1 sgn1 (fun c => !decide (48 ≤ c ∧ c ≤ 57)) (Nat.lt_of_le_of_lt (by show (TL.tl (plainT w)).length ≤ 10000; rw [← len_tl]; exact lp) (Nat.le_of_ble_eq_true rfl)) (fun h _ i => srcS_map _ _ _) (fun c _ h1 k1 => ⟨_, rfl, ?_⟩) (fun h1 k1 => ?_)
  · walk_at "w"
    rw [ev_notFig]
    walk_at "w"
    exact ⟨trivial, Keep.refl, fun _ => ⟨trivial, Keep.refl⟩⟩
  walk_at "w"
  have nk : ¬ NumOk w → ∀ h', KA h h' → Q .non h' := fun k h' k' => by rw [← numD_non k]; exact q h' k'
  refine wp_ite (fun a => ?_) (fun a => ?_)
  rotate_left
  · walk_at "w"
    exact nk (fun z => a (by have := z.1.1; show (1 : Int) ≤ ((figsT w).length : Nat); omega)) _ (k1.trans Keep.app)
  walk_at "w"
  by_cases b : ((TL.tl (plainT w)).length : Int) ≤ 40
  rotate_left
  · simp only [if_neg b]
    walk_at "w"
    exact nk (fun z => b (by have := z.1.2; show ((figsT w).length : Int) ≤ 40; omega)) _ (k1.trans Keep.app)
  simp only [if_pos b]
  walk_at "w"
  rw [ne_sgns (KA.getL Keep.app getL_last) getL_last, odd_none]
  walk_at "w"
  refine wp_ite (fun c => ?_) (fun c => ?_)
  rotate_left
  · walk_at "w"
    exact nk (fun z => c z.2.1) _ ((k1.trans Keep.app).trans Keep.app)
  have n1 : 1 ≤ (TL.tl (plainT w)).length := by omega
  walk_at "w"
  rw [ev_at0 lp n1]
  walk_at "w"
  rw [sgn1_eq0]
  walk_at "w"
  have fin : NumOk w → ∀ H, KA h H → WP (frW (srcS (plainT w)) (gNm 4) q__law_number_L1 0
      [some (D.str w), some (D.str (plainT w)), some (D.ref (List.length h1)), some (D.int 0), none] H)
    (Kn (thnK (sRet (eIf (tV (eOp eqG (eVar 1) (eVar 0))) (eVar 3) (eOp subG (eC (D.int 0)) (eVar 3))))) (outQ Q)) := fun ok H kH => by
    have hs : ∀ i, (figsT w).take (i + 1) = (figsT w).take i ++ ((figsT w)[i]?).toList := fun i => List.take_add_one
    have bd : ∀ i, Bd 200 ((PySem.NumText.digitsVal ((figsT w).take i) : Nat) : Int) := fun i => digitsVal_bd (fun d hd => c d (List.mem_of_mem_take hd)) (by rw [List.length_take]; have := ok.1.2; omega)
    refine wp_fr (figsT w).length (fun i ρ g => ∃ x, ρ = [some (D.str w), some (D.str (plainT w)), some (D.ref (List.length h1)), some (.int ((PySem.NumText.digitsVal ((figsT w).take i) : Nat) : Int)), x] ∧ g = H) ⟨none, by rw [List.take_zero]; rfl, rfl⟩ (fun i hi ρ g p => ?_) (fun ρ g p => ?_)
    · obtain ⟨x, rfl, rfl⟩ := p
      have ci := c (figsT w)[i] (List.getElem_mem hi)
      refine ⟨sgn1 (figsT w)[i], _, _, by rw [srcS_map]; show some ((figsT w).map sgn1)[i]? = _; rw [List.getElem?_map, List.getElem?_eq_getElem hi]; rfl, rfl, ?_⟩
      unfold q__law_number_L1
      have bi := bd i
      walk_at "w"
      rw [ev_mtK rfl]
      walk_at "w"
      rw [ev_fig ci.1 ci.2]
      walk_at "w"
      refine ⟨some (sgn1 (figsT w)[i]), ?_, trivial⟩
      rw [hs i, List.getElem?_eq_getElem hi, Option.toList_some, digitsVal_snoc, Int.natCast_add, Int.natCast_mul]
      rfl
    · obtain ⟨x, rfl, rfl⟩ := p
      refine ⟨by rw [srcS_map]; show some ((figsT w).map sgn1)[(figsT w).length]? = _; rw [List.getElem?_eq_none (by simp)], ?_⟩
      rw [List.take_length]
      walk_at "w"
      refine wp_ite (fun e => ?_) (fun e => ?_)
      · walk_at "w"
        have := q _ kH
        rw [numD_int ok, show numV w = ((PySem.NumText.digitsVal (figsT w) : Nat) : Int) from if_neg (by rw [(plain_eq w).mp e]; exact Bool.false_ne_true)] at this
        exact this
      · walk_at "w"
        have ng : negT w = true := by
          cases z : negT w with
          | true => rfl
          | false => exact absurd ((plain_eq w).mpr z) e
        have := q _ kH
        rw [numD_int ok, show numV w = -((PySem.NumText.digitsVal (figsT w) : Nat) : Int) from if_pos ng] at this
        rw [Int.zero_sub]
        exact this
  have k3 := (k1.trans (Keep.app (G := [AO.lst (List.map sgn1 (List.filter (fun c => !decide (48 ≤ c ∧ c ≤ 57)) (figsT w)))]))).trans (Keep.app (G := [AO.lst []]))
  have ok1 : ¬ ((figsT w).take 1 = [48] ∧ w ≠ "0") → NumOk w := fun d => ⟨⟨n1, by show (TL.tl (plainT w)).length ≤ 40; omega⟩, c, d⟩
  refine wp_ite (fun d => ?_) (fun d => ?_)
  · have d1 := (at0_iff n1).mp d
    by_cases e : w = PySem.Str.ofString "0"
    · rw [decide_eq_true e]
      walk_at "w"
      exact fin (ok1 fun z => z.2 e) _ k3
    · rw [decide_eq_false e]
      walk_at "w"
      exact nk (fun z => z.2.2 ⟨d1, e⟩) _ k3
  · walk_at "w"
    exact fin (ok1 fun z => d ((at0_iff n1).mpr z.1)) _ k3
end K01
namespace K01
open SL RR
local macro_rules | `(tactic| walk_at "bd") => `(tactic| (first
  | assumption
  | (with_reducible apply Bd.add <;> walk_at "bd")
  | (with_reducible apply Bd.sub <;> walk_at "bd")
  | (with_reducible apply Bd.mul <;> walk_at "bd")
  | (with_reducible apply Bd.neg <;> walk_at "bd")
  | (with_reducible apply Bd.fdiv <;> walk_at "bd")
  | (with_reducible apply Bd.ite <;> walk_at "bd")
  | (with_reducible apply Bd.sign)
  | exact Bd.lit 64 rfl
  | exact Bd.lit 250 rfl))
local macro_rules | `(tactic| walk_at "dis") => `(tactic| (first
  | assumption
  | (with_reducible apply MOk.of <;> first | (walk_at "bd"; done) | exact Nat.le_of_ble_eq_true rfl)
  | (with_reducible apply Bd.mono <;> first | (walk_at "bd"; done) | exact Nat.le_of_ble_eq_true rfl)
  | (with_reducible apply DOk.of <;> first | (walk_at "bd"; done) | omega | exact Nat.le_of_ble_eq_true rfl)
  | omega))
local macro_rules | `(tactic| walk_at "ev") => `(tactic| simp (disch := walk_at "dis") only [ev_var0, ev_varS, ev_c, ev_op, ev_opK, ev_un, ev_call, ev_nil, ev_cons, ev_acK, ev_consK, ev_tup, ev_tupK, ev_lst, ev_lstK, ev_ifE, ev_ifS, ev_ifKT, ev_ifKF, ev_ifK, ev_ifKN,
  ev_tV, ev_tvK, ev_tTru, ev_truB, ev_truN, ev_truI, ev_and, ev_or, ev_not, ev_notK, ev_andT, ev_andF, ev_orT, ev_orF, ev_andK, ev_andKN, ev_orK, ev_orKN, ev_eAnd, ev_eOr, ev_eNot, ev_eNotB, ev_eAndT, ev_eAndF, ev_eAndB, ev_eAndBN, ev_eOrT, ev_eOrF, ev_eOrN, ev_eOrB, ev_eOrBN,
  ev_chain, ev_chK1, ev_chK2, ev_chK3, ev_chK3T, ev_chK3F, ev_seq, ev_thn, ev_thnR, ev_thnB, ev_thnC, ev_next, ev_break, ev_cont, ev_ret, ev_retK, ev_retN, ev_expr, ev_exprK, ev_asg, ev_asgK, ev_nxK, ev_gNm, ev_gTp, ev_gsNil, ev_gsCons, ev_gsK, ev_gSb, ev_gSbK1, ev_par, ev_parK2, ev_parK3, ev_mt,
  ev_add, ev_sub, ev_mul, ev_fdiv, ev_mod, ev_pow, ev_shl, ev_neg, ev_lt, ev_le, ev_gt, ev_ge, ev_eqI, ev_neI, ev_abs, ev_intB, ev_intI, ev_minI, ev_maxI, ev_bits, ev_get0, ev_get1, ev_get2, bd_ok, bd_none, ev_whT, ev_whF, ev_whD, ev_wh2, ev_wh2c, ev_wh2r, ev_wh2b, ev_for, ev_forK, ev_fr1, ev_fr2, ev_fr2c, ev_fr2r, ev_fr2b, ev_lc, ev_lcK, ev_lc1, ev_lc2T, ev_lc2F, ev_lc2D, ev_yes, ev_iSeq, ev_seqT, ev_seqS, ev_iRange, ev_iEnum, ev_iZip,
  ev_neIS, ev_eqIS, ev_neSS, ev_eqSS, ev_isN, ev_isNot, isNon_t, isNon_n, isNon_i, isNon_r, decide_true, decide_false, decide_eq_true_eq, eq_self, if_true, if_false,
  out_rt, out_nx, List.map_cons, List.map_nil, List.cons_append, List.nil_append, List.replicate, List.set_cons_zero, List.set_cons_succ, Nat.reduceSub, Int.reduceEq, Int.reduceLT, Int.reduceLE, Int.reduceMul, Int.reduceAdd, Int.reduceSub, Bool.not_true, Bool.not_false])
local macro_rules | `(tactic| walk_at "go") => `(tactic| repeat (first | walk_at "ev" | walk_at "fs"))
local macro_rules | `(tactic| walk_at "wv") => `(tactic| simp only [wp_ok, kn_eq, outQ_rt, outQ_nx, turnQ_nx, turnQ_ct, turnQ_bk, turnQ_rt, whQ_nx, whQ_bk, whQ_rt, whT_t, whT_f, whT_d, lcT_t, lcT_f, lcT_d])
local macro_rules | `(tactic| walk_at "wb") => `(tactic| with_reducible refine wp_bd ?_)
local macro_rules | `(tactic| walk_at "w") => `(tactic| repeat (first | walk_at "ev" | walk_at "wv" | walk_at "fs" | walk_at "wb"))
local macro_rules | `(tactic| walk_at "bd") => `(tactic| exact Bd.fm rfl)
local macro_rules | `(tactic| walk_at "fs") => `(tactic| simp only [p10_3, p10_6, p10_7, p10_8, p10_9, p10_12, p10_15, p10_18, p10_60])
local macro_rules | `(tactic| walk_at "fs") => `(tactic| simp only [ev_pNil, ev_pCons, ev_pK1, ev_pK2, ev_pK3s, ev_dict, ev_gSb, ev_gSbK1])
local macro_rules | `(tactic| walk_at "fs") => `(tactic| simp only [wipe_nil, wipe_cons])
local macro_rules | `(tactic| walk_at "fs") => `(tactic| simp only [ev_make, ev_fldSet, ev_fsK1, ev_om, ev_omK2, ev_intB])
local macro_rules | `(tactic| walk_at "fs") => `(tactic| simp only [ev_iEnumV, ev_enumV, isi_str, ev_isN, ev_isNot])
local macro_rules | `(tactic| walk_at "fs") => `(tactic| simp only [ev_sl, ev_slK1, ev_slK2, ev_slK3, ev_oSome, ev_oSomeK, ev_oNone, slT4, slT3, len_tup, ev_get3, ev_get4, th_rows, th_nm])
local macro_rules | `(tactic| walk_at "fs") => `(tactic| simp only [List.isEmpty_nil, List.isEmpty_cons])
local macro_rules | `(tactic| walk_at "fs") => `(tactic| simp (disch := assumption) only [ev_slS, ev_lenS, ev_seqS])
theorem number_of_wp {w : PySem.Str} {h : Hs} {Q : D → Hs → Prop} (lw : w.length ≤ 10000) (q : ∀ h', KA h h' → Q (numD w) h') : WP (f_number_of [.str w] h) Q := by
  have lp : (plainT w).length ≤ 10000 := Nat.le_trans (plain_le w) lw
  have nk : ¬ NumOk w → ∀ h', KA h h' → Q .non h' := fun k h' k' => by rw [← numD_non k]; exact q h' k'
  unfold f_number_of
  refine wp_run rfl ?_
  unfold m_number_of d_MOST_FIGURES d_FIGURES
  walk_at "w"
  rw [ev_mtK rfl]
  walk_at "w"
  rw [ev_starts]
  walk_at "w"
  rw [ifS_plain]
  walk_at "w"
  refine wp_ite (fun a => ?_) (fun a => ?_)
  rotate_left
  · walk_at "w"
    exact nk (fun z => a (by have := z.1.1; show (1 : Int) ≤ ((figsT w).length : Nat); omega)) _ Keep.refl
  walk_at "w"
  by_cases b : ((TL.tl (plainT w)).length : Int) ≤ 40
  rotate_left
  · simp only [if_neg b]
    walk_at "w"
    exact nk (fun z => b (by have := z.1.2; show ((figsT w).length : Int) ≤ 40; omega)) _ Keep.refl
  simp only [if_pos b]
  walk_at "w"
  refine wp_lcmapT (figsT w) sgn1 (fun c => D.bl (decide (48 ≤ c ∧ c ≤ 57))) (Nat.lt_of_le_of_lt (by show (TL.tl (plainT w)).length ≤ 10000; rw [← len_tl]; exact lp) (Nat.le_of_ble_eq_true rfl)) (fun h _ i => srcS_map _ _ _) (fun c _ h1 k1 => ⟨_, rfl, ?_⟩) (fun h1 k1 => ?_)
  · walk_at "w"
    rw [ev_inFig]
    walk_at "w"
    exact ⟨trivial, Keep.refl⟩
  walk_at "w"
  rw [ev_allB getL_last]
  walk_at "w"
  refine wp_ite (fun c => ?_) (fun c => ?_)
  rotate_left
  · walk_at "w"
    exact nk (fun z => c z.2.1) _ (k1.trans Keep.app)
  have n1 : 1 ≤ (TL.tl (plainT w)).length := by omega
  walk_at "w"
  rw [ev_at0 lp n1]
  walk_at "w"
  rw [sgn1_eq0]
  walk_at "w"
  have k3 := k1.trans (Keep.app (G := [AO.lst ((figsT w).map fun c => D.bl (decide (48 ≤ c ∧ c ≤ 57)))]))
  have ok1 : ¬ ((figsT w).take 1 = [48] ∧ w ≠ "0") → NumOk w := fun d => ⟨⟨n1, by show (TL.tl (plainT w)).length ≤ 40; omega⟩, c, d⟩
  have fin : NumOk w → ∀ H, intG [D.str w] H = some (numD w, H) := fun ok H => by
    have l640 : w.length ≤ 640 := by
      have := ok.1.2
      rw [len_tl]
      cases z : negT w with
      | true => rw [(figs_neg z).2, List.length_cons]; omega
      | false => rw [← figs_pos z]; omega
    show (if w.length ≤ 640 then match PySem.intText? w with | some n => some (D.int n, H) | none => none else none) = _
    rw [if_pos l640, int_is ok, numD_int ok]
  refine wp_ite (fun d => ?_) (fun d => ?_)
  · have d1 := (at0_iff n1).mp d
    by_cases e : w = PySem.Str.ofString "0"
    · rw [decide_eq_true e]
      walk_at "w"
      rw [fin (ok1 fun z => z.2 e)]
      walk_at "w"
      exact q _ k3
    · rw [decide_eq_false e]
      walk_at "w"
      exact nk (fun z => z.2.2 ⟨d1, e⟩) _ k3
  · walk_at "w"
    rw [fin (ok1 fun z => d ((at0_iff n1).mpr z.1))]
    walk_at "w"
    exact q _ k3
theorem is_name_wp {w : PySem.Str} {h : Hs} {Q : D → Hs → Prop} (lw : w.length ≤ 10000) (q : ∀ h', KA h h' → Q (.bl (decide (NameOk w))) h') : WP (f_is_name [.str w] h) Q := by
  have nk : ¬ NameOk w → ∀ h', KA h h' → Q (.bl false) h' := fun k h' k' => by have := q h' k'; rwa [decide_eq_false k] at this
  unfold f_is_name
  refine wp_run rfl ?_
  unfold m_is_name d_MOST_LETTERS d_LETTERS
  walk_at "w"
  refine wp_ite (fun a => ?_) (fun a => ?_)
  rotate_left
  · walk_at "w"
    exact nk (fun z => a (by have := z.1.1; omega)) _ Keep.refl
  walk_at "w"
  by_cases b : ((TL.tl w).length : Int) ≤ 8
  rotate_left
  · simp only [if_neg b]
    walk_at "w"
    exact nk (fun z => b (by have := z.1.2; omega)) _ Keep.refl
  simp only [if_pos b]
  walk_at "w"
  refine wp_lcmapT (TL.tl w) sgn1 (fun c => D.bl (decide (97 ≤ c ∧ c ≤ 122))) (Nat.lt_of_le_of_lt (by rw [← len_tl]; exact lw) (Nat.le_of_ble_eq_true rfl)) (fun h _ i => srcS_map _ _ _) (fun c _ h1 k1 => ⟨_, rfl, ?_⟩) (fun h1 k1 => ?_)
  · walk_at "w"
    rw [ev_inLet]
    walk_at "w"
    exact ⟨trivial, Keep.refl⟩
  walk_at "w"
  rw [ev_allB getL_last]
  walk_at "w"
  have e : decide (∀ x ∈ TL.tl w, 97 ≤ x ∧ x ≤ 122) = decide (NameOk w) := decide_eq_decide.mpr ⟨fun z => ⟨⟨by omega, by omega⟩, z⟩, fun z => z.2⟩
  rw [e]
  exact q _ (k1.trans Keep.app)
end K01
namespace K01
open SL RR
local macro_rules | `(tactic| walk_at "bd") => `(tactic| (first
  | assumption
  | (with_reducible apply Bd.add <;> walk_at "bd")
  | (with_reducible apply Bd.sub <;> walk_at "bd")
  | (with_reducible apply Bd.mul <;> walk_at "bd")
  | (with_reducible apply Bd.neg <;> walk_at "bd")
  | (with_reducible apply Bd.fdiv <;> walk_at "bd")
  | (with_reducible apply Bd.ite <;> walk_at "bd")
  | (with_reducible apply Bd.sign)
  | exact Bd.lit 64 rfl
  | exact Bd.lit 250 rfl))
local macro_rules | `(tactic| walk_at "dis") => `(tactic| (first
  | assumption
  | (with_reducible apply MOk.of <;> first | (walk_at "bd"; done) | exact Nat.le_of_ble_eq_true rfl)
  | (with_reducible apply Bd.mono <;> first | (walk_at "bd"; done) | exact Nat.le_of_ble_eq_true rfl)
  | (with_reducible apply DOk.of <;> first | (walk_at "bd"; done) | omega | exact Nat.le_of_ble_eq_true rfl)
  | omega))
local macro_rules | `(tactic| walk_at "ev") => `(tactic| simp (disch := walk_at "dis") only [ev_var0, ev_varS, ev_c, ev_op, ev_opK, ev_un, ev_call, ev_nil, ev_cons, ev_acK, ev_consK, ev_tup, ev_tupK, ev_lst, ev_lstK, ev_ifE, ev_ifS, ev_ifKT, ev_ifKF, ev_ifK, ev_ifKN,
  ev_tV, ev_tvK, ev_tTru, ev_truB, ev_truN, ev_truI, ev_and, ev_or, ev_not, ev_notK, ev_andT, ev_andF, ev_orT, ev_orF, ev_andK, ev_andKN, ev_orK, ev_orKN, ev_eAnd, ev_eOr, ev_eNot, ev_eNotB, ev_eAndT, ev_eAndF, ev_eAndB, ev_eAndBN, ev_eOrT, ev_eOrF, ev_eOrN, ev_eOrB, ev_eOrBN,
  ev_chain, ev_chK1, ev_chK2, ev_chK3, ev_chK3T, ev_chK3F, ev_seq, ev_thn, ev_thnR, ev_thnB, ev_thnC, ev_next, ev_break, ev_cont, ev_ret, ev_retK, ev_retN, ev_expr, ev_exprK, ev_asg, ev_asgK, ev_nxK, ev_gNm, ev_gTp, ev_gsNil, ev_gsCons, ev_gsK, ev_gSb, ev_gSbK1, ev_par, ev_parK2, ev_parK3, ev_mt,
  ev_add, ev_sub, ev_mul, ev_fdiv, ev_mod, ev_pow, ev_shl, ev_neg, ev_lt, ev_le, ev_gt, ev_ge, ev_eqI, ev_neI, ev_abs, ev_intB, ev_intI, ev_minI, ev_maxI, ev_bits, ev_get0, ev_get1, ev_get2, bd_ok, bd_none, ev_whT, ev_whF, ev_whD, ev_wh2, ev_wh2c, ev_wh2r, ev_wh2b, ev_for, ev_forK, ev_fr1, ev_fr2, ev_fr2c, ev_fr2r, ev_fr2b, ev_lc, ev_lcK, ev_lc1, ev_lc2T, ev_lc2F, ev_lc2D, ev_yes, ev_iSeq, ev_seqT, ev_seqS, ev_iRange, ev_iEnum, ev_iZip,
  ev_neIS, ev_eqIS, ev_neSS, ev_eqSS, ev_isN, ev_isNot, isNon_t, isNon_n, isNon_i, isNon_r, decide_true, decide_false, decide_eq_true_eq, eq_self, if_true, if_false,
  out_rt, out_nx, List.map_cons, List.map_nil, List.cons_append, List.nil_append, List.replicate, List.set_cons_zero, List.set_cons_succ, Nat.reduceSub, Int.reduceEq, Int.reduceLT, Int.reduceLE, Int.reduceMul, Int.reduceAdd, Int.reduceSub, Bool.not_true, Bool.not_false])
local macro_rules | `(tactic| walk_at "go") => `(tactic| repeat (first | walk_at "ev" | walk_at "fs"))
noncomputable abbrev m_whole_root_L1 : MS := (sAsg (eOp mulG (eVar 2) (eC (.int 2))) (gNm 2))
noncomputable abbrev m_whole_root_L2 : MS := (sSeq (sAsg (eOp fdivG (eOp addG (eVar 1) (eVar 2)) (eC (.int 2))) (gNm 3)) (sIf (tV (eOp leG (eOp mulG (eVar 3) (eVar 3)) (eVar 0))) (sAsg (eVar 3) (gNm 1)) (sAsg (eVar 3) (gNm 2))))
theorem sign_of_eq (n : Int) (h : Hs) : f_sign_of [.int n] h = some (.int n.sign, h) := by
  have : f_sign_of [.int n] h = some (.int ((if decide (0 < n) = true then 1 else 0) - (if decide (n < 0) = true then 1 else 0)), h) := rfl
  rw [this]
  rcases Int.lt_trichotomy n 0 with q | q | q
  · simp [q, Int.not_lt.mpr (Int.le_of_lt q), Int.sign_eq_neg_one_of_neg q]
  · simp [q]
  · simp [q, Int.not_lt.mpr (Int.le_of_lt q), Int.sign_eq_one_of_pos q]
local macro_rules | `(tactic| walk_at "fs") => `(tactic| simp only [sign_of_eq])
theorem common_loop (h : Hs) : ∀ (k : Nat) (a b : Int), 0 ≤ b → b ≤ k → 0 ≤ a →
    sWh (tV (eOp gtG (eVar 1) (eC (.int 0)))) (sPar [0, 1] (aCons (eVar 1) (aCons (eOp modG (eVar 0) (eVar 1)) aNil))) [some (.int a), some (.int b)] h =
      some ((.nx, [some (.int (Int.gcd a b)), some (.int 0)]), h)
  | 0, a, b, h0, hk, ha => by
    have : b = 0 := by omega
    subst this
    rw [wh_eq]
    walk_at "go"
    rw [Int.gcd_zero, Int.natAbs_of_nonneg ha]
  | k + 1, a, b, h0, hk, ha => by
    rw [wh_eq]
    walk_at "go"
    by_cases q : 0 < b
    · rw [if_pos q]
      have hb : b ≠ 0 := by omega
      walk_at "go"
      have h1 := Int.fmod_nonneg_of_pos a q
      have h2 := Int.fmod_lt_of_pos a q
      rw [common_loop h k b (a.fmod b) h1 (by omega) h0, gcd_step q]
    · rw [if_neg q]
      have : b = 0 := by omega
      subst this
      rw [Int.gcd_zero, Int.natAbs_of_nonneg ha]
theorem abs_ite (a : Int) : (if a < 0 then -a else a) = (a.natAbs : Int) := by split <;> omega
theorem common_divisor_eq (a b : Int) (h : Hs) : f_common_divisor [.int a, .int b] h = some (.int (Int.gcd a b), h) := by
  unfold f_common_divisor
  rw [runB_ok (by rfl)]
  unfold m_common_divisor
  walk_at "go"
  rw [abs_ite, abs_ite, common_loop h b.natAbs _ _ (by omega) (by omega) (by omega)]
  walk_at "go"
  rw [show Int.gcd (a.natAbs : Int) (b.natAbs : Int) = Int.gcd a b from rfl]
local macro_rules | `(tactic| walk_at "fs") => `(tactic| simp only [common_divisor_eq])
theorem ev_pm {p : Prop} [Decidable p] {h : Hs} {x y : D} : subG' (.ref h.length) (.int (if p then 1 else 0)) (h ++ [.lst [x, y]]) = some (if p then y else x, h ++ [.lst [x, y]]) := by
  by_cases q : p
  · rw [if_pos q, if_pos q]; exact ev_last1
  · rw [if_neg q, if_neg q]; exact ev_last0
theorem ite_int {p : Prop} [Decidable p] {x y : Int} : (if p then D.int x else D.int y) = D.int (if p then x else y) := by split <;> rfl
local macro_rules | `(tactic| walk_at "fs") => `(tactic| simp only [ev_last0, ev_last1, ev_pm, ite_int])
theorem bd_nat {n : Nat} {x y : Int} (b : Bd n y) (h : x.natAbs ≤ y.natAbs) : Bd n x := Nat.lt_of_le_of_lt h b
theorem gcd_bd {n : Nat} {a b : Int} (h : Bd n b) (hb : b ≠ 0) : Bd n (Int.gcd a b : Int) := by
  refine bd_nat h ?_
  have := Int.gcd_dvd_right a b
  have h2 : (Int.gcd a b : Int).natAbs ≤ b.natAbs := Nat.le_of_dvd (by omega) (Int.natAbs_dvd_natAbs.mpr this)
  exact h2
theorem sqrt_bd {n : Nat} {d r : Int} (hd : Bd n d) (hr : IsRt d r) : Bd n r := by
  refine hd.of_le hr.1 ?_
  have h0 := hr.1
  rcases Int.lt_or_eq_of_le h0 with q | q
  · have : r * 1 ≤ r * r := Int.mul_le_mul_of_nonneg_left (by omega) h0
    have := hr.2.1
    omega
  · rw [← q]; have := hr.2.1; rw [← q] at this; simpa using this
theorem sq_mono {x y : Int} (h0 : 0 ≤ x) (h : x ≤ y) : x * x ≤ y * y := Int.mul_le_mul h h h0 (by omega)
theorem up_loop {n r : Int} (h : Hs) (bn : Bd 9000 n) (hr : IsRt n r) : ∀ (k : Nat) (x : Int) (x3 : Option D), r + 1 - x ≤ k → 0 < x → x ≤ 2 * (r + 1) → ∃ y, r < y ∧ y ≤ 2 * (r + 1) ∧ 0 < y ∧
    sWh (tV (eOp leG (eOp mulG (eVar 2) (eVar 2)) (eVar 0))) m_whole_root_L1 [some (.int n), some (.int 0), some (.int x), x3] h = some ((.nx, [some (.int n), some (.int 0), some (.int y), x3]), h) := by
  obtain ⟨r0, r1, r2⟩ := hr
  have hn : 0 ≤ n := Int.le_trans (Int.mul_nonneg r0 r0) r1
  have br : Bd 9000 r := sqrt_bd bn ⟨r0, r1, r2⟩
  have b2 : Bd 9010 (2 * (r + 1)) := Bd.mono (Bd.mul (Bd.lit 2 (i := 2) rfl) (Bd.add br (Bd.lit 1 (i := 1) rfl))) (by decide)
  intro k
  induction k with
  | zero =>
    intro x x3 hk x0 hx
    have bx : Bd 9010 x := b2.of_le (by omega) hx
    refine ⟨x, by omega, hx, x0, ?_⟩
    rw [wh_eq]
    walk_at "go"
    have := sq_mono (x := r + 1) (y := x) (by omega) (by omega)
    rw [if_neg (by omega)]
  | succ k ih =>
    intro x x3 hk x0 hx
    have bx : Bd 9010 x := b2.of_le (by omega) hx
    by_cases q : x ≤ r
    · obtain ⟨y, y1, y2, y3, e⟩ := ih (x * 2) x3 (by omega) (by omega) (by omega)
      refine ⟨y, y1, y2, y3, ?_⟩
      rw [wh_eq]
      walk_at "go"
      have := sq_mono (x := x) (y := r) (by omega) q
      rw [if_pos (by omega)]
      walk_at "go"
      exact e
    · refine ⟨x, by omega, hx, x0, ?_⟩
      rw [wh_eq]
      walk_at "go"
      have := sq_mono (x := r + 1) (y := x) (by omega) (by omega)
      rw [if_neg (by omega)]
theorem half_loop {n r : Int} (h : Hs) (hr : IsRt n r) : ∀ (k : Nat) (lo hi : Int) (x3 : Option D), hi - lo ≤ k → 0 ≤ lo → lo ≤ r → r < hi → Bd 9010 lo → Bd 9010 hi → ∃ y y3,
    sWh (tV (eOp gtG (eOp subG (eVar 2) (eVar 1)) (eC (.int 1)))) m_whole_root_L2 [some (.int n), some (.int lo), some (.int hi), x3] h = some ((.nx, [some (.int n), some (.int r), some (.int y), y3]), h) := by
  obtain ⟨r0, r1, r2⟩ := hr
  intro k
  induction k with
  | zero => intro lo hi x3 hk; omega
  | succ k ih =>
    intro lo hi x3 hk l0 l1 l2 bl bh
    by_cases q : 1 < hi - lo
    · have e0 : (lo + hi).fdiv 2 = (lo + hi) / 2 := Int.fdiv_eq_ediv_of_nonneg _ (by decide)
      generalize hm : (lo + hi).fdiv 2 = m at *
      have m1 : lo < m := by omega
      have m2 : m < hi := by omega
      have bm : Bd 9010 m := bh.of_le (by omega) (by omega)
      by_cases q2 : m ≤ r
      · obtain ⟨y, y3, e⟩ := ih m hi (some (.int m)) (by omega) (by omega) q2 l2 bm bh
        refine ⟨y, y3, ?_⟩
        rw [wh_eq]
        walk_at "go"
        rw [if_pos (by omega)]
        walk_at "go"
        rw [hm]
        walk_at "go"
        have := sq_mono (x := m) (y := r) (by omega) q2
        rw [if_pos (by omega)]
        walk_at "go"
        exact e
      · obtain ⟨y, y3, e⟩ := ih lo m (some (.int m)) (by omega) l0 l1 (by omega) bl bm
        refine ⟨y, y3, ?_⟩
        rw [wh_eq]
        walk_at "go"
        rw [if_pos (by omega)]
        walk_at "go"
        rw [hm]
        walk_at "go"
        have := sq_mono (x := r + 1) (y := m) (by omega) (by omega)
        rw [if_neg (by omega)]
        walk_at "go"
        exact e
    · have : lo = r := by omega
      subst this
      refine ⟨hi, x3, ?_⟩
      rw [wh_eq]
      walk_at "go"
      rw [if_neg (by omega)]
theorem whole_root_eq {n r : Int} (h : Hs) (bn : Bd 9000 n) (hr : IsRt n r) : f_whole_root [.int n] h = some (.int r, h) := by
  unfold f_whole_root
  rw [runB_ok (by rfl)]
  unfold m_whole_root
  walk_at "go"
  have r0 := hr.1
  have br : Bd 9000 r := sqrt_bd bn hr
  have b2 : Bd 9010 (2 * (r + 1)) := Bd.mono (Bd.mul (Bd.lit 2 (i := 2) rfl) (Bd.add br (Bd.lit 1 (i := 1) rfl))) (by decide)
  obtain ⟨y, y1, y2, y3, e⟩ := up_loop h bn hr (r + 1).toNat 1 none (by omega) (by decide) (by omega)
  rw [e]
  walk_at "go"
  obtain ⟨z, z3, e2⟩ := half_loop h hr y.toNat 0 y none (by omega) (by decide) r0 y1 (Bd.lit 9010 (i := 0) rfl) (b2.of_le (by omega) y2)
  rw [e2]
  walk_at "go"
theorem is_square_eq (n : Int) (h : Hs) (bn : Bd 9000 n) [Decidable (∃ x : Int, x * x = n)] : f_is_square [.int n] h = some (.bl (decide (∃ x : Int, x * x = n)), h) := by
  unfold f_is_square
  rw [runB_ok (by rfl)]
  unfold m_is_square
  walk_at "go"
  by_cases q : 0 ≤ n
  · obtain ⟨r, hr⟩ := isRt_ex q
    have br : Bd 9000 r := sqrt_bd bn hr
    have e1 := whole_root_eq h bn hr
    simp only [ge_iff_le, q, if_true]
    rw [e1]
    walk_at "go"
    rw [e1]
    walk_at "go"
    congr 3
    exact decide_eq_decide.mpr hr.sq_iff
  · simp only [ge_iff_le, q, if_false]
    walk_at "go"
    congr 3
    refine (decide_eq_false ?_).symm
    rintro ⟨x, hx⟩
    have : 0 ≤ x * x := by
      rcases Int.le_total 0 x with z | z
      · exact Int.mul_nonneg z z
      · have := Int.mul_nonneg (show 0 ≤ -x by omega) (show 0 ≤ -x by omega)
        rwa [Int.neg_mul_neg] at this
    omega
end K01
namespace SL
open RR PySem
open TL (tl)
theorem bb_non {h : Hs} : isiG [.non, .ty "bool"] h = some (.bl false, h) := rfl
theorem bb_int {i : Int} {h : Hs} : isiG [.int i, .ty "bool"] h = some (.bl false, h) := rfl
theorem ne_nn {h : Hs} : neG .non .non h = some (.bl false, h) := rfl
theorem ne_bb {a b : Bool} {h : Hs} : neG (.bl a) (.bl b) h = some (.bl (!decide (a = b)), h) := by cases a <;> cases b <;> rfl
theorem eq_bb {a b : Bool} {h : Hs} : eqG (.bl a) (.bl b) h = some (.bl (decide (a = b)), h) := by cases a <;> cases b <;> rfl
theorem is_bb {a b : Bool} {h : Hs} : isG (.bl a) (.bl b) h = some (.bl (decide (a = b)), h) := rfl
theorem eq_t2 {a b c d : Int} {h : Hs} : eqG (.tup [.int a, .int b]) (.tup [.int c, .int d]) h = some (.bl (decide (a = c ∧ b = d)), h) := by
  have : eqG (.tup [.int a, .int b]) (.tup [.int c, .int d]) h = some (.bl (PyData.eqv (.tuple [.int a, .int b]) (.tuple [.int c, .int d])), h) := rfl
  rw [this]
  congr 3
  rw [Bool.eq_iff_iff]
  simp [PyData.eqv, PyData.eqvAll]
end SL
namespace K01
open SL RR
local macro_rules | `(tactic| walk_at "bd") => `(tactic| (first
  | assumption
  | (with_reducible apply Bd.add <;> walk_at "bd")
  | (with_reducible apply Bd.sub <;> walk_at "bd")
  | (with_reducible apply Bd.mul <;> walk_at "bd")
  | (with_reducible apply Bd.neg <;> walk_at "bd")
  | (with_reducible apply Bd.fdiv <;> walk_at "bd")
  | (with_reducible apply Bd.ite <;> walk_at "bd")
  | (with_reducible apply Bd.sign)
  | exact Bd.lit 64 rfl
  | exact Bd.lit 250 rfl))
local macro_rules | `(tactic| walk_at "dis") => `(tactic| (first
  | assumption
  | (with_reducible apply MOk.of <;> first | (walk_at "bd"; done) | exact Nat.le_of_ble_eq_true rfl)
  | (with_reducible apply Bd.mono <;> first | (walk_at "bd"; done) | exact Nat.le_of_ble_eq_true rfl)
  | (with_reducible apply DOk.of <;> first | (walk_at "bd"; done) | omega | exact Nat.le_of_ble_eq_true rfl)
  | omega))
local macro_rules | `(tactic| walk_at "ev") => `(tactic| simp (disch := walk_at "dis") only [ev_var0, ev_varS, ev_c, ev_op, ev_opK, ev_un, ev_call, ev_nil, ev_cons, ev_acK, ev_consK, ev_tup, ev_tupK, ev_lst, ev_lstK, ev_ifE, ev_ifS, ev_ifKT, ev_ifKF, ev_ifK, ev_ifKN,
  ev_tV, ev_tvK, ev_tTru, ev_truB, ev_truN, ev_truI, ev_and, ev_or, ev_not, ev_notK, ev_andT, ev_andF, ev_orT, ev_orF, ev_andK, ev_andKN, ev_orK, ev_orKN, ev_eAnd, ev_eOr, ev_eNot, ev_eNotB, ev_eAndT, ev_eAndF, ev_eAndB, ev_eAndBN, ev_eOrT, ev_eOrF, ev_eOrN, ev_eOrB, ev_eOrBN,
  ev_chain, ev_chK1, ev_chK2, ev_chK3, ev_chK3T, ev_chK3F, ev_seq, ev_thn, ev_thnR, ev_thnB, ev_thnC, ev_next, ev_break, ev_cont, ev_ret, ev_retK, ev_retN, ev_expr, ev_exprK, ev_asg, ev_asgK, ev_nxK, ev_gNm, ev_gTp, ev_gsNil, ev_gsCons, ev_gsK, ev_gSb, ev_gSbK1, ev_par, ev_parK2, ev_parK3, ev_mt,
  ev_add, ev_sub, ev_mul, ev_fdiv, ev_mod, ev_pow, ev_shl, ev_neg, ev_lt, ev_le, ev_gt, ev_ge, ev_eqI, ev_neI, ev_abs, ev_intB, ev_intI, ev_minI, ev_maxI, ev_bits, ev_get0, ev_get1, ev_get2, bd_ok, bd_none, ev_whT, ev_whF, ev_whD, ev_wh2, ev_wh2c, ev_wh2r, ev_wh2b, ev_for, ev_forK, ev_fr1, ev_fr2, ev_fr2c, ev_fr2r, ev_fr2b, ev_lc, ev_lcK, ev_lc1, ev_lc2T, ev_lc2F, ev_lc2D, ev_yes, ev_iSeq, ev_seqT, ev_seqS, ev_iRange, ev_iEnum, ev_iZip,
  ev_neIS, ev_eqIS, ev_neSS, ev_eqSS, ev_isN, ev_isNot, isNon_t, isNon_n, isNon_i, isNon_r, decide_true, decide_false, decide_eq_true_eq, eq_self, if_true, if_false,
  out_rt, out_nx, List.map_cons, List.map_nil, List.cons_append, List.nil_append, List.replicate, List.set_cons_zero, List.set_cons_succ, Nat.reduceSub, Int.reduceEq, Int.reduceLT, Int.reduceLE, Int.reduceMul, Int.reduceAdd, Int.reduceSub, Bool.not_true, Bool.not_false])
local macro_rules | `(tactic| walk_at "go") => `(tactic| repeat (first | walk_at "ev" | walk_at "fs"))
local macro_rules | `(tactic| walk_at "wv") => `(tactic| simp only [wp_ok, kn_eq, outQ_rt, outQ_nx, turnQ_nx, turnQ_ct, turnQ_bk, turnQ_rt, whQ_nx, whQ_bk, whQ_rt, whT_t, whT_f, whT_d, lcT_t, lcT_f, lcT_d])
local macro_rules | `(tactic| walk_at "wb") => `(tactic| with_reducible refine wp_bd ?_)
local macro_rules | `(tactic| walk_at "w") => `(tactic| repeat (first | walk_at "ev" | walk_at "wv" | walk_at "fs" | walk_at "wb"))
local macro_rules | `(tactic| walk_at "bd") => `(tactic| exact Bd.fm rfl)
local macro_rules | `(tactic| walk_at "fs") => `(tactic| simp only [p10_3, p10_6, p10_7, p10_8, p10_9, p10_12, p10_15, p10_18, p10_60])
local macro_rules | `(tactic| walk_at "fs") => `(tactic| simp only [ev_pNil, ev_pCons, ev_pK1, ev_pK2, ev_pK3s, ev_dict, ev_gSb, ev_gSbK1])
local macro_rules | `(tactic| walk_at "fs") => `(tactic| simp only [wipe_nil, wipe_cons])
local macro_rules | `(tactic| walk_at "fs") => `(tactic| simp only [ev_make, ev_fldSet, ev_fsK1, ev_om, ev_omK2, ev_intB])
local macro_rules | `(tactic| walk_at "fs") => `(tactic| simp only [ev_iEnumV, ev_enumV, isi_str, ev_isN, ev_isNot])
local macro_rules | `(tactic| walk_at "fs") => `(tactic| simp only [ev_sl, ev_slK1, ev_slK2, ev_slK3, ev_oSome, ev_oSomeK, ev_oNone, slT4, slT3, len_tup, ev_get3, ev_get4, th_rows, th_nm])
local macro_rules | `(tactic| walk_at "fs") => `(tactic| simp only [List.isEmpty_nil, List.isEmpty_cons])
local macro_rules | `(tactic| walk_at "fs") => `(tactic| simp (disch := assumption) only [ev_slS, ev_lenS, ev_seqS])
local macro_rules | `(tactic| walk_at "fs") => `(tactic| simp only [sign_of_eq])
local macro_rules | `(tactic| walk_at "fs") => `(tactic| simp only [common_divisor_eq])
local macro_rules | `(tactic| walk_at "fs") => `(tactic| simp only [ev_last0, ev_last1, ev_pm, ite_int])
local macro_rules | `(tactic| walk_at "fs") => `(tactic| simp only [bb_non, bb_int, ne_nn, ne_bb, eq_bb, is_bb, eq_t2])
theorem law_one_wp {w : PySem.Str} {h : Hs} {Q : D → Hs → Prop} (lw : w.length ≤ 10000) (q : ∀ h', KA h h' → Q (.bl true) h') : WP (f__law_one [.str w] h) Q := by
  unfold f__law_one
  refine wp_run rfl ?_
  unfold m__law_one
  walk_at "w"
  refine wp_lcfilterT (TL.tl w) sgn1 sgn1 (fun c => decide (97 ≤ c ∧ c ≤ 122)) (Nat.lt_of_le_of_lt (by rw [← len_tl]; exact lw) (Nat.le_of_ble_eq_true rfl)) (fun h _ i => srcS_map _ _ _) (fun c _ h1 k1 => ⟨_, rfl, ?_⟩) (fun h1 k1 => ?_)
  · walk_at "w"
    rw [ev_inLet]
    walk_at "w"
    exact ⟨trivial, Keep.refl, fun _ => ⟨trivial, Keep.refl⟩⟩
  walk_at "w"
  refine law_number_wp lw fun h2 k2 => ?_
  walk_at "w"
  refine number_of_wp lw fun h3 k3 => ?_
  walk_at "w"
  obtain ⟨d, ed, dd⟩ : ∃ d, numD w = d ∧ (d = .non ∨ ∃ i, d = .int i) := by
    by_cases ok : NumOk w
    · exact ⟨_, rfl, .inr ⟨_, numD_int ok⟩⟩
    · exact ⟨_, rfl, .inl (numD_non ok)⟩
  rw [ed]
  have gl : getL h3 h1.length = some (List.map sgn1 (List.filter (fun c => decide (97 ≤ c ∧ c ≤ 122)) (TL.tl w))) := k3.getL (k2.getL getL_last)
  have k4 : KA h h3 := ((k1.trans Keep.app).trans k2).trans k3
  have lf : ((List.filter (fun c => decide (97 ≤ c ∧ c ≤ 122)) (TL.tl w)).length : Int) = ((TL.tl w).length : Nat) ↔ ∀ c ∈ TL.tl w, 97 ≤ c ∧ c ≤ 122 := by
    rw [Int.ofNat_inj, List.length_filter_eq_length_iff]
    simp
  have fin : ∀ d : D, WP (f_is_name [D.str w] h3)
    (Kn
      (opK eqG
        (eAnd2 (eOp eqG (eCall lenG (aCons (eVar 1) aNil)) (eCall lenG (aCons (eVar 0) aNil)))
          (eChain leG leG (eC (D.int 1)) (eCall lenG (aCons (eVar 0) aNil)) (eC (D.int 8))))
        [some (D.str w), some (D.ref (List.length h1)), some d, some d, none])
      (Kn (retK [some (D.str w), some (D.ref (List.length h1)), some d, some d, none]) (outQ Q))) := fun d => by
    refine is_name_wp lw fun h4 k5 => ?_
    walk_at "w"
    rw [ev_lenL (k5.getL gl)]
    walk_at "w"
    rw [List.length_map]
    refine wp_ite (fun a => ?_) (fun a => ?_)
    · walk_at "w"
      have a1 := lf.mp a
      refine wp_ite (fun b => ?_) (fun b => ?_)
      · walk_at "w"
        have : (NameOk w) ↔ ((TL.tl w).length : Int) ≤ 8 := ⟨fun z => by have := z.1.2; omega, fun z => ⟨⟨by omega, by omega⟩, a1⟩⟩
        rw [show decide (NameOk w) = decide (((TL.tl w).length : Int) ≤ 8) from decide_eq_decide.mpr this]
        simp only [eq_self, decide_true]
        exact q _ (k4.trans k5)
      · walk_at "w"
        rw [decide_eq_false (fun z : NameOk w => b (by have := z.1.1; omega))]
        exact q _ (k4.trans k5)
    · walk_at "w"
      rw [decide_eq_false (fun z : NameOk w => a (lf.mpr z.2))]
      exact q _ (k4.trans k5)
  rcases dd with rfl | ⟨i, rfl⟩
  · walk_at "w"
    exact fin _
  · walk_at "w"
    exact fin _
theorem law_divided_wp {a b : Int} {h : Hs} {Q : D → Hs → Prop} (ba : Bd 4000 a) (bb : Bd 4000 b) (q : Q (.bl true) h) : WP (f__law_divided [.int a, .int b] h) Q := by
  have c1 : Int.gcd b a = Int.gcd a b := Int.gcd_comm b a
  have c2 : Int.gcd (0 - a) b = Int.gcd a b := by rw [Int.zero_sub, Int.neg_gcd]
  have c3 : ¬ ((Int.gcd a b : Int) < 0) := by omega
  unfold f__law_divided
  refine wp_run rfl ?_
  rw [m__law_divided_q]
  walk_at "w"
  simp only [c1, c2, eq_self, if_true, decide_eq_false c3]
  walk_at "w"
  refine wp_ite (fun z => ?_) (fun z => ?_)
  · obtain ⟨rfl, rfl⟩ := z
    walk_at "w"
    exact q
  have g0 : Int.gcd a b ≠ 0 := fun e => z (Int.gcd_eq_zero_iff.mp e)
  have g1 : (Int.gcd a b : Int) ≠ 0 := by omega
  have m1 : a.fmod (Int.gcd a b) = 0 := Int.fmod_eq_zero_of_dvd (Int.gcd_dvd_left ..)
  have m2 : b.fmod (Int.gcd a b) = 0 := Int.fmod_eq_zero_of_dvd (Int.gcd_dvd_right ..)
  have bg : Bd 4000 (Int.gcd a b : Int) := by
    by_cases b0 : b = 0
    · subst b0
      rw [Int.gcd_zero]
      exact bd_nat ba (by omega)
    · exact gcd_bd bb b0
  walk_at "w"
  simp only [if_neg g1, if_pos m1, decide_eq_true m2]
  walk_at "w"
  rw [abs_ite, abs_ite]
  have gg : Int.gcd ((a.fdiv (Int.gcd a b)).natAbs : Int) ((b.fdiv (Int.gcd a b)).natAbs : Int) = 1 := by
    show Int.gcd (a.fdiv (Int.gcd a b)) (b.fdiv (Int.gcd a b)) = 1
    rw [Int.fdiv_eq_ediv_of_nonneg _ (by omega), Int.fdiv_eq_ediv_of_nonneg _ (by omega)]
    exact Int.gcd_ediv_gcd_ediv_gcd (by omega)
  generalize (a.fdiv (Int.gcd a b)).natAbs = x at gg
  generalize (b.fdiv (Int.gcd a b)).natAbs = y at gg
  refine wp_wh (fun k ρ g => ∃ x : Nat, ρ = [some (D.int a), some (D.int b), some (D.int (Int.gcd a b)), some (D.int (x : Nat)), some (D.int (k : Nat))] ∧ Int.gcd (x : Int) (k : Int) = 1 ∧ g = h) y ⟨x, rfl, gg, rfl⟩ (fun k ρ g p => ?_)
  obtain ⟨x, rfl, e, rfl⟩ := p
  unfold q__law_divided_L1
  walk_at "w"
  by_cases k0 : (0 : Int) < (k : Nat)
  · rw [if_pos k0]
    have fm : (x : Int).fmod (k : Nat) = ((x % k : Nat) : Int) := by rw [Int.fmod_eq_emod_of_nonneg _ (by omega)]; rfl
    refine ⟨x % k, Nat.mod_lt _ (by omega), k, by rw [fm], ?_, trivial⟩
    rw [← fm, gcd_step k0]
    exact e
  · rw [if_neg k0]
    obtain rfl : k = 0 := by omega
    have x1 : (x : Int) = 1 := by
      have : Int.gcd (x : Int) 0 = 1 := e
      rw [Int.gcd_zero] at this
      omega
    rw [decide_eq_true x1]
    exact q
theorem law_rooted_wp {n : Int} {h : Hs} {Q : D → Hs → Prop} (n0 : 0 ≤ n) (bn : Bd 4000 n) (q : Q (.bl true) h) : WP (f__law_rooted [.int n] h) Q := by
  obtain ⟨r, hr⟩ := isRt_ex n0
  have br : Bd 4000 r := sqrt_bd bn hr
  have e1 := whole_root_eq h (bn.mono (by decide)) hr
  have e2 : f_is_square [.int n] h = some (.bl (decide (r * r = n)), h) := by
    letI : Decidable (∃ x : Int, x * x = n) := decidable_of_iff _ hr.sq_iff
    rw [is_square_eq n h (bn.mono (by decide))]
    congr 3
    exact decide_eq_decide.mpr hr.sq_iff.symm
  have e3 : f_is_square [.int (-1 - n)] h = some (.bl false, h) := by
    have no : ¬ ∃ x : Int, x * x = -1 - n := fun ⟨x, e⟩ => by
      have : 0 ≤ x * x := by
        rcases Int.le_total 0 x with z | z
        · exact Int.mul_nonneg z z
        · have := Int.mul_nonneg (show 0 ≤ -x by omega) (show 0 ≤ -x by omega)
          rwa [Int.neg_mul_neg] at this
      omega
    letI : Decidable (∃ x : Int, x * x = -1 - n) := .isFalse no
    have b3 : Bd 9000 (-1 - n) := (Bd.sub (Bd.lit 4 (i := -1) rfl) bn).mono (by decide)
    rw [is_square_eq _ h b3]
    congr 3
  unfold f__law_rooted
  refine wp_run rfl ?_
  unfold m__law_rooted
  walk_at "w"
  rw [e1]
  walk_at "w"
  simp only [if_pos hr.1, if_pos hr.2.1, decide_eq_true hr.2.2]
  walk_at "w"
  rw [e2]
  walk_at "w"
  rw [e3]
  walk_at "w"
  exact q
end K01
namespace K01
open SL RR
local macro_rules | `(tactic| walk_at "bd") => `(tactic| (first
  | assumption
  | (with_reducible apply Bd.add <;> walk_at "bd")
  | (with_reducible apply Bd.sub <;> walk_at "bd")
  | (with_reducible apply Bd.mul <;> walk_at "bd")
  | (with_reducible apply Bd.neg <;> walk_at "bd")
  | (with_reducible apply Bd.fdiv <;> walk_at "bd")
  | (with_reducible apply Bd.ite <;> walk_at "bd")
  | (with_reducible apply Bd.sign)
  | exact Bd.lit 64 rfl
  | exact Bd.lit 250 rfl))
local macro_rules | `(tactic| walk_at "dis") => `(tactic| (first
  | assumption
  | (with_reducible apply MOk.of <;> first | (walk_at "bd"; done) | exact Nat.le_of_ble_eq_true rfl)
  | (with_reducible apply Bd.mono <;> first | (walk_at "bd"; done) | exact Nat.le_of_ble_eq_true rfl)
  | (with_reducible apply DOk.of <;> first | (walk_at "bd"; done) | omega | exact Nat.le_of_ble_eq_true rfl)
  | omega))
local macro_rules | `(tactic| walk_at "ev") => `(tactic| simp (disch := walk_at "dis") only [ev_var0, ev_varS, ev_c, ev_op, ev_opK, ev_un, ev_call, ev_nil, ev_cons, ev_acK, ev_consK, ev_tup, ev_tupK, ev_lst, ev_lstK, ev_ifE, ev_ifS, ev_ifKT, ev_ifKF, ev_ifK, ev_ifKN,
  ev_tV, ev_tvK, ev_tTru, ev_truB, ev_truN, ev_truI, ev_and, ev_or, ev_not, ev_notK, ev_andT, ev_andF, ev_orT, ev_orF, ev_andK, ev_andKN, ev_orK, ev_orKN, ev_eAnd, ev_eOr, ev_eNot, ev_eNotB, ev_eAndT, ev_eAndF, ev_eAndB, ev_eAndBN, ev_eOrT, ev_eOrF, ev_eOrN, ev_eOrB, ev_eOrBN,
  ev_chain, ev_chK1, ev_chK2, ev_chK3, ev_chK3T, ev_chK3F, ev_seq, ev_thn, ev_thnR, ev_thnB, ev_thnC, ev_next, ev_break, ev_cont, ev_ret, ev_retK, ev_retN, ev_expr, ev_exprK, ev_asg, ev_asgK, ev_nxK, ev_gNm, ev_gTp, ev_gsNil, ev_gsCons, ev_gsK, ev_gSb, ev_gSbK1, ev_par, ev_parK2, ev_parK3, ev_mt,
  ev_add, ev_sub, ev_mul, ev_fdiv, ev_mod, ev_pow, ev_shl, ev_neg, ev_lt, ev_le, ev_gt, ev_ge, ev_eqI, ev_neI, ev_abs, ev_intB, ev_intI, ev_minI, ev_maxI, ev_bits, ev_get0, ev_get1, ev_get2, bd_ok, bd_none, ev_whT, ev_whF, ev_whD, ev_wh2, ev_wh2c, ev_wh2r, ev_wh2b, ev_for, ev_forK, ev_fr1, ev_fr2, ev_fr2c, ev_fr2r, ev_fr2b, ev_lc, ev_lcK, ev_lc1, ev_lc2T, ev_lc2F, ev_lc2D, ev_yes, ev_iSeq, ev_seqT, ev_seqS, ev_iRange, ev_iEnum, ev_iZip,
  ev_neIS, ev_eqIS, ev_neSS, ev_eqSS, ev_isN, ev_isNot, isNon_t, isNon_n, isNon_i, isNon_r, decide_true, decide_false, decide_eq_true_eq, eq_self, if_true, if_false,
  out_rt, out_nx, List.map_cons, List.map_nil, List.cons_append, List.nil_append, List.replicate, List.set_cons_zero, List.set_cons_succ, Nat.reduceSub, Int.reduceEq, Int.reduceLT, Int.reduceLE, Int.reduceMul, Int.reduceAdd, Int.reduceSub, Bool.not_true, Bool.not_false])
local macro_rules | `(tactic| walk_at "go") => `(tactic| repeat (first | walk_at "ev" | walk_at "fs"))
local macro_rules | `(tactic| walk_at "fs") => `(tactic| simp only [p10_3, p10_6, p10_7, p10_8, p10_9, p10_12, p10_15, p10_18, p10_60])
local macro_rules | `(tactic| walk_at "fs") => `(tactic| simp only [ev_pNil, ev_pCons, ev_pK1, ev_pK2, ev_pK3s, ev_dict, ev_gSb, ev_gSbK1])
def dw (l m : Int) : AO := .dct [(.inr "left", .int l), (.inr "more", .int m)]
section
variable {h : Hs} {n : Nat} {l m x : Int}
theorem dw_l (a : h[n]? = some (dw l m)) : subG' (.ref n) (.str "left") h = some (.int l, h) := by
  show (match h[n]? with | some (.dct kvs) => _ | some (.lst ds) => _ | some (.fz ds) => _ | _ => none) = _
  rw [a]; rfl
theorem dw_m (a : h[n]? = some (dw l m)) : subG' (.ref n) (.str "more") h = some (.int m, h) := by
  show (match h[n]? with | some (.dct kvs) => _ | some (.lst ds) => _ | some (.fz ds) => _ | _ => none) = _
  rw [a]; rfl
theorem dw_sl (a : h[n]? = some (dw l m)) : setG (.ref n) (.str "left") (.int x) h = some (h.set n (dw x m)) := by
  show (match h[n]? with | some (.lst ds) => _ | some (.dct kvs) => _ | _ => none) = _
  rw [a]; rfl
theorem dw_sm (a : h[n]? = some (dw l m)) : setG (.ref n) (.str "more") (.int x) h = some (h.set n (dw l x)) := by
  show (match h[n]? with | some (.lst ds) => _ | some (.dct kvs) => _ | _ => none) = _
  rw [a]; rfl
end
theorem ev_dw {l m : Int} {h : Hs} : dictK [(.inr "left", .int l), (.inr "more", .int m)] h = some (.ref h.length, h ++ [dw l m]) := rfl
local macro_rules | `(tactic| walk_at "fs") => `(tactic| simp only [ev_dw])
def Dw (n : Nat) (h : Hs) : Prop := ∃ l m, h[n]? = some (dw l m)
def Dwp (n : Nat) (h h' : Hs) : Prop := Keep (· ≠ n) h h' ∧ Dw n h'
theorem Dwp.trans {n : Nat} {h h1 h2 : Hs} (a : Dwp n h h1) (b : Dwp n h1 h2) : Dwp n h h2 := ⟨a.1.trans b.1, b.2⟩
theorem Dwp.refl {n : Nat} {h : Hs} (a : Dw n h) : Dwp n h h := ⟨Keep.refl, a⟩
theorem Dw.lt {n : Nat} {h : Hs} (a : Dw n h) : n < h.length := by
  obtain ⟨l, m, e⟩ := a
  exact get_lt e
theorem Dw.app {n : Nat} {h G : Hs} (a : Dw n h) : Dw n (h ++ G) := by
  obtain ⟨l, m, e⟩ := a
  exact ⟨l, m, get_app _ e⟩
theorem Dwp.keep {n : Nat} {h h1 h2 : Hs} (a : Dwp n h h1) (k : KA h1 h2) : Dwp n h h2 := by
  refine ⟨a.1.trans (k.weak fun _ _ => trivial), ?_⟩
  obtain ⟨l, m, e⟩ := a.2
  exact ⟨l, m, k.get e trivial⟩
theorem digit_eq (n : Nat) (k : Int) (h : Hs) (st : Dw n h) (hk : 0 < k) (bk : Bd 4000 k) : ∃ r h', f__law_digit [.ref n, .int k] h = some (.int r, h') ∧ 0 ≤ r ∧ r < k ∧ Dwp n h h' := by
  obtain ⟨l, m, e⟩ := st
  have k0 : k ≠ 0 := by omega
  have key : ∃ l' m', (sIf (tV (eOp eqG (eOp subG' (eVar 0) (eC (.str "left"))) (eC (.int 0)))) (sAsg (eTup (aCons (eOp subG' (eVar 0) (eC (.str "more"))) (aCons (eC (.int 0)) aNil))) (gTp (gsCons (gSb (eVar 0) (eC (.str "left"))) (gsCons (gSb (eVar 0) (eC (.str "more"))) gsNil)))) sNext) [some (.ref n), some (.int k), none] h = some ((.nx, [some (.ref n), some (.int k), none]), h.set n (dw l' m')) := by
    by_cases q : l = 0
    · subst q
      refine ⟨m, 0, ?_⟩
      walk_at "go"
      rw [dw_l e]
      walk_at "go"
      rw [dw_m e]
      walk_at "go"
      rw [ev_gSbK2 (dw_sl e)]
      walk_at "go"
      rw [ev_gSbK2 (dw_sm (set_at (get_lt e)))]
      walk_at "go"
      rw [List.set_set]
    · refine ⟨l, m, ?_⟩
      walk_at "go"
      rw [dw_l e]
      walk_at "go"
      rw [if_neg q]
      have : h.set n (dw l m) = h := by
        apply List.ext_getElem?
        intro j
        by_cases z : j = n
        · subst z; rw [set_at (get_lt e), e]
        · rw [List.getElem?_set_ne (by omega)]
      rw [this]
  obtain ⟨l', m', ek⟩ := key
  have e' : (h.set n (dw l' m'))[n]? = some (dw l' m') := set_at (get_lt e)
  refine ⟨l'.fmod k, (h.set n (dw l' m')).set n (dw (l'.fdiv k) m'), ?_, Int.fmod_nonneg_of_pos l' hk, Int.fmod_lt_of_pos l' hk, ⟨(Keep.set (fun z => z rfl)).trans (Keep.set (fun z => z rfl)), _, _, set_at (get_lt e')⟩⟩
  unfold f__law_digit
  rw [runB_ok (by rfl)]
  unfold m__law_digit
  simp only [List.map_cons, List.map_nil, List.cons_append, List.nil_append, List.replicate, Nat.reduceSub]
  rw [ev_seq, ek, bd_ok, ev_thn]
  walk_at "go"
  rw [dw_l e']
  walk_at "go"
  rw [dw_l e']
  walk_at "go"
  rw [ev_gSbK2 (dw_sl e')]
  walk_at "go"
theorem digit_lit (n : Nat) {k : Int} (h : Hs) (st : Dw n h) (hk : 0 < k) (bk : k < 2 ^ 60) : ∃ r h', f__law_digit [.ref n, .int k] h = some (.int r, h') ∧ 0 ≤ r ∧ r < k ∧ Dwp n h h' := digit_eq n k h st hk (Bd.mono (n := 60) (Bd.of_range (by omega) (by omega)) (by decide))
theorem mixed_eq (c k : Int) (h : Hs) (bk : Bd 60 k) : ∃ r, f__law_mixed [.int c, .int k] h = some (.int r, h) ∧ 0 ≤ r ∧ r < 2147483647 := by
  have b1 : Bd 40 (c.fmod 1000000007) := by
    have h1 := Int.fmod_nonneg_of_pos c (show (0 : Int) < 1000000007 by decide)
    have h2 := Int.fmod_lt_of_pos c (show (0 : Int) < 1000000007 by decide)
    exact Bd.of_range (by omega) (by omega)
  unfold f__law_mixed
  rw [runB_ok (by rfl)]
  unfold m__law_mixed
  walk_at "go"
  generalize c.fmod 1000000007 + 7919 * k + 13 = y
  have b2 : Bd 40 ((y * y).fmod 1000000007) := by
    have h1 := Int.fmod_nonneg_of_pos (y * y) (show (0 : Int) < 1000000007 by decide)
    have h2 := Int.fmod_lt_of_pos (y * y) (show (0 : Int) < 1000000007 by decide)
    exact Bd.of_range (by omega) (by omega)
  walk_at "go"
  exact ⟨_, rfl, Int.fmod_nonneg_of_pos _ (by decide), Int.fmod_lt_of_pos _ (by decide)⟩
theorem pM2 {h : Hs} : powG (.int 2147483647) (.int 2) h = some (.int 4611686014132420609, h) := rfl
local macro_rules | `(tactic| walk_at "fs") => `(tactic| simp only [pM2, wipe_nil, wipe_cons])
theorem draw_eq (c k : Int) (h : Hs) (bk : Bd 50 k) : ∃ h', f__law_draw [.int c, .int k] h = some (.ref h.length, h') ∧ KA h h' ∧ Dw h.length h' := by
  obtain ⟨r1, e1, a1, b1⟩ := mixed_eq c k h (bk.mono (by decide))
  obtain ⟨r2, e2, a2, b2⟩ := mixed_eq r1 (k + 1) h (Bd.mono (Bd.add bk (Bd.lit 1 (i := 1) rfl)) (by decide))
  obtain ⟨r3, e3, a3, b3⟩ := mixed_eq r1 (k + 2) h (Bd.mono (Bd.add bk (Bd.lit 2 (i := 2) rfl)) (by decide))
  have B1 : Bd 32 r1 := Bd.of_range (by omega) (by omega)
  have B2 : Bd 32 r2 := Bd.of_range (by omega) (by omega)
  have B3 : Bd 32 r3 := Bd.of_range (by omega) (by omega)
  unfold f__law_draw
  rw [runB_ok (by rfl)]
  unfold m__law_draw
  walk_at "go"
  rw [e1]
  walk_at "go"
  rw [e2]
  walk_at "go"
  rw [e3]
  walk_at "go"
  by_cases q : 1000000000000000000 ≤ c
  · simp only [ge_iff_le, if_pos q]
    walk_at "go"
    try simp only [if_pos q]
    walk_at "go"
    exact ⟨_, rfl, Keep.app, _, _, get_last⟩
  · simp only [ge_iff_le, if_neg q]
    walk_at "go"
    try simp only [if_neg q]
    walk_at "go"
    exact ⟨_, rfl, Keep.app, _, _, get_last⟩
end K01
namespace SL
open RR PySem
open TL (tl)
open L2 (cutS)
theorem blank_is : (" " : Str) = ⟨#[32]⟩ := by decide +kernel
theorem empty_is : ("" : Str) = ⟨#[]⟩ := by decide +kernel
theorem tl_struck (w : Str) : tl (Txt.replace w " " "") = (tl w).filter (· != 32) := by
  rw [blank_is, empty_is]
  exact PyProof.Rows.replace_strikes w 32
theorem strs_sgn1 (cs : List Nat) : cs.map sgn1 = (cs.map fun c => (⟨#[c]⟩ : Str)).map D.str := by rw [List.map_map]; rfl
theorem joinL_nil : ∀ l : List (List Nat), TL.joinL [] l = l.flatten
  | [] => rfl
  | [p] => by simp [TL.joinL]
  | p :: q :: r => by
    show p ++ ([] ++ TL.joinL [] (q :: r)) = _
    rw [joinL_nil (q :: r)]; simp
theorem tl_joined (cs : List Nat) : tl (Txt.join "" (cs.map fun c => (⟨#[c]⟩ : Str))) = cs := by
  rw [TL.join_eq, TL.tl_join, List.map_map]
  have : tl ("" : Str) = [] := by decide +kernel
  rw [this, joinL_nil]
  induction cs with
  | nil => rfl
  | cons c cs ih => rw [List.map_cons, List.flatten_cons, ih]; rfl
theorem ev_join {h : Hs} {n : Nat} {cs : List Nat} (e : getL h n = some (cs.map sgn1)) (l : cs.length ≤ 1000) : ∃ w : Str, joinG (.str "") [.ref n] h = some (.str w, h) ∧ tl w = cs := by
  refine ⟨Txt.join "" (cs.map fun c => (⟨#[c]⟩ : Str)), ?_, tl_joined cs⟩
  show (match getL h n with | some ds => (match strsD ds with | some ys => if (ys.map fun y : Str => y.length).sum + ys.length * ("" : Str).length ≤ 16777216 then some (D.str (Txt.join "" ys), h) else none | none => none) | none => none) = _
  rw [e, strs_sgn1]
  simp only [strsD_map]
  refine if_pos ?_
  have e1 : ((cs.map fun c => (⟨#[c]⟩ : Str)).map (fun y : Str => y.length)).sum = cs.length := by
    clear e l
    induction cs with
    | nil => rfl
    | cons c cs ih => rw [List.map_cons, List.map_cons, List.sum_cons, ih, List.length_cons, show (⟨#[c]⟩ : Str).length = 1 from rfl]; omega
  have e2 : ("" : Str).length = 0 := by decide +kernel
  rw [e1, e2]; omega
theorem ev_atS {w : Str} {h : Hs} {i : Nat} (l : w.length ≤ 10000) (n : i < (tl w).length) : subG' (.str w) (.int (i : Nat)) h = some (sgn1 (tl w)[i], h) := by
  have e : L2.atI w.cps.toList (i : Nat) = some ((tl w)[i]) := L2.atI_nat (j := i) (List.getElem?_eq_getElem n)
  show (if w.length ≤ sizeLine then match L2.atI w.cps.toList (i : Nat) with | some c => some (D.str ⟨#[c]⟩, h) | none => none else none) = _
  rw [if_pos (line_ok l), e]
  rfl
theorem tl_app (x y : Str) : tl (x ++ y) = tl x ++ tl y := TL.tl_append x y
end SL
namespace K01
open SL RR
local macro_rules | `(tactic| walk_at "bd") => `(tactic| (first
  | assumption
  | (with_reducible apply Bd.add <;> walk_at "bd")
  | (with_reducible apply Bd.sub <;> walk_at "bd")
  | (with_reducible apply Bd.mul <;> walk_at "bd")
  | (with_reducible apply Bd.neg <;> walk_at "bd")
  | (with_reducible apply Bd.fdiv <;> walk_at "bd")
  | (with_reducible apply Bd.ite <;> walk_at "bd")
  | (with_reducible apply Bd.sign)
  | exact Bd.lit 64 rfl
  | exact Bd.lit 250 rfl))
local macro_rules | `(tactic| walk_at "dis") => `(tactic| (first
  | assumption
  | (with_reducible apply MOk.of <;> first | (walk_at "bd"; done) | exact Nat.le_of_ble_eq_true rfl)
  | (with_reducible apply Bd.mono <;> first | (walk_at "bd"; done) | exact Nat.le_of_ble_eq_true rfl)
  | (with_reducible apply DOk.of <;> first | (walk_at "bd"; done) | omega | exact Nat.le_of_ble_eq_true rfl)
  | omega))
local macro_rules | `(tactic| walk_at "ev") => `(tactic| simp (disch := walk_at "dis") only [ev_var0, ev_varS, ev_c, ev_op, ev_opK, ev_un, ev_call, ev_nil, ev_cons, ev_acK, ev_consK, ev_tup, ev_tupK, ev_lst, ev_lstK, ev_ifE, ev_ifS, ev_ifKT, ev_ifKF, ev_ifK, ev_ifKN,
  ev_tV, ev_tvK, ev_tTru, ev_truB, ev_truN, ev_truI, ev_and, ev_or, ev_not, ev_notK, ev_andT, ev_andF, ev_orT, ev_orF, ev_andK, ev_andKN, ev_orK, ev_orKN, ev_eAnd, ev_eOr, ev_eNot, ev_eNotB, ev_eAndT, ev_eAndF, ev_eAndB, ev_eAndBN, ev_eOrT, ev_eOrF, ev_eOrN, ev_eOrB, ev_eOrBN,
  ev_chain, ev_chK1, ev_chK2, ev_chK3, ev_chK3T, ev_chK3F, ev_seq, ev_thn, ev_thnR, ev_thnB, ev_thnC, ev_next, ev_break, ev_cont, ev_ret, ev_retK, ev_retN, ev_expr, ev_exprK, ev_asg, ev_asgK, ev_nxK, ev_gNm, ev_gTp, ev_gsNil, ev_gsCons, ev_gsK, ev_gSb, ev_gSbK1, ev_par, ev_parK2, ev_parK3, ev_mt,
  ev_add, ev_sub, ev_mul, ev_fdiv, ev_mod, ev_pow, ev_shl, ev_neg, ev_lt, ev_le, ev_gt, ev_ge, ev_eqI, ev_neI, ev_abs, ev_intB, ev_intI, ev_minI, ev_maxI, ev_bits, ev_get0, ev_get1, ev_get2, bd_ok, bd_none, ev_whT, ev_whF, ev_whD, ev_wh2, ev_wh2c, ev_wh2r, ev_wh2b, ev_for, ev_forK, ev_fr1, ev_fr2, ev_fr2c, ev_fr2r, ev_fr2b, ev_lc, ev_lcK, ev_lc1, ev_lc2T, ev_lc2F, ev_lc2D, ev_yes, ev_iSeq, ev_seqT, ev_seqS, ev_iRange, ev_iEnum, ev_iZip,
  ev_neIS, ev_eqIS, ev_neSS, ev_eqSS, ev_isN, ev_isNot, isNon_t, isNon_n, isNon_i, isNon_r, decide_true, decide_false, decide_eq_true_eq, eq_self, if_true, if_false,
  out_rt, out_nx, List.map_cons, List.map_nil, List.cons_append, List.nil_append, List.replicate, List.set_cons_zero, List.set_cons_succ, Nat.reduceSub, Int.reduceEq, Int.reduceLT, Int.reduceLE, Int.reduceMul, Int.reduceAdd, Int.reduceSub, Bool.not_true, Bool.not_false])
local macro_rules | `(tactic| walk_at "go") => `(tactic| repeat (first | walk_at "ev" | walk_at "fs"))
local macro_rules | `(tactic| walk_at "wv") => `(tactic| simp only [wp_ok, kn_eq, outQ_rt, outQ_nx, turnQ_nx, turnQ_ct, turnQ_bk, turnQ_rt, whQ_nx, whQ_bk, whQ_rt, whT_t, whT_f, whT_d, lcT_t, lcT_f, lcT_d])
local macro_rules | `(tactic| walk_at "wb") => `(tactic| with_reducible refine wp_bd ?_)
local macro_rules | `(tactic| walk_at "w") => `(tactic| repeat (first | walk_at "ev" | walk_at "wv" | walk_at "fs" | walk_at "wb"))
local macro_rules | `(tactic| walk_at "bd") => `(tactic| exact Bd.fm rfl)
local macro_rules | `(tactic| walk_at "fs") => `(tactic| simp only [p10_3, p10_6, p10_7, p10_8, p10_9, p10_12, p10_15, p10_18, p10_60])
local macro_rules | `(tactic| walk_at "fs") => `(tactic| simp only [ev_pNil, ev_pCons, ev_pK1, ev_pK2, ev_pK3s, ev_dict, ev_gSb, ev_gSbK1])
local macro_rules | `(tactic| walk_at "fs") => `(tactic| simp only [wipe_nil, wipe_cons])
local macro_rules | `(tactic| walk_at "fs") => `(tactic| simp only [ev_make, ev_fldSet, ev_fsK1, ev_om, ev_omK2, ev_intB])
local macro_rules | `(tactic| walk_at "fs") => `(tactic| simp only [ev_iEnumV, ev_enumV, isi_str, ev_isN, ev_isNot])
local macro_rules | `(tactic| walk_at "fs") => `(tactic| simp only [ev_sl, ev_slK1, ev_slK2, ev_slK3, ev_oSome, ev_oSomeK, ev_oNone, slT4, slT3, len_tup, ev_get3, ev_get4, th_rows, th_nm])
local macro_rules | `(tactic| walk_at "fs") => `(tactic| simp only [List.isEmpty_nil, List.isEmpty_cons])
local macro_rules | `(tactic| walk_at "fs") => `(tactic| simp only [sign_of_eq])
local macro_rules | `(tactic| walk_at "fs") => `(tactic| simp only [common_divisor_eq])
local macro_rules | `(tactic| walk_at "fs") => `(tactic| simp only [ev_last0, ev_last1, ev_pm, ite_int])
local macro_rules | `(tactic| walk_at "fs") => `(tactic| simp only [bb_non, bb_int, ne_nn, ne_bb, eq_bb, is_bb, eq_t2])
local macro_rules | `(tactic| walk_at "fs") => `(tactic| simp (disch := assumption) only [ev_slS, ev_lenS, ev_seqS])
theorem digit_wp {n : Nat} {k : Int} {h : Hs} {Q : D → Hs → Prop} (st : Dw n h) (hk : 0 < k) (bk : k < 2 ^ 60) (q : ∀ r h', 0 ≤ r → r < k → Dwp n h h' → Q (.int r) h') : WP (f__law_digit [.ref n, .int k] h) Q := by
  obtain ⟨r, h', e, a, b, c⟩ := digit_lit n h st hk bk
  exact ⟨_, _, e, q r h' a b c⟩
theorem draw_wp {c k : Int} {h : Hs} {Q : D → Hs → Prop} (bk : Bd 50 k) (q : ∀ h', KA h h' → Dw h.length h' → Q (.ref h.length) h') : WP (f__law_draw [.int c, .int k] h) Q := by
  obtain ⟨h', e, k', d⟩ := draw_eq c k h bk
  exact ⟨_, _, e, q h' k' d⟩
theorem law_word_wp {n : Nat} {S : PySem.Str} {h : Hs} {Q : D → Hs → Prop} (st : Dw n h) (s1 : 1 ≤ (TL.tl S).length) (lS : S.length ≤ 10000) (q : ∀ w h', w.length ≤ 11 → (∀ c ∈ TL.tl w, c ∈ TL.tl S) → Dwp n h h' → Q (.str w) h') : WP (f__law_word [.ref n, .str S] h) Q := by
  have lS' : (TL.tl S).length ≤ 10000 := by rw [← len_tl]; exact lS
  unfold f__law_word
  refine wp_run rfl ?_
  unfold m__law_word
  walk_at "w"
  rw [ev_mtK rfl]
  walk_at "w"
  refine digit_wp st (by decide) (by decide) fun r h1 r0 r1 d1 => ?_
  walk_at "w"
  rw [ev_range1 (by omega) (by omega)]
  walk_at "w"
  refine wp_lc r.toNat (small_line (by omega)) (fun i acc g => ∃ cs : List Nat, acc = cs.map sgn1 ∧ cs.length = i ∧ (∀ c ∈ cs, c ∈ TL.tl S) ∧ Dwp n h g) ⟨[], rfl, rfl, fun c z => (by cases z), d1⟩ (fun i hi acc g l p => ?_) (fun acc g l p => ?_)
  · obtain ⟨cs, rfl, lc, mc, dg⟩ := p
    refine ⟨.int (0 + (i : Nat)), _, _, srcR_in hi, rfl, ?_⟩
    walk_at "w"
    refine digit_wp dg.2 (by omega) (by omega) fun r2 h2 a2 b2 d2 => ?_
    walk_at "w"
    obtain ⟨j, rfl⟩ : ∃ j : Nat, r2 = (j : Nat) := ⟨r2.toNat, by omega⟩
    rw [ev_atS lS (by omega)]
    walk_at "w"
    refine ⟨cs ++ [(TL.tl S)[j]], by rw [List.map_append]; rfl, by rw [List.length_append, lc]; rfl, fun c hc => ?_, dg.trans d2⟩
    rcases List.mem_append.mp hc with z | z
    · exact mc c z
    · rw [List.mem_singleton.mp z]; exact List.getElem_mem _
  · obtain ⟨cs, rfl, lc, mc, dg⟩ := p
    refine ⟨srcR_out (Nat.le_refl _), ?_⟩
    walk_at "w"
    obtain ⟨w, ew, tw⟩ := ev_join (h := g ++ [.lst (cs.map sgn1)]) getL_last (by omega)
    rw [ew]
    walk_at "w"
    exact q w _ (by rw [len_tl, tw]; omega) (by rw [tw]; exact mc) (dg.keep Keep.app)
end K01
namespace SL
open RR PySem
/-! ### a tape: what draws are taken from -/
structure Tp (n k : Nat) (h : Hs) : Prop where
  ex : ∃ a b c d e : Int, h[n]? = some (.lst [.int a, .int b, .int c, .int d, .int e]) ∧ 0 ≤ b ∧ b ≤ (k : Int) ∧ 0 ≤ e ∧ e < 2 ^ 20
theorem Tp.lt {n k : Nat} {h : Hs} (t : Tp n k h) : n < h.length := by
  obtain ⟨a, b, c, d, e, g, _⟩ := t.ex
  exact get_lt g
theorem Tp.keep {n k : Nat} {P : Nat → Prop} {h h' : Hs} (t : Tp n k h) (kp : Keep P h h') (pn : P n) : Tp n k h' := by
  obtain ⟨a, b, c, d, e, g, r⟩ := t.ex
  exact ⟨a, b, c, d, e, kp.get g pn, r⟩
theorem Tp.up {n k k' : Nat} {h : Hs} (t : Tp n k h) (l : k ≤ k') : Tp n k' h := by
  obtain ⟨a, b, c, d, e, g, b0, b1, r⟩ := t.ex
  exact ⟨a, b, c, d, e, g, b0, by omega, r⟩
theorem ev_pickN {h : Hs} {n j : Nat} {ds : List D} {Z : Int} {d : D} (e : getL h n = some ds) (hZ : Z = (j : Nat)) (a : ds[j]? = some d) : subG' (.ref n) (.int Z) h = some (d, h) := by
  subst hZ
  exact ev_idx e (_root_.L2.atI_nat a)
/-! words of a tape -/
end SL
namespace RR
open SL
theorem pv_factor {c b a : Int} {r z : Rl} (h : pv c b a r = 0) : pv c b a z = (z - r) * ((a : Rl) * (z + r) + b) := by
  unfold pv at *
  grind
theorem sg_prod {x y : Rl} : sgR (x * y) = sgR x * sgR y := by
  rcases tri x with q | q | q
  · rw [sg_mul_pos q, sg_pos q, Int.one_mul]
  · have := sg_mul_neg (x := y) q
    rw [this, sg_neg q]; omega
  · rw [q, show (0 : Rl) * y = 0 by grind, sg_zero, Int.zero_mul]
theorem sg_flip {c b a : Int} {r x y : Rl} (hr : pv c b a r = 0) (h1 : x < r) (h2 : r < y) (no : ∀ z, x ≤ z → z ≤ y → z ≠ r → pv c b a z ≠ 0) (nt : ¬ (a ≠ 0 ∧ b * b = 4 * a * c)) : sgR (pv c b a x) = - sgR (pv c b a y) := by
  have w0 : ∀ z, x ≤ z → z ≤ y → (a : Rl) * (z + r) + b ≠ 0 := fun z z1 z2 e => by
    by_cases q : z = r
    · subst q
      have e2 : (2 * (a : Rl) * z + b) * (2 * a * z + b) = (b : Rl) * b - 4 * a * c := by
        have := four_pv (c := c) (b := b) (a := a) (x := z)
        rw [hr] at this
        grind
      have e3 : ((b * b - 4 * a * c : Int) : Rl) = ((0 : Int) : Rl) := by
        rw [disc_cast, cast_zero, ← e2]
        have : 2 * (a : Rl) * z + b = 0 := by grind
        rw [this]; grind
      have e4 := cast_inj e3
      by_cases ha : a = 0
      · subst ha
        have hb : (b : Rl) = 0 := by rw [cast_zero] at e; grind
        have : pv c b 0 x = 0 := by
          have := pv_factor (z := x) hr
          rw [this, hb, cast_zero]; grind
        exact no x (by grind) (by grind) (by grind) this
      · exact nt ⟨ha, by omega⟩
    · exact no z z1 z2 q (by rw [pv_factor hr, e]; grind)
  have same : sgR ((a : Rl) * (x + r) + b) = sgR ((a : Rl) * (y + r) + b) := by
    have nx := w0 x (by grind) (by grind)
    have ny := w0 y (by grind) (by grind)
    refine Classical.byContradiction fun q => ?_
    have ha : a ≠ 0 := fun z => q (by subst z; rw [cast_zero]; congr 1; grind)
    obtain ⟨z, hz⟩ := solve ha (-(b : Rl) - a * r)
    have ez : (a : Rl) * (z + r) + b = 0 := by grind
    have key : x ≤ z ∧ z ≤ y := by
      have e1 : (a : Rl) * (x - z) = (a : Rl) * (x + r) + b := by grind
      have e2 : (a : Rl) * (y - z) = (a : Rl) * (y + r) + b := by grind
      rcases Int.lt_or_gt_of_ne ha with ha' | ha'
      · have ha' := cast_neg' ha'
        refine ⟨Classical.byContradiction fun w => ?_, Classical.byContradiction fun w => ?_⟩
        · exact q (sg_same (.inr (by
            have k1 := mul_pos (show 0 < -(a : Rl) by grind) (show 0 < x - z by grind)
            have k2 := mul_pos (show 0 < -(a : Rl) by grind) (show 0 < y - z by grind)
            constructor <;> grind)))
        · exact q (sg_same (.inl (by
            have k1 := mul_pos (show 0 < -(a : Rl) by grind) (show 0 < z - x by grind)
            have k2 := mul_pos (show 0 < -(a : Rl) by grind) (show 0 < z - y by grind)
            constructor <;> grind)))
      · have ha' := cast_pos ha'
        refine ⟨Classical.byContradiction fun w => ?_, Classical.byContradiction fun w => ?_⟩
        · exact q (sg_same (.inl (by
            have k1 := mul_pos ha' (show 0 < x - z by grind)
            have k2 := mul_pos ha' (show 0 < y - z by grind)
            constructor <;> grind)))
        · exact q (sg_same (.inr (by
            have k1 := mul_pos ha' (show 0 < z - x by grind)
            have k2 := mul_pos ha' (show 0 < z - y by grind)
            constructor <;> grind)))
    exact w0 z key.1 key.2 ez
  rw [pv_factor (z := x) hr, pv_factor (z := y) hr, sg_prod, sg_prod, same, sg_neg (show x - r < 0 by grind), sg_pos (show 0 < y - r by grind)]
  omega
theorem sg_twice {c b a : Int} {x y : Rl} (ha : a ≠ 0) (hd : b * b = 4 * a * c) (hx : pv c b a x ≠ 0) (hy : pv c b a y ≠ 0) : sgR (pv c b a x) = sgR (pv c b a y) := by
  have e0 : (b : Rl) * b - 4 * a * c = 0 := by rw [← disc_cast, hd, Int.sub_self, cast_zero]
  have key : ∀ z, pv c b a z ≠ 0 → sgR (pv c b a z) = a.sign := fun z hz => by
    have e := four_pv (c := c) (b := b) (a := a) (x := z)
    rw [e0] at e
    have s0 := sq_nn' (2 * (a : Rl) * z + b)
    rcases Int.lt_or_gt_of_ne ha with q | q
    · have qa := cast_neg' q
      rw [Int.sign_eq_neg_one_of_neg q]
      refine sg_neg (Classical.byContradiction fun w => ?_)
      have := mul_pos (show 0 < -(a : Rl) by grind) (show 0 < pv c b a z by grind)
      grind
    · have qa := cast_pos q
      rw [Int.sign_eq_one_of_pos q]
      refine sg_pos (Classical.byContradiction fun w => ?_)
      have := mul_pos qa (show 0 < -pv c b a z by grind)
      grind
  rw [key x hx, key y hy]
end RR
namespace SL
open RR PySem
/-! ### several ways together -/
def jts (ths : List Th) : List (Int × Option Int) := zipU (ssI (0 :: tms ths))
theorem rel_last {α : Type} {R : α → α → Prop} : ∀ {l : List α} (h : l ≠ []), l.Pairwise R → ∀ q ∈ l, q = l.getLast h ∨ R q (l.getLast h)
  | [a], _, _, q, hq => .inl (List.mem_singleton.mp hq)
  | a :: b :: l, _, p, q, hq => by
    obtain ⟨p1, p2⟩ := List.pairwise_cons.mp p
    have e : (a :: b :: l).getLast (by simp) = (b :: l).getLast (by simp) := List.getLast_cons (by simp)
    rw [e]
    rcases List.mem_cons.mp hq with rfl | hq
    · exact .inr (p1 _ (List.getLast_mem _))
    · exact rel_last (by simp) p2 q hq
theorem zipU_up : ∀ {bs : List Int}, bs.Pairwise (· < ·) → (zipU bs).Pairwise fun p q => p.1 < q.1
  | [], _ => .nil
  | [a], _ => by rw [show zipU [a] = [(a, none)] from rfl]; simp
  | a :: b :: l, h => by
    obtain ⟨h1, h2⟩ := List.pairwise_cons.mp h
    rw [zipU_cons a rfl]
    exact List.pairwise_cons.mpr ⟨fun p hp => h1 _ (zipU_mem hp), zipU_up h2⟩
theorem mem_zipU : ∀ {bs : List Int} {c : Int}, c ∈ bs → ∃ e, (c, e) ∈ zipU bs
  | [a], c, h => ⟨none, by rw [List.mem_singleton.mp h]; exact List.mem_cons_self⟩
  | a :: b :: l, c, h => by
    rw [zipU_cons a rfl]
    rcases List.mem_cons.mp h with rfl | h
    · exact ⟨_, List.mem_cons_self⟩
    · obtain ⟨e, he⟩ := mem_zipU h
      exact ⟨e, List.mem_cons_of_mem _ he⟩
theorem zipU_fst : ∀ bs : List Int, (zipU bs).map (·.1) = bs
  | [] => rfl
  | [a] => rfl
  | a :: b :: l => by rw [zipU_cons a rfl, List.map_cons, zipU_fst (b :: l)]
theorem begT_up {rs : List Row} (h : Rising 0 rs) : (begT rs).Pairwise (· < ·) := by
  rw [← beg_ssI h]; exact ssI_up _
theorem begT_mem {rs : List Row} (h : Rising 0 rs) (z : Int) : z ∈ begT rs ↔ z = 0 ∨ z ∈ rs.map (·.t) := by
  rw [← beg_ssI h, ssI_mem, List.mem_cons]
theorem way_a (a : Th) (h : Rising 0 a.rs) : (wayT a).map (·.a) = begT a.rs := by
  rw [way_pcs a h, List.map_map]
  exact zipU_fst _
theorem last_piece {a : Th} (oa : ThOk a) {b : Int} (b0 : 0 ≤ b) : ∃ (l : List Pc) (p : Pc), (wayT a).filter (fun p => decide (p.a ≤ b)) = l ++ [p] ∧ p ∈ wayT a ∧ p.pl = (pcT a b none).pl := by
  have up := oa.up
  have e : (wayT a).filter (fun p => decide (p.a ≤ b)) = ((zipU (begT a.rs)).filter fun p => decide (p.1 ≤ b)).map fun p => pcT a p.1 p.2 := by
    rw [way_pcs a up, List.filter_map]
    rfl
  generalize hF : ((zipU (begT a.rs)).filter fun p => decide (p.1 ≤ b)) = F at e
  have ne : F ≠ [] := by
    obtain ⟨e0, h0⟩ := mem_zipU ((begT_mem up 0).mpr (.inl rfl))
    have : ((0 : Int), e0) ∈ F := by rw [← hF]; exact List.mem_filter.mpr ⟨h0, by simpa using b0⟩
    exact List.ne_nil_of_mem this
  have pw : F.Pairwise fun p q => p.1 < q.1 := by rw [← hF]; exact (zipU_up (begT_up up)).filter _
  have hm : F.getLast ne ∈ F := List.getLast_mem _
  generalize hL : F.getLast ne = L at *
  have hm2 : L ∈ zipU (begT a.rs) ∧ L.1 ≤ b := by
    rw [← hF] at hm
    have := List.mem_filter.mp hm
    exact ⟨this.1, by simpa using this.2⟩
  refine ⟨F.dropLast.map fun p => pcT a p.1 p.2, pcT a L.1 L.2, ?_, ?_, ?_⟩
  · rw [e]
    conv => lhs; rw [← getLast_snoc ne, hL]
    rw [List.map_append]
    rfl
  · rw [way_pcs a up]
    exact List.mem_map.mpr ⟨L, hm2.1, rfl⟩
  · refine pcAt_line up (begT_ge up _ (zipU_mem hm2.1)) hm2.2 (fun r hr l => ?_) _ _
    obtain ⟨e1, h1⟩ := mem_zipU ((begT_mem up r.t).mpr (.inr (List.mem_map.mpr ⟨r, hr, rfl⟩)))
    have hf : (r.t, e1) ∈ F := by rw [← hF]; exact List.mem_filter.mpr ⟨h1, by simpa using l⟩
    rcases rel_last ne pw _ hf with q | q
    · rw [hL] at q
      rw [← q]
      exact Int.le_refl _
    · rw [hL] at q
      exact Int.le_of_lt q
theorem pl_inj {p q : Pc} (h : p.pl = q.pl) : p.x = q.x ∧ p.u = q.u ∧ p.y = q.y ∧ p.v = q.v := by
  unfold Pc.pl lnD at h
  simpa [and_assoc] using h
/-! things among things -/
/-! the keys of a dict -/
/-! a comprehension told by places -/
end SL
namespace SL
open RR PySem
/-! ### squared distances, turns: polys on the pieces -/
def pyD (p : Int × Int × Int) : D := .tup [.int p.1, .int p.2.1, .int p.2.2]
def apF (p q : Pc) : Int × Int × Int := ((q.x - p.x) * (q.x - p.x) + (q.y - p.y) * (q.y - p.y), 2 * (q.u - p.u) * (q.x - p.x) + 2 * (q.v - p.v) * (q.y - p.y), (q.u - p.u) * (q.u - p.u) + (q.v - p.v) * (q.v - p.v))
def pcN (a : Th) (b : Int) : Pc := pcT a b none
structure PyOk (p : Int × Int × Int) : Prop where
  c : Bd 200 p.1
  b : Bd 200 p.2.1
  a : Bd 200 p.2.2
theorem PcOk.bu {p : Pc} (h : PcOk p) : Bd 10 p.u ∧ Bd 10 p.v := ⟨Bd.of_range (by have := h.u; omega) (by have := h.u; omega), Bd.of_range (by have := h.v; omega) (by have := h.v; omega)⟩
end SL
namespace RR
/-! ### signs and orders by whole numbers -/
end RR
namespace SL
open RR PySem
/-! ### times as they are drawn, with the whole number below them -/
structure TkB (t : Tm) : Prop where
  nm : t.Nm
  nn : 0 ≤ t.val
  tb : TB 60 t
  lt : t.val < ((2 ^ 31 : Int) : RR.Rl)
theorem val_1 {p : Int} : (Tm.fr p 1).val = (p : RR.Rl) := by
  have e := val_fr (p := p) (q := 1) (by decide)
  rw [cast_one] at e
  grind
theorem fr_lt {p q n : Int} (hq : 0 < q) : (Tm.fr p q).val < (n : RR.Rl) ↔ p < n * q := by
  have hq' := cast_pos hq
  have e := val_fr (p := p) hq
  rw [← cast_lt, cast_mul, ← e]
  constructor
  · intro h
    have := mul_pos (show 0 < (n : RR.Rl) - (Tm.fr p q).val by grind) hq'
    grind
  · intro h
    refine Classical.byContradiction fun z => ?_
    have := mul_nn (show 0 ≤ (Tm.fr p q).val - (n : RR.Rl) by grind) (show (0 : RR.Rl) ≤ q by grind)
    grind
theorem fl_ex {t : Tm} (nm : t.Nm) : ∃ f, IsFl t.val f := by
  have one : ∀ x : RR.Rl, ((1 : Int) : RR.Rl) * x = x := fun x => by rw [cast_one]; grind
  cases t with
  | fr p q => exact ⟨_, by have := fl_fr (p := p) (P := 1) nm.1; rwa [one] at this⟩
  | rt c b a w =>
    obtain ⟨r, hr⟩ := isRt_ex (n := (b * b - 4 * a * c) * (1 * 1)) (by have := nm.2.2.1; omega)
    rcases nm.2.2.2.2 with rfl | rfl
    · exact ⟨_, by have := fl_rt0 nm (by decide) hr; rwa [one] at this⟩
    · exact ⟨_, by have := fl_rt1 nm (by decide) hr; rwa [one] at this⟩
theorem last_begin {a : Th} (oa : ThOk a) {b : Int} (b0 : 0 ≤ b) : ∃ (l : List Int) (c : Int), (begT a.rs).filter (fun c => decide (c ≤ b)) = l ++ [c] ∧ 0 ≤ c ∧ c ≤ b ∧ (pcT a c none).pl = (pcT a b none).pl := by
  obtain ⟨l, p, e1, e2, e3⟩ := last_piece oa b0
  have e4 : (begT a.rs).filter (fun c => decide (c ≤ b)) = ((wayT a).filter fun p => decide (p.a ≤ b)).map (·.a) := by
    rw [← way_a a oa.up, List.filter_map]
    rfl
  rw [e1, List.map_append] at e4
  have hm : p ∈ (wayT a).filter fun p => decide (p.a ≤ b) := by rw [e1]; simp
  have hb := (List.mem_filter.mp hm).2
  refine ⟨l.map (·.a), p.a, e4, (wayT_ok oa p e2).a.1, by simpa using hb, ?_⟩
  rw [← e3, way_pcs a oa.up] at *
  obtain ⟨q, hq, rfl⟩ := List.mem_map.mp e2
  rfl
theorem cut_to {ds : List D} {k : Nat} : cutD ds none (some (k : Int)) = ds.take k := by
  unfold cutD
  have e1 : HT.sIx ds.length 0 none = 0 := rfl
  rw [e1, HT.sIx_nat, List.drop_zero, Nat.sub_zero]
  rcases Nat.le_total k ds.length with l | l
  · rw [Nat.min_eq_left l]
  · rw [Nat.min_eq_right l, List.take_length, List.take_of_length_le l]
end SL
namespace SL
open RR
/-! ### quadratics that open upwards -/
/-! ### stretches and parts -/
abbrev Stre := Tm × Option Tm
structure Prt where
  s : Int
  u : Option Int
  c : Int
  b : Int
  a : Int
def Prt.v (p : Prt) (x : RR.Rl) : RR.Rl := pv p.c p.b p.a x
def inP (p : Prt) (x : RR.Rl) : Prop := (p.s : RR.Rl) ≤ x ∧ ∀ u, p.u = some u → x ≤ (u : RR.Rl)
def inS (t : Stre) (x : RR.Rl) : Prop := t.1.val ≤ x ∧ ∀ l, t.2 = some l → x ≤ l.val
structure StOk (t : Stre) : Prop where
  nm : t.1.Nm
  nn : 0 ≤ t.1.val
  tb : TB 200 t.1
  l : ∀ l, t.2 = some l → l.Nm ∧ TB 200 l ∧ t.1.val ≤ l.val
structure PrOk (p : Prt) : Prop where
  s : 0 ≤ p.s ∧ p.s < 2 ^ 31
  u : ∀ u, p.u = some u → p.s < u ∧ u < 2 ^ 31
  a : 0 ≤ p.a
  l : p.a = 0 → p.b = 0
  bc : Bd 160 p.c
  bb : Bd 160 p.b
  ba : Bd 160 p.a
structure PuOk (p : Prt) (o : Option Stre) : Prop where
  all : ∀ x, inP p x → (p.v x ≤ 0 ↔ ∃ st, o = some st ∧ inS st x)
  ok : ∀ st, o = some st → StOk st ∧ (p.s : RR.Rl) ≤ st.1.val ∧ ∀ u, p.u = some u → ∃ l, st.2 = some l ∧ l.val ≤ (u : RR.Rl)
end SL
namespace SL
open RR
/-! ### parts merged -/
/-! ### what the law asks -/
end SL
namespace SL
open RR
end SL
namespace SL
open RR
/-! ### squared distances go on from piece to piece -/
theorem posF_now (f : Row → Int) : ∀ {rs : List Row} {x s u : Int}, Rising (s + 1) rs → posF f x s u rs s = x
  | [], x, s, u, _ => by show x + u * (s - s) = x; rw [Int.sub_self, Int.mul_zero, Int.add_zero]
  | r :: rs, x, s, u, ⟨h1, _⟩ => by
    show (if s < r.t then x + u * (s - s) else _) = x
    rw [if_pos (by omega), Int.sub_self, Int.mul_zero, Int.add_zero]
theorem posF_step (f : Row → Int) : ∀ {rs : List Row} {x s u b c : Int}, Rising s rs → s ≤ b → b ≤ c → (∀ r ∈ rs, r.t < c → r.t ≤ b) → posF f x s u rs c = posF f x s u rs b + spF f u rs b * (c - b)
  | [], x, s, u, b, c, _, _, _, _ => by show x + u * (c - s) = x + u * (b - s) + u * (c - b); grind
  | r :: rs, x, s, u, b, c, ⟨h1, h2⟩, sb, bc, no => by
    unfold posF spF
    by_cases q : b < r.t
    · rw [if_pos q, if_pos q]
      by_cases q2 : c < r.t
      · rw [if_pos q2]; grind
      · rw [if_neg q2]
        have e : r.t = c := by
          rcases Int.lt_or_le r.t c with z | z
          · have := no r (by simp) z; omega
          · omega
        rw [e, posF_now f (by rw [e] at h2; exact h2)]
        grind
    · rw [if_neg q, if_neg q, if_neg (by omega)]
      exact posF_step f (h2.mono (by omega)) (by omega) bc fun r' hr => no r' (by simp [hr])
def nsP (a b : Th) (z : Int) : List Prt := (jts [a, b]).map fun p => ⟨p.1, p.2, (apF (pcN a p.1) (pcN b p.1)).1 - z, (apF (pcN a p.1) (pcN b p.1)).2.1, (apF (pcN a p.1) (pcN b p.1)).2.2⟩
end SL
namespace SL
open RR
/-! ### the least value on a piece -/
structure PrB (p : Prt) : Prop where
  c : Bd 96 p.c
  b : Bd 62 p.b
  a : Bd 25 p.a
end SL
namespace SL
open RR
/-! ### the least squared distance, and parts less it -/
structure CloR (ps : List Prt) (x y : Int) : Prop where
  nm : (Tm.fr x y).Nm
  bx : Bd 154 x
  by' : Bd 54 y
  low : ∀ p ∈ ps, ∀ z, inP p z → (Tm.fr x y).val ≤ p.v z
  hit : ∃ p ∈ ps, ∃ z, inP p z ∧ p.v z = (Tm.fr x y).val
theorem CloR.uniq {ps : List Prt} {x y x' y' : Int} (h : CloR ps x y) (k : CloR ps x' y') : x = x' ∧ y = y' := by
  obtain ⟨p, hp, z, hz, e⟩ := h.hit
  obtain ⟨p', hp', z', hz', e'⟩ := k.hit
  have l1 := k.low p hp z hz
  have l2 := h.low p' hp' z' hz'
  have : (Tm.fr x y).val = (Tm.fr x' y').val := by grind
  have := val_inj h.nm k.nm this
  injection this with a b
  exact ⟨a, b⟩
end SL
namespace SL
open RR
/-! ### stretches that lie apart are told by where they are -/
def inU (ss : List Stre) (x : RR.Rl) : Prop := ∃ s ∈ ss, inS s x
end SL
namespace SL
open RR
/-! ### where two things with few rows are, and when they touch -/
def ptS (T : Int) : Stre := (.fr T 1, some (.fr T 1))
end SL
namespace SL
open RR
/-! ### passing by -/
def AtL (l w y : RR.Rl) : Prop := (w ≤ l ∧ y = l) ∨ (l ≤ w ∧ y = w)
def Pass (a b : Th) (z late T K e0 : Int) : Prop := ∀ p ∈ nsP a b z, ∀ w, inP p w → ∃ y, AtL (late : RR.Rl) w y ∧ p.v w = (K : RR.Rl) * ((y - T) * (y - T)) + ((e0 : RR.Rl) - z)
/-! ### side by side -/
end SL
namespace SL
open RR
/-! ### there and back -/
end SL
namespace SL
open RR PySem
/-! ### sorted things, sorted pairs of names -/
def ltN (a b : Str) : Prop := a.cps.toList < b.cps.toList
instance (a b : Str) : Decidable (ltN a b) := inferInstanceAs (Decidable (a.cps.toList < b.cps.toList))
theorem ltN_irr {a : Str} : ¬ ltN a a := nat_irr _
theorem ltN_ne {a b : Str} (h : ltN a b) : a ≠ b := fun e => ltN_irr (by rw [e] at h; exact h)
theorem ltN_tr {a b c : Str} (h : ltN a b) (k : ltN b c) : ltN a c := List.lt_trans h k
theorem ltN_asym {a b : Str} (h : ltN a b) : ¬ ltN b a := nat_asym h
theorem ltN_tri {a b : Str} (h : a ≠ b) : ltN a b ∨ ltN b a := nat_tri fun e => h (str_of_cps e)
def ltP (x y : Str × Str) : Prop := ltN x.1 y.1 ∨ x.1 = y.1 ∧ ltN x.2 y.2
theorem ltP_irr {x : Str × Str} : ¬ ltP x x := fun h => h.elim ltN_irr fun h => ltN_irr h.2
def nmP (p : Str × Str) : D := .tup [.str p.1, .str p.2]
def Sths (ths sths : List Th) : Prop := sths.Perm ths ∧ sths.Pairwise fun a b => ltN a.nm b.nm
def nm2 (p : Th × Th) : Str × Str := (p.1.nm, p.2.nm)
end SL
namespace SL
open RR PySem
/-! ### near at a time -/
def TBx : Tm → Prop
  | .fr p q => Bd 4300 p ∧ Bd 4300 q
  | .rt c b a _ => Bd 1000 c ∧ Bd 1000 b ∧ Bd 1000 a
theorem TBx.mono {t : Tm} {n : Nat} (h : TBx t) (l : 4300 ≤ n) : TB n t := by
  cases t with
  | fr p q => exact ⟨h.1.mono l, h.2.mono l⟩
  | rt c b a w => exact ⟨h.1.mono (Nat.le_trans (by decide) l), h.2.1.mono (Nat.le_trans (by decide) l), h.2.2.mono (Nat.le_trans (by decide) l)⟩
theorem TBx.of {t : Tm} (h : TB 200 t) : TBx t := by
  cases t with
  | fr p q => exact ⟨h.1.mono (by decide), h.2.mono (by decide)⟩
  | rt c b a w => exact ⟨h.1.mono (by decide), h.2.1.mono (by decide), h.2.2.mono (by decide)⟩
structure TmB (t : Tm) : Prop where
  nm : t.Nm
  nn : 0 ≤ t.val
  tb : TBx t
theorem fl_nn {t : Tm} {f : Int} (nn : 0 ≤ t.val) (hf : IsFl t.val f) : 0 ≤ f := by
  refine Int.not_lt.mp fun z => ?_
  have := (hf.lt_iff (n := 0)).mpr z
  rw [cast_zero] at *
  grind
theorem same_pc {a : Th} (oa : ThOk a) {c f : Int} (c0 : 0 ≤ c) (cf : c ≤ f) (h : ∀ z ∈ begT a.rs, z ≤ f → z ≤ c) : (pcT a c none).pl = (pcT a f none).pl := by
  obtain ⟨l, x, e1, _, _, e2⟩ := last_begin oa (b := f) (by omega)
  obtain ⟨l', x', e1', _, _, e2'⟩ := last_begin oa c0
  have : (begT a.rs).filter (fun z => decide (z ≤ f)) = (begT a.rs).filter fun z => decide (z ≤ c) := List.filter_congr fun z hz => by
    by_cases q : z ≤ c
    · rw [decide_eq_true q, decide_eq_true (show z ≤ f by omega)]
    · rw [decide_eq_false q, decide_eq_false fun k => q (h z hz k)]
  rw [e1, e1'] at this
  have ex : x = x' := by
    have := congrArg List.getLast? this
    simpa using this
  rw [← e2, ← e2', ex]
theorem Sths.uniq {ths s s' : List Th} (a : Sths ths s) (b : Sths ths s') : s = s' := by
  refine List.Perm.eq_of_pairwise (le := fun x y => ltN x.nm y.nm) (fun x y _ _ h1 h2 => absurd h2 (ltN_asym h1)) a.2 b.2 (a.1.trans b.1.symm)
end SL
namespace SL
open RR PySem
/-! ### changes of who is near -/
abbrev CRow := Tm × List (Str × Str) × List (Str × Str)
def RowC (N : Nat) (h : Hs) (d : D) (r : CRow) : Prop := ∃ B E, d = .tup [TD r.1, .ref B, .ref E] ∧ N ≤ B ∧ N ≤ E ∧ h[B]? = some (.lst (r.2.1.map nmP)) ∧ h[E]? = some (.lst (r.2.2.map nmP))
def RowsC (N : Nat) (h : Hs) : List D → List CRow → Prop
  | [], [] => True
  | d :: ds, r :: rs => RowC N h d r ∧ RowsC N h ds rs
  | _, _ => False
theorem RowC.keep {N : Nat} {P : Nat → Prop} {h h' : Hs} {d : D} {r : CRow} (x : RowC N h d r) (k : Keep P h h') (hp : ∀ i, N ≤ i → P i) : RowC N h' d r := by
  obtain ⟨B, E, e, l1, l2, g1, g2⟩ := x
  exact ⟨B, E, e, l1, l2, k.get g1 (hp B l1), k.get g2 (hp E l2)⟩
theorem RowsC.keep {N : Nat} {P : Nat → Prop} {h h' : Hs} (k : Keep P h h') (hp : ∀ i, N ≤ i → P i) : ∀ {ds : List D} {rs : List CRow}, RowsC N h ds rs → RowsC N h' ds rs
  | [], [], _ => trivial
  | d :: ds, r :: rs, ⟨a, b⟩ => ⟨a.keep k hp, RowsC.keep k hp b⟩
  | [], _ :: _, x => x.elim
  | _ :: _, [], x => x.elim
theorem RowsC.low {N M : Nat} {h : Hs} (l : M ≤ N) : ∀ {ds : List D} {rs : List CRow}, RowsC N h ds rs → RowsC M h ds rs
  | [], [], _ => trivial
  | d :: ds, r :: rs, ⟨⟨B, E, e, l1, l2, g⟩, b⟩ => ⟨⟨B, E, e, Nat.le_trans l l1, Nat.le_trans l l2, g⟩, RowsC.low l b⟩
  | [], _ :: _, x => x.elim
  | _ :: _, [], x => x.elim
theorem RowsC.snoc {N : Nat} {h : Hs} {d : D} {r : CRow} (x : RowC N h d r) : ∀ {ds : List D} {rs : List CRow}, RowsC N h ds rs → RowsC N h (ds ++ [d]) (rs ++ [r])
  | [], [], _ => ⟨x, trivial⟩
  | d :: ds, r :: rs, ⟨a, b⟩ => ⟨a, RowsC.snoc x b⟩
  | [], _ :: _, x => x.elim
  | _ :: _, [], x => x.elim
theorem RowsC.len {N : Nat} {h : Hs} : ∀ {ds : List D} {rs : List CRow}, RowsC N h ds rs → ds.length = rs.length
  | [], [], _ => rfl
  | d :: ds, r :: rs, ⟨_, b⟩ => by rw [List.length_cons, List.length_cons, RowsC.len b]
  | [], _ :: _, x => x.elim
  | _ :: _, [], x => x.elim
end SL
namespace SL
open RR PySem
/-! ### walls -/
structure Wa where
  nm : Str
  x : Int
  y : Int
  f : Int
  g : Int
def Wa.D (w : Wa) : SL.D := .tup [.str w.nm, .int w.x, .int w.y, .int w.f, .int w.g]
def Wa.P (w : Wa) : PyData := .tuple [.str w.nm, .int w.x, .int w.y, .int w.f, .int w.g]
structure WaOk (w : Wa) : Prop where
  x : -10 ≤ w.x ∧ w.x ≤ 10
  y : -10 ≤ w.y ∧ w.y ≤ 10
  f : -10 ≤ w.f ∧ w.f ≤ 10
  g : -10 ≤ w.g ∧ w.g ≤ 10
  ne : ¬ (w.x = w.f ∧ w.y = w.g)
  nm : w.nm ∈ names13
end SL
namespace SL
open RR PySem
/-! ### the whole number below a time; lines at a time -/
open Classical in
noncomputable def flo (t : Tm) : Int := if h : ∃ f, IsFl t.val f then Classical.choose h else 0
theorem flo_is {t : Tm} (nm : t.Nm) : IsFl t.val (flo t) := by
  have h := fl_ex nm
  unfold flo
  rw [dif_pos h]
  exact Classical.choose_spec h
noncomputable def linP (a : Th) (t : Tm) : Pc := ⟨0, none, (pcT a (flo t) none).x, (pcT a (flo t) none).u, (pcT a (flo t) none).y, (pcT a (flo t) none).v⟩
abbrev P3 := Int × Int × Int
/-! ### the polys of sight -/
structure SgOk (r : P3 × P3) : Prop where
  t : PyOk r.1
  d : PyOk r.2
theorem sg_neg' {x : RR.Rl} : sgR (0 - x) = - sgR x := by
  rcases tri x with y | y | y
  · rw [sg_pos y, sg_neg (show (0 : RR.Rl) - x < 0 by grind)]
  · rw [sg_neg y, sg_pos (show (0 : RR.Rl) < 0 - x by grind)]; rfl
  · rw [y, show (0 : RR.Rl) - 0 = 0 by grind, sg_zero]; rfl
/-! ### rising walls -/
def Sws (ws sws : List Wa) : Prop := sws.Perm ws ∧ sws.Pairwise fun a b => ltN a.nm b.nm
theorem Sws.uniq {ws s s' : List Wa} (a : Sws ws s) (b : Sws ws s') : s = s' := by
  refine List.Perm.eq_of_pairwise (le := fun x y : Wa => ltN x.nm y.nm) (fun x y _ _ h1 h2 => absurd h2 (ltN_asym h1)) a.2 b.2 (a.1.trans b.1.symm)
end SL
namespace RR
open SL
theorem up_get {ms : List Tm} (up : Up ms) {i j : Nat} (h1 : i < ms.length) (h2 : j < ms.length) (h : i < j) : ms[i].val < ms[j].val := (List.pairwise_iff_getElem.mp up) i j h1 h2 h
theorem up_idx {ms : List Tm} (up : Up ms) {i j : Nat} (h1 : i < ms.length) (h2 : j < ms.length) (h : ms[i].val < ms[j].val) : i < j := by
  refine Nat.not_le.mp fun q => ?_
  rcases Nat.lt_or_eq_of_le q with q | q
  · have := up_get up h2 h1 q; grind
  · subst q; grind
def AllIn (c b a : Int) (ms : List Tm) : Prop := ∀ x, 0 ≤ x → pv c b a x = 0 → ∃ t ∈ ms, t.val = x
def Gap (ms : List Tm) (i : Nat) (x : Rl) : Prop := (∀ t, ms[i]? = some t → t.val < x) ∧ ∀ v, ms[i + 1]? = some v → x < v.val
variable {ms : List Tm} {c b a : Int}
theorem no_zb (up : Up ms) (nn : ∀ t ∈ ms, 0 ≤ t.val) (al : AllIn c b a ms) {i : Nat} (hi : i < ms.length) : ¬ Zb c b a ms[i] ms[i + 1]? := by
  rintro ⟨x, e, l1, l2⟩
  have n0 := nn _ (List.getElem_mem hi)
  obtain ⟨t, ht, rfl⟩ := al x (by grind) e
  obtain ⟨j, hj, rfl⟩ := List.getElem_of_mem ht
  have ij := up_idx up hi hj l1
  have h2 : i + 1 < ms.length := by omega
  have := l2 ms[i + 1] (List.getElem?_eq_getElem h2)
  have := up_idx up hj h2 this
  omega
theorem gap_ex (i : Nat) (hi : i < ms.length) (up : Up ms) : ∃ x, Gap ms i x := by
  by_cases h2 : i + 1 < ms.length
  · have lt := up_get up hi h2 (by omega)
    obtain ⟨z, hz⟩ := solve (a := 2) (by decide) (ms[i].val + ms[i + 1].val)
    rw [show ((2 : Int) : Rl) = 2 from rfl] at hz
    refine ⟨z, fun t ht => ?_, fun v hv => ?_⟩
    · rw [List.getElem?_eq_getElem hi] at ht; cases ht; grind
    · rw [List.getElem?_eq_getElem h2] at hv; cases hv; grind
  · refine ⟨ms[i].val + 1, fun t ht => ?_, fun v hv => ?_⟩
    · rw [List.getElem?_eq_getElem hi] at ht; cases ht; grind
    · rw [List.getElem?_eq_none (by omega)] at hv; cases hv
theorem gap_nz (up : Up ms) (nn : ∀ t ∈ ms, 0 ≤ t.val) (al : AllIn c b a ms) {i : Nat} (hi : i < ms.length) {x : Rl} (g : Gap ms i x) : pv c b a x ≠ 0 := fun e => no_zb up nn al hi ⟨x, e, g.1 _ (List.getElem?_eq_getElem hi), g.2⟩
theorem alike (up : Up ms) (nn : ∀ t ∈ ms, 0 ≤ t.val) (al : AllIn c b a ms) {k : Nat} (hk : k + 1 < ms.length) {σ τ : Int} (h1 : ∀ x, Gap ms k x → sgR (pv c b a x) = σ) (h2 : ∀ x, Gap ms (k + 1) x → sgR (pv c b a x) = τ) : σ = τ ↔ (pv c b a ms[k + 1].val ≠ 0 ∨ (a ≠ 0 ∧ b * b = 4 * a * c)) := by
  have hk0 : k < ms.length := by omega
  obtain ⟨x, gx⟩ := gap_ex k hk0 up
  obtain ⟨y, gy⟩ := gap_ex (k + 1) hk up
  have n0 := nn _ (List.getElem_mem hk0)
  have x1 := gx.1 _ (List.getElem?_eq_getElem hk0)
  have x2 := gx.2 _ (List.getElem?_eq_getElem hk)
  have y1 := gy.1 _ (List.getElem?_eq_getElem hk)
  have no : ∀ z, x ≤ z → z ≤ y → z ≠ ms[k + 1].val → pv c b a z ≠ 0 := fun z z1 z2 zn e => by
    obtain ⟨t, ht, rfl⟩ := al z (by grind) e
    obtain ⟨j, hj, rfl⟩ := List.getElem_of_mem ht
    have j1 := up_idx up hk0 hj (by grind)
    have j2 : ¬ k + 1 < j := fun q => by
      have h3 : k + 1 + 1 < ms.length := by omega
      have := gy.2 _ (List.getElem?_eq_getElem h3)
      have := up_idx up hj h3 (by grind)
      omega
    have : j = k + 1 := by omega
    subst this
    exact zn rfl
  have nx := gap_nz up nn al hk0 gx
  have ny := gap_nz up nn al hk gy
  rw [← h1 x gx, ← h2 y gy]
  by_cases r0 : pv c b a ms[k + 1].val = 0
  · by_cases tw : a ≠ 0 ∧ b * b = 4 * a * c
    · exact ⟨fun _ => .inr tw, fun _ => sg_twice tw.1 tw.2 nx ny⟩
    · have f := sg_flip r0 x2 y1 no tw
      constructor
      · intro e
        exfalso
        rcases tri (pv c b a y) with q | q | q
        · rw [sg_pos q] at f e; omega
        · rw [sg_neg q] at f e; omega
        · exact ny q
      · rintro (q | q)
        · exact absurd r0 q
        · exact absurd q tw
  · refine ⟨fun _ => .inl r0, fun _ => pv_between (by grind) fun z z1 z2 => ?_⟩
    by_cases q : z = ms[k + 1].val
    · rw [q]; exact r0
    · exact no z z1 z2 q
end RR
namespace SL
open RR PySem
/-! ### what is drawn of touches -/
structure Back (a b : Th) (far : Int) (Ts : List Int) : Prop where
  oa : ThOk a
  ob : ThOk b
  na : a.nm = "ox"
  nb : b.nm = "gull"
  f0 : 0 ≤ far
  f1 : far ≤ 20000
  up : Ts.Pairwise (· < ·)
  bd : ∀ T ∈ Ts, 0 ≤ T ∧ T < 2 ^ 30
  ne : Ts ≠ []
  few : Ts.length ≤ 2
  val : ∀ p ∈ nsP a b (far * far), ∀ w, inP p w → (p.v w ≤ 0 ↔ inU (Ts.map ptS) w) ∧ 0 ≤ p.v w
structure Passing (a b : Th) (d T : Int) : Prop where
  oa : ThOk a
  ob : ThOk b
  na : a.nm = "ox"
  nb : b.nm = "gull"
  d0 : 0 ≤ d
  d1 : d ≤ 200000
  T0 : 0 ≤ T
  T1 : T < 2 ^ 30
  ex : ∃ late K : Int, 0 < K ∧ late < T ∧ (∀ z, Pass a b z late T K (d * d)) ∧ ∀ n, late ≤ n → apF (pcN a n) (pcN b n) = (K * T * T + d * d, -(2 * K * T), K)
structure Along (a b : Th) (d : Int) : Prop where
  oa : ThOk a
  ob : ThOk b
  na : a.nm = "bee"
  nb : b.nm = "arc"
  d0 : 0 ≤ d
  d1 : d ≤ 600000
  rs : a.rs = b.rs
  sq : (b.x - a.x) * (b.x - a.x) + (b.y - a.y) * (b.y - a.y) = d * d
end SL
namespace SL
open RR PySem
/-! ### who is near, gone from change to change -/
section
variable {ss : List Stre} {t u : Tm}
end
/-! the rows of changes: who begins, who ends -/
/-! sublists of a list of pairs that rises -/
theorem ltP_ne {x y : Str × Str} (h : ltP x y) : x ≠ y := fun e => ltP_irr (by rw [e] at h; exact h)
/-! near at a time: on a stretch -/
end SL
namespace SL
open PySem PySem.Spec PyProof.Rows L2
/-! ### a dict is locked while a statement runs -/
section
variable {K : PySem.W.Frag} {α α' : Al} {H H' : Hp} {h h' : Hs} {L : Nat}
structure ApartA (H : Hp) (P : Addr) (v : AO) (b : Addr) : Prop where
  ne : b ≠ P ∨ (v.mu = false ∧ v.lk = false)
theorem RepKV.upd {P : Addr} {u o : HO} {kvs : List (Key × D)} {ys : List (Key × V)} (hu : H P = some u) (nt : ∀ xs, u ≠ .tup xs) (r : RepKV K α L H kvs ys) : RepKV K α L (upd H P o) kvs ys := ⟨r.1, reps_mono (Nat.le_refl _) (fun _ _ => rfl) (fun a xs s => by
  rcases s with s | s
  · refine .inl ?_
    rw [upd_ne (fun z => by rw [z, hu] at s; exact nt xs (Option.some.inj s))]; exact s
  · exact .inr s) _ _ r.2⟩
theorem RepTV.upd {P : Addr} {u o : HO} {kvs : List (List Key × D)} {ys : List (List Key × V)} (hu : H P = some u) (nt : ∀ xs, u ≠ .tup xs) (r : RepTV K α L H kvs ys) : RepTV K α L (upd H P o) kvs ys := ⟨r.1, reps_mono (Nat.le_refl _) (fun _ _ => rfl) (fun a xs s => by
  rcases s with s | s
  · refine .inl ?_
    rw [upd_ne (fun z => by rw [z, hu] at s; exact nt xs (Option.some.inj s))]; exact s
  · exact .inr s) _ _ r.2⟩
end
end SL
namespace SL
open PySem PySem.Spec PyProof.Rows L2
/-! ### for k in d: the keys of a locked dict -/
def keyD : Key → D
  | .inl i => .int i
  | .inr z => .str z
section
variable {X : Cx} {tg e : Expr} {ma : ME}
end
end SL
namespace SL
open PySem PySem.Spec PyProof.Rows L2
/-! ### d[k] of a locked dict, of a dict whose keys are tuples -/
def valT (kvs : List (List Key × D)) (k : List Key) : Option D := (kvs.find? fun kv => decide (kv.1 = k)).map (·.2)
section
variable {X : Cx} {o i : Expr} {pos : Pos} {td ty : TE}
end
section
variable {X : Cx} {a b : Expr} {ma mb : ME} {pos : Pos}
end
end SL
namespace SL
open PySem PySem.Spec PyProof.Rows L2
/-! ### {} and d[(a, b)] = v of a dict whose keys are tuples -/
section
variable {K : PySem.W.Frag} {α : Al} {L : Nat} {H : Hp}
end
section
variable {X : Cx} {o value : Expr} {es : List Expr} {mo mv : ME} {mk : MA} {pos pos' tpos : Pos} {x1 : Nat}
end
end SL
namespace SL
open RR PySem
/-! ### locked dicts, dicts keyed by tuples: how their parts are evaluated -/
section
variable {mv mo ma : ME} {mk : MA} {m : MS} {ρ : Rho} {h : Hs} {n i : Nat} {v d : D} {ds : List D} {kvs : List (List L2.Key × D)} {kws : List (L2.Key × D)} {k : List L2.Key} {q : L2.Key}
/-! a dict by its pairs: written, read -/
theorem valT_mem : ∀ {kvs : List (List L2.Key × D)} {k : List L2.Key} {v : D}, (kvs.map (·.1)).Nodup → (k, v) ∈ kvs → valT kvs k = some v
  | (k0, v0) :: kvs, k, v, nd, h => by
    rw [List.map_cons, List.nodup_cons] at nd
    show (((k0, v0) :: kvs).find? fun kv => decide (kv.1 = k)).map (·.2) = some v
    rw [List.find?_cons]
    rcases List.mem_cons.mp h with q | q
    · cases q
      simp
    · have ne : ¬ (k0 = k) := fun z => nd.1 (by rw [z]; exact List.mem_map.mpr ⟨_, q, rfl⟩)
      simp only [decide_eq_false ne]
      exact valT_mem nd.2 q
end
end SL
namespace SL
open RR PySem
/-! ### pairs of names in lists; a dict of stretches by pairs of names -/
/-! the dict -/
def key2 (p : Th × Th) : List L2.Key := [.inr p.1.nm, .inr p.2.nm]
def PrsD (F : Th × Th → List D) (N : Nat) (h : Hs) : List (List L2.Key × D) → List (Th × Th) → Prop
  | [], [] => True
  | kv :: kvs, p :: l => (∃ L, kv = (key2 p, .ref L) ∧ N ≤ L ∧ h[L]? = some (.lst (F p))) ∧ PrsD F N h kvs l
  | _, _ => False
theorem PrsD.keep {F : Th × Th → List D} {N : Nat} {P : Nat → Prop} {h h' : Hs} (k : Keep P h h') (hp : ∀ i, N ≤ i → P i) : ∀ {kvs : List (List L2.Key × D)} {l : List (Th × Th)}, PrsD F N h kvs l → PrsD F N h' kvs l
  | [], [], _ => trivial
  | kv :: kvs, p :: l, ⟨⟨L, e, n, g⟩, b⟩ => ⟨⟨L, e, n, k.get g (hp L n)⟩, PrsD.keep k hp b⟩
  | [], _ :: _, x => x.elim
  | _ :: _, [], x => x.elim
theorem PrsD.same {F : Th × Th → List D} {N : Nat} {h h' : Hs} (k : ∀ (L : Nat) (ss : List D), h[L]? = some (AO.lst ss) → h'[L]? = some (AO.lst ss)) : ∀ {kvs : List (List L2.Key × D)} {l : List (Th × Th)}, PrsD F N h kvs l → PrsD F N h' kvs l
  | [], [], _ => trivial
  | kv :: kvs, p :: l, ⟨⟨L, e, n, g⟩, b⟩ => ⟨⟨L, e, n, k _ _ g⟩, PrsD.same k b⟩
  | [], _ :: _, x => x.elim
  | _ :: _, [], x => x.elim
theorem PrsD.snoc {F : Th × Th → List D} {N L : Nat} {h : Hs} {q : Th × Th} (n : N ≤ L) (g : h[L]? = some (.lst (F q))) : ∀ {kvs : List (List L2.Key × D)} {l : List (Th × Th)}, PrsD F N h kvs l → PrsD F N h (kvs ++ [(key2 q, .ref L)]) (l ++ [q])
  | [], [], _ => ⟨⟨L, rfl, n, g⟩, trivial⟩
  | kv :: kvs, p :: l, ⟨a, b⟩ => ⟨a, PrsD.snoc n g b⟩
  | [], _ :: _, x => x.elim
  | _ :: _, [], x => x.elim
theorem PrsD.keys {F : Th × Th → List D} {N : Nat} {h : Hs} : ∀ {kvs : List (List L2.Key × D)} {l : List (Th × Th)}, PrsD F N h kvs l → kvs.map (·.1) = l.map key2
  | [], [], _ => rfl
  | kv :: kvs, p :: l, ⟨⟨L, e, _⟩, b⟩ => by rw [List.map_cons, List.map_cons, PrsD.keys b, e]
  | [], _ :: _, x => x.elim
  | _ :: _, [], x => x.elim
theorem PrsD.mem {F : Th × Th → List D} {N : Nat} {h : Hs} : ∀ {kvs : List (List L2.Key × D)} {l : List (Th × Th)}, PrsD F N h kvs l → ∀ p ∈ l, ∃ L, (key2 p, D.ref L) ∈ kvs ∧ N ≤ L ∧ h[L]? = some (.lst (F p))
  | [], [], _, p, hp => absurd hp (by simp)
  | kv :: kvs, q :: l, ⟨⟨L, e, n, g⟩, b⟩, p, hp => by
    rcases List.mem_cons.mp hp with z | z
    · exact ⟨L, by rw [z, e]; exact List.mem_cons_self, n, by rw [z]; exact g⟩
    · obtain ⟨L, a, b, c⟩ := PrsD.mem b p z
      exact ⟨L, List.mem_cons_of_mem _ a, b, c⟩
  | [], _ :: _, x, _, _ => x.elim
  | _ :: _, [], x, _, _ => x.elim
theorem PrsD.tups {F : Th × Th → List D} {N : Nat} {h : Hs} : ∀ {kvs : List (List L2.Key × D)} {l : List (Th × Th)}, PrsD F N h kvs l → kvs.map (fun kv => D.tup (kv.1.map keyD)) = l.map (fun p => nmP (nm2 p))
  | [], [], _ => rfl
  | kv :: kvs, p :: l, ⟨⟨L, e, _⟩, b⟩ => by rw [List.map_cons, List.map_cons, PrsD.tups b, e]; rfl
  | [], _ :: _, x => x.elim
  | _ :: _, [], x => x.elim
theorem key2_inj {p q : Th × Th} (h : key2 p = key2 q) : nm2 p = nm2 q := by
  have h1 := h
  unfold key2 at h1
  simp only [List.cons.injEq, Sum.inr.injEq, and_true] at h1
  exact Prod.ext h1.1 h1.2
theorem keys_nodup {l : List (Th × Th)} (up : l.Pairwise fun x y => ltP (nm2 x) (nm2 y)) : (l.map key2).Nodup := List.pairwise_map.mpr (up.imp fun {x y} h e => ltP_ne h (key2_inj e))
theorem PrsD.val {F : Th × Th → List D} {N : Nat} {h : Hs} {kvs : List (List L2.Key × D)} {l : List (Th × Th)} (k : PrsD F N h kvs l) (up : l.Pairwise fun x y => ltP (nm2 x) (nm2 y)) {p : Th × Th} (hp : p ∈ l) : ∃ L, valT kvs (key2 p) = some (.ref L) ∧ N ≤ L ∧ h[L]? = some (.lst (F p)) := by
  obtain ⟨L, a, b, c⟩ := k.mem p hp
  exact ⟨L, valT_mem (by rw [k.keys]; exact keys_nodup up) a, b, c⟩
theorem PrsD.len {F : Th × Th → List D} {N : Nat} {h : Hs} : ∀ {kvs : List (List L2.Key × D)} {l : List (Th × Th)}, PrsD F N h kvs l → kvs.length = l.length
  | [], [], _ => rfl
  | kv :: kvs, p :: l, ⟨_, b⟩ => by rw [List.length_cons, List.length_cons, PrsD.len b]
  | [], _ :: _, x => x.elim
  | _ :: _, [], x => x.elim
end SL
namespace SL
open RR PySem
/-! ### the piece at a time; the least distance rounded up -/
structure RUp (x y r : Int) : Prop where
  nn : 0 ≤ r
  up : x ≤ r * r * y
  low : r = 0 ∨ (r - 1) * (r - 1) * y < x
theorem RUp.le {x y r : Int} (h : RUp x y r) (y0 : 0 < y) (hx : x ≤ 8 * 10 ^ 12 * y) : r ≤ 9000000 := by
  rcases h.low with e | lt
  · omega
  · refine Int.not_lt.mp fun z => ?_
    have h1 : 9000000 * 9000000 ≤ (r - 1) * (r - 1) := Int.mul_le_mul (by omega) (by omega) (by decide) (by omega)
    have h2 : 9000000 * 9000000 * y ≤ (r - 1) * (r - 1) * y := Int.mul_le_mul_of_nonneg_right h1 (by omega)
    omega
end SL
namespace SL
open RR PySem
/-! ### worlds turned by a quarter -/
end SL
namespace SL
open PySem PySem.Spec PyProof.Rows L2
/-! ### sorted of a list of texts, fewer than 64 -/
end SL
namespace SL
open RR PySem
/-! ### names sorted; pairs so far -/
/-! rows of changes by place -/
theorem RowsC.get {N : Nat} {h : Hs} : ∀ {ds : List D} {rs : List CRow}, RowsC N h ds rs → ∀ {i : Nat} (hi : i < rs.length), ∃ d, ds[i]? = some d ∧ RowC N h d rs[i]
  | [], [], _, i, hi => absurd hi (by simp)
  | d :: ds, r :: rs, ⟨a, b⟩, 0, _ => ⟨d, rfl, a⟩
  | d :: ds, r :: rs, ⟨a, b⟩, i + 1, hi => by
    obtain ⟨d', e, k⟩ := RowsC.get b (i := i) (by simpa using hi)
    exact ⟨d', e, k⟩
  | [], _ :: _, x, _, _ => x.elim
  | _ :: _, [], x, _, _ => x.elim
end SL
namespace SL
open RR PySem
/-! ### who is seen, gathered pair by pair -/
section
variable (P : Th → Th → Bool) (ths : List Th)
end
section
variable {P : Th → Th → Bool} {ths : List Th}
theorem nd_idx {α : Type} : ∀ {l : List α}, l.Nodup → ∀ {i j : Nat} (hi : i < l.length) (hj : j < l.length), l[i] = l[j] → i = j
  | a :: l, nd, 0, 0, _, _, _ => rfl
  | a :: l, nd, 0, j + 1, _, hj, e => absurd (show a ∈ l from by
      have e : a = l[j]'(by simpa using hj) := e
      rw [e]; exact List.getElem_mem _) (List.nodup_cons.mp nd).1
  | a :: l, nd, i + 1, 0, hi, _, e => absurd (show a ∈ l from by
      have e : l[i]'(by simpa using hi) = a := e
      rw [← e]; exact List.getElem_mem _) (List.nodup_cons.mp nd).1
  | a :: l, nd, i + 1, j + 1, hi, hj, e => by
    have := nd_idx (List.nodup_cons.mp nd).2 (i := i) (j := j) (by simpa using hi) (by simpa using hj) e
    omega
end
def nmsD (l : List Th) : List D := l.map fun b => .str b.nm
def SNl (ps : List (Th × Nat)) (F : Nat → List Th) (h : Hs) : Prop := ∀ k (hk : k < ps.length), h[ps[k].2]? = some (.lst (nmsD (F k)))
section
variable {ps : List (Th × Nat)} {F G : Nat → List Th} {h h' : Hs}
theorem SNl.congr (s : SNl ps F h) (e : ∀ k, k < ps.length → F k = G k) : SNl ps G h := fun k hk => by
  rw [s k hk, e k hk]
theorem SNl.keep {Pr : Nat → Prop} (s : SNl ps F h) (k : Keep Pr h h') (out : ∀ j (hj : j < ps.length), Pr ps[j].2) : SNl ps F h' := fun j hj => k.get (s j hj) (out j hj)
theorem SNl.up (s : SNl ps F h) (nd : (ps.map (·.2)).Nodup) {i : Nat} (hi : i < ps.length) (k : Keep (· ≠ ps[i].2) h h') {l : List Th} (e : h'[ps[i].2]? = some (.lst (nmsD l))) : SNl ps (fun k => if k = i then l else F k) h' := fun j hj => by
  by_cases z : j = i
  · subst z
    show h'[ps[j].2]? = some (.lst (nmsD (if j = j then l else F j)))
    rw [if_pos rfl]
    exact e
  · show h'[ps[j].2]? = some (.lst (nmsD (if j = i then l else F j)))
    rw [if_neg z]
    refine k.get (s j hj) fun q => z ?_
    have hj' : j < (ps.map (·.2)).length := by rw [List.length_map]; exact hj
    have hi' : i < (ps.map (·.2)).length := by rw [List.length_map]; exact hi
    refine nd_idx nd hj' hi' ?_
    rw [List.getElem_map, List.getElem_map]
    exact q
end
end SL
namespace SL
open PySem PySem.Spec PyProof.Rows L2
/-! ### xs[lo:hi:step] of lists, any step but 0 -/
section
variable {X : Cx} {e st : Expr} {te ts : TE} {tl th : TO} {lo hi : Option Expr}
/-! the same on plain data -/
variable {ma ms : ME} {a s' : Expr}
end
end SL
namespace SL
open PySem PySem.Spec PyProof.Rows L2
open Sem (wp)
/-! ### sum(list of lists, list) -/
section
variable {prog : Program} {w : World} {A : Around} {R : Result → Shared → Prop} {I l : Addr} {its : List Value}
end
section
variable {prog : Program} {w : World} {A : Around} {E : Value → Shared → Prop} {s : Shared}
end
/-! by values -/
section
variable {X : Cx}
theorem Vals.flat : ∀ {xss : List (List V)} {uss : List (List Value)}, xss.length = uss.length → (∀ (i : Nat) xs us, xss[i]? = some xs → uss[i]? = some us → Vals xs us) → Vals xss.flatten uss.flatten
  | [], [], _, _ => .nil
  | xs :: xss, us :: uss, hl, h => by
    rw [List.flatten_cons, List.flatten_cons]
    exact (h 0 xs us rfl rfl).append (Vals.flat (by simpa using hl) fun i x u h1 h2 => h (i + 1) x u (by simpa using h1) (by simpa using h2))
end
end SL
namespace SL
open PySem PySem.Spec PyProof.Rows L2
/-! the same on plain data -/
section
variable {K : PySem.W.Frag} {α : Al} {H : Hp} {h : Hs}
end
end SL
namespace SL
open RR PySem
/-! ### a draw: rest and mixed -/
structure Dr (n : Nat) (h : Hs) : Prop where
  ex : ∃ a b : Int, h[n]? = some (.dct [(.inr "rest", .int a), (.inr "mixed", .int b)]) ∧ 0 ≤ b ∧ b < 2 ^ 31
theorem Dr.lt {n : Nat} {h : Hs} (t : Dr n h) : n < h.length := by
  obtain ⟨a, b, g, _⟩ := t.ex
  exact get_lt g
theorem Dr.keep {n : Nat} {P : Nat → Prop} {h h' : Hs} (t : Dr n h) (kp : Keep P h h') (pn : P n) : Dr n h' := by
  obtain ⟨a, b, g, r⟩ := t.ex
  exact ⟨a, b, kp.get g pn, r⟩
/-! lists of small numbers, one of them picked -/
/-! words -/
end SL
namespace SL
open RR PySem
/-! the draw's dict -/
section
variable {n : Nat} {h : Hs} {a b x : D}
end
/-! rising rows, as pairs -/
theorem rising_iff : ∀ {rs : List Row} {a : Int}, Rising a rs ↔ (∀ r ∈ rs, a ≤ r.t) ∧ rs.Pairwise fun r q => r.t < q.t
  | [], a => ⟨fun _ => ⟨fun r h => (nomatch h), List.Pairwise.nil⟩, fun _ => trivial⟩
  | r :: rs, a => by
    constructor
    · rintro ⟨h1, h2⟩
      obtain ⟨h3, h4⟩ := rising_iff.mp h2
      refine ⟨fun q hq => ?_, List.pairwise_cons.mpr ⟨fun q hq => ?_, h4⟩⟩
      · rcases List.mem_cons.mp hq with rfl | hq
        · exact h1
        · have := h3 q hq; omega
      · have := h3 q hq; omega
    · rintro ⟨h1, h2⟩
      obtain ⟨h3, h4⟩ := List.pairwise_cons.mp h2
      exact ⟨h1 r List.mem_cons_self, rising_iff.mpr ⟨fun q hq => by have := h3 q hq; omega, h4⟩⟩
theorem Rising.take {rs : List Row} {a : Int} (h : Rising a rs) (n : Nat) : Rising a (rs.take n) := by
  obtain ⟨h1, h2⟩ := rising_iff.mp h
  exact rising_iff.mpr ⟨fun r hr => h1 r (List.mem_of_mem_take hr), h2.sublist (List.take_sublist n rs)⟩
theorem Rising.filter {rs : List Row} {a : Int} (h : Rising a rs) (p : Row → Bool) : Rising a (rs.filter p) := by
  obtain ⟨h1, h2⟩ := rising_iff.mp h
  exact rising_iff.mpr ⟨fun r hr => h1 r (List.mem_filter.mp hr).1, h2.sublist List.filter_sublist⟩
theorem Rising.app {xs ys : List Row} {a : Int} (h : Rising a xs) (g : Rising a ys) (lt : ∀ x ∈ xs, ∀ y ∈ ys, x.t < y.t) : Rising a (xs ++ ys) := by
  obtain ⟨h1, h2⟩ := rising_iff.mp h
  obtain ⟨g1, g2⟩ := rising_iff.mp g
  refine rising_iff.mpr ⟨fun r hr => ?_, List.pairwise_append.mpr ⟨h2, g2, lt⟩⟩
  rcases List.mem_append.mp hr with hr | hr
  · exact h1 r hr
  · exact g1 r hr
end SL
namespace SL
open RR PySem
end SL
namespace SL
open RR PySem
structure DirOk (a b : Int) : Prop where
  ra : -1000 ≤ a ∧ a ≤ 1000
  rb : -1000 ≤ b ∧ b ≤ 1000
  ne : ¬ (a = 0 ∧ b = 0)
end SL
namespace SL
open RR PySem
/-! ### equal data -/
mutual
def plainP : PyData → Bool
  | .none => true
  | .bool _ => true
  | .int _ => true
  | .str _ => true
  | .list xs => plainPs xs
  | .tuple xs => plainPs xs
  | .dict _ => false
def plainPs : List PyData → Bool
  | [] => true
  | x :: xs => plainP x && plainPs xs
end
mutual
theorem eqv_same : ∀ p : PyData, plainP p = true → PyData.eqv p p = true
  | .none, _ => rfl
  | .bool b, _ => by cases b <;> rfl
  | .int i, _ => by show (i == i) = true; simp
  | .str s, _ => by show (s == s) = true; simp
  | .list xs, h => eqvs_same xs h
  | .tuple xs, h => eqvs_same xs h
  | .dict _, h => by cases h
theorem eqvs_same : ∀ ps : List PyData, plainPs ps = true → PyData.eqvAll ps ps = true
  | [], _ => rfl
  | p :: ps, h => by
    have h : (plainP p && plainPs ps) = true := h
    rw [Bool.and_eq_true] at h
    show (PyData.eqv p p && PyData.eqvAll ps ps) = true
    rw [eqv_same p h.1, eqvs_same ps h.2]
    rfl
end
theorem plainPs_map {α : Type} {f : α → PyData} : ∀ {xs : List α}, (∀ x ∈ xs, plainP (f x) = true) → plainPs (xs.map f) = true
  | [], _ => rfl
  | x :: xs, h => by
    rw [List.map_cons]
    show (plainP (f x) && plainPs (xs.map f)) = true
    rw [h x List.mem_cons_self, plainPs_map fun y hy => h y (List.mem_cons_of_mem _ hy)]
    rfl
theorem toP_lst {h : Hs} {n k : Nat} {ds : List D} {ps : List PyData} (e : getL h n = some ds) (t : mapO (toP k h) ds = some ps) : toP (k + 1) h (.ref n) = some (.list ps) := by
  unfold toP; rw [e]; simp only [t]
def nmsP (l : List Th) : List PyData := l.map fun b => .str b.nm
theorem mapO_nmL {h : Hs} {k : Nat} (l : List Th) : mapO (toP k h) (nmsD l) = some (nmsP l) := mapO_map l fun b _ => by cases k <;> rfl
theorem plain_nms (l : List Th) : plainPs (nmsP l) = true := plainPs_map fun _ _ => rfl
/-! ### lists of lists of names -/
structure LR (B L : Nat) (gs : List (List Th)) (h : Hs) : Prop where
  ex : ∃ rs : List Nat, h[L]? = some (.lst (rs.map D.ref)) ∧ rs.length = gs.length ∧ (∀ r ∈ rs, B ≤ r ∧ r ≠ L) ∧ ∀ i (hr : i < rs.length) (hg : i < gs.length), h[rs[i]]? = some (.lst (nmsD gs[i]))
theorem mapO_of {α β : Type} {f : α → Option β} : ∀ {xs : List α} {ys : List β}, xs.length = ys.length → (∀ i (hx : i < xs.length) (hy : i < ys.length), f xs[i] = some ys[i]) → mapO f xs = some ys
  | [], [], _, _ => rfl
  | x :: xs, y :: ys, l, h => by
    show (match f x, mapO f xs with | some b, some bs => some (b :: bs) | _, _ => none) = _
    rw [show f x = some y from h 0 (by simp) (by simp), mapO_of (by simpa using l) fun i hx hy => by
      have := h (i + 1) (by simpa using hx) (by simpa using hy)
      simpa using this]
def gsP (gs : List (List Th)) : PyData := .list (gs.map fun g => .list (nmsP g))
theorem LR.toP {B L : Nat} {gs : List (List Th)} {h : Hs} (a : LR B L gs h) {k : Nat} : SL.toP (k + 2) h (.ref L) = some (gsP gs) := by
  obtain ⟨rs, e, l, _, f⟩ := a.ex
  refine toP_lst (getL_lst e) (mapO_of (by simpa using l) fun i hx hy => ?_)
  have hr : i < rs.length := by simpa using hx
  have hg : i < gs.length := by simpa using hy
  rw [List.getElem_map, List.getElem_map]
  exact toP_lst (getL_lst (f i hr hg)) (mapO_nmL _)
theorem gsP_plain (gs : List (List Th)) : plainP (gsP gs) = true := plainPs_map fun g _ => plain_nms g
/-! ### heights -/
def hyF (dx dy : Int) (p : Pc) : P3 := (dx * p.x + dy * p.y, dx * p.u + dy * p.v, 0)
def hlD (dx dy : Int) (p : Pc) : D := .tup [.int p.a, pyD (hyF dx dy p)]
noncomputable def hyT (t : Tm) (dx dy : Int) (a : Th) : P3 := hyF dx dy (linP a t)
noncomputable def hv (t : Tm) (dx dy : Int) (a : Th) : RR.Rl := pv (hyT t dx dy a).1 (hyT t dx dy a).2.1 0 t.val
def lessP (P Q : P3) : P3 := (P.1 - Q.1, P.2.1 - Q.2.1, P.2.2 - Q.2.2)
/-! ### levels -/
section
variable (v : Th → RR.Rl)
open Classical
abbrev Gp := Th × List Th
noncomputable def posG (a : Th) (G : List Gp) : Nat := (G.takeWhile fun g => decide (v g.1 < v a)).length
noncomputable def insL (G : List Gp) (a : Th) : List Gp := match G[posG v a G]? with
  | some g => if v g.1 = v a then G.set (posG v a G) (g.1, g.2 ++ [a]) else G.take (posG v a G) ++ [(a, [a])] ++ G.drop (posG v a G)
  | none => G.take (posG v a G) ++ [(a, [a])] ++ G.drop (posG v a G)
noncomputable def levF (sths : List Th) : List Gp := sths.foldl (insL v) []
def SoG (G : List Gp) : Prop := G.Pairwise fun g g' => v g.1 < v g'.1
end
section
variable {v : Th → RR.Rl}
open Classical
theorem tw_take {α : Type} (p : α → Bool) : ∀ l : List α, l.take (l.takeWhile p).length = l.takeWhile p
  | [] => rfl
  | a :: l => by
    rw [List.takeWhile_cons]
    split
    · rw [List.length_cons, List.take_succ_cons, tw_take p l]
    · rfl
theorem tw_next {α : Type} (p : α → Bool) : ∀ (l : List α) (h : (l.takeWhile p).length < l.length), p (l[(l.takeWhile p).length]) = false
  | [], h => absurd h (Nat.not_lt_zero _)
  | a :: l, h => by
    by_cases q : p a = true
    · simp only [List.takeWhile_cons, q, if_true, List.length_cons] at h ⊢
      exact tw_next p l (by omega)
    · simp only [List.takeWhile_cons, q, if_false, List.length_nil]
      simpa using q
theorem tw_in {α : Type} (p : α → Bool) (l : List α) : ∀ i (h : i < (l.takeWhile p).length) (h2 : i < l.length), p l[i] = true := fun i h h2 => by
  have e : l[i] = (l.takeWhile p)[i] := by
    have := tw_take p l
    have h3 : (l.take (l.takeWhile p).length)[i]? = (l.takeWhile p)[i]? := by rw [this]
    rw [List.getElem?_take_of_lt h, List.getElem?_eq_getElem h2, List.getElem?_eq_getElem h] at h3
    exact Option.some.inj h3
  rw [e]
  have : ∀ (l : List α), ∀ x ∈ l.takeWhile p, p x = true := fun l => by
    induction l with
    | nil => intro x hx; cases hx
    | cons a l ih =>
      intro x hx
      rw [List.takeWhile_cons] at hx
      split at hx
      · next c => rcases List.mem_cons.mp hx with rfl | hx
                  · exact c
                  · exact ih x hx
      · cases hx
  exact this l _ (List.getElem_mem h)
theorem pos_lt {a : Th} {G : List Gp} {i : Nat} (h : i < posG v a G) (h2 : i < G.length) : v (G[i]).1 < v a := by
  have := tw_in (fun g : Gp => decide (v g.1 < v a)) G i h h2
  exact of_decide_eq_true this
theorem pos_at {a : Th} {G : List Gp} (h : posG v a G < G.length) : ¬ v (G[posG v a G]).1 < v a := by
  have := tw_next (fun g : Gp => decide (v g.1 < v a)) G h
  exact of_decide_eq_false this
theorem pos_sorted {a : Th} {G : List Gp} (so : SoG v G) {i : Nat} (h : i < G.length) (l : posG v a G ≤ i) : ¬ v (G[i]).1 < v a := by
  intro z
  have hp : posG v a G < G.length := by omega
  have n := pos_at hp
  rcases Nat.eq_or_lt_of_le l with e | e
  · simp only [e] at n; exact n z
  · have := List.pairwise_iff_getElem.mp so _ _ hp h e
    exact n (by grind)
theorem insL_sorted {a : Th} {G : List Gp} (so : SoG v G) : SoG v (insL v G a) := by
  have ins : (∀ i (h : i < G.length), i = posG v a G → v (G[i]).1 ≠ v a) → SoG v (G.take (posG v a G) ++ [(a, [a])] ++ G.drop (posG v a G)) := fun ne => by
    have so0 := so
    unfold SoG at so ⊢
    have e : G = G.take (posG v a G) ++ G.drop (posG v a G) := (List.take_append_drop _ _).symm
    rw [e] at so
    obtain ⟨h1, h2, h3⟩ := List.pairwise_append.mp so
    rw [List.append_assoc]
    refine List.pairwise_append.mpr ⟨h1, List.pairwise_append.mpr ⟨List.pairwise_singleton _ _, h2, fun x hx y hy => ?_⟩, fun x hx y hy => ?_⟩
    · rw [List.mem_singleton.mp hx]
      obtain ⟨j, hj, rfl⟩ := List.getElem_of_mem hy
      rw [List.getElem_drop]
      have hj2 : posG v a G + j < G.length := by rw [List.length_drop] at hj; omega
      have n1 := pos_sorted (a := a) so0 (i := posG v a G + j) hj2 (by omega)
      have : v (G[posG v a G + j]).1 ≠ v a := fun z => by
        have hp : posG v a G < G.length := by omega
        rcases Nat.eq_zero_or_pos j with q | q
        · subst q; exact ne _ hj2 (by omega) z
        · have s := List.pairwise_iff_getElem.mp (show G.Pairwise (fun g g' => v g.1 < v g'.1) from by rw [e]; exact so) _ _ hp hj2 (by omega)
          have n2 := pos_at hp
          exact n2 (by rw [z] at s; exact s)
      show v a < v (G[posG v a G + j]).1
      rcases tri (v (G[posG v a G + j]).1 - v a) with q | q | q
      · grind
      · exact absurd (by grind) n1
      · exact absurd (by grind) this
    · have lx : v x.1 < v a := by
        obtain ⟨j, hj, rfl⟩ := List.getElem_of_mem hx
        rw [List.getElem_take]
        rw [List.length_take] at hj
        exact pos_lt (by omega) (by omega)
      rcases List.mem_append.mp hy with hy | hy
      · rw [List.mem_singleton.mp hy]; exact lx
      · exact h3 x hx y hy
  unfold insL
  split
  · next g e =>
    by_cases q : v g.1 = v a
    · rw [if_pos q]
      have hl := (List.getElem?_eq_some_iff.mp e).1
      have eg : G[posG v a G] = g := by
        rw [List.getElem?_eq_getElem hl] at e
        exact Option.some.inj e
      refine List.pairwise_iff_getElem.mpr fun i j hi hj lt => ?_
      rw [List.length_set] at hi hj
      have so' := List.pairwise_iff_getElem.mp so i j hi hj lt
      have k : ∀ i (h : i < G.length) (h' : i < (G.set (posG v a G) (g.1, g.2 ++ [a])).length), ((G.set (posG v a G) (g.1, g.2 ++ [a]))[i]).1 = (G[i]).1 := fun i h h' => by
        rw [List.getElem_set]
        split
        · next z => subst z; rw [eg]
        · rfl
      rw [k i hi (by rw [List.length_set]; exact hi), k j hj (by rw [List.length_set]; exact hj)]
      exact so'
    · rw [if_neg q]
      refine ins fun i h ei z => q ?_
      subst ei
      rw [List.getElem?_eq_getElem h] at e
      have := Option.some.inj e
      rw [← this]; exact z
  · next e =>
    refine ins fun i h ei z => ?_
    subst ei
    rw [List.getElem?_eq_getElem h] at e
    cases e
end
end SL
namespace SL
open RR PySem
/-! ### groups on the heap: each with what is told of its first thing, and a list of names -/
def lvD (E : Th → D) (p : Gp × Nat) : D := .tup [E p.1.1, .ref p.2]
structure LvS (E : Th → D) (B F : Nat) (ps : List (Gp × Nat)) (h : Hs) : Prop where
  at_ : h[F]? = some (.lst (ps.map (lvD E)))
  nm : ∀ p ∈ ps, h[p.2]? = some (.lst (nmsD p.1.2))
  nd : (ps.map (·.2)).Nodup
  far : ∀ p ∈ ps, B ≤ p.2 ∧ p.2 ≠ F
section
variable {E : Th → D} {B F : Nat} {ps : List (Gp × Nat)} {h h' : Hs}
theorem LvS.ins (a : LvS E B F ps h) {i : Nat} (b : Th) (lB : B ≤ h.length) (lF : F < h.length) : LvS E B F (ps.take i ++ [((b, [b]), h.length)] ++ ps.drop i) ((h ++ [AO.lst [.str b.nm]]).set F (.lst ((ps.map (lvD E)).take i ++ [.tup [E b, .ref h.length]] ++ (ps.map (lvD E)).drop i))) where
  at_ := by
    rw [set_at (by simp; omega)]
    congr 2
    rw [List.map_append, List.map_append, List.map_take, List.map_drop]
    rfl
  nm := fun p hp => by
    have old : ∀ p ∈ ps, ((h ++ [AO.lst [.str b.nm]]).set F (.lst ((ps.map (lvD E)).take i ++ [.tup [E b, .ref h.length]] ++ (ps.map (lvD E)).drop i)))[p.2]? = some (.lst (nmsD p.1.2)) := fun p hp => by
      rw [List.getElem?_set_ne (Ne.symm (a.far p hp).2)]
      exact get_app _ (a.nm p hp)
    rcases List.mem_append.mp hp with hp | hp
    · rcases List.mem_append.mp hp with hp | hp
      · exact old p (List.mem_of_mem_take hp)
      · rw [List.mem_singleton.mp hp]
        show ((h ++ [AO.lst [.str b.nm]]).set F _)[h.length]? = _
        rw [List.getElem?_set_ne (by omega)]
        exact get_last
    · exact old p (List.mem_of_mem_drop hp)
  nd := by
    have e : ps.map (·.2) = (ps.take i).map (·.2) ++ (ps.drop i).map (·.2) := by rw [← List.map_append, List.take_append_drop]
    have nd := a.nd
    rw [e] at nd
    obtain ⟨n1, n2, n3⟩ := List.nodup_append.mp nd
    have lt : ∀ x ∈ ps, x.2 < h.length := fun x hx => get_lt (a.nm x hx)
    rw [List.map_append, List.map_append, List.append_assoc]
    refine List.nodup_append.mpr ⟨n1, List.nodup_append.mpr ⟨by simp, n2, fun x hx y hy z => ?_⟩, fun x hx y hy z => ?_⟩
    · obtain ⟨q, hq, rfl⟩ := List.mem_map.mp hy
      have := lt q (List.mem_of_mem_drop hq)
      simp only [List.map_cons, List.map_nil, List.mem_singleton] at hx
      omega
    · obtain ⟨q, hq, rfl⟩ := List.mem_map.mp hx
      have := lt q (List.mem_of_mem_take hq)
      rcases List.mem_append.mp hy with hy | hy
      · simp only [List.map_cons, List.map_nil, List.mem_singleton] at hy
        omega
      · exact n3 _ hx y hy z
  far := fun p hp => by
    rcases List.mem_append.mp hp with hp | hp
    · rcases List.mem_append.mp hp with hp | hp
      · exact a.far p (List.mem_of_mem_take hp)
      · rw [List.mem_singleton.mp hp]
        exact ⟨lB, by show h.length ≠ F; omega⟩
    · exact a.far p (List.mem_of_mem_drop hp)
theorem LvS.lr (a : LvS E B F ps h) {L : Nat} (ne : ∀ p ∈ ps, p.2 ≠ L) (e : h[L]? = some (.lst ((ps.map (·.2)).map D.ref))) : LR B L (ps.map fun p => p.1.2) h := ⟨_, e, by simp, fun r hr => by
  obtain ⟨p, hp, rfl⟩ := List.mem_map.mp hr
  exact ⟨(a.far p hp).1, ne p hp⟩, fun i hr hg => by
  rw [List.getElem_map, List.getElem_map]
  exact a.nm _ (List.getElem_mem _)⟩
end
end SL
namespace SL
open RR PySem
end SL
namespace SL
open RR PySem
theorem sg_eq0 {x : RR.Rl} : sgR x = 0 ↔ x = 0 := sg_zero_iff
theorem sg_gt0 {x : RR.Rl} : 0 < sgR x ↔ 0 < x := by
  rcases tri x with y | y | y
  · rw [sg_pos y]; exact ⟨fun _ => y, fun _ => by decide⟩
  · rw [sg_neg y]; exact ⟨fun z => absurd z (by decide), fun z => absurd z (by grind)⟩
  · rw [y, sg_zero]; exact ⟨fun z => absurd z (by decide), fun z => absurd z (by grind)⟩
theorem sg_lt0 {x : RR.Rl} : sgR x < 0 ↔ x < 0 := by
  rcases tri x with y | y | y
  · rw [sg_pos y]; exact ⟨fun z => absurd z (by decide), fun z => absurd z (by grind)⟩
  · rw [sg_neg y]; exact ⟨fun _ => y, fun _ => by decide⟩
  · rw [y, sg_zero]; exact ⟨fun z => absurd z (by decide), fun z => absurd z (by grind)⟩
end SL
namespace SL
open RR PySem
@[elab_as_elim] theorem snocRec {α : Type} {P : List α → Prop} (l : List α) (nil : P []) (snoc : ∀ (l : List α) (a : α), P l → P (l ++ [a])) : P l := by
  have key : ∀ n (l : List α), l.length = n → P l := by
    intro n
    induction n with
    | zero => intro l e; rw [List.length_eq_zero_iff.mp e]; exact nil
    | succ n ih =>
      intro l e
      have ne : l ≠ [] := fun z => by rw [z] at e; cases e
      rw [← List.dropLast_concat_getLast ne]
      exact snoc _ _ (ih _ (by rw [List.length_dropLast]; omega))
  exact key _ l rfl
structure GOk (n : Nat) (G : List Gp) : Prop where
  len : G.length ≤ n
  ok : ∀ g ∈ G, ThOk g.1 ∧ g.2.length ≤ n
theorem GOk.ins {v : Th → RR.Rl} {n : Nat} {G : List Gp} {a : Th} (g : GOk n G) (oa : ThOk a) : GOk (n + 1) (insL v G a) := by
  have take : GOk (n + 1) (G.take (posG v a G) ++ [(a, [a])] ++ G.drop (posG v a G)) := by
    refine ⟨?_, fun x hx => ?_⟩
    · have := g.len
      have := congrArg List.length (List.take_append_drop (posG v a G) G)
      simp only [List.length_append, List.length_cons, List.length_nil] at this ⊢
      omega
    · rcases List.mem_append.mp hx with hx | hx
      · rcases List.mem_append.mp hx with hx | hx
        · have := g.ok x (List.mem_of_mem_take hx); exact ⟨this.1, by omega⟩
        · rw [List.mem_singleton.mp hx]; exact ⟨oa, by simp⟩
      · have := g.ok x (List.mem_of_mem_drop hx); exact ⟨this.1, by omega⟩
  unfold insL
  split
  · next gp e =>
    split
    · have gm := List.mem_of_getElem? e
      refine ⟨by rw [List.length_set]; have := g.len; omega, fun x hx => ?_⟩
      rcases List.mem_or_eq_of_mem_set hx with hx | hx
      · have := g.ok x hx; exact ⟨this.1, by omega⟩
      · subst hx
        have := g.ok gp gm
        exact ⟨this.1, by simp; omega⟩
    · exact take
  · exact take
theorem levF_snoc {v : Th → RR.Rl} {l : List Th} {a : Th} : levF v (l ++ [a]) = insL v (levF v l) a := by
  unfold levF
  rw [List.foldl_append]
  rfl
theorem levF_ok {v : Th → RR.Rl} : ∀ {l : List Th}, (∀ a ∈ l, ThOk a) → GOk l.length (levF v l) := fun {l} => by
  induction l using snocRec with
  | nil => intro _; exact ⟨Nat.le_refl _, fun g hg => nomatch hg⟩
  | snoc l a ih =>
    intro h
    rw [levF_snoc, List.length_append]
    exact (ih fun b hb => h b (List.mem_append_left _ hb)).ins (h a (by simp))
theorem levF_sorted {v : Th → RR.Rl} : ∀ {l : List Th}, SoG v (levF v l) := fun {l} => by
  induction l using snocRec with
  | nil => exact .nil
  | snoc l a ih => rw [levF_snoc]; exact insL_sorted ih
noncomputable def levN (v : Th → RR.Rl) (l : List Th) : List (List Th) := (levF v l).map (·.2)
end SL
namespace SL
open RR PySem
theorem LR.one {B L : Nat} {gs : List (List Th)} {g : Hs} (r : LR B L gs g) {i : Nat} (hi : i < gs.length) : ∃ n, B ≤ n ∧ (∀ Z : Int, Z = (i : Nat) → subG' (.ref L) (.int Z) g = some (.ref n, g)) ∧ g[n]? = some (.lst (nmsD gs[i])) := by
  obtain ⟨rs, e, l, lb, f⟩ := r.ex
  have hr : i < rs.length := by omega
  refine ⟨rs[i], (lb _ (List.getElem_mem hr)).1, fun Z hZ => ev_pickN (j := i) (getL_lst e) hZ ?_, f i hr hi⟩
  rw [List.getElem?_map, List.getElem?_eq_getElem hr]
  rfl
theorem LR.last {B L : Nat} {gs : List (List Th)} {g : Hs} (r : LR B L gs g) (hi : gs.length - 1 < gs.length) : ∃ n, B ≤ n ∧ subG' (.ref L) (.int (-1)) g = some (.ref n, g) ∧ g[n]? = some (.lst (nmsD gs[gs.length - 1])) := by
  obtain ⟨rs, e, l, lb, f⟩ := r.ex
  have hr : gs.length - 1 < rs.length := by omega
  refine ⟨rs[gs.length - 1], (lb _ (List.getElem_mem hr)).1, ?_, f _ hr hi⟩
  have ne : rs ≠ [] := fun z => by rw [z] at hr; exact absurd hr (Nat.not_lt_zero _)
  have e2 : rs.map D.ref = rs.dropLast.map D.ref ++ [.ref (rs.getLast ne)] := by
    conv => lhs; rw [← List.dropLast_concat_getLast ne]
    rw [List.map_append]; rfl
  rw [e2] at e
  rw [ev_last (getL_lst e)]
  rw [List.getLast_eq_getElem]
  congr 3
  simp only [l]
theorem LR.ne_nil {B L m : Nat} {gs : List (List Th)} {g : Hs} (r : LR B L gs g) (e2 : getL g m = some []) : neG (.ref L) (.ref m) g = some (.bl (!gs.isEmpty), g) := by
  obtain ⟨rs, e, l, lb, f⟩ := r.ex
  have t1 := r.toP (k := 30)
  have t2 : SL.toP 32 g (D.ref m) = some (PyData.list []) := by unfold SL.toP; rw [e2]; rfl
  unfold neG eqB
  rw [t1, t2]
  unfold gsP
  cases gs <;> rfl
end SL
namespace SL
open RR PySem
theorem insL_flat {v : Th → RR.Rl} {G : List Gp} {a : Th} : (((insL v G a).map (·.2)).flatten).length = ((G.map (·.2)).flatten).length + 1 := by
  have sp : ∀ (n : Nat) (X : List Gp), (((G.take n ++ X ++ G.drop n).map (·.2)).flatten).length = ((G.map (·.2)).flatten).length + ((X.map (·.2)).flatten).length := fun n X => by
    have e : ((G.map (·.2)).flatten).length = (((G.take n).map (·.2)).flatten).length + (((G.drop n).map (·.2)).flatten).length := by
      rw [← List.length_append, ← List.flatten_append, ← List.map_append, List.take_append_drop]
    rw [List.map_append, List.map_append, List.flatten_append, List.flatten_append, List.length_append, List.length_append, e]
    omega
  unfold insL
  split
  · next gp e =>
    split
    · have hl := (List.getElem?_eq_some_iff.mp e).1
      have eg : G[posG v a G] = gp := by
        rw [List.getElem?_eq_getElem hl] at e
        exact Option.some.inj e
      have h1 : G.set (posG v a G) (gp.1, gp.2 ++ [a]) = G.take (posG v a G) ++ [(gp.1, gp.2 ++ [a])] ++ G.drop (posG v a G + 1) := by
        rw [List.set_eq_take_append_cons_drop, if_pos hl, List.append_assoc]; rfl
      have h2 : G = G.take (posG v a G) ++ [gp] ++ G.drop (posG v a G + 1) := by
        conv => lhs; rw [← List.take_append_drop (posG v a G) G, List.drop_eq_getElem_cons hl, eg]
        rw [List.append_assoc]; rfl
      have h3 : ((G.map (·.2)).flatten).length = (((G.take (posG v a G) ++ [gp] ++ G.drop (posG v a G + 1)).map (·.2)).flatten).length := by rw [← h2]
      rw [h1, h3]
      simp only [List.map_append, List.flatten_append, List.length_append, List.map_cons, List.map_nil, List.flatten_cons, List.flatten_nil, List.append_nil, List.length_cons, List.length_nil]
      omega
    · rw [sp]; rfl
  · rw [sp]; rfl
theorem levN_flat {v : Th → RR.Rl} {l : List Th} : (levN v l).flatten.length = l.length := by
  unfold levN
  induction l using snocRec with
  | nil => rfl
  | snoc l a ih => rw [levF_snoc, insL_flat, ih, List.length_append]; rfl
end SL
namespace SL
theorem LR.mono {B B' L : Nat} {gs : List (List Th)} {h : Hs} (a : LR B L gs h) (l : B' ≤ B) : LR B' L gs h := by
  obtain ⟨rs, e, ll, lb, f⟩ := a.ex
  exact ⟨rs, e, ll, fun r hr => ⟨Nat.le_trans l (lb r hr).1, (lb r hr).2⟩, f⟩
end SL
namespace SL
open RR PySem
/-! ### heights at roots, told by two whole numbers -/
end SL
namespace SL
end SL
namespace SL
open RR
end SL
namespace SL
open RR PySem
theorem rt_nn {c b a w : Int} (ha : 0 < a) (hd : 0 < b * b - 4 * a * c) (h : 0 < sgnS (0 - b) (2 * w - 1) (b * b - 4 * a * c)) : 0 ≤ (Tm.rt c b a w).val := by
  rw [sgnS_eq hd] at h
  have h := sg_gt0.mp h
  have e1 := val_rt (c := c) (b := b) (w := w) ha
  have pa := cast_pos ha
  have c2 : ((2 : Int) : RR.Rl) = 2 := rfl
  have c0 : ((0 : Int) : RR.Rl) = 0 := cast_zero
  rw [cast_sub, cast_sub, cast_mul, c2, c0, cast_one] at h
  have h2 : 0 < 2 * (a : RR.Rl) * (Tm.rt c b a w).val := by grind
  rcases tri (Tm.rt c b a w).val with y | y | y
  · grind
  · have : 0 < 2 * (a : RR.Rl) * (0 - (Tm.rt c b a w).val) := mul_pos (by grind) (by grind)
    grind
  · grind
end SL
namespace SL
open RR PySem
end SL
namespace SL
open RR PySem
end SL
namespace SL
open RR PySem
/-! ### levels compared -/
end SL
namespace SL
open RR
theorem whole_nmR (s : Int) : (Tm.fr s 1).Nm := ⟨by decide, by simp⟩
end SL
namespace SL
open RR PySem
/-! ### heights go on without leaps -/
def atXk (a : Th) (T : Int) : Int := posF (·.u) a.x 0 0 a.rs T
def atYk (a : Th) (T : Int) : Int := posF (·.v) a.y 0 0 a.rs T
theorem pc_atXk (a : Th) (T : Int) : (pcN a T).x + (pcN a T).u * T = atXk a T := by
  show posF (·.u) a.x 0 0 a.rs T - spF (·.u) 0 a.rs T * T + spF (·.u) 0 a.rs T * T = posF (·.u) a.x 0 0 a.rs T
  omega
theorem pc_atYk (a : Th) (T : Int) : (pcN a T).y + (pcN a T).v * T = atYk a T := by
  show posF (·.v) a.y 0 0 a.rs T - spF (·.v) 0 a.rs T * T + spF (·.v) 0 a.rs T * T = posF (·.v) a.y 0 0 a.rs T
  omega
theorem atXk_step {a : Th} (oa : ThOk a) {T : Int} (h : 0 ≤ T) : atXk a (T + 1) = atXk a T + spF (·.u) 0 a.rs T := by
  unfold atXk
  rw [posF_step (·.u) oa.up h (show T ≤ T + 1 by omega) fun r _ l => by omega]
  rw [show T + 1 - T = 1 by omega, Int.mul_one]
theorem atYk_step {a : Th} (oa : ThOk a) {T : Int} (h : 0 ≤ T) : atYk a (T + 1) = atYk a T + spF (·.v) 0 a.rs T := by
  unfold atYk
  rw [posF_step (·.v) oa.up h (show T ≤ T + 1 by omega) fun r _ l => by omega]
  rw [show T + 1 - T = 1 by omega, Int.mul_one]
def hyW (dx dy : Int) (a : Th) (f : Int) : P3 := hyF dx dy (pcT a f none)
theorem hyT_W (t : Tm) (dx dy : Int) (a : Th) : hyT t dx dy a = hyW dx dy a (flo t) := rfl
def dfW (dx dy : Int) (a b : Th) (f : Int) : P3 := lessP (hyW dx dy a f) (hyW dx dy b f)
def lnV (P : P3) (x : RR.Rl) : RR.Rl := (P.1 : RR.Rl) + (P.2.1 : RR.Rl) * x
theorem hv_ln (t : Tm) (dx dy : Int) (a b : Th) : hv t dx dy a - hv t dx dy b = lnV (dfW dx dy a b (flo t)) t.val := by
  unfold hv lnV dfW lessP
  rw [hyT_W, hyT_W]
  unfold pv
  rw [cast_sub, cast_sub, cast_zero]
  grind
theorem w_step {a : Th} (oa : ThOk a) {f : Int} (f0 : 0 ≤ f) (dx dy : Int) : (hyW dx dy a f).1 + (hyW dx dy a f).2.1 * (f + 1) = (hyW dx dy a (f + 1)).1 + (hyW dx dy a (f + 1)).2.1 * (f + 1) := by
  have e1 := pc_atXk a f
  have e2 := pc_atXk a (f + 1)
  have e3 := pc_atYk a f
  have e4 := pc_atYk a (f + 1)
  have s1 := atXk_step oa f0
  have s2 := atYk_step oa f0
  have u1 : (pcN a f).u = spF (·.u) 0 a.rs f := rfl
  have u2 : (pcN a f).v = spF (·.v) 0 a.rs f := rfl
  rw [← u1] at s1
  rw [← u2] at s2
  have g1 : (pcN a f).x + (pcN a f).u * (f + 1) = (pcN a (f + 1)).x + (pcN a (f + 1)).u * (f + 1) := by
    rw [e2, s1, ← e1]; grind
  have g2 : (pcN a f).y + (pcN a f).v * (f + 1) = (pcN a (f + 1)).y + (pcN a (f + 1)).v * (f + 1) := by
    rw [e4, s2, ← e3]; grind
  show (dx * (pcN a f).x + dy * (pcN a f).y) + (dx * (pcN a f).u + dy * (pcN a f).v) * (f + 1) = (dx * (pcN a (f + 1)).x + dy * (pcN a (f + 1)).y) + (dx * (pcN a (f + 1)).u + dy * (pcN a (f + 1)).v) * (f + 1)
  have h1 : (dx * (pcN a f).x + dy * (pcN a f).y) + (dx * (pcN a f).u + dy * (pcN a f).v) * (f + 1) = dx * ((pcN a f).x + (pcN a f).u * (f + 1)) + dy * ((pcN a f).y + (pcN a f).v * (f + 1)) := by grind
  have h2 : (dx * (pcN a (f + 1)).x + dy * (pcN a (f + 1)).y) + (dx * (pcN a (f + 1)).u + dy * (pcN a (f + 1)).v) * (f + 1) = dx * ((pcN a (f + 1)).x + (pcN a (f + 1)).u * (f + 1)) + dy * ((pcN a (f + 1)).y + (pcN a (f + 1)).v * (f + 1)) := by grind
  rw [h1, h2, g1, g2]
theorem df_step {a b : Th} (oa : ThOk a) (ob : ThOk b) {f : Int} (f0 : 0 ≤ f) (dx dy : Int) : lnV (dfW dx dy a b f) ((f + 1 : Int) : RR.Rl) = lnV (dfW dx dy a b (f + 1)) ((f + 1 : Int) : RR.Rl) := by
  have h1 := w_step oa f0 dx dy
  have h2 := w_step ob f0 dx dy
  have e : ∀ P : P3, lnV P ((f + 1 : Int) : RR.Rl) = ((P.1 + P.2.1 * (f + 1) : Int) : RR.Rl) := fun P => by
    unfold lnV
    rw [show ((P.1 + P.2.1 * (f + 1) : Int) : RR.Rl) = (P.1 : RR.Rl) + (P.2.1 : RR.Rl) * ((f + 1 : Int) : RR.Rl) by rw [cast_add, cast_mul]]
  rw [e, e]
  congr 1
  show ((hyW dx dy a f).1 - (hyW dx dy b f).1) + ((hyW dx dy a f).2.1 - (hyW dx dy b f).2.1) * (f + 1) = ((hyW dx dy a (f + 1)).1 - (hyW dx dy b (f + 1)).1) + ((hyW dx dy a (f + 1)).2.1 - (hyW dx dy b (f + 1)).2.1) * (f + 1)
  rw [Int.sub_mul, Int.sub_mul]
  omega
theorem ln_root {P : P3} (hm : P.2.1 ≠ 0) : ∃ p q : Int, (Tm.fr p q).Nm ∧ lnV P (Tm.fr p q).val = 0 := by
  obtain ⟨p, q, e1, e2, nm, e3, _⟩ := low_fr (a := 0 - P.1) (b := P.2.1) hm rfl
  refine ⟨p, q, nm, ?_⟩
  have hv := val_fr (p := p) nm.1
  have hq := cast_pos nm.1
  have e4 : (p : RR.Rl) * (P.2.1 : RR.Rl) = (0 - (P.1 : RR.Rl)) * (q : RR.Rl) := by
    rw [← cast_mul, e3, cast_mul, cast_sub, cast_zero]
  have h : (q : RR.Rl) * lnV P (Tm.fr p q).val = 0 := by
    unfold lnV
    grind
  rcases tri (lnV P (Tm.fr p q).val) with y | y | y
  · have := mul_posR _ _ hq y
    grind
  · have := mul_posR _ _ hq (show 0 < 0 - lnV P (Tm.fr p q).val by grind)
    grind
  · exact y
theorem ln_between {P : P3} {x y : RR.Rl} (lt : x < y) (h : sgR (lnV P x) ≠ sgR (lnV P y)) (hx : lnV P x ≠ 0) (hy : lnV P y ≠ 0) : ∃ p q : Int, (Tm.fr p q).Nm ∧ lnV P (Tm.fr p q).val = 0 ∧ x < (Tm.fr p q).val ∧ (Tm.fr p q).val < y := by
  have hm : P.2.1 ≠ 0 := fun z => h (by unfold lnV; rw [z, cast_zero]; congr 1; grind)
  obtain ⟨p, q, nm, e⟩ := ln_root hm
  refine ⟨p, q, nm, e, ?_⟩
  generalize (Tm.fr p q).val = r at *
  have ex : lnV P x = (P.2.1 : RR.Rl) * (x - r) := by unfold lnV at *; grind
  have ey : lnV P y = (P.2.1 : RR.Rl) * (y - r) := by unfold lnV at *; grind
  have mul : ∀ a b : RR.Rl, 0 < a → 0 < b → 0 < a * b := mul_posR
  have o1 : x < r := by
    rcases tri (r - x) with z | z | z
    · grind
    · exfalso
      refine h ?_
      have : sgR ((P.2.1 : RR.Rl) * (x - r)) = sgR ((P.2.1 : RR.Rl) * (y - r)) := by
        rw [show (P.2.1 : RR.Rl) * (x - r) = (x - r) * (P.2.1 : RR.Rl) by grind, show (P.2.1 : RR.Rl) * (y - r) = (y - r) * (P.2.1 : RR.Rl) by grind, sg_mul_pos (by grind), sg_mul_pos (by grind)]
      rw [ex, ey]; exact this
    · exfalso
      exact hx (by rw [ex]; grind)
  have o2 : r < y := by
    rcases tri (y - r) with z | z | z
    · grind
    · exfalso
      refine h ?_
      have : sgR ((P.2.1 : RR.Rl) * (x - r)) = sgR ((P.2.1 : RR.Rl) * (y - r)) := by
        rw [show (P.2.1 : RR.Rl) * (x - r) = (r - x) * (0 - (P.2.1 : RR.Rl)) by grind, show (P.2.1 : RR.Rl) * (y - r) = (r - y) * (0 - (P.2.1 : RR.Rl)) by grind, sg_mul_pos (by grind), sg_mul_pos (by grind)]
      rw [ex, ey]; exact this
    · exfalso
      exact hy (by rw [ey]; grind)
  exact ⟨o1, o2⟩
theorem flo_mid {t u w : Tm} (ht : t.Nm) (hu : u.Nm) (hw : w.Nm) (l1 : t.val ≤ w.val) (l2 : w.val < (flo t : RR.Rl) + 1) : flo w = flo t := by
  have a := flo_is ht
  have b := flo_is hw
  refine b.unique ⟨?_, l2⟩
  have := a.1
  grind
theorem flo_fr (n : Int) : flo (.fr n 1) = n := by
  have := flo_is (whole_nmR n)
  refine this.unique ?_
  rw [val_1]
  exact ⟨by grind, by grind⟩
theorem same_sign {a b : Th} (oa : ThOk a) (ob : ThOk b) (dx dy : Int) : ∀ (k : Nat) {t u : Tm}, t.Nm → u.Nm → 0 ≤ t.val → t.val ≤ u.val → (flo u - flo t).toNat = k →
    (∀ w : Tm, w.Nm → t.val ≤ w.val → w.val ≤ u.val → hv w dx dy a - hv w dx dy b ≠ 0) → sgR (hv t dx dy a - hv t dx dy b) = sgR (hv u dx dy a - hv u dx dy b) := by
  intro k
  induction k with
  | zero =>
    intro t u nt nu t0 le ek nz
    have ft := flo_is nt
    have fu := flo_is nu
    have fe : flo u = flo t := by
      have : flo t ≤ flo u := by
        refine Int.not_lt.mp fun z => ?_
        have h1 : ((flo u + 1 : Int) : RR.Rl) ≤ (flo t : RR.Rl) := by rw [cast_le]; omega
        rw [cast_add, cast_one] at h1
        have := fu.2
        have := ft.1
        grind
      omega
    rcases tri (u.val - t.val) with z | z | z
    · rw [hv_ln, hv_ln, fe]
      refine Classical.byContradiction fun ne => ?_
      have h1 := nz t nt (by grind) le
      have h2 := nz u nu le (by grind)
      rw [hv_ln] at h1
      rw [hv_ln, fe] at h2
      obtain ⟨p, q, nm, e, l1, l2⟩ := ln_between (show t.val < u.val by grind) ne h1 h2
      have fw := flo_mid (u := u) nt nu nm (by grind) (by rw [fe] at fu; have := fu.2; grind)
      have := nz (.fr p q) nm (by grind) (by grind)
      rw [hv_ln, fw] at this
      exact this e
    · exact absurd le (by grind)
    · have e : t.val = u.val := by grind
      rw [hv_ln, hv_ln, fe, e]
  | succ k ih =>
    intro t u nt nu t0 le ek nz
    have ft := flo_is nt
    have fu := flo_is nu
    have f0 : 0 ≤ flo t := fl_nn t0 ft
    have lt : flo t + 1 ≤ flo u := by omega
    have wn : (Tm.fr (flo t + 1) 1).Nm := whole_nmR _
    have wv := val_1 (p := flo t + 1)
    have w1 : t.val < (Tm.fr (flo t + 1) 1).val := by
      rw [wv, cast_add, cast_one]
      exact ft.2
    have w2 : (Tm.fr (flo t + 1) 1).val ≤ u.val := by
      rw [wv]
      have h1 : ((flo t + 1 : Int) : RR.Rl) ≤ (flo u : RR.Rl) := by rw [cast_le]; exact lt
      have := fu.1
      grind
    have fw := flo_fr (flo t + 1)
    have first : sgR (hv t dx dy a - hv t dx dy b) = sgR (hv (.fr (flo t + 1) 1) dx dy a - hv (.fr (flo t + 1) 1) dx dy b) := by
      have h1 := nz t nt (by grind) le
      have h2 := nz (.fr (flo t + 1) 1) wn (by grind) w2
      rw [hv_ln] at h1 ⊢
      rw [hv_ln, fw, wv, ← df_step oa ob f0] at h2 ⊢
      refine Classical.byContradiction fun ne => ?_
      rw [wv] at w1
      obtain ⟨p, q, nm, e, l1, l2⟩ := ln_between w1 ne h1 h2
      have fm := flo_mid (u := u) nt nu nm (by grind) (by rw [cast_add, cast_one] at l2; exact l2)
      have := nz (.fr p q) nm (by grind) (by rw [wv] at w2; grind)
      rw [hv_ln, fm] at this
      exact this e
    rw [first]
    exact ih wn nu (by grind) w2 (by rw [fw]; omega) fun w hw l1 l2 => nz w hw (by grind) l2
/-! ### levels hang on the signs alone -/
theorem lev_congr {v v' : Th → RR.Rl} {l : List Th} (h : ∀ a ∈ l, ∀ b ∈ l, sgR (v a - v b) = sgR (v' a - v' b)) : levF v l = levF v' l := by
  have lt : ∀ a ∈ l, ∀ b ∈ l, (v a < v b ↔ v' a < v' b) ∧ (v a = v b ↔ v' a = v' b) := fun a ha b hb => by
    have e := h a ha b hb
    have h1 : ∀ w : Th → RR.Rl, (w a < w b ↔ sgR (w a - w b) < 0) := fun w => by
      rw [sg_lt0]
      constructor <;> intro z <;> grind
    have h2 : ∀ w : Th → RR.Rl, (w a = w b ↔ sgR (w a - w b) = 0) := fun w => by
      rw [sg_eq0]
      constructor <;> intro z <;> grind
    exact ⟨by rw [h1 v, h1 v', e], by rw [h2 v, h2 v', e]⟩
  have mem : ∀ (w : Th → RR.Rl) (l : List Th), ∀ g ∈ levF w l, g.1 ∈ l := fun w l => by
    induction l using snocRec with
    | nil => intro g hg; cases hg
    | snoc l a ih =>
      intro g hg
      rw [levF_snoc] at hg
      have cases3 : g ∈ levF w l ∨ g.1 = a ∨ ∃ g' ∈ levF w l, g.1 = g'.1 := by
        unfold insL at hg
        split at hg
        · next gp e =>
          split at hg
          · rcases List.mem_or_eq_of_mem_set hg with hg | hg
            · exact .inl hg
            · exact .inr (.inr ⟨gp, List.mem_of_getElem? e, by rw [hg]⟩)
          · rcases List.mem_append.mp hg with hg | hg
            · rcases List.mem_append.mp hg with hg | hg
              · exact .inl (List.mem_of_mem_take hg)
              · exact .inr (.inl (by rw [List.mem_singleton.mp hg]))
            · exact .inl (List.mem_of_mem_drop hg)
        · rcases List.mem_append.mp hg with hg | hg
          · rcases List.mem_append.mp hg with hg | hg
            · exact .inl (List.mem_of_mem_take hg)
            · exact .inr (.inl (by rw [List.mem_singleton.mp hg]))
          · exact .inl (List.mem_of_mem_drop hg)
      rcases cases3 with c | c | ⟨g', c, e⟩
      · exact List.mem_append_left _ (ih g c)
      · rw [c]; simp
      · rw [e]; exact List.mem_append_left _ (ih g' c)
  have key : ∀ m : List Th, (∀ a ∈ m, a ∈ l) → levF v m = levF v' m := fun m => by
    induction m using snocRec with
    | nil => intro _; rfl
    | snoc m a ih =>
      intro hm
      have im := ih fun b hb => hm b (List.mem_append_left _ hb)
      have ha := hm a (by simp)
      have hg : ∀ g ∈ levF v m, g.1 ∈ l := fun g h => hm _ (List.mem_append_left _ (mem v m g h))
      rw [levF_snoc, levF_snoc, ← im]
      generalize levF v m = G at *
      have ep : posG v a G = posG v' a G := by
        unfold posG
        congr 1
        have : ∀ G : List Gp, (∀ g ∈ G, g.1 ∈ l) → (G.takeWhile fun g => @decide (v g.1 < v a) (Classical.propDecidable _)) = G.takeWhile fun g => @decide (v' g.1 < v' a) (Classical.propDecidable _) := fun G => by
          induction G with
          | nil => intro _; rfl
          | cons g G ihG =>
            intro h
            have e : (v g.1 < v a) = (v' g.1 < v' a) := propext (lt g.1 (h g List.mem_cons_self) a ha).1
            rw [List.takeWhile_cons, List.takeWhile_cons, ihG fun x hx => h x (List.mem_cons_of_mem _ hx)]
            have e2 : @decide (v g.1 < v a) (Classical.propDecidable _) = @decide (v' g.1 < v' a) (Classical.propDecidable _) := by
              by_cases z : v g.1 < v a
              · have z' := z
                rw [e] at z'
                simp [z, z']
              · have z' := z
                rw [e] at z'
                simp [z, z']
            simp only [e2]
        exact this G hg
      unfold insL
      rw [← ep]
      cases eg : G[posG v a G]? with
      | none => rfl
      | some gp =>
        simp only
        have gm := hg gp (List.mem_of_getElem? eg)
        by_cases z : v gp.1 = v a
        · rw [if_pos z, if_pos ((lt gp.1 gm a ha).2.mp z)]
        · rw [if_neg z, if_neg fun y => z ((lt gp.1 gm a ha).2.mpr y)]
  exact key l fun _ h => h
end SL
namespace SL
open PySem PySem.Spec PyProof.Rows L2
/-! ### d.get(k, x) of a dict of plain keys -/
end SL
namespace SL
open RR PySem
/-! ### lines as a dict by their whole times -/
theorem hyF_pl {dx dy : Int} {p q : Pc} (h : p.pl = q.pl) : hyF dx dy p = hyF dx dy q := by
  obtain ⟨h1, h2, h3, h4⟩ := pl_inj h
  unfold hyF
  rw [h1, h2, h3, h4]
/-! ### the whole times of two -/
def stS (a b : Th) : List Int := ssI (begT a.rs ++ begT b.rs)
theorem stS_mem {a b : Th} {z : Int} : z ∈ stS a b ↔ z ∈ begT a.rs ∨ z ∈ begT b.rs := by
  unfold stS; rw [ssI_mem, List.mem_append]
theorem stS_up (a b : Th) : (stS a b).Pairwise (· < ·) := ssI_up _
theorem beg_rng {a : Th} (oa : ThOk a) {z : Int} (h : z ∈ begT a.rs) : 0 ≤ z ∧ z < 2 ^ 30 := by
  rcases (begT_mem oa.up z).mp h with rfl | h
  · decide
  · obtain ⟨r, hr, rfl⟩ := List.mem_map.mp h
    exact ⟨oa.up.ge r hr, (oa.ok r hr).t⟩
theorem stS_rng {a b : Th} (oa : ThOk a) (ob : ThOk b) {z : Int} (h : z ∈ stS a b) : 0 ≤ z ∧ z < 2 ^ 30 := by
  rcases stS_mem.mp h with h | h
  · exact beg_rng oa h
  · exact beg_rng ob h
theorem stS_0 {a b : Th} (oa : ThOk a) (ob : ThOk b) : (stS a b)[0]? = some 0 := by
  have m : (0 : Int) ∈ stS a b := stS_mem.mpr (.inl ((begT_mem oa.up 0).mpr (.inl rfl)))
  have up := stS_up a b
  have r : ∀ z ∈ stS a b, 0 ≤ z := fun z hz => (stS_rng oa ob hz).1
  generalize stS a b = S at *
  cases S with
  | nil => cases m
  | cons x S =>
    rcases List.mem_cons.mp m with e | e
    · rw [← e]; rfl
    · have := (List.pairwise_cons.mp up).1 0 e
      have := r x List.mem_cons_self
      omega
theorem st_gap {S : List Int} (up : S.Pairwise (· < ·)) {i : Nat} (hi : i < S.length) {z : Int} (hz : z ∈ S) (lt : S[i] < z) : ∃ e, S[i + 1]? = some e ∧ e ≤ z := by
  obtain ⟨j, hj, rfl⟩ := List.getElem_of_mem hz
  have ij : i < j := by
    rcases Nat.lt_trichotomy i j with h | h | h
    · exact h
    · subst h; omega
    · have := List.pairwise_iff_getElem.mp up j i hj hi h; omega
  refine ⟨S[i + 1], List.getElem?_eq_getElem (by omega), ?_⟩
  rcases Nat.eq_or_lt_of_le (show i + 1 ≤ j from ij) with h | h
  · subst h; exact Int.le_refl _
  · exact Int.le_of_lt (List.pairwise_iff_getElem.mp up _ _ (by omega) hj h)
theorem hyW_keep {a b : Th} (oa : ThOk a) {dx dy c f : Int} (c0 : 0 ≤ c) (cf : c ≤ f) (h : ∀ z ∈ begT a.rs, z ≤ f → z ≤ c) : hyW dx dy a c = hyW dx dy a f := hyF_pl (same_pc oa c0 cf h)
theorem dfW_keep {a b : Th} (oa : ThOk a) (ob : ThOk b) {dx dy c f : Int} (c0 : 0 ≤ c) (cf : c ≤ f) (h : ∀ z ∈ stS a b, z ≤ f → z ≤ c) : dfW dx dy a b c = dfW dx dy a b f := by
  unfold dfW
  rw [hyW_keep (b := b) oa c0 cf fun z hz => h z (stS_mem.mpr (.inl hz)), hyW_keep (b := b) ob c0 cf fun z hz => h z (stS_mem.mpr (.inr hz))]
theorem piece_is {a b : Th} (oa : ThOk a) (ob : ThOk b) {dx dy : Int} {i : Nat} (hi : i < (stS a b).length) {w : Tm} (nw : w.Nm) (l1 : ((stS a b)[i] : RR.Rl) ≤ w.val) (l2 : ∀ e, (stS a b)[i + 1]? = some e → w.val ≤ (e : RR.Rl)) :
    hv w dx dy a - hv w dx dy b = lnV (dfW dx dy a b (stS a b)[i]) w.val := by
  rw [hv_ln]
  have fw := flo_is nw
  have zr := stS_rng oa ob (List.getElem_mem hi)
  have up := stS_up a b
  have zf : (stS a b)[i] ≤ flo w := by
    refine Int.not_lt.mp fun q => ?_
    have := (fw.lt_iff (n := (stS a b)[i])).mpr q
    grind
  by_cases c : ∀ z ∈ stS a b, z ≤ flo w → z ≤ (stS a b)[i]
  · rw [dfW_keep oa ob zr.1 zf c]
  · have : ∃ z ∈ stS a b, z ≤ flo w ∧ (stS a b)[i] < z := by
      refine Classical.byContradiction fun q => c fun z hz l => Int.not_lt.mp fun y => q ⟨z, hz, l, y⟩
    obtain ⟨z, hz, zl, lz⟩ := this
    obtain ⟨e, ee, le⟩ := st_gap up hi hz lz
    have h1 := l2 e ee
    have ef : e ≤ flo w := by omega
    have h2 : (e : RR.Rl) ≤ (flo w : RR.Rl) := by rw [cast_le]; exact ef
    have h3 := fw.1
    have e1 : w.val = (e : RR.Rl) := by grind
    have e2 : flo w = e := by
      have : (flo w : RR.Rl) ≤ (e : RR.Rl) := by grind
      rw [cast_le] at this
      omega
    have hi1 : i + 1 < (stS a b).length := (List.getElem?_eq_some_iff.mp ee).1
    have e3 : (stS a b)[i + 1] = e := (List.getElem?_eq_some_iff.mp ee).2
    have ze : (stS a b)[i] < e := by
      rw [← e3]
      exact List.pairwise_iff_getElem.mp up _ _ hi hi1 (by omega)
    have k : dfW dx dy a b (stS a b)[i] = dfW dx dy a b (e - 1) := dfW_keep oa ob zr.1 (by omega) fun x hx lx => by
      refine Int.not_lt.mp fun y => ?_
      obtain ⟨e', ee', le'⟩ := st_gap up hi hx y
      rw [ee] at ee'
      cases ee'
      omega
    rw [e2, e1, k]
    have s := df_step (a := a) (b := b) oa ob (f := e - 1) (by omega) dx dy
    rw [show e - 1 + 1 = e by omega] at s
    exact s.symm
end SL
namespace SL
open RR PySem
/-! ### stretches of meetings -/
abbrev Sx := Tm × Option Tm
def oTD : Option Tm → D
  | none => .non
  | some t => TD t
def EOk (t : Tm) : Prop := ∃ p q, t = .fr p q ∧ (Tm.fr p q).Nm ∧ 0 ≤ p ∧ Bd 130 p ∧ Bd 130 q
theorem EOk.nm {t : Tm} (e : EOk t) : t.Nm := by
  obtain ⟨p, q, rfl, n, _⟩ := e
  exact n
theorem fr_le {p q z : Int} (h : 0 < q) : (z : RR.Rl) ≤ (Tm.fr p q).val ↔ z * q ≤ p := by
  have hv := val_fr (p := p) h
  have hq := cast_pos h
  generalize (Tm.fr p q).val = v at *
  have e : (q : RR.Rl) * (v - (z : RR.Rl)) = ((p - z * q : Int) : RR.Rl) := by
    rw [cast_sub, cast_mul]; grind
  have e2 : (z * q ≤ p) ↔ ((0 : Int) : RR.Rl) ≤ ((p - z * q : Int) : RR.Rl) := by rw [cast_le]; omega
  rw [e2, ← e, cast_zero]
  constructor
  · intro l
    rcases tri (v - (z : RR.Rl)) with y | y | y
    · have := mul_posR _ _ hq y; grind
    · exact absurd l (by grind)
    · rw [y]; grind
  · intro l
    rcases tri (v - (z : RR.Rl)) with y | y | y
    · grind
    · have := mul_posR _ _ hq (show 0 < 0 - (v - (z : RR.Rl)) by grind)
      grind
    · grind
theorem EOk.nn {t : Tm} (e : EOk t) : 0 ≤ t.val := by
  obtain ⟨p, q, rfl, n, p0, _⟩ := e
  have := (fr_le (p := p) (z := 0) n.1).mpr (by omega)
  rwa [cast_zero] at this
theorem EOk.tb {t : Tm} (e : EOk t) : TB 200 t := by
  obtain ⟨p, q, rfl, n, p0, b1, b2⟩ := e
  exact ⟨b1.mono (by decide), b2.mono (by decide)⟩
theorem EOk.whole {z : Int} (h0 : 0 ≤ z) (h1 : z < 2 ^ 30) : EOk (.fr z 1) := ⟨z, 1, rfl, whole_nmR z, h0, Bd.of_range (n := 40) (by omega) (by omega) |>.mono (by decide), Bd.of_range (n := 5) (by decide) (by decide) |>.mono (by decide)⟩
def InS (m : Sx) (x : RR.Rl) : Prop := m.1.val ≤ x ∧ ∀ t, m.2 = some t → x ≤ t.val
def inPc (z : Int) (e : Option Int) (x : RR.Rl) : Prop := (z : RR.Rl) ≤ x ∧ ∀ e', e = some e' → x ≤ (e' : RR.Rl)
def SOk (m : Sx) : Prop := EOk m.1 ∧ ∀ t, m.2 = some t → EOk t ∧ m.1.val ≤ t.val
def NtOk (z : Int) (e : Option Int) (P : P3) : Option Sx → Prop
  | none => ∀ x, inPc z e x → lnV P x ≠ 0
  | some m => SOk m ∧ (∀ x, InS m x → inPc z e x) ∧ ∀ x, inPc z e x → (lnV P x = 0 ↔ InS m x)
/-! ### what is gathered of them -/
structure Cv (dx dy : Int) (a b : Th) (lim : RR.Rl → Prop) (M : List Sx) : Prop where
  ok : ∀ m ∈ M, SOk m
  tru : ∀ m ∈ M, ∀ w : Tm, w.Nm → InS m w.val → hv w dx dy a - hv w dx dy b = 0
  cov : ∀ w : Tm, w.Nm → 0 ≤ w.val → lim w.val → hv w dx dy a - hv w dx dy b = 0 → ∃ m ∈ M, InS m w.val
def limS (S : List Int) (i : Nat) (x : RR.Rl) : Prop := ∀ z, S[i]? = some z → x < (z : RR.Rl)
section
variable {a b : Th} {dx dy : Int} {i : Nat} {M : List Sx}
theorem lim_or (hi : i < (stS a b).length) {x : RR.Rl} (l : limS (stS a b) (i + 1) x) : limS (stS a b) i x ∨ inPc (stS a b)[i] (stS a b)[i + 1]? x := by
  rcases tri (x - ((stS a b)[i] : RR.Rl)) with y | y | y
  · exact .inr ⟨by grind, fun e ee => by have := l e ee; grind⟩
  · refine .inl fun z hz => ?_
    rw [List.getElem?_eq_getElem hi] at hz
    cases hz
    grind
  · exact .inr ⟨by grind, fun e ee => by have := l e ee; grind⟩
theorem Cv.start (oa : ThOk a) (ob : ThOk b) : Cv dx dy a b (limS (stS a b) 0) [] := ⟨fun m h => (nomatch h), fun m h => (nomatch h), fun w nw w0 l _ => by
  have := l 0 (stS_0 oa ob)
  rw [cast_zero] at this
  grind⟩
theorem Cv.far (c : Cv dx dy a b (limS (stS a b) i) M) (oa : ThOk a) (ob : ThOk b) (hi : i < (stS a b).length) (n : NtOk (stS a b)[i] (stS a b)[i + 1]? (dfW dx dy a b (stS a b)[i]) none) : Cv dx dy a b (limS (stS a b) (i + 1)) M := ⟨c.ok, c.tru, fun w nw w0 l h0 => by
  rcases lim_or hi l with l | l
  · exact c.cov w nw w0 l h0
  · rw [piece_is oa ob hi nw l.1 l.2] at h0
    exact absurd h0 (n w.val l)⟩
theorem Cv.new {m : Sx} (c : Cv dx dy a b (limS (stS a b) i) M) (oa : ThOk a) (ob : ThOk b) (hi : i < (stS a b).length) (n : NtOk (stS a b)[i] (stS a b)[i + 1]? (dfW dx dy a b (stS a b)[i]) (some m)) : Cv dx dy a b (limS (stS a b) (i + 1)) (M ++ [m]) := by
  obtain ⟨n1, n2, n3⟩ := n
  refine ⟨fun x hx => ?_, fun x hx w nw iw => ?_, fun w nw w0 l h0 => ?_⟩
  · rcases List.mem_append.mp hx with hx | hx
    · exact c.ok x hx
    · rw [List.mem_singleton.mp hx]; exact n1
  · rcases List.mem_append.mp hx with hx | hx
    · exact c.tru x hx w nw iw
    · rw [List.mem_singleton.mp hx] at iw
      have l := n2 _ iw
      rw [piece_is oa ob hi nw l.1 l.2]
      exact (n3 _ l).mpr iw
  · rcases lim_or hi l with l | l
    · obtain ⟨x, hx, ix⟩ := c.cov w nw w0 l h0
      exact ⟨x, List.mem_append_left _ hx, ix⟩
    · rw [piece_is oa ob hi nw l.1 l.2] at h0
      exact ⟨m, by simp, (n3 _ l).mp h0⟩
theorem Cv.join {f : Tm} {m : Sx} (c : Cv dx dy a b (limS (stS a b) i) (M ++ [(f, some m.1)])) (oa : ThOk a) (ob : ThOk b) (hi : i < (stS a b).length) (n : NtOk (stS a b)[i] (stS a b)[i + 1]? (dfW dx dy a b (stS a b)[i]) (some m)) : Cv dx dy a b (limS (stS a b) (i + 1)) (M ++ [(f, m.2)]) := by
  obtain ⟨n1, n2, n3⟩ := n
  obtain ⟨f1, f2⟩ := c.ok (f, some m.1) (by simp)
  obtain ⟨f3, f4⟩ := f2 _ rfl
  have i1 : ∀ x, InS (f, some m.1) x → InS (f, m.2) x := fun x hx => ⟨hx.1, fun t et => by
    have := hx.2 _ rfl
    have := (n1.2 t et).2
    grind⟩
  have i2 : ∀ x, InS m x → InS (f, m.2) x := fun x hx => ⟨by have := hx.1; dsimp only at *; grind, hx.2⟩
  refine ⟨fun x hx => ?_, fun x hx w nw iw => ?_, fun w nw w0 l h0 => ?_⟩
  · rcases List.mem_append.mp hx with hx | hx
    · exact c.ok x (List.mem_append_left _ hx)
    · rw [List.mem_singleton.mp hx]
      exact ⟨f1, fun t et => ⟨(n1.2 t et).1, by have := (n1.2 t et).2; dsimp only at *; grind⟩⟩
  · rcases List.mem_append.mp hx with hx | hx
    · exact c.tru x (List.mem_append_left _ hx) w nw iw
    · rw [List.mem_singleton.mp hx] at iw
      rcases tri (w.val - m.1.val) with y | y | y
      · have iw2 : InS m w.val := ⟨by grind, iw.2⟩
        have l := n2 _ iw2
        rw [piece_is oa ob hi nw l.1 l.2]
        exact (n3 _ l).mpr iw2
      · exact c.tru (f, some m.1) (by simp) w nw ⟨iw.1, fun t et => by cases et; grind⟩
      · exact c.tru (f, some m.1) (by simp) w nw ⟨iw.1, fun t et => by cases et; grind⟩
  · rcases lim_or hi l with l | l
    · obtain ⟨x, hx, ix⟩ := c.cov w nw w0 l h0
      rcases List.mem_append.mp hx with hx | hx
      · exact ⟨x, List.mem_append_left _ hx, ix⟩
      · rw [List.mem_singleton.mp hx] at ix
        exact ⟨(f, m.2), by simp, i1 _ ix⟩
    · rw [piece_is oa ob hi nw l.1 l.2] at h0
      exact ⟨(f, m.2), by simp, i2 _ ((n3 _ l).mp h0)⟩
theorem Cv.fin (c : Cv dx dy a b (limS (stS a b) (stS a b).length) M) : Cv dx dy a b (fun _ => True) M := ⟨c.ok, c.tru, fun w nw w0 _ h0 => c.cov w nw w0 (fun z hz => by rw [List.getElem?_eq_none (Nat.le_refl _)] at hz; cases hz) h0⟩
end
theorem sides_stay {dx dy : Int} {a b : Th} {M : List Sx} (c : Cv dx dy a b (fun _ => True) M) (oa : ThOk a) (ob : ThOk b) {t u : Tm} (nt : t.Nm) (nu : u.Nm) (t0 : 0 ≤ t.val) (le : t.val ≤ u.val) (cut : ∀ m ∈ M, (m.1.val < t.val ∨ u.val < m.1.val) ∧ ∀ x, m.2 = some x → x.val < t.val ∨ u.val < x.val) : sgR (hv t dx dy a - hv t dx dy b) = sgR (hv u dx dy a - hv u dx dy b) := by
  by_cases mt : ∃ w : Tm, w.Nm ∧ t.val ≤ w.val ∧ w.val ≤ u.val ∧ hv w dx dy a - hv w dx dy b = 0
  · obtain ⟨w, nw, l1, l2, h0⟩ := mt
    obtain ⟨m, hm, i1, i2⟩ := c.cov w nw (by grind) trivial h0
    obtain ⟨c1, c2⟩ := cut m hm
    have s1 : m.1.val ≤ t.val := by
      rcases c1 with c1 | c1
      · grind
      · grind
    have s2 : ∀ x, m.2 = some x → u.val ≤ x.val := fun x ex => by
      have := i2 x ex
      rcases c2 x ex with y | y
      · grind
      · grind
    rw [c.tru m hm t nt ⟨s1, fun x ex => by have := s2 x ex; grind⟩, c.tru m hm u nu ⟨by grind, s2⟩]
  · exact same_sign oa ob dx dy _ nt nu t0 le rfl fun w nw l1 l2 h0 => mt ⟨w, nw, l1, l2, h0⟩
end SL
namespace SL
open RR PySem
end SL
namespace SL
open RR PySem
/-! ### the gathered stretches on the heap -/
def FlD (x : D) : Prop := x = .non ∨ ∃ k : Int, x = .int k
def stD (m : Sx) (x y : D) : List D := [TD m.1, oTD m.2, x, y]
structure MtS (B N : Nat) (ps : List (Sx × Nat)) (h : Hs) : Prop where
  at_ : h[N]? = some (.lst (ps.map fun p => .ref p.2))
  cell : ∀ p ∈ ps, ∃ x y, h[p.2]? = some (.lst (stD p.1 x y)) ∧ FlD x ∧ FlD y
  nd : (ps.map (·.2)).Nodup
  far : ∀ p ∈ ps, B ≤ p.2 ∧ p.2 ≠ N
section
variable {B N : Nat} {ps : List (Sx × Nat)} {h h' : Hs}
theorem MtS.push {m : Sx} {x y : D} (a : MtS B N ps h) (fx : FlD x) (fy : FlD y) (lB : B ≤ h.length) : MtS B N (ps ++ [(m, h.length)]) ((h ++ [AO.lst (stD m x y)]).set N (.lst (ps.map (fun p => D.ref p.2) ++ [.ref h.length]))) := by
  have lN := get_lt a.at_
  have lt : ∀ p ∈ ps, p.2 < h.length := fun p hp => by
    obtain ⟨x, y, e, _⟩ := a.cell p hp
    exact get_lt e
  refine ⟨?_, fun p hp => ?_, ?_, fun p hp => ?_⟩
  · rw [set_at (by simp; omega), List.map_append]; rfl
  · rcases List.mem_append.mp hp with hp | hp
    · obtain ⟨x', y', e, f⟩ := a.cell p hp
      refine ⟨x', y', ?_, f⟩
      rw [List.getElem?_set_ne (fun z => (a.far p hp).2 z.symm)]
      exact get_app _ e
    · rw [List.mem_singleton.mp hp]
      refine ⟨x, y, ?_, fx, fy⟩
      show ((h ++ [AO.lst (stD m x y)]).set N _)[h.length]? = _
      rw [List.getElem?_set_ne (by omega)]
      exact get_last
  · rw [List.map_append]
    refine List.nodup_append.mpr ⟨a.nd, by simp, fun u hu v hv => ?_⟩
    obtain ⟨p, hp, rfl⟩ := List.mem_map.mp hu
    simp only [List.map_cons, List.map_nil, List.mem_singleton] at hv
    subst hv
    have := lt p hp
    omega
  · rcases List.mem_append.mp hp with hp | hp
    · exact a.far p hp
    · rw [List.mem_singleton.mp hp]
      exact ⟨lB, by show h.length ≠ N; omega⟩
theorem MtS.put {m m' : Sx} {r : Nat} {x y : D} (a : MtS B N (ps ++ [(m, r)]) h) (fx : FlD x) (fy : FlD y) : MtS B N (ps ++ [(m', r)]) (h.set r (.lst (stD m' x y))) := by
  obtain ⟨x0, y0, e0, _⟩ := a.cell (m, r) (by simp)
  have rN := (a.far (m, r) (by simp)).2
  refine ⟨?_, fun p hp => ?_, ?_, fun p hp => ?_⟩
  · rw [List.getElem?_set_ne rN, a.at_, List.map_append, List.map_append]
    rfl
  · rcases List.mem_append.mp hp with hp | hp
    · obtain ⟨x', y', e, f⟩ := a.cell p (List.mem_append_left _ hp)
      refine ⟨x', y', ?_, f⟩
      have nd := a.nd
      rw [List.map_append] at nd
      have ne := (List.nodup_append.mp nd).2.2 p.2 (List.mem_map.mpr ⟨p, hp, rfl⟩) r (by simp)
      rw [List.getElem?_set_ne (fun z => ne z.symm)]
      exact e
    · rw [List.mem_singleton.mp hp]
      exact ⟨x, y, set_at (get_lt e0), fx, fy⟩
  · have := a.nd
    rw [List.map_append] at this ⊢
    exact this
  · rcases List.mem_append.mp hp with hp | hp
    · exact a.far p (List.mem_append_left _ hp)
    · rw [List.mem_singleton.mp hp]
      exact a.far (m, r) (by simp)
theorem MtS.last {m : Sx} {r : Nat} (a : MtS B N (ps ++ [(m, r)]) h) : subG' (.ref N) (.int (-1)) h = some (.ref r, h) := by
  have e := a.at_
  rw [List.map_append, List.map_cons, List.map_nil] at e
  exact ev_last (getL_lst e)
theorem MtS.lt (a : MtS B N ps h) : N < h.length := get_lt a.at_
end
end SL
namespace SL
open RR PySem
abbrev Mx := Sx × D × D
def mtD (t : Mx) : D := .tup (stD t.1 t.2.1 t.2.2)
def FlM (t : Mx) : Prop := FlD t.2.1 ∧ FlD t.2.2
/-! ### the meetings of all -/
abbrev Ax := Str × Str × Mx
def PrM (dx dy : Int) (E : List Ax) (a b : Th) : Prop := ∃ M, Cv dx dy a b (fun _ => True) M ∧ ∀ m ∈ M, ∃ e ∈ E, e.2.2.1 = m
theorem PrM.app {dx dy : Int} {E : List Ax} {a b : Th} (p : PrM dx dy E a b) (E' : List Ax) : PrM dx dy (E ++ E') a b := by
  obtain ⟨M, c, s⟩ := p
  refine ⟨M, c, fun m hm => ?_⟩
  obtain ⟨e, he, ee⟩ := s m hm
  exact ⟨e, List.mem_append_left _ he, ee⟩
def ends (m : Sx) : List Tm := m.1 :: m.2.toList
theorem begin_ok : EOk (.fr 0 1) := .whole (by decide) (by decide)
structure CutOk (dx dy : Int) (sths : List Th) (ms : List Tm) : Prop where
  up : Up ms
  ok : ∀ t ∈ ms, EOk t
  beg : Tm.fr 0 1 ∈ ms
  len : ms.length ≤ 3301
  cov : ∀ (k l : Nat) (hk : k < sths.length) (hl : l < sths.length), k < l → ∃ M, Cv dx dy sths[k] sths[l] (fun _ => True) M ∧ ∀ m ∈ M, m.1 ∈ ms ∧ ∀ t, m.2 = some t → t ∈ ms
end SL
namespace SL
open RR PySem
/-! ### answers: tuples of tuples of names -/
abbrev Gn := List (List Str)
def gnD (a : Gn) : D := .tup (a.map fun g => .tup (g.map D.str))
theorem eqvs_dec {α : Type} {f : α → PyData} (hf : ∀ x y : α, PyData.eqv (f x) (f y) = true ↔ x = y) : ∀ xs ys : List α, PyData.eqvAll (xs.map f) (ys.map f) = true ↔ xs = ys
  | [], [] => ⟨fun _ => rfl, fun _ => rfl⟩
  | [], y :: ys => ⟨fun z => (nomatch z), fun z => (nomatch z)⟩
  | x :: xs, [] => ⟨fun z => (nomatch z), fun z => (nomatch z)⟩
  | x :: xs, y :: ys => by
    show (PyData.eqv (f x) (f y) && PyData.eqvAll (xs.map f) (ys.map f)) = true ↔ _
    rw [Bool.and_eq_true, hf, eqvs_dec hf xs ys, List.cons.injEq]
theorem eqv_str (s t : Str) : PyData.eqv (.str s) (.str t) = true ↔ s = t := by
  show (s == t) = true ↔ _
  simp
noncomputable def LN (dx dy : Int) (sths : List Th) (t : Tm) : Gn := (levN (hv t dx dy) sths).map fun g => g.map Th.nm
theorem levN_few {v : Th → RR.Rl} {l : List Th} (ok : ∀ a ∈ l, ThOk a) : (levN v l).length ≤ l.length ∧ ∀ g ∈ levN v l, g.length ≤ l.length := by
  have go := levF_ok (v := v) ok
  refine ⟨by unfold levN; rw [List.length_map]; exact go.len, fun g hg => ?_⟩
  obtain ⟨gp, h, rfl⟩ := List.mem_map.mp hg
  exact (go.ok gp h).2
/-! ### rows of a story -/
abbrev R3 := Tm × Gn × Gn
def r3D (r : R3) : D := .tup [TD r.1, gnD r.2.1, gnD r.2.2]
structure StR (X : Nat → R3) (n : Nat) (J : List Nat) : Prop where
  up : J.Pairwise (· < ·)
  lt : ∀ j ∈ J, j < n
  fst : 0 < n → J[0]? = some 0
  skip : ∀ i, i < n → ∃ j ∈ J, j ≤ i ∧ (∀ j' ∈ J, j' ≤ i → j' ≤ j) ∧ ∀ m, j < m → m ≤ i → (X m).2.1 = (X j).2.2 ∧ (X m).2.2 = (X j).2.2
  new : ∀ k (h : k + 1 < J.length), (X J[k + 1]).2.1 ≠ (X (J[k]'(Nat.lt_of_succ_lt h))).2.2 ∨ (X J[k + 1]).2.2 ≠ (X (J[k]'(Nat.lt_of_succ_lt h))).2.2
theorem StR.nil (X : Nat → R3) : StR X 0 [] := ⟨.nil, fun j h => (nomatch h), fun h => absurd h (Nat.lt_irrefl 0), fun i h => absurd h (Nat.not_lt_zero i), fun k h => absurd h (Nat.not_lt_zero _)⟩
theorem StR.len {X : Nat → R3} {n : Nat} {J : List Nat} (s : StR X n J) : J.length ≤ n := by
  have nd : J.Nodup := s.up.imp fun l => Nat.ne_of_lt l
  have sub : J ⊆ List.range n := fun j hj => List.mem_range.mpr (s.lt j hj)
  have := List.Nodup.length_le_of_subset nd sub
  rwa [List.length_range] at this
theorem StR.one (X : Nat → R3) : StR X 1 [0] := by
  refine ⟨by simp, fun j h => by simp at h; omega, fun _ => rfl, fun i hi => ⟨0, by simp, by omega, fun j' h _ => by simp at h; omega, fun m m0 m1 => by omega⟩, fun k h => absurd h (by simp)⟩
theorem StR.push {X : Nat → R3} {n j : Nat} {J : List Nat} (s : StR X n (J ++ [j])) (h : (X n).2.1 ≠ (X j).2.2 ∨ (X n).2.2 ≠ (X j).2.2) : StR X (n + 1) (J ++ [j] ++ [n]) := by
  have up' : (J ++ [j] ++ [n]).Pairwise (· < ·) := List.pairwise_append.mpr ⟨s.up, List.pairwise_singleton _ _, fun x hx y hy => by rw [List.mem_singleton.mp hy]; exact s.lt x hx⟩
  refine ⟨up', fun x hx => ?_, fun _ => ?_, fun i hi => ?_, fun k hk => ?_⟩
  · rcases List.mem_append.mp hx with hx | hx
    · have := s.lt x hx; omega
    · rw [List.mem_singleton.mp hx]; omega
  · have := s.lt j (by simp)
    rw [List.getElem?_append_left (by simp)]
    exact s.fst (by omega)
  · rcases Nat.lt_or_ge i n with l | l
    · obtain ⟨x, hx, x1, x2, x3⟩ := s.skip i l
      refine ⟨x, List.mem_append_left _ hx, x1, fun y hy ly => ?_, x3⟩
      rcases List.mem_append.mp hy with hy | hy
      · exact x2 y hy ly
      · rw [List.mem_singleton.mp hy] at ly; omega
    · obtain rfl : i = n := by omega
      refine ⟨i, by simp, Nat.le_refl _, fun y _ ly => ly, fun m m0 m1 => by omega⟩
  · have hl : (J ++ [j] ++ [n]).length = J.length + 2 := by simp
    rcases Nat.lt_or_ge (k + 1) (J ++ [j]).length with l | l
    · have h1 : (J ++ [j] ++ [n])[k + 1] = (J ++ [j])[k + 1] := List.getElem_append_left l
      have h2 : (J ++ [j] ++ [n])[k]'(by omega) = (J ++ [j])[k]'(by omega) := List.getElem_append_left (by omega)
      rw [h1, h2]
      exact s.new k l
    · have hk2 : k = J.length := by simp at l; omega
      subst hk2
      have h1 : (J ++ [j] ++ [n])[J.length + 1] = n := by
        rw [List.getElem_append_right (by simp)]; simp
      have h2 : (J ++ [j] ++ [n])[J.length]'(by omega) = j := by
        rw [List.getElem_append_left (by simp)]; simp
      rw [h1, h2]
      exact h
theorem StR.drop {X : Nat → R3} {n j : Nat} {J : List Nat} (s : StR X n (J ++ [j])) (h1 : (X n).2.1 = (X j).2.2) (h2 : (X n).2.2 = (X j).2.2) : StR X (n + 1) (J ++ [j]) := by
  have jn := s.lt j (by simp)
  have mx : ∀ y ∈ J ++ [j], y ≤ j := fun y hy => by
    rcases List.mem_append.mp hy with hy | hy
    · exact Nat.le_of_lt ((List.pairwise_append.mp s.up).2.2 y hy j (by simp))
    · rw [List.mem_singleton.mp hy]; exact Nat.le_refl _
  refine ⟨s.up, fun x hx => by have := s.lt x hx; omega, fun _ => s.fst (by omega), fun i hi => ?_, s.new⟩
  rcases Nat.lt_or_ge i n with l | l
  · exact s.skip i l
  · obtain rfl : i = n := by omega
    obtain ⟨x, hx, x1, x2, x3⟩ := s.skip (i - 1) (by omega)
    have xj : x = j := by
      have := mx x hx
      have := x2 j (by simp) (by omega)
      omega
    subst xj
    refine ⟨x, hx, by omega, fun y hy _ => mx y hy, fun m m0 m1 => ?_⟩
    rcases Nat.lt_or_ge m i with l2 | l2
    · exact x3 m m0 (by omega)
    · obtain rfl : m = i := by omega
      exact ⟨h1, h2⟩
end SL
namespace SL
open RR PySem
end SL
namespace SL
open RR PySem
theorem sg_sym (x : RR.Rl) : sgR (0 - x) = -sgR x := by
  rcases tri x with y | y | y
  · rw [sg_pos y, sg_neg (by grind)]
  · rw [sg_neg y, sg_pos (by grind)]; rfl
  · rw [y, show (0 : RR.Rl) - 0 = 0 by grind, sg_zero]; rfl
section
variable {dx dy : Int} {sths : List Th} {ms : List Tm}
theorem CutOk.le (c : CutOk dx dy sths ms) {i j : Nat} (hi : i < ms.length) (hj : j < ms.length) (l : i ≤ j) : ms[i].val ≤ ms[j].val := by
  rcases Nat.eq_or_lt_of_le l with z | z
  · subst z; grind
  · have := List.pairwise_iff_getElem.mp c.up i j hi hj z; grind
theorem CutOk.first (c : CutOk dx dy sths ms) : ∃ h : 0 < ms.length, ms[0] = .fr 0 1 := by
  have h0 : 0 < ms.length := List.length_pos_of_mem c.beg
  obtain ⟨j, hj, ej⟩ := List.getElem_of_mem c.beg
  have l := c.le h0 hj (Nat.zero_le _)
  rw [ej, val_1, cast_zero] at l
  have ok := c.ok _ (List.getElem_mem h0)
  have := ok.nn
  exact ⟨h0, val_inj ok.nm begin_ok.nm (by rw [val_1, cast_zero]; grind)⟩
theorem CutOk.pos (c : CutOk dx dy sths ms) {x : RR.Rl} (x0 : 0 ≤ x) : ∃ (i : Nat) (h : i < ms.length), ms[i].val ≤ x ∧ ∀ v, ms[i + 1]? = some v → x < v.val := by
  obtain ⟨h0, e0⟩ := c.first
  have key : ∀ (k i : Nat) (h : i < ms.length), ms.length - i = k → ms[i].val ≤ x → ∃ (i : Nat) (h : i < ms.length), ms[i].val ≤ x ∧ ∀ v, ms[i + 1]? = some v → x < v.val := by
    intro k
    induction k with
    | zero => intro i h e; omega
    | succ k ih =>
      intro i h e l
      rcases Nat.lt_or_ge (i + 1) ms.length with z | z
      · by_cases q : ms[i + 1].val ≤ x
        · exact ih (i + 1) z (by omega) q
        · refine ⟨i, h, l, fun v hv => ?_⟩
          rw [List.getElem?_eq_getElem z] at hv
          cases hv
          rcases tri (ms[i + 1].val - x) with y | y | y
          · grind
          · exact absurd (by grind) q
          · exact absurd (by grind) q
      · exact ⟨i, h, l, fun v hv => by rw [List.getElem?_eq_none z] at hv; cases hv⟩
  exact key _ 0 h0 rfl (by rw [e0, val_1, cast_zero]; exact x0)
theorem CutOk.stay (c : CutOk dx dy sths ms) (ok : ∀ a ∈ sths, ThOk a) {i : Nat} (hi : i < ms.length) {t u : Tm} (nt : t.Nm) (nu : u.Nm) (l1 : ms[i].val < t.val) (l2 : ms[i].val < u.val) (r1 : ∀ v, ms[i + 1]? = some v → t.val < v.val) (r2 : ∀ v, ms[i + 1]? = some v → u.val < v.val) : LN dx dy sths t = LN dx dy sths u := by
  have nn := (c.ok _ (List.getElem_mem hi)).nn
  have half : ∀ {t u : Tm}, t.Nm → u.Nm → ms[i].val < t.val → (∀ v, ms[i + 1]? = some v → u.val < v.val) → t.val ≤ u.val → ∀ (k l : Nat) (hk : k < sths.length) (hl : l < sths.length), k < l → sgR (hv t dx dy sths[k] - hv t dx dy sths[l]) = sgR (hv u dx dy sths[k] - hv u dx dy sths[l]) := fun {t u} nt nu l1 r2 le k l hk hl lt => by
    obtain ⟨M, cv, inM⟩ := c.cov k l hk hl lt
    have side : ∀ x ∈ ms, x.val < t.val ∨ u.val < x.val := fun x hx => by
      obtain ⟨j, hj, rfl⟩ := List.getElem_of_mem hx
      rcases Nat.lt_or_ge i j with z | z
      · have hi1 : i + 1 < ms.length := by omega
        have := r2 _ (List.getElem?_eq_getElem hi1)
        have := c.le hi1 hj z
        exact .inr (by grind)
      · have := c.le hj hi z
        exact .inl (by grind)
    exact sides_stay cv (ok _ (List.getElem_mem hk)) (ok _ (List.getElem_mem hl)) nt nu (by grind) le fun m hm => ⟨side _ (inM m hm).1, fun x ex => side _ ((inM m hm).2 x ex)⟩
  have full : ∀ {t u : Tm}, t.Nm → u.Nm → ms[i].val < t.val → (∀ v, ms[i + 1]? = some v → u.val < v.val) → t.val ≤ u.val → LN dx dy sths t = LN dx dy sths u := fun {t u} nt nu l1 r2 le => by
    unfold LN levN
    rw [lev_congr (v := hv t dx dy) (v' := hv u dx dy) (l := sths)]
    intro a ha b hb
    obtain ⟨k, hk, rfl⟩ := List.getElem_of_mem ha
    obtain ⟨l, hl, rfl⟩ := List.getElem_of_mem hb
    rcases Nat.lt_trichotomy k l with z | z | z
    · exact half nt nu l1 r2 le k l hk hl z
    · subst z
      rw [show ∀ x : RR.Rl, x - x = 0 from fun x => by grind, show ∀ x : RR.Rl, x - x = 0 from fun x => by grind]
    · have := half nt nu l1 r2 le l k hl hk z
      have e : ∀ x y : RR.Rl, x - y = 0 - (y - x) := fun x y => by grind
      rw [e (hv t dx dy sths[k]), e (hv u dx dy sths[k]), sg_sym, sg_sym, this]
  rcases tri (u.val - t.val) with y | y | y
  · exact full nt nu l1 r2 (by grind)
  · exact (full nu nt l2 r1 (by grind)).symm
  · exact full nt nu l1 r2 (by grind)
end
structure CutSt (dx dy : Int) (sths : List Th) (ms : List Tm) : Prop where
  up : Up ms
  ok : ∀ t ∈ ms, EOk t
  beg : Tm.fr 0 1 ∈ ms
  len : ms.length ≤ 5000
  stay : ∀ {i : Nat} (_ : i < ms.length) {t u : Tm}, t.Nm → u.Nm → ms[i].val < t.val → ms[i].val < u.val → (∀ v, ms[i + 1]? = some v → t.val < v.val) → (∀ v, ms[i + 1]? = some v → u.val < v.val) → LN dx dy sths t = LN dx dy sths u
theorem CutOk.st {dx dy : Int} {sths : List Th} {ms : List Tm} (c : CutOk dx dy sths ms) (ok : ∀ a ∈ sths, ThOk a) : CutSt dx dy sths ms := ⟨c.up, c.ok, c.beg, Nat.le_trans c.len (by decide), fun {_} hi {_ _} nt nu l1 l2 r1 r2 => CutOk.stay c ok hi nt nu l1 l2 r1 r2⟩
section
variable {dx dy : Int} {sths : List Th} {ms : List Tm}
theorem CutSt.le (c : CutSt dx dy sths ms) {i j : Nat} (hi : i < ms.length) (hj : j < ms.length) (l : i ≤ j) : ms[i].val ≤ ms[j].val := by
  rcases Nat.eq_or_lt_of_le l with z | z
  · subst z; grind
  · have := List.pairwise_iff_getElem.mp c.up i j hi hj z; grind
theorem CutSt.first (c : CutSt dx dy sths ms) : ∃ h : 0 < ms.length, ms[0] = .fr 0 1 := by
  have h0 : 0 < ms.length := List.length_pos_of_mem c.beg
  obtain ⟨j, hj, ej⟩ := List.getElem_of_mem c.beg
  have l := c.le h0 hj (Nat.zero_le _)
  rw [ej, val_1, cast_zero] at l
  have ok := c.ok _ (List.getElem_mem h0)
  have := ok.nn
  exact ⟨h0, val_inj ok.nm begin_ok.nm (by rw [val_1, cast_zero]; grind)⟩
theorem CutSt.pos (c : CutSt dx dy sths ms) {x : RR.Rl} (x0 : 0 ≤ x) : ∃ (i : Nat) (h : i < ms.length), ms[i].val ≤ x ∧ ∀ v, ms[i + 1]? = some v → x < v.val := by
  obtain ⟨h0, e0⟩ := c.first
  have key : ∀ (k i : Nat) (h : i < ms.length), ms.length - i = k → ms[i].val ≤ x → ∃ (i : Nat) (h : i < ms.length), ms[i].val ≤ x ∧ ∀ v, ms[i + 1]? = some v → x < v.val := by
    intro k
    induction k with
    | zero => intro i h e; omega
    | succ k ih =>
      intro i h e l
      rcases Nat.lt_or_ge (i + 1) ms.length with z | z
      · by_cases q : ms[i + 1].val ≤ x
        · exact ih (i + 1) z (by omega) q
        · refine ⟨i, h, l, fun v hv => ?_⟩
          rw [List.getElem?_eq_getElem z] at hv
          cases hv
          rcases tri (ms[i + 1].val - x) with y | y | y
          · grind
          · exact absurd (by grind) q
          · exact absurd (by grind) q
      · exact ⟨i, h, l, fun v hv => by rw [List.getElem?_eq_none z] at hv; cases hv⟩
  exact key _ 0 h0 rfl (by rw [e0, val_1, cast_zero]; exact x0)
end
structure StoryOk (dx dy : Int) (sths : List Th) (rs : List R3) : Prop where
  len : 0 < rs.length ∧ rs.length ≤ 5000
  fst : (rs[0]'len.1).1 = .fr 0 1
  ok : ∀ r ∈ rs, EOk r.1
  up : rs.Pairwise fun r s => r.1.val < s.1.val
  at_ : ∀ r ∈ rs, r.2.1 = LN dx dy sths r.1
  beh : ∀ k (h : k < rs.length) (t : Tm), t.Nm → (rs[k]).1.val < t.val → (∀ r', rs[k + 1]? = some r' → t.val < r'.1.val) → LN dx dy sths t = (rs[k]).2.2
  new : ∀ k (h : k + 1 < rs.length), (rs[k + 1]).2.1 ≠ (rs[k]'(Nat.lt_of_succ_lt h)).2.2 ∨ (rs[k + 1]).2.2 ≠ (rs[k]'(Nat.lt_of_succ_lt h)).2.2
end SL
namespace SL
open RR PySem
/-! ### times strictly between two -/
end SL
namespace SL
open RR PySem
end SL
namespace SL
open RR PySem
/-! ### heights at fractions, as the laws tell them -/
def scR (b : Int) (r : Row) : Row := ⟨b * r.t, r.u, r.v⟩
def hFr (x : Th) (dx dy k b : Int) : Int := lawX (fun r => dx * r.u + dy * r.v) (b * (dx * x.x + dy * x.y)) (x.rs.map (scR b)) k
theorem scR_up {b : Int} (b0 : 0 < b) : ∀ {rs : List Row} {a : Int}, Rising a rs → Rising (b * a) (rs.map (scR b))
  | [], _, _ => trivial
  | r :: rs, a, ⟨h1, h2⟩ => by
    refine ⟨Int.mul_le_mul_of_nonneg_left h1 (Int.le_of_lt b0), ?_⟩
    refine (scR_up b0 h2).mono ?_
    show b * r.t + 1 ≤ b * (r.t + 1)
    rw [Int.mul_add]
    omega
theorem posF_lin {dx dy : Int} : ∀ {rs : List Row} {x y s u v T : Int}, posF (fun r => dx * r.u + dy * r.v) (dx * x + dy * y) s (dx * u + dy * v) rs T = dx * posF (·.u) x s u rs T + dy * posF (·.v) y s v rs T
  | [], x, y, s, u, v, T => by simp only [posF]; grind
  | r :: rs, x, y, s, u, v, T => by
    simp only [posF]
    split
    · grind
    · rw [← posF_lin (rs := rs)]
      congr 1
      grind
theorem spF_lin {dx dy : Int} : ∀ {rs : List Row} {u v T : Int}, spF (fun r => dx * r.u + dy * r.v) (dx * u + dy * v) rs T = dx * spF (·.u) u rs T + dy * spF (·.v) v rs T
  | [], u, v, T => rfl
  | r :: rs, u, v, T => by
    simp only [spF]
    split
    · rfl
    · exact spF_lin (rs := rs)
theorem posF_scale {f : Row → Int} (fs : ∀ b r, f (scR b r) = f r) {b k T : Int} (hT : ∀ t : Int, T < t ↔ k < b * t) : ∀ {rs : List Row} {x s u : Int}, posF f (b * x) (b * s) u (rs.map (scR b)) k = b * (posF f x s u rs T - spF f u rs T * T) + k * spF f u rs T
  | [], x, s, u => by simp only [List.map_nil, posF, spF]; grind
  | r :: rs, x, s, u => by
    simp only [List.map_cons, posF, spF, fs]
    have e : (k < (scR b r).t) = (T < r.t) := propext (hT r.t).symm
    simp only [e]
    split
    · grind
    · rw [← posF_scale fs hT (rs := rs)]
      congr 1
      show b * x + u * (b * r.t - b * s) = _
      grind
theorem flo_fr_lt {k b : Int} (b0 : 0 < b) (t : Int) : k.fdiv b < t ↔ k < b * t := by
  rw [Int.fdiv_eq_ediv_of_nonneg _ (Int.le_of_lt b0), Int.mul_comm b t]
  exact Int.ediv_lt_iff_lt_mul b0
theorem flo_is_fr {k b : Int} (nm : (Tm.fr k b).Nm) : flo (.fr k b) = k.fdiv b := by
  have hf := flo_is nm
  have key : ∀ n : Int, flo (.fr k b) < n ↔ k.fdiv b < n := fun n => by
    rw [← hf.lt_iff (n := n), fr_lt nm.1, flo_fr_lt nm.1, Int.mul_comm]
  have h1 := key (flo (.fr k b) + 1)
  have h2 := key (k.fdiv b + 1)
  omega
theorem hFr_eq {x : Th} {dx dy k b : Int} (oa : ThOk x) (nm : (Tm.fr k b).Nm) (k0 : 0 ≤ k) : hFr x dx dy k b = b * (hyT (.fr k b) dx dy x).1 + k * (hyT (.fr k b) dx dy x).2.1 := by
  have b0 := nm.1
  have up := scR_up b0 oa.up
  rw [Int.mul_zero] at up
  unfold hFr
  rw [lawX_at _ up k0]
  have e := posF_scale (f := fun r => dx * r.u + dy * r.v) (fun _ _ => rfl) (flo_fr_lt (k := k) b0) (rs := x.rs) (x := dx * x.x + dy * x.y) (s := 0) (u := 0)
  rw [Int.mul_zero] at e
  rw [e]
  have e1 := posF_lin (dx := dx) (dy := dy) (rs := x.rs) (x := x.x) (y := x.y) (s := 0) (u := 0) (v := 0) (T := k.fdiv b)
  have e2 := spF_lin (dx := dx) (dy := dy) (rs := x.rs) (u := 0) (v := 0) (T := k.fdiv b)
  simp only [Int.mul_zero, Int.add_zero] at e1 e2
  rw [e1, e2]
  unfold hyT hyF linP pcT pcAt
  rw [flo_is_fr nm]
  simp only
  generalize posF (·.u) x.x 0 0 x.rs (k.fdiv b) = p1
  generalize posF (·.v) x.y 0 0 x.rs (k.fdiv b) = p2
  generalize spF (·.u) 0 x.rs (k.fdiv b) = s1
  generalize spF (·.v) 0 x.rs (k.fdiv b) = s2
  generalize k.fdiv b = f
  grind
theorem hFr_val {x : Th} {dx dy k b : Int} (oa : ThOk x) (nm : (Tm.fr k b).Nm) (k0 : 0 ≤ k) : ((hFr x dx dy k b : Int) : RR.Rl) = (b : RR.Rl) * hv (.fr k b) dx dy x := by
  rw [hFr_eq oa nm k0]
  have e := val_fr (p := k) nm.1
  unfold hv pv
  rw [cast_add, cast_mul, cast_mul, ← e]
  grind
/-! ### the times at which two heights come to be alike, as the laws tell them -/
theorem nm_whole (T : Int) : (Tm.fr T 1).Nm := ⟨by decide, by rw [Int.gcd_one_right]⟩
theorem nn_fr {k b : Int} (b0 : 0 < b) (k0 : 0 ≤ k) : 0 ≤ (Tm.fr k b).val := by
  have e := val_fr (p := k) b0
  have h1 := cast_pos b0
  rcases tri (Tm.fr k b).val with y | y | y
  · grind
  · exfalso
    have h2 : 0 < (b : RR.Rl) * (0 - (Tm.fr k b).val) := mul_pos h1 (by grind)
    have h3 : (k : RR.Rl) < 0 := by grind
    have := (cast_lt (i := k) (j := 0)).mp (by rw [cast_zero]; exact h3)
    omega
  · grind
structure FrOk (p : Int × Int) : Prop where
  nm : (Tm.fr p.1 p.2).Nm
  nn : 0 ≤ p.1
  b1 : Bd 130 p.1
  b2 : Bd 90 p.2
def hWd (x y : Th) (dx dy T : Int) : Int := hFr x dx dy T 1 - hFr y dx dy T 1
def farE (T : Int) : Option Int → Int
  | some n => n - T
  | none => 1
def CrC (x y : Th) (dx dy T : Int) (e : Option Int) : Prop := hWd x y dx dy T * hWd x y dx dy (T + farE T e) < 0 ∨ (e = none ∧ hWd x y dx dy T ≠ 0 ∧ (hWd x y dx dy (T + farE T e)).natAbs < (hWd x y dx dy T).natAbs)
def CrP (x y : Th) (dx dy T : Int) (e : Option Int) (p : Int × Int) : Prop :=
  p.1 * ((hWd x y dx dy T - hWd x y dx dy (T + farE T e)).natAbs : Int) = p.2 * (T * ((hWd x y dx dy T - hWd x y dx dy (T + farE T e)).natAbs : Int) + farE T e * ((hWd x y dx dy T).natAbs : Int))
def brk (x y : Th) : List Int := ssI (0 :: (x.rs ++ y.rs).map (·.t))
structure CrUp (x y : Th) (dx dy : Int) (tt : List Int) (n : Nat) (ts : List (Int × Int)) : Prop where
  snd : ∀ p ∈ ts, ∃ (j : Nat) (hj : j < tt.length), j < n ∧ CrC x y dx dy tt[j] tt[j + 1]? ∧ CrP x y dx dy tt[j] tt[j + 1]? p
  cpl : ∀ (j : Nat) (hj : j < tt.length), j < n → CrC x y dx dy tt[j] tt[j + 1]? → ∃ p ∈ ts, CrP x y dx dy tt[j] tt[j + 1]? p
  one : ∃ J : List Nat, J.Pairwise (· < ·) ∧ J.length = ts.length ∧ ∀ j ∈ J, j < n ∧ ∃ hj : j < tt.length, CrC x y dx dy tt[j] tt[j + 1]?
theorem CrUp.nil {x y : Th} {dx dy : Int} {tt : List Int} : CrUp x y dx dy tt 0 [] := ⟨fun p h => (nomatch h), fun j _ h => absurd h (Nat.not_lt_zero _), [], .nil, rfl, fun j h => (nomatch h)⟩
theorem CrUp.skip {x y : Th} {dx dy : Int} {tt : List Int} {n : Nat} {ts : List (Int × Int)} (c : CrUp x y dx dy tt n ts) (hn : n < tt.length) (no : ¬ CrC x y dx dy tt[n] tt[n + 1]?) : CrUp x y dx dy tt (n + 1) ts :=
  ⟨fun p hp => by obtain ⟨j, hj, l, r⟩ := c.snd p hp; exact ⟨j, hj, by omega, r⟩, fun j hj l cc => by
    by_cases e : j = n
    · subst e; exact absurd cc no
    · exact c.cpl j hj (by omega) cc, by
    obtain ⟨J, h1, h2, h3⟩ := c.one
    exact ⟨J, h1, h2, fun j hj => ⟨by have := (h3 j hj).1; omega, (h3 j hj).2⟩⟩⟩
theorem CrUp.put {x y : Th} {dx dy : Int} {tt : List Int} {n : Nat} {ts : List (Int × Int)} {p : Int × Int} (c : CrUp x y dx dy tt n ts) (hn : n < tt.length) (cc : CrC x y dx dy tt[n] tt[n + 1]?) (cp : CrP x y dx dy tt[n] tt[n + 1]? p) : CrUp x y dx dy tt (n + 1) (ts ++ [p]) :=
  ⟨fun q hq => by
    rcases List.mem_append.mp hq with hq | hq
    · obtain ⟨j, hj, l, r⟩ := c.snd q hq; exact ⟨j, hj, by omega, r⟩
    · rw [List.mem_singleton.mp hq]; exact ⟨n, hn, by omega, cc, cp⟩, fun j hj l cj => by
    by_cases e : j = n
    · subst e; exact ⟨p, List.mem_append_right _ (List.mem_singleton.mpr rfl), cp⟩
    · obtain ⟨q, hq, z⟩ := c.cpl j hj (by omega) cj
      exact ⟨q, List.mem_append_left _ hq, z⟩, by
    obtain ⟨J, h1, h2, h3⟩ := c.one
    refine ⟨J ++ [n], List.pairwise_append.mpr ⟨h1, by simp, fun a ha b hb => by rw [List.mem_singleton.mp hb]; exact (h3 a ha).1⟩, by simp [h2], fun j hj => ?_⟩
    rcases List.mem_append.mp hj with hj | hj
    · exact ⟨by have := (h3 j hj).1; omega, (h3 j hj).2⟩
    · rw [List.mem_singleton.mp hj]
      exact ⟨by omega, hn, cc⟩⟩
def CrAll (x y : Th) (dx dy : Int) (ts : List (Int × Int)) : Prop := CrUp x y dx dy (brk x y) (brk x y).length ts
end SL
namespace SL
open PySem PySem.Spec PyProof.Rows L2
/-! ### lists sorted by a key that a def of the text gives -/
section
variable {prog : Program} {w : World} {A : Around} {E : Value → Shared → Prop} {s : Shared} {a kS : Addr} {vs : List Value} {e1 : Nat} {P : PySem.Fin → Shared → Prop} {kz : List PyData} {f : Value} {J : List Value → Shared → Prop}
structure Turns (prog : Program) (w : World) (A : Around) (a kS : Addr) (vs : List Value) (kz : List PyData) (f : Value) (J : List Value → Shared → Prop) : Prop where
  turn : ∀ ks v s', vs[ks.length]? = some v → J ks s' → (∃ o, s'.heap.get? a = some o) → (∃ o, s'.heap.get? kS = some o) →
    wpAny (model prog w) A (call f [v]) (fun u s'' => J (ks ++ [u]) s'' ∧ (∀ o, s'.heap.get? kS = some o → s''.heap.get? kS = some o) ∧ ∀ o, s'.heap.get? a = some o → s''.heap.get? a = some o) (fun _ _ => False) s'
  upd : ∀ ks s' g tk, J ks s' → (∀ b o, b ≠ kS → b ≠ a → s'.heap.get? b = some o → g.get? b = some o) → J ks { s' with heap := g, toks := tk }
  rd : ∀ ks s', J ks s' → ks.length = vs.length → PySem.W.EachIs (fun v k => ∃ as, Reads s'.heap v k as) ks kz
end
/-! ### dict(list of pairs) whose keys are tuples, any tuples -/
section
variable {X : Cx}
end
/-! ### sorted(dict, key=f) -/
theorem tpL_ext {K : PySem.W.Frag} {H H' : Hp} {a : Addr} {xs : List V} (e : ∀ b o, H b = some o → H' b = some o) : TpL K H a xs → TpL K H' a xs
  | .inl x => .inl (e _ _ x)
  | .inr x => .inr x
section
variable {X : Cx} {k : Nat} {fa : Addr} {fd : FuncData} {ps : List Str} {g : GC}
end
/-! on plain data -/
theorem Ex.ext {α : Al} {H H' : Hp} {h : Hs} (e : ∀ b o, H b = some o → H' b = some o) : Ex α H h α H' h where
  le := Nat.le_refl _
  al := fun _ _ => rfl
  kd := fun _ _ m => m
  lk := fun _ _ m => m
  tups := fun b xs z => e _ _ z
  frzs := fun b o u z => e _ _ z
  dom := fun b z => by
    cases q : H b with
    | none => rfl
    | some o => rw [e _ _ q] at z; cases z
  new := fun n l l' => absurd (Nat.lt_of_lt_of_le l' l) (Nat.lt_irrefl _)
  fr := fun b o z _ => e _ _ z
theorem Mt.ext {K : PySem.W.Frag} {α : Al} {H H' : Hp} {h : Hs} (m : Mt K α H h) (e : ∀ b o, H b = some o → H' b = some o) : Mt K α H' h := m.stay (Ex.ext e) fun n u => by
  obtain ⟨o, z, _⟩ := m.some_of u
  rw [z]; exact e _ _ z
section
variable {X : Cx} {e : Expr} {p1 p2 p3 p4 p5 kp : Pos} {x : Str} {m : MA} {g : GC} {k : Nat}
end
end SL
namespace SL
open PySem PySem.Spec PyProof.Rows L2
/-! ### sorted of any list of data that are alike -/
section
variable {X : Cx}
end
end SL
namespace SL
open RR PySem
/-! ### fractions sorted by a key, each once -/
/-! the key: so many times, cut -/
def keyT (p : Int × Int) : Int := (p.1 * 1000000000000000000000000000000000000000000000000000000000000).fdiv p.2
noncomputable def vF (p : Int × Int) : RR.Rl := (Tm.fr p.1 p.2).val
theorem vF_lt {p q : Int × Int} (hp : 0 < p.2) (hq : 0 < q.2) : vF p < vF q ↔ p.1 * q.2 < q.1 * p.2 := by
  have e1 := val_fr (p := p.1) hp
  have e2 := val_fr (p := q.1) hq
  have c1 := cast_pos hp
  have c2 := cast_pos hq
  have e3 : ((p.1 * q.2 : Int) : RR.Rl) = (p.2 : RR.Rl) * (q.2 : RR.Rl) * vF p := by rw [cast_mul, ← e1]; unfold vF; grind
  have e4 : ((q.1 * p.2 : Int) : RR.Rl) = (p.2 : RR.Rl) * (q.2 : RR.Rl) * vF q := by rw [cast_mul, ← e2]; unfold vF; grind
  have c3 : 0 < (p.2 : RR.Rl) * (q.2 : RR.Rl) := mul_pos c1 c2
  rw [← cast_lt, e3, e4]
  generalize (p.2 : RR.Rl) * (q.2 : RR.Rl) = m at *
  generalize vF p = a at *
  generalize vF q = b at *
  constructor
  · intro z
    have := mul_pos c3 (show 0 < b - a by grind)
    grind
  · intro z
    rcases tri (b - a) with y | y | y
    · grind
    · have := mul_pos c3 (show 0 < 0 - (b - a) by grind)
      grind
    · have : b = a := by grind
      subst this
      grind
theorem key_lt {p q : Int × Int} (hp : FrOk p) (hq : FrOk q) (ne : p ≠ q) (k : keyT p ≤ keyT q) : vF p < vF q := by
  have p2 := hp.nm.1
  have q2 := hq.nm.1
  rw [vF_lt p2 q2]
  rcases Int.lt_trichotomy (p.1 * q.2) (q.1 * p.2) with z | z | z
  · exact z
  · exfalso
    refine ne ?_
    have e1 := hp.nm
    have e2 := hq.nm
    have := fr_inj e1 e2 z
    exact Prod.ext this.1 this.2
  · exfalso
    have b1 : p.2.natAbs < 2 ^ 90 := hp.b2
    have b2 : q.2.natAbs < 2 ^ 90 := hq.b2
    have h1 : p.2 * q.2 ≤ 2 ^ 90 * 2 ^ 90 := Int.mul_le_mul (by omega) (by omega) (by omega) (by decide)
    have h2 : (2 : Int) ^ 90 * 2 ^ 90 ≤ 1000000000000000000000000000000000000000000000000000000000000 := by decide
    obtain ⟨E, hE⟩ : ∃ E : Int, E = 1000000000000000000000000000000000000000000000000000000000000 := ⟨_, rfl⟩
    unfold keyT at k
    rw [← hE] at k h2
    have hEB : p.2 * q.2 ≤ E := Int.le_trans h1 h2
    have h3 : 1 * E ≤ (p.1 * q.2 - q.1 * p.2) * E := Int.mul_le_mul_of_nonneg_right (by omega) (by omega)
    generalize hf : (q.1 * E).fdiv q.2 = f at *
    have h4 : q.2 * f ≤ q.1 * E := by
      rw [← hf, Int.fdiv_eq_ediv_of_nonneg _ (Int.le_of_lt q2)]
      exact Int.mul_ediv_self_le (by omega)
    have h5 : p.2 * (q.2 * f) ≤ p.2 * (q.1 * E) := Int.mul_le_mul_of_nonneg_left h4 (Int.le_of_lt p2)
    have h6 : q.2 * (p.2 * (f + 1)) ≤ q.2 * (p.1 * E) := by grind
    have h7 : p.2 * (f + 1) ≤ p.1 * E := Int.le_of_mul_le_mul_left h6 q2
    have h8 : f + 1 ≤ (p.1 * E).fdiv p.2 := by
      rw [Int.fdiv_eq_ediv_of_nonneg _ (Int.le_of_lt p2)]
      refine (Int.le_ediv_iff_mul_le p2).mpr ?_
      rw [Int.mul_comm]; exact h7
    omega
end SL
namespace SL
open RR PySem
structure CutInv (ths : List Th) (dx dy : Int) (i : Nat) (ps : List (Int × Int)) : Prop where
  ok : ∀ p ∈ ps, FrOk p
  zero : ((0, 1) : Int × Int) ∈ ps
  row : ∀ x ∈ ths.take i, ∀ r ∈ x.rs, ((r.t, 1) : Int × Int) ∈ ps
  cross : ∀ (a b : Nat) (ha : a < ths.length) (hb : b < a), a < i → ∃ ts, CrAll ths[a] (ths[b]'(by omega)) dx dy ts ∧ ∀ p ∈ ts, p ∈ ps
structure CutsF (ths : List Th) (dx dy : Int) (cs : List (Int × Int)) : Prop where
  ok : ∀ p ∈ cs, FrOk p
  zero : ((0, 1) : Int × Int) ∈ cs
  row : ∀ x ∈ ths, ∀ r ∈ x.rs, ((r.t, 1) : Int × Int) ∈ cs
  cross : ∀ (a b : Nat) (ha : a < ths.length) (hb : b < a), ∃ ts, CrAll ths[a] (ths[b]'(by omega)) dx dy ts ∧ ∀ p ∈ ts, p ∈ cs
  up : cs.Pairwise fun p q => vF p < vF q
  few : cs.length ≤ 5000
theorem fr_whole {T : Int} (T0 : 0 ≤ T) (T1 : T < 2 ^ 30) : FrOk (T, 1) := ⟨nm_whole T, T0, Bd.of_range (by show _ < T; omega) (by show T < _; omega), (Bd.of_range (by decide) (by decide) : Bd 90 (1 : Int))⟩
theorem CutInv.nil {ths : List Th} {dx dy : Int} : CutInv ths dx dy 0 [(0, 1)] :=
  ⟨fun p hp => by rw [List.mem_singleton.mp hp]; exact fr_whole (by decide) (by decide), by simp, fun x hx => by simp at hx, fun a b _ _ h => absurd h (Nat.not_lt_zero _)⟩
theorem CutsF.of {ths : List Th} {dx dy : Int} {ps cs : List (Int × Int)} (c : CutInv ths dx dy ths.length ps) (mem : ∀ p, p ∈ cs ↔ p ∈ ps) (few : cs.length ≤ 5000) (nd : cs.Nodup) (up : cs.Pairwise fun p q => keyT p ≤ keyT q) : CutsF ths dx dy cs where
  ok := fun p hp => c.ok p ((mem p).mp hp)
  zero := (mem _).mpr c.zero
  few := few
  row := fun x hx r hr => (mem _).mpr (c.row x (by rw [List.take_length]; exact hx) r hr)
  cross := fun a b ha hb => by
    obtain ⟨ts, h1, h2⟩ := c.cross a b ha hb ha
    exact ⟨ts, h1, fun p hp => (mem p).mpr (h2 p hp)⟩
  up := by
    have both := List.Pairwise.and up nd
    exact List.Pairwise.imp_of_mem (fun {a b} ha hb h => key_lt (c.ok a ((mem a).mp ha)) (c.ok b ((mem b).mp hb)) h.2 h.1) both
end SL
namespace SL
open RR PySem
/-! ### sorted pairs of a number and a name -/
def hnLt (E : Th → Int) (a b : Th) : Prop := E a < E b ∨ E a = E b ∧ ltN a.nm b.nm
instance (E : Th → Int) (a b : Th) : Decidable (hnLt E a b) := inferInstanceAs (Decidable (_ ∨ _))
/-! ### levels, told in one way alone -/
structure LvOk (v : Th → RR.Rl) (l : List Th) (G : List (List Th)) : Prop where
  perm : G.flatten.Perm l
  ne : ∀ g ∈ G, g ≠ []
  same : ∀ g ∈ G, ∀ a ∈ g, ∀ b ∈ g, v a = v b
  up : G.Pairwise fun g g' => ∀ a ∈ g, ∀ b ∈ g', v a < v b
  nm : ∀ g ∈ G, g.Pairwise fun a b => ltN a.nm b.nm
theorem lv_split {v : Th → RR.Rl} : ∀ {G G' : List (List Th)}, G.flatten = G'.flatten → (∀ g ∈ G, g ≠ []) → (∀ g ∈ G', g ≠ []) → (∀ g ∈ G, ∀ a ∈ g, ∀ b ∈ g, v a = v b) → (∀ g ∈ G', ∀ a ∈ g, ∀ b ∈ g, v a = v b) →
    (G.Pairwise fun g g' => ∀ a ∈ g, ∀ b ∈ g', v a < v b) → (G'.Pairwise fun g g' => ∀ a ∈ g, ∀ b ∈ g', v a < v b) → G = G'
  | [], [], _, _, _, _, _, _, _ => rfl
  | [], g :: G', e, _, n', _, _, _, _ => by
    exfalso
    have : g ++ G'.flatten = [] := e.symm
    exact n' g List.mem_cons_self (List.append_eq_nil_iff.mp this).1
  | g :: G, [], e, n, _, _, _, _, _ => by
    exfalso
    have : g ++ G.flatten = [] := e
    exact n g List.mem_cons_self (List.append_eq_nil_iff.mp this).1
  | g :: G, g' :: G', e, n, n', s, s', u, u' => by
    have e : g ++ G.flatten = g' ++ G'.flatten := e
    obtain ⟨u1, u2⟩ := List.pairwise_cons.mp u
    obtain ⟨u1', u2'⟩ := List.pairwise_cons.mp u'
    have key : ∀ {g g' : List Th} {G : List (List Th)} (as : List Th) (R : List Th), g ≠ [] → g' = g ++ as → G.flatten = as ++ R → (∀ a ∈ g', ∀ b ∈ g', v a = v b) → (∀ q ∈ G, ∀ a ∈ g, ∀ b ∈ q, v a < v b) → as = [] := fun {g g' G} as R ne e1 e2 sm lt => by
      cases as with
      | nil => rfl
      | cons x as =>
        exfalso
        cases g with
        | nil => exact ne rfl
        | cons y g =>
          have hx : x ∈ G.flatten := by rw [e2]; exact List.mem_cons_self
          obtain ⟨q, hq, hxq⟩ := List.mem_flatten.mp hx
          have h1 := lt q hq y List.mem_cons_self x hxq
          have h2 := sm y (by rw [e1]; simp) x (by rw [e1]; simp)
          rw [h2] at h1
          grind
    rcases List.append_eq_append_iff.mp e with ⟨as, e1, e2⟩ | ⟨as, e1, e2⟩
    · have z := key as _ (n g List.mem_cons_self) e1 e2 (s' g' List.mem_cons_self) u1
      subst z
      rw [List.append_nil] at e1
      rw [List.nil_append] at e2
      subst e1
      rw [lv_split e2 (fun q hq => n q (List.mem_cons_of_mem _ hq)) (fun q hq => n' q (List.mem_cons_of_mem _ hq)) (fun q hq => s q (List.mem_cons_of_mem _ hq)) (fun q hq => s' q (List.mem_cons_of_mem _ hq)) u2 u2']
    · have z := key as _ (n' g' List.mem_cons_self) e1 e2 (s g List.mem_cons_self) u1'
      subst z
      rw [List.append_nil] at e1
      rw [List.nil_append] at e2
      subst e1
      rw [lv_split e2.symm (fun q hq => n q (List.mem_cons_of_mem _ hq)) (fun q hq => n' q (List.mem_cons_of_mem _ hq)) (fun q hq => s q (List.mem_cons_of_mem _ hq)) (fun q hq => s' q (List.mem_cons_of_mem _ hq)) u2 u2']
theorem LvOk.flat {v : Th → RR.Rl} {l : List Th} {G : List (List Th)} (h : LvOk v l G) : G.flatten.Pairwise fun a b => v a < v b ∨ v a = v b ∧ ltN a.nm b.nm :=
  List.pairwise_flatten.mpr ⟨fun g hg => List.Pairwise.imp_of_mem (fun {a b} ha hb z => .inr ⟨h.same g hg a ha b hb, z⟩) (h.nm g hg), h.up.imp fun z a ha b hb => .inl (z a ha b hb)⟩
theorem LvOk.uniq {v : Th → RR.Rl} {l : List Th} {G G' : List (List Th)} (h : LvOk v l G) (h' : LvOk v l G') : G = G' := by
  have e : G.flatten = G'.flatten := List.Perm.eq_of_pairwise (le := fun a b => v a < v b ∨ v a = v b ∧ ltN a.nm b.nm) (fun a b _ _ h1 h2 => by
    rcases h1 with h1 | ⟨e1, h1⟩ <;> rcases h2 with h2 | ⟨e2, h2⟩
    · exfalso; grind
    · exfalso; grind
    · exfalso; grind
    · exact absurd h2 (ltN_asym h1)) h.flat h'.flat (h.perm.trans h'.perm.symm)
  exact lv_split e h.ne h'.ne h.same h'.same h.up h'.up
structure LvF (v : Th → RR.Rl) (l : List Th) (G : List Gp) : Prop where
  perm : ((G.map (·.2)).flatten).Perm l
  ne : ∀ g ∈ G, g.2 ≠ []
  same : ∀ g ∈ G, ∀ a ∈ g.2, v a = v g.1
  nm : ∀ g ∈ G, g.2.Pairwise fun a b => ltN a.nm b.nm
theorem LvF.ins {v : Th → RR.Rl} {l : List Th} {G : List Gp} {a : Th} (f : LvF v l G) (lt : ∀ b ∈ l, ltN b.nm a.nm) : LvF v (l ++ [a]) (insL v G a) := by
  have put : LvF v (l ++ [a]) (G.take (posG v a G) ++ [(a, [a])] ++ G.drop (posG v a G)) := by
    refine ⟨?_, fun g hg => ?_, fun g hg => ?_, fun g hg => ?_⟩
    · have e : (G.map (·.2)).flatten = ((G.take (posG v a G)).map (·.2)).flatten ++ ((G.drop (posG v a G)).map (·.2)).flatten := by
        rw [← List.flatten_append, ← List.map_append, List.take_append_drop]
      have p := f.perm
      rw [e] at p
      simp only [List.map_append, List.flatten_append, List.map_cons, List.map_nil, List.flatten_cons, List.flatten_nil, List.append_nil, List.append_assoc]
      refine (List.perm_middle (l₁ := ((G.take (posG v a G)).map (·.2)).flatten) (l₂ := ((G.drop (posG v a G)).map (·.2)).flatten) (a := a)).trans ?_
      exact (List.Perm.cons a p).trans (List.perm_append_singleton a l).symm
    all_goals
      rcases List.mem_append.mp hg with hg | hg
      · rcases List.mem_append.mp hg with hg | hg
        · first
          | exact f.ne g (List.mem_of_mem_take hg)
          | exact f.same g (List.mem_of_mem_take hg)
          | exact f.nm g (List.mem_of_mem_take hg)
        · rw [List.mem_singleton.mp hg]
          first
          | exact List.cons_ne_nil _ _
          | exact fun b hb => by rw [List.mem_singleton.mp hb]
          | exact List.pairwise_singleton _ _
      · first
        | exact f.ne g (List.mem_of_mem_drop hg)
        | exact f.same g (List.mem_of_mem_drop hg)
        | exact f.nm g (List.mem_of_mem_drop hg)
  unfold insL
  split
  · next gp e =>
    split
    · next q =>
      have hl := (List.getElem?_eq_some_iff.mp e).1
      have eg : G[posG v a G] = gp := by
        rw [List.getElem?_eq_getElem hl] at e
        exact Option.some.inj e
      have mgp : gp ∈ G := eg ▸ List.getElem_mem hl
      have h1 : G.set (posG v a G) (gp.1, gp.2 ++ [a]) = G.take (posG v a G) ++ [(gp.1, gp.2 ++ [a])] ++ G.drop (posG v a G + 1) := by
        rw [List.set_eq_take_append_cons_drop, if_pos hl, List.append_assoc]; rfl
      have h2 : G = G.take (posG v a G) ++ [gp] ++ G.drop (posG v a G + 1) := by
        conv => lhs; rw [← List.take_append_drop (posG v a G) G, List.drop_eq_getElem_cons hl, eg]
        rw [List.append_assoc]; rfl
      have inl : ∀ b ∈ gp.2, b ∈ l := fun b hb => f.perm.mem_iff.mp (List.mem_flatten.mpr ⟨gp.2, List.mem_map_of_mem mgp, hb⟩)
      rw [h1]
      refine ⟨?_, fun g hg => ?_, fun g hg => ?_, fun g hg => ?_⟩
      · have p := f.perm
        rw [h2] at p
        simp only [List.map_append, List.flatten_append, List.map_cons, List.map_nil, List.flatten_cons, List.flatten_nil, List.append_nil, List.append_assoc] at p ⊢
        generalize ((G.take (posG v a G)).map (·.2)).flatten = A at *
        generalize ((G.drop (posG v a G + 1)).map (·.2)).flatten = B at *
        have e3 : A ++ (gp.2 ++ ([a] ++ B)) = (A ++ gp.2) ++ a :: B := by simp
        rw [e3]
        refine List.perm_middle.trans ?_
        rw [List.append_assoc]
        exact (List.Perm.cons a p).trans (List.perm_append_singleton a l).symm
      all_goals
        rcases List.mem_append.mp hg with hg | hg
        · rcases List.mem_append.mp hg with hg | hg
          · first
            | exact f.ne g (List.mem_of_mem_take hg)
            | exact f.same g (List.mem_of_mem_take hg)
            | exact f.nm g (List.mem_of_mem_take hg)
          · rw [List.mem_singleton.mp hg]
            first
            | exact fun z => absurd z (by simp)
            | exact fun b hb => (List.mem_append.mp hb).elim (f.same gp mgp b) fun hb => by rw [List.mem_singleton.mp hb]; exact q.symm
            | exact List.pairwise_append.mpr ⟨f.nm gp mgp, List.pairwise_singleton _ _, fun b hb c hc => by rw [List.mem_singleton.mp hc]; exact lt b (inl b hb)⟩
        · first
          | exact f.ne g (List.mem_of_mem_drop hg)
          | exact f.same g (List.mem_of_mem_drop hg)
          | exact f.nm g (List.mem_of_mem_drop hg)
    · exact put
  · exact put
theorem levF_lv {v : Th → RR.Rl} : ∀ {l : List Th}, (l.Pairwise fun a b => ltN a.nm b.nm) → LvF v l (levF v l) := fun {l} => by
  induction l using snocRec with
  | nil => intro _; exact ⟨.refl _, fun g hg => (nomatch hg), fun g hg => (nomatch hg), fun g hg => (nomatch hg)⟩
  | snoc l a ih =>
    intro h
    obtain ⟨h1, _, h3⟩ := List.pairwise_append.mp h
    rw [levF_snoc]
    exact (ih h1).ins fun b hb => h3 b hb a (List.mem_singleton.mpr rfl)
theorem levN_lv {v : Th → RR.Rl} {l : List Th} (h : l.Pairwise fun a b => ltN a.nm b.nm) : LvOk v l (levN v l) := by
  have f := levF_lv (v := v) h
  have so := levF_sorted (v := v) (l := l)
  unfold levN
  refine ⟨f.perm, fun g hg => ?_, fun g hg a ha b hb => ?_, ?_, fun g hg => ?_⟩
  · obtain ⟨gp, hgp, rfl⟩ := List.mem_map.mp hg
    exact f.ne gp hgp
  · obtain ⟨gp, hgp, rfl⟩ := List.mem_map.mp hg
    rw [f.same gp hgp a ha, f.same gp hgp b hb]
  · rw [List.pairwise_map]
    refine List.Pairwise.imp_of_mem (fun {g g'} hg hg' z a ha b hb => ?_) so
    rw [f.same g hg a ha, f.same g' hg' b hb]
    exact z
  · obtain ⟨gp, hgp, rfl⟩ := List.mem_map.mp hg
    exact f.nm gp hgp
end SL
namespace SL
open RR PySem
/-! ### groups of what is sorted -/
structure GrI (E : Th → Int) (pre : List Th) (G : List (List Th)) : Prop where
  flat : G.flatten = pre
  ne : ∀ g ∈ G, g ≠ []
  same : ∀ g ∈ G, ∀ a ∈ g, ∀ b ∈ g, E a = E b
  up : G.Pairwise fun g g' => ∀ a ∈ g, ∀ b ∈ g', E a < E b
theorem GrI.nil {E : Th → Int} : GrI E [] [] := ⟨rfl, fun g h => (nomatch h), fun g h => (nomatch h), .nil⟩
theorem GrI.new {E : Th → Int} {pre : List Th} {G : List (List Th)} {a : Th} (r : GrI E pre G) (lt : ∀ b ∈ pre, E b < E a) : GrI E (pre ++ [a]) (G ++ [[a]]) := by
  refine ⟨by rw [List.flatten_append, r.flat]; rfl, fun g hg => ?_, fun g hg => ?_, List.pairwise_append.mpr ⟨r.up, List.pairwise_singleton _ _, fun g hg g' hg' x hx y hy => ?_⟩⟩
  · rcases List.mem_append.mp hg with hg | hg
    · exact r.ne g hg
    · rw [List.mem_singleton.mp hg]; exact List.cons_ne_nil _ _
  · rcases List.mem_append.mp hg with hg | hg
    · exact r.same g hg
    · rw [List.mem_singleton.mp hg]
      exact fun x hx y hy => by rw [List.mem_singleton.mp hx, List.mem_singleton.mp hy]
  · rw [List.mem_singleton.mp hg'] at hy
    rw [List.mem_singleton.mp hy]
    exact lt x (by rw [← r.flat]; exact List.mem_flatten.mpr ⟨g, hg, hx⟩)
theorem GrI.last {E : Th → Int} {pre : List Th} {p : Th} {G : List (List Th)} (r : GrI E (pre ++ [p]) G) : ∃ I gl, G = I ++ [gl] ∧ p ∈ gl := by
  rcases List.eq_nil_or_concat G with rfl | ⟨I, gl, rfl⟩
  · have := r.flat
    simp at this
  · refine ⟨I, gl, by simp, ?_⟩
    have f := r.flat
    rw [List.concat_eq_append, List.flatten_append] at f
    have hne := r.ne gl (by simp)
    have e : gl = gl.dropLast ++ [gl.getLast hne] := (List.dropLast_concat_getLast hne).symm
    have f2 : (I.flatten ++ gl.dropLast) ++ [gl.getLast hne] = pre ++ [p] := by
      rw [List.append_assoc, ← e, ← f]
      simp
    have := (List.append_inj' f2 rfl).2
    have : gl.getLast hne = p := by simpa using this
    rw [← this]
    exact List.getLast_mem hne
/-! on the heap -/
structure GS (B F : Nat) (ps : List (List Th × Nat)) (h : Hs) : Prop where
  at_ : h[F]? = some (.lst (ps.map fun p => D.ref p.2))
  nm : ∀ p ∈ ps, h[p.2]? = some (.lst (nmsD p.1))
  nd : (ps.map (·.2)).Nodup
  far : ∀ p ∈ ps, B ≤ p.2 ∧ p.2 ≠ F
theorem GS.app {B F : Nat} {I : List (List Th × Nat)} {gl : List Th} {n : Nat} {h : Hs} {a : Th} (s : GS B F (I ++ [(gl, n)]) h) : GS B F (I ++ [(gl ++ [a], n)]) (h.set n (.lst (nmsD gl ++ [.str a.nm]))) := by
  have hn := s.nm (gl, n) (by simp)
  have fn := s.far (gl, n) (by simp)
  have nd := s.nd
  rw [List.map_append] at nd
  obtain ⟨_, _, dis⟩ := List.nodup_append.mp nd
  refine ⟨?_, fun p hp => ?_, by rw [List.map_append]; exact nd, fun p hp => ?_⟩
  · rw [List.getElem?_set_ne (by exact fn.2), s.at_, List.map_append, List.map_append]; rfl
  · rcases List.mem_append.mp hp with hp | hp
    · have : p.2 ≠ n := fun e => dis p.2 (List.mem_map_of_mem hp) n (by simp) e
      rw [List.getElem?_set_ne (Ne.symm this)]
      exact s.nm p (List.mem_append_left _ hp)
    · rw [List.mem_singleton.mp hp]
      rw [set_at (get_lt hn)]
      unfold nmsD
      rw [List.map_append]; rfl
  · rcases List.mem_append.mp hp with hp | hp
    · exact s.far p (List.mem_append_left _ hp)
    · rw [List.mem_singleton.mp hp]; exact fn
theorem GS.put {B F : Nat} {ps : List (List Th × Nat)} {h : Hs} {a : Th} (s : GS B F ps h) (lB : B ≤ h.length) : GS B F (ps ++ [([a], h.length)]) ((h ++ [AO.lst [.str a.nm]]).set F (.lst ((ps.map fun p => D.ref p.2) ++ [.ref h.length]))) := by
  have lF := get_lt s.at_
  have lt : ∀ p ∈ ps, p.2 < h.length := fun p hp => get_lt (s.nm p hp)
  refine ⟨?_, fun p hp => ?_, ?_, fun p hp => ?_⟩
  · rw [set_at (by simp; omega), List.map_append]; rfl
  · rcases List.mem_append.mp hp with hp | hp
    · rw [List.getElem?_set_ne (Ne.symm (s.far p hp).2), List.getElem?_append_left (lt p hp)]
      exact s.nm p hp
    · rw [List.mem_singleton.mp hp, List.getElem?_set_ne (by show F ≠ h.length; omega)]
      exact get_last
  · rw [List.map_append]
    refine List.nodup_append.mpr ⟨s.nd, by simp, fun x hx y hy e => ?_⟩
    obtain ⟨p, hp, rfl⟩ := List.mem_map.mp hx
    have : y = h.length := by simpa using hy
    have := lt p hp
    omega
  · rcases List.mem_append.mp hp with hp | hp
    · exact s.far p hp
    · rw [List.mem_singleton.mp hp]; exact ⟨lB, by show h.length ≠ F; omega⟩
theorem GS.lr {B F : Nat} {ps : List (List Th × Nat)} {h : Hs} (s : GS B F ps h) : LR B F (ps.map (·.1)) h :=
  ⟨⟨ps.map (·.2), by rw [s.at_, List.map_map]; rfl, by simp, fun r hr => by
    obtain ⟨p, hp, rfl⟩ := List.mem_map.mp hr
    exact s.far p hp, fun i h1 h2 => by
    have hi : i < ps.length := by simpa using h1
    rw [List.getElem_map, List.getElem_map]
    exact s.nm _ (List.getElem_mem hi)⟩⟩
end SL
namespace SL
open RR PySem
structure BehOk (cs : List (Int × Int)) (k : Nat) (m n : Int) : Prop where
  nm : (Tm.fr m n).Nm
  nn : 0 ≤ m
  bm : Bd 140 m
  bn : Bd 140 n
  lo : ∀ hk : k < cs.length, vF cs[k] < (Tm.fr m n).val
  hi : ∀ hk : k + 1 < cs.length, (Tm.fr m n).val < vF cs[k + 1]
theorem low_lt {p : Int × Int} {m n a b : Int} (p2 : 0 < p.2) (n0 : 0 < n) (b0 : 0 < b) (e : m * b = a * n) (lt : p.1 * b < a * p.2) : vF p < (Tm.fr m n).val := by
  show vF p < vF (m, n)
  rw [vF_lt p2 n0]
  show p.1 * n < m * p.2
  have h1 : (p.1 * b) * n < (a * p.2) * n := Int.mul_lt_mul_of_pos_right lt n0
  have e5 : (a * p.2) * n = (m * p.2) * b := by rw [Int.mul_right_comm a, ← e, Int.mul_right_comm m]
  have h2 : (p.1 * n) * b < (m * p.2) * b := by rw [← e5, Int.mul_right_comm p.1]; exact h1
  exact Int.lt_of_mul_lt_mul_right h2 (Int.le_of_lt b0)
theorem lt_low {p : Int × Int} {m n a b : Int} (p2 : 0 < p.2) (n0 : 0 < n) (b0 : 0 < b) (e : m * b = a * n) (lt : a * p.2 < p.1 * b) : (Tm.fr m n).val < vF p := by
  show vF (m, n) < vF p
  rw [vF_lt n0 p2]
  show m * p.2 < p.1 * n
  have h1 : (a * p.2) * n < (p.1 * b) * n := Int.mul_lt_mul_of_pos_right lt n0
  have e5 : (a * p.2) * n = (m * p.2) * b := by rw [Int.mul_right_comm a, ← e, Int.mul_right_comm m]
  have h2 : (m * p.2) * b < (p.1 * n) * b := by rw [← e5, Int.mul_right_comm p.1]; exact h1
  exact Int.lt_of_mul_lt_mul_right h2 (Int.le_of_lt b0)
theorem low_nn {m n a b : Int} (n0 : 0 < n) (b0 : 0 < b) (e : m * b = a * n) (a0 : 0 ≤ a) : 0 ≤ m := by
  have h1 : 0 ≤ m * b := by rw [e]; exact Int.mul_nonneg a0 (Int.le_of_lt n0)
  rcases Int.lt_or_le m 0 with y | y
  · have := Int.mul_neg_of_neg_of_pos y b0; omega
  · exact y
theorem BehOk.last {cs : List (Int × Int)} {k : Nat} {hk : k < cs.length} {m n : Int} (o : FrOk cs[k]) (l : cs.length ≤ k + 1) (nm : (Tm.fr m n).Nm) (e : m * (cs[k]).2 = ((cs[k]).1 + (cs[k]).2) * n) (l1 : m.natAbs ≤ ((cs[k]).1 + (cs[k]).2).natAbs) (l2 : n.natAbs ≤ (cs[k]).2.natAbs) : BehOk cs k m n where
  nm := nm
  nn := low_nn nm.1 o.nm.1 e (by have := o.nn; have := o.nm.1; omega)
  bm := by
    have h : Bd 140 ((cs[k]).1 + (cs[k]).2) := Bd.mono (Bd.add o.b1 o.b2) (by decide)
    show m.natAbs < _
    exact Nat.lt_of_le_of_lt l1 h
  bn := by
    have h : Bd 140 (cs[k]).2 := o.b2.mono (by decide)
    exact Nat.lt_of_le_of_lt l2 h
  lo := fun _ => low_lt o.nm.1 nm.1 o.nm.1 e (by
    have := Int.mul_pos o.nm.1 o.nm.1
    rw [Int.add_mul]; omega)
  hi := fun h => absurd h (by omega)
structure FrT (p : Int × Int) : Prop where
  nm : (Tm.fr p.1 p.2).Nm
  nn : 0 ≤ p.1
  b1 : Bd 200 p.1
  b2 : Bd 200 p.2
theorem FrOk.t {p : Int × Int} (o : FrOk p) : FrT p := ⟨o.nm, o.nn, o.b1.mono (by decide), o.b2.mono (by decide)⟩
theorem BehOk.t {cs : List (Int × Int)} {k : Nat} {m n : Int} (o : BehOk cs k m n) : FrT (m, n) := ⟨o.nm, o.nn, o.bm.mono (by decide), o.bn.mono (by decide)⟩
end SL
namespace SL
open RR PySem
/-! ### the laws' cuts: between neighbours the sides stay -/
theorem lt_ext : ∀ {xs ys : List Int}, xs.Pairwise (· < ·) → ys.Pairwise (· < ·) → (∀ z, z ∈ xs ↔ z ∈ ys) → xs = ys := fun {xs ys} h k m => by
  have n1 : xs.Nodup := h.imp fun l e => by omega
  have n2 : ys.Nodup := k.imp fun l e => by omega
  exact List.Perm.eq_of_pairwise (le := (· < ·)) (fun a b _ _ h1 h2 => by omega) h k ((List.perm_ext_iff_of_nodup n1 n2).mpr m)
theorem beg_mem {rs : List Row} {z : Int} (up : Rising 0 rs) : z ∈ begT rs ↔ z = 0 ∨ ∃ r ∈ rs, z = r.t := by
  unfold begT
  cases rs with
  | nil => simp
  | cons r rs =>
    have h0 := up.1
    simp only
    split
    · simp only [List.mem_cons, List.mem_map]
      constructor
      · rintro (h | h | ⟨q, hq, rfl⟩)
        · exact .inl h
        · exact .inr ⟨r, .inl rfl, h⟩
        · exact .inr ⟨q, .inr hq, rfl⟩
      · rintro (h | ⟨q, hq | hq, e⟩)
        · exact .inl h
        · subst hq; exact .inr (.inl e)
        · exact .inr (.inr ⟨q, hq, e.symm⟩)
    · next z0 =>
      have : r.t = 0 := by omega
      simp only [List.mem_cons, List.mem_map]
      constructor
      · rintro (h | ⟨q, hq, rfl⟩)
        · exact .inl (by omega)
        · exact .inr ⟨q, .inr hq, rfl⟩
      · rintro (h | ⟨q, hq | hq, e⟩)
        · exact .inl (by omega)
        · subst hq; exact .inl e
        · exact .inr ⟨q, hq, e.symm⟩
theorem brk_st {a b : Th} (oa : ThOk a) (ob : ThOk b) : brk a b = stS a b := by
  refine lt_ext (ssI_up _) (stS_up a b) fun z => ?_
  rw [stS_mem, beg_mem oa.up, beg_mem ob.up]
  unfold brk
  rw [ssI_mem, List.mem_cons, List.mem_map]
  constructor
  · rintro (h | ⟨r, hr, e⟩)
    · exact .inl (.inl h)
    · rcases List.mem_append.mp hr with hr | hr
      · exact .inl (.inr ⟨r, hr, e.symm⟩)
      · exact .inr (.inr ⟨r, hr, e.symm⟩)
  · rintro ((h | ⟨r, hr, e⟩) | (h | ⟨r, hr, e⟩))
    · exact .inl h
    · exact .inr ⟨r, List.mem_append_left _ hr, e.symm⟩
    · exact .inl h
    · exact .inr ⟨r, List.mem_append_right _ hr, e.symm⟩
theorem hW_val {a b : Th} (oa : ThOk a) (ob : ThOk b) {dx dy T : Int} (T0 : 0 ≤ T) : ((hWd a b dx dy T : Int) : RR.Rl) = hv (.fr T 1) dx dy a - hv (.fr T 1) dx dy b := by
  unfold hWd
  rw [cast_sub, hFr_val oa (nm_whole T) T0, hFr_val ob (nm_whole T) T0, cast_one]
  grind
theorem hW_piece {a b : Th} (oa : ThOk a) (ob : ThOk b) {dx dy : Int} {i : Nat} (hi : i < (stS a b).length) {T : Int} (l1 : (stS a b)[i] ≤ T) (l2 : ∀ e, (stS a b)[i + 1]? = some e → T ≤ e) : ((hWd a b dx dy T : Int) : RR.Rl) = lnV (dfW dx dy a b (stS a b)[i]) (T : RR.Rl) := by
  have z0 := (stS_rng oa ob (List.getElem_mem hi)).1
  rw [hW_val oa ob (by omega), piece_is oa ob hi (nm_whole T) (by rw [val_1, cast_le]; exact l1) (fun e he => by rw [val_1, cast_le]; exact l2 e he), val_1]
theorem ln_at0 {P : P3} {x z : RR.Rl} (h : lnV P z = 0) : lnV P x = (P.2.1 : RR.Rl) * (x - z) := by
  unfold lnV at *
  grind
theorem pos_mul {x y : RR.Rl} (h : 0 < x) (k : 0 < y) : 0 < x * y := mul_posR x y h k
theorem cross_in {a b : Th} (oa : ThOk a) (ob : ThOk b) {dx dy : Int} {i : Nat} (hi : i < (stS a b).length) {z : RR.Rl} (lo : ((stS a b)[i] : RR.Rl) < z) (hz : ∀ e, (stS a b)[i + 1]? = some e → z < (e : RR.Rl)) (h0 : lnV (dfW dx dy a b (stS a b)[i]) z = 0) (ne : (dfW dx dy a b (stS a b)[i]).2.1 ≠ 0) :
    CrC a b dx dy (stS a b)[i] (stS a b)[i + 1]? ∧ ∀ p : Int × Int, 0 < p.2 → CrP a b dx dy (stS a b)[i] (stS a b)[i + 1]? p → vF p = z := by
  have up := stS_up a b
  have far0 : 0 < farE (stS a b)[i] (stS a b)[i + 1]? := by
    cases e : (stS a b)[i + 1]? with
    | none => show (0 : Int) < 1; decide
    | some n =>
      obtain ⟨h1, h2⟩ := List.getElem?_eq_some_iff.mp e
      have := List.pairwise_iff_getElem.mp up i (i + 1) hi h1 (by omega)
      show 0 < n - _
      omega
  have eX := hW_piece (dx := dx) (dy := dy) oa ob hi (T := (stS a b)[i]) (Int.le_refl _) (fun e he => by
    obtain ⟨h1, h2⟩ := List.getElem?_eq_some_iff.mp he
    have := List.pairwise_iff_getElem.mp up i (i + 1) hi h1 (by omega)
    omega)
  have eY := hW_piece (dx := dx) (dy := dy) oa ob hi (T := (stS a b)[i] + farE (stS a b)[i] (stS a b)[i + 1]?) (by omega) (fun e he => by rw [he]; show _ + (e - _) ≤ e; omega)
  rw [ln_at0 h0] at eX eY
  have hzf : ∀ e, (stS a b)[i + 1]? = some e → z < (((stS a b)[i] + farE (stS a b)[i] (stS a b)[i + 1]? : Int) : RR.Rl) := fun e he => by
    rw [he]
    show z < (((stS a b)[i] + (e - (stS a b)[i]) : Int) : RR.Rl)
    rw [show (stS a b)[i] + (e - (stS a b)[i]) = e by omega]
    exact hz e he
  have fone : (stS a b)[i + 1]? = none → farE (stS a b)[i] (stS a b)[i + 1]? = 1 := fun e => by rw [e]; rfl
  unfold CrC CrP
  generalize (dfW dx dy a b (stS a b)[i]).2.1 = s at *
  generalize (stS a b)[i] = S at *
  generalize (stS a b)[i + 1]? = nx at *
  generalize farE S nx = f at *
  generalize hWd a b dx dy S = X at *
  generalize hWd a b dx dy (S + f) = Y at *
  have cf := cast_pos far0
  rw [cast_add] at eY hzf
  have key : ∀ (s X Y : Int), 0 < s → (X : RR.Rl) = (s : RR.Rl) * ((S : RR.Rl) - z) → (Y : RR.Rl) = (s : RR.Rl) * ((S : RR.Rl) + (f : RR.Rl) - z) → X < 0 ∧ X < Y ∧ ((S : RR.Rl) + (f : RR.Rl) ≤ z → Y ≤ 0) ∧ (z < (S : RR.Rl) + (f : RR.Rl) → 0 < Y) ∧ (s : RR.Rl) * z = (s : RR.Rl) * (S : RR.Rl) - (X : RR.Rl) ∧ (Y : RR.Rl) - (X : RR.Rl) = (s : RR.Rl) * (f : RR.Rl) := fun s X Y s0 eX eY => by
    have cs := cast_pos s0
    have x1 := pos_mul cs (show 0 < z - (S : RR.Rl) by grind)
    have x2 := pos_mul cs cf
    refine ⟨?_, ?_, fun h => ?_, fun h => ?_, by rw [eX]; grind, by rw [eX, eY]; grind⟩
    · rw [← cast_lt, cast_zero, eX]; grind
    · rw [← cast_lt, eX, eY]; grind
    · refine Int.not_lt.mp fun y => ?_
      have y' : (0 : RR.Rl) < (Y : RR.Rl) := by rw [← cast_zero, cast_lt]; exact y
      rw [eY] at y'
      rcases tri (z - ((S : RR.Rl) + (f : RR.Rl))) with q | q | q
      · have := pos_mul cs q; grind
      · grind
      · have : z = (S : RR.Rl) + (f : RR.Rl) := by grind
        rw [this] at y'; grind
    · have := pos_mul cs (show 0 < (S : RR.Rl) + (f : RR.Rl) - z by grind)
      rw [← cast_lt, cast_zero, eY]; grind
  have fin : ∀ (s X Y : Int), 0 < s → (X : RR.Rl) = (s : RR.Rl) * ((S : RR.Rl) - z) → (Y : RR.Rl) = (s : RR.Rl) * ((S : RR.Rl) + (f : RR.Rl) - z) → (X * Y < 0 ∨ nx = none ∧ X ≠ 0 ∧ Y.natAbs < X.natAbs) ∧ ∀ p : Int × Int, 0 < p.2 → p.1 * ((X - Y).natAbs : Int) = p.2 * (S * ((X - Y).natAbs : Int) + f * (X.natAbs : Int)) → vF p = z := fun s X Y s0 eX eY => by
    obtain ⟨k1, k2, k3, k4, k5, k6⟩ := key s X Y s0 eX eY
    have cs := cast_pos s0
    constructor
    · by_cases q : z < (S : RR.Rl) + (f : RR.Rl)
      · exact .inl (Int.mul_neg_of_neg_of_pos k1 (k4 q))
      · have e : nx = none := by
          cases nx with
          | none => rfl
          | some e => exact absurd (hzf e rfl) q
        have := k3 (by rcases tri (z - ((S : RR.Rl) + (f : RR.Rl))) with y | y | y <;> grind)
        exact .inr ⟨e, by omega, by omega⟩
    · intro p p0 e
      rw [show ((X - Y).natAbs : Int) = Y - X by omega, show (X.natAbs : Int) = 0 - X by omega] at e
      have e2 : (p.1 : RR.Rl) * ((Y : RR.Rl) - (X : RR.Rl)) = (p.2 : RR.Rl) * ((S : RR.Rl) * ((Y : RR.Rl) - (X : RR.Rl)) + (f : RR.Rl) * (0 - (X : RR.Rl))) := by
        have := congrArg (fun i : Int => (i : RR.Rl)) e
        simp only [cast_mul, cast_add, cast_sub, cast_zero] at this
        exact this
      have e3 := val_fr (p := p.1) p0
      show (Tm.fr p.1 p.2).val = z
      have c2 := cast_pos p0
      generalize (Tm.fr p.1 p.2).val = v at *
      rw [← e3, k6] at e2
      have m : 0 < (p.2 : RR.Rl) * ((s : RR.Rl) * (f : RR.Rl)) := pos_mul c2 (pos_mul cs cf)
      have e4 : (p.2 : RR.Rl) * ((s : RR.Rl) * (f : RR.Rl)) * v = (p.2 : RR.Rl) * ((s : RR.Rl) * (f : RR.Rl)) * z := by
        have e5 : (p.2 : RR.Rl) * ((S : RR.Rl) * ((s : RR.Rl) * (f : RR.Rl)) + (f : RR.Rl) * (0 - (X : RR.Rl))) = (p.2 : RR.Rl) * (f : RR.Rl) * ((s : RR.Rl) * (S : RR.Rl) - (X : RR.Rl)) := by grind
        rw [e5, ← k5] at e2
        grind
      rcases tri (v - z) with y | y | y
      · have := pos_mul m y; grind
      · have := pos_mul m (show 0 < 0 - (v - z) by grind); grind
      · grind
  rcases Int.lt_trichotomy s 0 with q | q | q
  · obtain ⟨f1, f2⟩ := fin (-s) (-X) (-Y) (by omega) (by rw [cast_neg, cast_neg, eX]; grind) (by rw [cast_neg, cast_neg, eY]; grind)
    rw [Int.neg_mul_neg] at f1
    refine ⟨f1.imp id fun g => ⟨g.1, by omega, by rw [Int.natAbs_neg, Int.natAbs_neg] at g; exact g.2.2⟩, fun p p0 e => f2 p p0 ?_⟩
    rw [show (-X - -Y).natAbs = (X - Y).natAbs by omega, Int.natAbs_neg]
    exact e
  · exact absurd q ne
  · exact fin s X Y q eX eY
end SL
namespace SL
open RR PySem
theorem FrOk.e {p : Int × Int} (o : FrOk p) : EOk (.fr p.1 p.2) := ⟨p.1, p.2, rfl, o.nm, o.nn, o.b1, o.b2.mono (by decide)⟩
abbrev cutT (cs : List (Int × Int)) : List Tm := cs.map fun p => .fr p.1 p.2
theorem cutT_get {cs : List (Int × Int)} {i : Nat} (h : i < (cutT cs).length) (h' : i < cs.length) : (cutT cs)[i] = .fr (cs[i]).1 (cs[i]).2 := List.getElem_map (l := cs) (f := fun p => Tm.fr p.1 p.2)
theorem cut_side {cs : List (Int × Int)} (up : cs.Pairwise fun p q => vF p < vF q) {i : Nat} (hi : i < cs.length) {x : RR.Rl} (l1 : vF cs[i] < x) (r1 : ∀ h : i + 1 < cs.length, x < vF cs[i + 1]) {p : Int × Int} (hp : p ∈ cs) : vF p ≤ vF cs[i] ∨ (∃ h : i + 1 < cs.length, vF cs[i + 1] ≤ vF p) := by
  obtain ⟨j, hj, rfl⟩ := List.getElem_of_mem hp
  rcases Nat.lt_or_ge i j with z | z
  · have h1 : i + 1 < cs.length := by omega
    refine .inr ⟨h1, ?_⟩
    rcases Nat.eq_or_lt_of_le (show i + 1 ≤ j from z) with y | y
    · subst y; grind
    · have := List.pairwise_iff_getElem.mp up _ _ h1 hj y; grind
  · refine .inl ?_
    rcases Nat.eq_or_lt_of_le z with y | y
    · subst y; grind
    · have := List.pairwise_iff_getElem.mp up _ _ hj hi y; grind
theorem pair_stay {ths : List Th} {dx dy : Int} {cs : List (Int × Int)} (c : CutsF ths dx dy cs) (ok : ∀ a ∈ ths, ThOk a) {i : Nat} (hi : i < cs.length) {t u : Tm} (nt : t.Nm) (nu : u.Nm) (l1 : vF cs[i] < t.val) (le : t.val ≤ u.val) (r2 : ∀ h : i + 1 < cs.length, u.val < vF cs[i + 1])
    {x y : Nat} (hx : x < ths.length) (hy : y < x) : sgR (hv t dx dy ths[x] - hv t dx dy (ths[y]'(by omega))) = sgR (hv u dx dy ths[x] - hv u dx dy (ths[y]'(by omega))) := by
  obtain ⟨ts, call, sub⟩ := c.cross x y hx hy
  have ma := List.getElem_mem hx
  have mb := List.getElem_mem (show y < ths.length by omega)
  have oa := ok _ ma
  have ob := ok _ mb
  generalize ths[x] = a at *
  generalize (ths[y]'(show y < ths.length by omega)) = b at *
  have t0 : 0 ≤ t.val := by
    have := (c.ok _ (List.getElem_mem hi))
    have := nn_fr this.nm.1 this.nn
    show 0 ≤ t.val
    have l1' : (Tm.fr (cs[i]).1 (cs[i]).2).val < t.val := l1
    grind
  unfold CrAll at call
  rw [brk_st oa ob] at call
  have brC : ∀ z ∈ stS a b, ((z, 1) : Int × Int) ∈ cs := fun z hz => by
    rcases stS_mem.mp hz with h | h
    · rcases (beg_mem oa.up).mp h with h | ⟨r, hr, h⟩
      · rw [h]; exact c.zero
      · rw [h]; exact c.row a ma r hr
    · rcases (beg_mem ob.up).mp h with h | ⟨r, hr, h⟩
      · rw [h]; exact c.zero
      · rw [h]; exact c.row b mb r hr
  have vw : ∀ z : Int, vF (z, 1) = (z : RR.Rl) := fun z => val_1
  have S0 := stS_0 oa ob
  have key : ∀ (n j : Nat) (h : j < (stS a b).length), (stS a b).length - j = n → ((stS a b)[j] : RR.Rl) ≤ t.val → ∃ (j : Nat) (h : j < (stS a b).length), ((stS a b)[j] : RR.Rl) ≤ t.val ∧ ∀ e, (stS a b)[j + 1]? = some e → t.val < (e : RR.Rl) := by
    intro n
    induction n with
    | zero => intro j h e; omega
    | succ n ih =>
      intro j h e l
      rcases Nat.lt_or_ge (j + 1) (stS a b).length with z | z
      · by_cases q : ((stS a b)[j + 1] : RR.Rl) ≤ t.val
        · exact ih (j + 1) z (by omega) q
        · refine ⟨j, h, l, fun e he => ?_⟩
          rw [List.getElem?_eq_getElem z] at he
          cases he
          rcases tri (((stS a b)[j + 1] : RR.Rl) - t.val) with y | y | y
          · grind
          · exact absurd (by grind) q
          · exact absurd (by grind) q
      · exact ⟨j, h, l, fun v hv => by rw [List.getElem?_eq_none z] at hv; cases hv⟩
  obtain ⟨h0, e0⟩ := List.getElem?_eq_some_iff.mp S0
  obtain ⟨j, hj, lo, hi'⟩ := key _ 0 h0 rfl (by rw [e0, cast_zero]; exact t0)
  have hu : ∀ e, (stS a b)[j + 1]? = some e → u.val < (e : RR.Rl) := fun e he => by
    have lt := hi' e he
    have me := brC e (List.mem_of_getElem? he)
    rcases cut_side c.up hi l1 (fun h => by have := r2 h; grind) me with q | ⟨h, q⟩
    · rw [vw] at q; exfalso; grind
    · rw [vw] at q; have := r2 h; grind
  have loC : ((stS a b)[j] : RR.Rl) ≤ vF cs[i] := by
    have me := brC _ (List.getElem_mem hj)
    rcases cut_side c.up hi l1 (fun h => by have := r2 h; grind) me with q | ⟨h, q⟩
    · rw [vw] at q; exact q
    · rw [vw] at q; have := r2 h; exfalso; grind
  rw [piece_is oa ob hj nt lo (fun e he => by have := hi' e he; grind), piece_is oa ob hj nu (by grind) (fun e he => by have := hu e he; grind)]
  refine Classical.byContradiction fun ne => ?_
  have hm : (dfW dx dy a b (stS a b)[j]).2.1 ≠ 0 := fun z => ne (by unfold lnV; rw [z, cast_zero]; congr 1; grind)
  obtain ⟨p, q, nz, ez⟩ := ln_root hm
  generalize hz : (Tm.fr p q).val = z at *
  have zt : t.val ≤ z := by
    rcases tri (t.val - z) with y | y | y
    · exfalso
      refine ne ?_
      rw [ln_at0 ez, ln_at0 ez, show ∀ s x : RR.Rl, s * (x - z) = (x - z) * s from fun s x => by grind, show ∀ s x : RR.Rl, s * (x - z) = (x - z) * s from fun s x => by grind, sg_mul_pos y, sg_mul_pos (by grind)]
    · grind
    · grind
  have zu : z ≤ u.val := by
    rcases tri (z - u.val) with y | y | y
    · exfalso
      refine ne ?_
      rw [ln_at0 ez, ln_at0 ez, show ∀ s x : RR.Rl, s * (x - z) = (z - x) * (0 - s) from fun s x => by grind, show ∀ s x : RR.Rl, s * (x - z) = (z - x) * (0 - s) from fun s x => by grind, sg_mul_pos (by grind), sg_mul_pos (by grind)]
    · grind
    · grind
  obtain ⟨cc, cp⟩ := cross_in oa ob hj (by grind) (fun e he => by have := hu e he; grind) ez hm
  obtain ⟨pr, hpr, hcp⟩ := call.cpl j hj hj cc
  have mp := sub pr hpr
  have e := cp pr (c.ok pr mp).nm.1 hcp
  rcases cut_side c.up hi l1 (fun h => by have := r2 h; grind) mp with y | ⟨h, y⟩
  · rw [e] at y; grind
  · rw [e] at y; have := r2 h; grind
theorem CutsF.st {ths sths : List Th} {dx dy : Int} {cs : List (Int × Int)} (c : CutsF ths dx dy cs) (ok : ∀ a ∈ ths, ThOk a) (st : sths.Perm ths) (few : cs.length ≤ 5000) : CutSt dx dy sths (cutT cs) := by
  have len : (cutT cs).length = cs.length := by unfold cutT; rw [List.length_map]
  refine ⟨?_, fun t ht => ?_, ?_, by omega, fun {i} hi {t u} nt nu l1 l2 r1 r2 => ?_⟩
  · unfold Up cutT
    exact List.pairwise_map.mpr c.up
  · obtain ⟨p, hp, rfl⟩ := List.mem_map.mp ht
    exact (c.ok p hp).e
  · exact List.mem_map.mpr ⟨(0, 1), c.zero, rfl⟩
  · have hi' : i < cs.length := by omega
    have nx : ∀ h : i + 1 < cs.length, (cutT cs)[i + 1]? = some (.fr (cs[i + 1]).1 (cs[i + 1]).2) := fun h => by
      unfold cutT
      rw [List.getElem?_map, List.getElem?_eq_getElem h]
      rfl
    rw [cutT_get hi hi'] at l1 l2
    have full : ∀ {t u : Tm}, t.Nm → u.Nm → vF cs[i] < t.val → (∀ h : i + 1 < cs.length, u.val < vF cs[i + 1]) → t.val ≤ u.val → LN dx dy sths t = LN dx dy sths u := fun {t u} nt nu l1 r2 le => by
      unfold LN levN
      rw [lev_congr (v := hv t dx dy) (v' := hv u dx dy) (l := sths)]
      intro a ha b hb
      obtain ⟨k, hk, rfl⟩ := List.getElem_of_mem (st.mem_iff.mp ha)
      obtain ⟨l, hl, rfl⟩ := List.getElem_of_mem (st.mem_iff.mp hb)
      rcases Nat.lt_trichotomy l k with z | z | z
      · exact pair_stay c ok hi' nt nu l1 le r2 hk z
      · subst z
        rw [show ∀ x : RR.Rl, x - x = 0 from fun x => by grind, show ∀ x : RR.Rl, x - x = 0 from fun x => by grind]
      · have := pair_stay c ok hi' nt nu l1 le r2 hl z
        have e : ∀ x y : RR.Rl, x - y = 0 - (y - x) := fun x y => by grind
        rw [e (hv t dx dy ths[k]), e (hv u dx dy ths[k]), sg_sym, sg_sym, this]
    rcases tri (u.val - t.val) with y | y | y
    · exact full nt nu l1 (fun h => r2 _ (nx h)) (by grind)
    · exact (full nu nt l2 (fun h => r1 _ (nx h)) (by grind)).symm
    · exact full nt nu l1 (fun h => r2 _ (nx h)) (by grind)
end SL
namespace SL
open RR PySem
/-! ### a story is one alone -/
theorem mid1 {t : Tm} (et : EOk t) {u : Option Tm} (eu : ∀ x, u = some x → EOk x ∧ t.val < x.val) : ∃ w : Tm, w.Nm ∧ t.val < w.val ∧ ∀ x, u = some x → w.val < x.val := by
  obtain ⟨p, q, rfl, nm, p0, _, _⟩ := et
  have q0 := nm.1
  cases u with
  | none =>
    obtain ⟨m, n, _, _, nm2, e, _⟩ := low_fr (a := p + q) (b := q) (s := 1) (by omega) (by rw [if_neg (by omega)])
    refine ⟨.fr m n, nm2, low_lt (p := (p, q)) q0 nm2.1 q0 e ?_, fun x h => (nomatch h)⟩
    have := Int.mul_pos q0 q0
    show p * q < (p + q) * q
    rw [Int.add_mul]; omega
  | some x =>
    obtain ⟨⟨r, s, rfl, nmx, r0, _, _⟩, lt⟩ := eu _ rfl
    have s0 := nmx.1
    have lt := (vF_lt (p := (p, q)) (q := (r, s)) q0 s0).mp lt
    have lt : p * s < r * q := lt
    obtain ⟨m, n, _, _, nm2, e, _⟩ := low_fr (a := p + r) (b := q + s) (s := 1) (by omega) (by rw [if_neg (by omega)])
    refine ⟨.fr m n, nm2, low_lt (p := (p, q)) q0 nm2.1 (by omega) e ?_, fun y h => ?_⟩
    · show p * (q + s) < (p + r) * q
      rw [Int.mul_add, Int.add_mul]; omega
    · cases h
      refine lt_low (p := (r, s)) s0 nm2.1 (by omega) e ?_
      show (p + r) * s < r * (q + s)
      rw [Int.mul_add, Int.add_mul]; omega
theorem mid2 {t : Tm} (et : EOk t) {u v : Option Tm} (eu : ∀ x, u = some x → EOk x ∧ t.val < x.val) (ev : ∀ x, v = some x → EOk x ∧ t.val < x.val) : ∃ w : Tm, w.Nm ∧ t.val < w.val ∧ (∀ x, u = some x → w.val < x.val) ∧ ∀ x, v = some x → w.val < x.val := by
  obtain ⟨w1, n1, l1, h1⟩ := mid1 et eu
  obtain ⟨w2, n2, l2, h2⟩ := mid1 et ev
  rcases tri (w2.val - w1.val) with y | y | y
  · exact ⟨w1, n1, l1, h1, fun x e => by have := h2 x e; grind⟩
  · exact ⟨w2, n2, l2, fun x e => by have := h1 x e; grind, h2⟩
  · exact ⟨w1, n1, l1, h1, fun x e => by have := h2 x e; grind⟩
section
variable {dx dy : Int} {sths : List Th} {rs rs' : List R3}
theorem StoryOk.nxt (S : StoryOk dx dy sths rs) {k : Nat} (hk : k < rs.length) {s : R3} (e : rs[k + 1]? = some s) : EOk s.1 ∧ (rs[k]).1.val < s.1.val := by
  obtain ⟨h, rfl⟩ := List.getElem?_eq_some_iff.mp e
  exact ⟨S.ok _ (List.getElem_mem h), List.pairwise_iff_getElem.mp S.up k (k + 1) hk h (by omega)⟩
theorem StoryOk.no (S : StoryOk dx dy sths rs) (S' : StoryOk dx dy sths rs') {k : Nat} (hk : k < rs.length) (hk' : k < rs'.length) (e : rs[k] = rs'[k]) (h1 : k + 1 < rs.length) (lt : ∀ s', rs'[k + 1]? = some s' → (rs[k + 1]).1.val < s'.1.val) : False := by
  have e1 : rs[k + 1]? = some rs[k + 1] := List.getElem?_eq_getElem h1
  obtain ⟨o1, l1⟩ := S.nxt hk e1
  have b1 := S'.beh k hk' _ o1.nm (by rw [← e]; exact l1) lt
  have a1 := S.at_ _ (List.getElem_mem h1)
  obtain ⟨w, nw, lw, u1, u2⟩ := mid2 o1 (u := rs[k + 1 + 1]?.map (·.1)) (v := rs'[k + 1]?.map (·.1)) (fun x hx => by
    obtain ⟨s, es, rfl⟩ := Option.map_eq_some_iff.mp hx
    exact S.nxt h1 es) (fun x hx => by
    obtain ⟨s, es, rfl⟩ := Option.map_eq_some_iff.mp hx
    exact ⟨(S'.nxt hk' es).1, lt s es⟩)
  have b2 := S.beh (k + 1) h1 w nw lw fun r hr => u1 r.1 (by rw [hr]; rfl)
  have b3 := S'.beh k hk' w nw (by rw [← e]; grind) fun r hr => u2 r.1 (by rw [hr]; rfl)
  have n := S.new k h1
  rw [← e] at b1 b3
  rcases n with n | n
  · exact n (a1.trans b1)
  · exact n (b2.symm.trans b3)
theorem StoryOk.row (S : StoryOk dx dy sths rs) (S' : StoryOk dx dy sths rs') {k : Nat} (hk : k < rs.length) (hk' : k < rs'.length) (e : (rs[k]).1 = (rs'[k]).1) : rs[k] = rs'[k] := by
  have o := S.ok _ (List.getElem_mem hk)
  have a := S.at_ _ (List.getElem_mem hk)
  have a' := S'.at_ _ (List.getElem_mem hk')
  obtain ⟨w, nw, lw, u1, u2⟩ := mid2 o (u := rs[k + 1]?.map (·.1)) (v := rs'[k + 1]?.map (·.1)) (fun x hx => by
    obtain ⟨s, es, rfl⟩ := Option.map_eq_some_iff.mp hx
    exact S.nxt hk es) (fun x hx => by
    obtain ⟨s, es, rfl⟩ := Option.map_eq_some_iff.mp hx
    rw [e]
    exact S'.nxt hk' es)
  have b := S.beh k hk w nw lw fun r hr => u1 r.1 (by rw [hr]; rfl)
  have b' := S'.beh k hk' w nw (by rw [← e]; exact lw) fun r hr => u2 r.1 (by rw [hr]; rfl)
  refine Prod.ext e (Prod.ext ?_ ?_)
  · rw [a, a', e]
  · exact b.symm.trans b'
theorem StoryOk.uniq (S : StoryOk dx dy sths rs) (S' : StoryOk dx dy sths rs') : rs = rs' := by
  have l0 := S.len.1
  have l0' := S'.len.1
  refine List.ext_getElem? fun k => ?_
  induction k with
  | zero =>
    rw [List.getElem?_eq_getElem l0, List.getElem?_eq_getElem l0']
    exact congrArg some (S.row S' l0 l0' (S.fst.trans S'.fst.symm))
  | succ k ih =>
    rcases Nat.lt_or_ge k rs.length with hk | hk
    · have hk' : k < rs'.length := by
        rw [List.getElem?_eq_getElem hk] at ih
        exact (List.getElem?_eq_some_iff.mp ih.symm).1
      have e : rs[k] = rs'[k] := by
        rw [List.getElem?_eq_getElem hk, List.getElem?_eq_getElem hk'] at ih
        exact Option.some.inj ih
      rcases Nat.lt_or_ge (k + 1) rs.length with h1 | h1
      · rcases Nat.lt_or_ge (k + 1) rs'.length with h2 | h2
        · rw [List.getElem?_eq_getElem h1, List.getElem?_eq_getElem h2]
          refine congrArg some (S.row S' h1 h2 ?_)
          have o1 := S.ok _ (List.getElem_mem h1)
          have o2 := S'.ok _ (List.getElem_mem h2)
          rcases tri ((rs'[k + 1]).1.val - (rs[k + 1]).1.val) with y | y | y
          · exact (S.no S' hk hk' e h1 fun s' es => by
              rw [List.getElem?_eq_getElem h2] at es
              cases es
              grind).elim
          · exact (S'.no S hk' hk e.symm h2 fun s' es => by
              rw [List.getElem?_eq_getElem h1] at es
              cases es
              grind).elim
          · exact val_inj o1.nm o2.nm (by grind)
        · exact (S.no S' hk hk' e h1 fun s' es => by rw [List.getElem?_eq_none h2] at es; cases es).elim
      · rcases Nat.lt_or_ge (k + 1) rs'.length with h2 | h2
        · exact (S'.no S hk' hk e.symm h2 fun s' es => by rw [List.getElem?_eq_none h1] at es; cases es).elim
        · rw [List.getElem?_eq_none h1, List.getElem?_eq_none h2]
    · have hk' : rs'.length ≤ k := by
        rw [List.getElem?_eq_none hk] at ih
        exact List.getElem?_eq_none_iff.mp ih.symm
      rw [List.getElem?_eq_none (by omega), List.getElem?_eq_none (by omega)]
end
end SL
namespace SL
open RR PySem
theorem beh_ex {cs : List (Int × Int)} (ok : ∀ p ∈ cs, FrOk p) (up : cs.Pairwise fun p q => vF p < vF q) {i : Nat} (hi : i < cs.length) : ∃ t : Tm, t.Nm ∧ vF cs[i] < t.val ∧ ∀ h : i + 1 < cs.length, t.val < vF cs[i + 1] := by
  have o := (ok _ (List.getElem_mem hi)).e
  obtain ⟨w, nw, lw, u⟩ := mid1 o (u := cs[i + 1]?.map fun p => .fr p.1 p.2) (fun x hx => by
    obtain ⟨p, ep, rfl⟩ := Option.map_eq_some_iff.mp hx
    obtain ⟨h, rfl⟩ := List.getElem?_eq_some_iff.mp ep
    exact ⟨(ok _ (List.getElem_mem h)).e, List.pairwise_iff_getElem.mp up i (i + 1) hi h (by omega)⟩)
  exact ⟨w, nw, lw, fun h => u (.fr (cs[i + 1]).1 (cs[i + 1]).2) (by rw [List.getElem?_eq_getElem h]; rfl)⟩
end SL
namespace SL
open RR PySem
/-! ### meetings with their sides: one list alone -/
noncomputable def sdT (dx dy : Int) (a b : Th) (w : Tm) : Int := sgR (hv w dx dy a - hv w dx dy b)
theorem sdT_0 {dx dy : Int} {a b : Th} {w : Tm} : sdT dx dy a b w = 0 ↔ hv w dx dy a - hv w dx dy b = 0 := sg_eq0
theorem sdT_turn {dx dy : Int} {a b : Th} {w : Tm} : sdT dx dy b a w = 0 - sdT dx dy a b w := by
  unfold sdT
  rw [show hv w dx dy b - hv w dx dy a = 0 - (hv w dx dy a - hv w dx dy b) by grind, sg_sym]
  omega
def Ahd (dx dy : Int) (a b : Th) (t : Tm) (d : D) : Prop := (t.val = 0 ∧ d = .non) ∨ ∃ (x : Tm) (s : Int), EOk x ∧ x.val < t.val ∧ s ≠ 0 ∧ d = .int s ∧ ∀ w : Tm, w.Nm → x.val < w.val → w.val < t.val → sdT dx dy a b w = s
def Bhd (dx dy : Int) (a b : Th) (t : Option Tm) (d : D) : Prop := (t = none ∧ d = .non) ∨ ∃ (u : Tm) (x : Option Tm) (s : Int), t = some u ∧ (∀ y, x = some y → EOk y ∧ u.val < y.val) ∧ s ≠ 0 ∧ d = .int s ∧ ∀ w : Tm, w.Nm → u.val < w.val → (∀ y, x = some y → w.val < y.val) → sdT dx dy a b w = s
structure MeetOk (dx dy : Int) (a b : Th) (ms : List Mx) : Prop where
  cv : Cv dx dy a b (fun _ => True) (ms.map (·.1))
  up : (ms.map (·.1.1)).Pairwise fun t u : Tm => t.val < u.val
  ahd : ∀ m ∈ ms, Ahd dx dy a b m.1.1 m.2.1
  bhd : ∀ m ∈ ms, Bhd dx dy a b m.1.2 m.2.2
section
variable {dx dy : Int} {a b : Th} {ms ns : List Mx} {m n : Mx}
theorem MeetOk.s (A : MeetOk dx dy a b ms) (hm : m ∈ ms) : SOk m.1 := A.cv.ok _ (List.mem_map.mpr ⟨m, hm, rfl⟩)
theorem MeetOk.z (A : MeetOk dx dy a b ms) (hm : m ∈ ms) {w : Tm} (nw : w.Nm) (i : InS m.1 w.val) : sdT dx dy a b w = 0 := sdT_0.mpr (A.cv.tru _ (List.mem_map.mpr ⟨m, hm, rfl⟩) w nw i)
theorem MeetOk.c (A : MeetOk dx dy a b ms) {w : Tm} (nw : w.Nm) (w0 : 0 ≤ w.val) (h : sdT dx dy a b w = 0) : ∃ m ∈ ms, InS m.1 w.val := by
  obtain ⟨s, hs, i⟩ := A.cv.cov w nw w0 trivial (sdT_0.mp h)
  obtain ⟨m, hm, rfl⟩ := List.mem_map.mp hs
  exact ⟨m, hm, i⟩
theorem mid_max {x y t : Tm} (ox : EOk x) (oy : EOk y) (ot : EOk t) (l1 : x.val < t.val) (l2 : y.val < t.val) : ∃ w : Tm, w.Nm ∧ x.val < w.val ∧ y.val < w.val ∧ w.val < t.val := by
  rcases tri (y.val - x.val) with q | q | q
  · obtain ⟨w, nw, k1, k2⟩ := mid1 oy (u := some t) fun z hz => by cases hz; exact ⟨ot, l2⟩
    exact ⟨w, nw, by grind, k1, k2 _ rfl⟩
  · obtain ⟨w, nw, k1, k2⟩ := mid1 ox (u := some t) fun z hz => by cases hz; exact ⟨ot, l1⟩
    exact ⟨w, nw, k1, by grind, k2 _ rfl⟩
  · obtain ⟨w, nw, k1, k2⟩ := mid1 ox (u := some t) fun z hz => by cases hz; exact ⟨ot, l1⟩
    exact ⟨w, nw, k1, by grind, k2 _ rfl⟩
theorem MeetOk.from_le (A : MeetOk dx dy a b ms) (B : MeetOk dx dy a b ns) (hm : m ∈ ms) (hn : n ∈ ns) {x : RR.Rl} (i1 : InS m.1 x) (i2 : InS n.1 x) : ¬ m.1.1.val < n.1.1.val := fun lt => by
  have om := (A.s hm).1
  have on := (B.s hn).1
  rcases B.ahd n hn with ⟨e, _⟩ | ⟨y, s, oy, ly, s0, _, h⟩
  · have := om.nn
    grind
  · obtain ⟨w, nw, l1, l2, l3⟩ := mid_max om oy on lt ly
    refine s0 ((h w nw l2 l3).symm.trans (A.z hm nw ⟨by grind, fun t et => ?_⟩))
    have := i1.2 t et
    have := i2.1
    grind
theorem MeetOk.to_le (A : MeetOk dx dy a b ms) (B : MeetOk dx dy a b ns) (hm : m ∈ ms) (hn : n ∈ ns) {x : RR.Rl} (i1 : InS m.1 x) (i2 : InS n.1 x) {u : Tm} (eu : m.1.2 = some u) (lt : ∀ v, n.1.2 = some v → u.val < v.val) : False := by
  have ou := ((A.s hm).2 u eu).1
  rcases A.bhd m hm with ⟨e, _⟩ | ⟨u', y, s, e, oy, s0, _, h⟩
  · rw [e] at eu; cases eu
  · rw [eu] at e
    cases e
    obtain ⟨w, nw, l1, l2, l3⟩ := mid2 ou (u := y) (v := n.1.2) oy fun v ev => ⟨((B.s hn).2 v ev).1, lt v ev⟩
    refine s0 ((h w nw l1 l2).symm.trans (B.z hn nw ⟨?_, fun t et => by have := l3 t et; grind⟩))
    have := i1.2 u eu
    have := i2.1
    grind
theorem MeetOk.same (A : MeetOk dx dy a b ms) (B : MeetOk dx dy a b ns) (hm : m ∈ ms) (hn : n ∈ ns) {x : RR.Rl} (i1 : InS m.1 x) (i2 : InS n.1 x) : m = n := by
  have om := A.s hm
  have on := B.s hn
  have ef : m.1.1 = n.1.1 := by
    refine val_inj om.1.nm on.1.nm ?_
    have := A.from_le B hm hn i1 i2
    have := B.from_le A hn hm i2 i1
    rcases tri (m.1.1.val - n.1.1.val) with q | q | q <;> grind
  have et : m.1.2 = n.1.2 := by
    cases em : m.1.2 with
    | none =>
      cases en : n.1.2 with
      | none => rfl
      | some v => exact (B.to_le A hn hm i2 i1 en fun u eu => by rw [em] at eu; cases eu).elim
    | some u =>
      cases en : n.1.2 with
      | none => exact (A.to_le B hm hn i1 i2 em fun v ev => by rw [en] at ev; cases ev).elim
      | some v =>
        congr 1
        refine val_inj (om.2 u em).1.nm (on.2 v en).1.nm ?_
        rcases tri (u.val - v.val) with q | q | q
        · exact (B.to_le A hn hm i2 i1 en fun z hz => by rw [em] at hz; cases hz; grind).elim
        · exact (A.to_le B hm hn i1 i2 em fun z hz => by rw [en] at hz; cases hz; grind).elim
        · grind
  have ea : m.2.1 = n.2.1 := by
    have ha := A.ahd m hm
    have hb := B.ahd n hn
    rw [← ef] at hb
    rcases ha with ⟨e, k⟩ | ⟨y, s, oy, ly, s0, k, h⟩
    · rcases hb with ⟨e', k'⟩ | ⟨y', s', oy', ly', s0', k', h'⟩
      · rw [k, k']
      · have := oy'.nn; exfalso; grind
    · rcases hb with ⟨e', k'⟩ | ⟨y', s', oy', ly', s0', k', h'⟩
      · have := oy.nn; exfalso; grind
      · obtain ⟨w, nw, l1, l2, l3⟩ := mid_max oy oy' om.1 ly ly'
        rw [k, k', ← h w nw l1 l3, ← h' w nw l2 l3]
  have eb : m.2.2 = n.2.2 := by
    have ha := A.bhd m hm
    have hb := B.bhd n hn
    rw [← et] at hb
    rcases ha with ⟨e, k⟩ | ⟨u, y, s, e, oy, s0, k, h⟩
    · rcases hb with ⟨e', k'⟩ | ⟨u', y', s', e', oy', s0', k', h'⟩
      · rw [k, k']
      · rw [e] at e'; cases e'
    · rcases hb with ⟨e', k'⟩ | ⟨u', y', s', e', oy', s0', k', h'⟩
      · rw [e] at e'; cases e'
      · rw [e] at e'
        cases e'
        obtain ⟨w, nw, l1, l2, l3⟩ := mid2 (om.2 u e).1 (u := y) (v := y') oy oy'
        rw [k, k', ← h w nw l1 l2, ← h' w nw l1 l3]
  exact Prod.ext (Prod.ext ef et) (Prod.ext ea eb)
theorem MeetOk.sub (A : MeetOk dx dy a b ms) (B : MeetOk dx dy a b ns) (hm : m ∈ ms) : m ∈ ns := by
  have om := A.s hm
  have i1 : InS m.1 m.1.1.val := ⟨by grind, fun t et => (om.2 t et).2⟩
  obtain ⟨n, hn, i2⟩ := B.c om.1.nm om.1.nn (A.z hm om.1.nm i1)
  rw [A.same B hm hn i1 i2]
  exact hn
theorem MeetOk.uniq (A : MeetOk dx dy a b ms) (B : MeetOk dx dy a b ns) : ms = ns := by
  have h := List.pairwise_map.mp A.up
  have k := List.pairwise_map.mp B.up
  have nd : ∀ {l : List Mx}, l.Pairwise (fun p q => p.1.1.val < q.1.1.val) → l.Nodup := fun h => h.imp fun l e => by rw [e] at l; grind
  exact List.Perm.eq_of_pairwise (le := fun p q : Mx => p.1.1.val < q.1.1.val) (fun a b _ _ h1 h2 => absurd h1 (by grind)) h k ((List.perm_ext_iff_of_nodup (nd h) (nd k)).mpr fun m => ⟨A.sub B, B.sub A⟩)
def turnD : D → D
  | .int k => .int (0 - k)
  | d => d
def turnM (m : Mx) : Mx := (m.1, turnD m.2.1, turnD m.2.2)
theorem MeetOk.turn (A : MeetOk dx dy a b ms) : MeetOk dx dy b a (ms.map turnM) where
  cv := by
    have e : (ms.map turnM).map (·.1) = ms.map (·.1) := by rw [List.map_map]; rfl
    rw [e]
    exact ⟨A.cv.ok, fun m hm w nw i => by have := A.cv.tru m hm w nw i; grind, fun w nw w0 _ h => A.cv.cov w nw w0 trivial (by grind)⟩
  up := by
    have e : (ms.map turnM).map (·.1.1) = ms.map (·.1.1) := by rw [List.map_map]; rfl
    rw [e]
    exact A.up
  ahd := fun m' hm' => by
    obtain ⟨m, hm, rfl⟩ := List.mem_map.mp hm'
    rcases A.ahd m hm with ⟨e, k⟩ | ⟨y, s, oy, ly, s0, k, h⟩
    · exact .inl ⟨e, by show turnD m.2.1 = _; rw [k]; rfl⟩
    · exact .inr ⟨y, 0 - s, oy, ly, by omega, by show turnD m.2.1 = _; rw [k]; rfl, fun w nw l1 l2 => by rw [sdT_turn, h w nw l1 l2]⟩
  bhd := fun m' hm' => by
    obtain ⟨m, hm, rfl⟩ := List.mem_map.mp hm'
    rcases A.bhd m hm with ⟨e, k⟩ | ⟨u, y, s, e, oy, s0, k, h⟩
    · exact .inl ⟨e, by show turnD m.2.2 = _; rw [k]; rfl⟩
    · exact .inr ⟨u, y, 0 - s, e, oy, by omega, by show turnD m.2.2 = _; rw [k]; rfl, fun w nw l1 l2 => by rw [sdT_turn, h w nw l1 l2]⟩
end
end SL
namespace SL
open RR PySem
/-! ### gathered piece by piece, with the sides -/
theorem ln_one {P : P3} {x z : RR.Rl} (hm : P.2.1 ≠ 0) (h : lnV P x = 0) (k : lnV P z = 0) : x = z := by
  rw [ln_at0 k] at h
  have hb : (P.2.1 : RR.Rl) ≠ 0 := fun y => hm (cast_inj (by rw [y, cast_zero]))
  rcases tri (P.2.1 : RR.Rl) with u | u | u
  · rcases tri (x - z) with y | y | y
    · have := mul_posR _ _ u y; grind
    · have := mul_posR _ _ u (show 0 < 0 - (x - z) by grind); grind
    · grind
  · rcases tri (x - z) with y | y | y
    · have := mul_posR _ _ (show 0 < 0 - (P.2.1 : RR.Rl) by grind) y; grind
    · have := mul_posR _ _ (show 0 < 0 - (P.2.1 : RR.Rl) by grind) (show 0 < 0 - (x - z) by grind); grind
    · grind
  · exact absurd u hb
theorem ln_right {P : P3} {x z : RR.Rl} (h : lnV P z = 0) (l : z < x) : sgR (lnV P x) = P.2.1.sign := by
  rw [ln_at0 h, show (P.2.1 : RR.Rl) * (x - z) = (x - z) * (P.2.1 : RR.Rl) by grind, sg_mul_pos (by grind), sg_int]
theorem ln_left {P : P3} {x z : RR.Rl} (h : lnV P z = 0) (l : x < z) : sgR (lnV P x) = 0 - P.2.1.sign := by
  rw [ln_at0 h, show (P.2.1 : RR.Rl) * (x - z) = 0 - (z - x) * (P.2.1 : RR.Rl) by grind, sg_sym, show (z - x) * (P.2.1 : RR.Rl) = (z - x) * (P.2.1 : RR.Rl) by rfl, sg_mul_pos (by grind), sg_int]
  omega
theorem ln_flat {P : P3} (hm : P.2.1 = 0) (x z : RR.Rl) : lnV P x = lnV P z := by
  unfold lnV
  rw [hm, cast_zero]
  grind
theorem in_from {m : Sx} (o : SOk m) : InS m m.1.val := ⟨by grind, fun t et => (o.2 t et).2⟩
theorem in_to {m : Sx} (o : SOk m) {t : Tm} (e : m.2 = some t) : InS m t.val := ⟨(o.2 t e).2, fun u eu => by rw [e] at eu; cases eu; grind⟩
theorem nt_two {z : Int} {e : Option Int} {P : P3} {m : Sx} (n : NtOk z e P (some m)) (he : ∀ e', e = some e' → z < e') :
    (P.2.1 = 0 ∧ m.1 = .fr z 1 ∧ m.2 = e.map fun e' => .fr e' 1) ∨ (P.2.1 ≠ 0 ∧ m.2 = some m.1 ∧ lnV P m.1.val = 0) := by
  obtain ⟨o, n2, n3⟩ := n
  have i0 := in_from o
  have l0 := (n3 _ (n2 _ i0)).mpr i0
  have p0 := n2 _ i0
  by_cases s : P.2.1 = 0
  · refine .inl ⟨s, ?_⟩
    have all : ∀ x, inPc z e x → InS m x := fun x hx => (n3 x hx).mp ((ln_flat s x m.1.val).trans l0)
    have iz : inPc z e (z : RR.Rl) := ⟨by grind, fun e' ee => by rw [cast_le]; have := he e' ee; omega⟩
    have ez := all _ iz
    refine ⟨val_inj o.1.nm (whole_nmR z) (by rw [val_1]; have := ez.1; have := p0.1; grind), ?_⟩
    cases ee : e with
    | none =>
      cases em : m.2 with
      | none => rfl
      | some t =>
        exfalso
        have h := all (t.val + 1) ⟨by have := (o.2 t em).2; have := p0.1; grind, fun e' h => by rw [ee] at h; cases h⟩
        have := h.2 t em
        grind
    | some e' =>
      have ie : inPc z e (e' : RR.Rl) := ⟨by rw [cast_le]; have := he e' ee; omega, fun x ex => by rw [ee] at ex; cases ex; grind⟩
      have h := all _ ie
      cases em : m.2 with
      | none =>
        exfalso
        have k := n2 ((e' : RR.Rl) + 1) ⟨by have := h.1; grind, fun t et => by rw [em] at et; cases et⟩
        have := k.2 e' ee
        grind
      | some t =>
        show some t = some (Tm.fr e' 1)
        congr 1
        refine val_inj (o.2 t em).1.nm (whole_nmR e') ?_
        rw [val_1]
        have h1 := h.2 t em
        have h2 := (n2 _ (in_to o em)).2 e' ee
        grind
  · refine .inr ⟨s, ?_, l0⟩
    cases em : m.2 with
    | none =>
      exfalso
      have i1 : InS m (m.1.val + 1) := ⟨by grind, fun t et => by rw [em] at et; cases et⟩
      have := ln_one s ((n3 _ (n2 _ i1)).mpr i1) l0
      grind
    | some t =>
      have i1 := in_to o em
      have := ln_one s ((n3 _ (n2 _ i1)).mpr i1) l0
      rw [val_inj (o.2 t em).1.nm o.1.nm this]
structure Cz (dx dy : Int) (a b : Th) (i : Nat) (ms : List Mx) : Prop where
  cv : Cv dx dy a b (limS (stS a b) i) (ms.map (·.1))
  up : (ms.map (·.1.1)).Pairwise fun t u : Tm => t.val < u.val
  ahd : ∀ m ∈ ms, Ahd dx dy a b m.1.1 m.2.1
  to : ∀ (h : i < (stS a b).length), ∀ m ∈ ms, ∃ t, m.1.2 = some t ∧ t.val ≤ ((stS a b)[i] : RR.Rl)
  bhd : ∀ m ∈ ms, Bhd dx dy a b m.1.2 m.2.2 ∨ ∃ (h : i < (stS a b).length), m.1.2 = some (.fr (stS a b)[i] 1) ∧ ms.getLast? = some m
  pend : ∀ (h : i < (stS a b).length), 0 < i → lnV (dfW dx dy a b (stS a b)[i]) ((stS a b)[i] : RR.Rl) = 0 → ∃ m, ms.getLast? = some m ∧ m.1.2 = some (.fr (stS a b)[i] 1)
  beg : i = 0 → ms = []
def bhV (m : Sx) (P : P3) : D := match m.2 with
  | none => .non
  | some _ => .int P.2.1.sign
section
variable {dx dy : Int} {a b : Th} {i : Nat} {ms qs : List Mx} {m : Sx}
theorem st_next (hi : i < (stS a b).length) {e : Int} (h : (stS a b)[i + 1]? = some e) : ∃ h1 : i + 1 < (stS a b).length, (stS a b)[i + 1] = e ∧ (stS a b)[i] < e := by
  obtain ⟨h1, h2⟩ := List.getElem?_eq_some_iff.mp h
  exact ⟨h1, h2, by rw [← h2]; exact List.pairwise_iff_getElem.mp (stS_up a b) i (i + 1) hi h1 (by omega)⟩
theorem st_some (hi : i + 1 < (stS a b).length) : (stS a b)[i + 1]? = some (stS a b)[i + 1] := List.getElem?_eq_getElem hi
theorem st_ok (oa : ThOk a) (ob : ThOk b) (hi : i < (stS a b).length) : EOk (.fr (stS a b)[i] 1) := by
  obtain ⟨h1, h2⟩ := stS_rng oa ob (List.getElem_mem hi)
  exact .whole h1 h2
theorem seam (oa : ThOk a) (ob : ThOk b) (h1 : i + 1 < (stS a b).length) : lnV (dfW dx dy a b (stS a b)[i + 1]) ((stS a b)[i + 1] : RR.Rl) = lnV (dfW dx dy a b (stS a b)[i]) ((stS a b)[i + 1] : RR.Rl) := by
  have hi : i < (stS a b).length := by omega
  have ok := st_ok oa ob h1
  obtain ⟨_, _, lt⟩ := st_next hi (st_some h1)
  have e1 := piece_is (dx := dx) (dy := dy) oa ob h1 ok.nm (by rw [val_1]; grind) fun e he => by
    rw [val_1, cast_le]
    obtain ⟨_, _, lt⟩ := st_next h1 he
    omega
  have e2 := piece_is (dx := dx) (dy := dy) oa ob hi ok.nm (by rw [val_1, cast_le]; omega) fun e he => by
    rw [st_some h1] at he
    cases he
    rw [val_1]
    grind
  rw [val_1] at e1 e2
  exact e1.symm.trans e2
theorem piece_sd (oa : ThOk a) (ob : ThOk b) (hi : i < (stS a b).length) {w : Tm} (nw : w.Nm) (l : inPc (stS a b)[i] (stS a b)[i + 1]? w.val) : sdT dx dy a b w = sgR (lnV (dfW dx dy a b (stS a b)[i]) w.val) := by
  unfold sdT
  rw [piece_is oa ob hi nw l.1 l.2]
theorem new_last (oa : ThOk a) (ob : ThOk b) (hi : i < (stS a b).length) (n : NtOk (stS a b)[i] (stS a b)[i + 1]? (dfW dx dy a b (stS a b)[i]) (some m)) :
    (∀ h : i + 1 < (stS a b).length, ∃ t, m.2 = some t ∧ t.val ≤ ((stS a b)[i + 1] : RR.Rl)) ∧
    (Bhd dx dy a b m.2 (bhV m (dfW dx dy a b (stS a b)[i])) ∨ ∃ h : i + 1 < (stS a b).length, m.2 = some (.fr (stS a b)[i + 1] 1)) ∧
    (∀ h : i + 1 < (stS a b).length, lnV (dfW dx dy a b (stS a b)[i + 1]) ((stS a b)[i + 1] : RR.Rl) = 0 → m.2 = some (.fr (stS a b)[i + 1] 1)) := by
  have two := nt_two n fun e he => (st_next hi he).choose_spec.2
  obtain ⟨o, n2, n3⟩ := n
  have p0 := n2 _ (in_from o)
  refine ⟨fun h => ?_, ?_, fun h l => ?_⟩
  · rcases two with ⟨_, _, e⟩ | ⟨_, e, _⟩
    · exact ⟨.fr (stS a b)[i + 1] 1, by rw [e, st_some h]; rfl, by rw [val_1]; grind⟩
    · exact ⟨m.1, e, p0.2 _ (st_some h)⟩
  · rcases two with ⟨s, _, e⟩ | ⟨s, e, l0⟩
    · rcases Nat.lt_or_ge (i + 1) (stS a b).length with h | h
      · exact .inr ⟨h, by rw [e, st_some h]; rfl⟩
      · have e' : m.2 = none := by rw [e, List.getElem?_eq_none h]; rfl
        exact .inl (.inl ⟨e', by unfold bhV; rw [e']⟩)
    · by_cases q : ∃ h : i + 1 < (stS a b).length, m.1.val = ((stS a b)[i + 1] : RR.Rl)
      · obtain ⟨h, q⟩ := q
        refine .inr ⟨h, ?_⟩
        rw [e]
        congr 1
        exact val_inj o.1.nm (st_ok oa ob h).nm (by rw [q, val_1])
      · refine .inl (.inr ⟨m.1, (stS a b)[i + 1]?.map fun z => .fr z 1, (dfW dx dy a b (stS a b)[i]).2.1.sign, e, fun y hy => ?_, fun z => s (Int.sign_eq_zero_iff_zero.mp z), by unfold bhV; rw [e], fun w nw l1 l2 => ?_⟩)
        · obtain ⟨z, hz, rfl⟩ := Option.map_eq_some_iff.mp hy
          obtain ⟨h, hz', _⟩ := st_next hi hz
          subst hz'
          refine ⟨st_ok oa ob h, ?_⟩
          have := p0.2 _ hz
          rw [val_1]
          rcases tri (((stS a b)[i + 1] : RR.Rl) - m.1.val) with y | y | y
          · grind
          · grind
          · exact absurd ⟨h, by grind⟩ q
        · rw [piece_sd oa ob hi nw ⟨by have := p0.1; grind, fun e' he => by have := l2 (.fr e' 1) (by rw [he]; rfl); rw [val_1] at this; grind⟩, ln_right l0 l1]
  · rw [seam oa ob h] at l
    obtain ⟨_, _, lt⟩ := st_next hi (st_some h)
    have ip : inPc (stS a b)[i] (stS a b)[i + 1]? ((stS a b)[i + 1] : RR.Rl) := ⟨by rw [cast_le]; omega, fun e he => by rw [st_some h] at he; cases he; grind⟩
    have is := (n3 _ ip).mp l
    rcases two with ⟨_, _, e⟩ | ⟨_, e, _⟩
    · rw [e, st_some h]; rfl
    · rw [e]
      congr 1
      refine val_inj o.1.nm (st_ok oa ob h).nm ?_
      rw [val_1]
      have h1 := is.2 _ e
      have h2 := p0.2 _ (st_some h)
      grind
theorem Cz.start (oa : ThOk a) (ob : ThOk b) : Cz dx dy a b 0 [] := ⟨Cv.start oa ob, .nil, fun m h => (nomatch h), fun _ m h => (nomatch h), fun m h => (nomatch h), fun _ h => absurd h (Nat.lt_irrefl 0), fun _ => rfl⟩
theorem Cz.to_nx (c : Cz dx dy a b i ms) (hi : i < (stS a b).length) (h : i + 1 < (stS a b).length) {x : Mx} (hx : x ∈ ms) : ∃ t, x.1.2 = some t ∧ t.val ≤ ((stS a b)[i + 1] : RR.Rl) := by
  obtain ⟨t, e, l⟩ := c.to hi x hx
  obtain ⟨_, _, lt⟩ := st_next hi (st_some h)
  have : ((stS a b)[i] : RR.Rl) < ((stS a b)[i + 1] : RR.Rl) := by rw [cast_lt]; exact lt
  exact ⟨t, e, by grind⟩
theorem Cz.nought (c : Cz dx dy a b i ms) (oa : ThOk a) (ob : ThOk b) (hi : i < (stS a b).length) {x : Mx} (hx : x ∈ ms) (e : x.1.2 = some (.fr (stS a b)[i] 1)) : lnV (dfW dx dy a b (stS a b)[i]) ((stS a b)[i] : RR.Rl) = 0 := by
  have mx : x.1 ∈ ms.map (·.1) := List.mem_map.mpr ⟨x, hx, rfl⟩
  have o := c.cv.ok _ mx
  have ok := st_ok oa ob hi
  have h := c.cv.tru _ mx _ ok.nm (in_to o e)
  rw [piece_is oa ob hi ok.nm (by rw [val_1]; grind) (fun e he => by
    obtain ⟨_, _, lt⟩ := st_next hi he
    rw [val_1, cast_le]; omega), val_1] at h
  exact h
theorem at_seam (hi : i < (stS a b).length) : inPc (stS a b)[i] (stS a b)[i + 1]? ((stS a b)[i] : RR.Rl) := ⟨by grind, fun e he => by obtain ⟨_, _, lt⟩ := st_next hi he; rw [cast_le]; omega⟩
theorem Cz.far (c : Cz dx dy a b i ms) (oa : ThOk a) (ob : ThOk b) (hi : i < (stS a b).length) (n : NtOk (stS a b)[i] (stS a b)[i + 1]? (dfW dx dy a b (stS a b)[i]) none) : Cz dx dy a b (i + 1) ms where
  cv := c.cv.far oa ob hi n
  up := c.up
  ahd := c.ahd
  to := fun h x hx => c.to_nx hi h hx
  bhd := fun x hx => by
    rcases c.bhd x hx with h | ⟨h, e, _⟩
    · exact .inl h
    · exact absurd (c.nought oa ob hi hx e) (n _ (at_seam hi))
  pend := fun h _ l => by
    rw [seam oa ob h] at l
    obtain ⟨_, _, lt⟩ := st_next hi (st_some h)
    exact absurd l (n _ ⟨by rw [cast_le]; omega, fun e he => by rw [st_some h] at he; cases he; grind⟩)
  beg := fun h => by omega
theorem last_snoc {α : Type} (l : List α) (x : α) : (l ++ [x]).getLast? = some x := by simp
theorem Cz.new {ah : D} (c : Cz dx dy a b i ms) (oa : ThOk a) (ob : ThOk b) (hi : i < (stS a b).length) (n : NtOk (stS a b)[i] (stS a b)[i + 1]? (dfW dx dy a b (stS a b)[i]) (some m)) (no : ∀ l, ms.getLast? = some l → l.1.2 ≠ some m.1)
    (hah : (m.1 = .fr 0 1 ∧ ah = .non) ∨ (m.1 ≠ .fr 0 1 ∧ ah = .int (0 - (dfW dx dy a b (stS a b)[i]).2.1.sign))) : Cz dx dy a b (i + 1) (ms ++ [(m, ah, bhV m (dfW dx dy a b (stS a b)[i]))]) := by
  obtain ⟨k1, k2, k3⟩ := new_last oa ob hi n
  have two := nt_two n fun e he => (st_next hi he).choose_spec.2
  have n' := n
  obtain ⟨o, n2, n3⟩ := n'
  have p0 := n2 _ (in_from o)
  have K : ∀ h0 : 0 < i, ((stS a b)[i] : RR.Rl) < m.1.val := fun h0 => by
    rcases tri (m.1.val - ((stS a b)[i] : RR.Rl)) with q | q | q
    · grind
    · have := p0.1; exfalso; grind
    · have e : m.1 = .fr (stS a b)[i] 1 := val_inj o.1.nm (st_ok oa ob hi).nm (by rw [val_1]; grind)
      have is := (n3 _ p0).mpr (in_from o)
      rw [show m.1.val = ((stS a b)[i] : RR.Rl) by grind] at is
      obtain ⟨l, hl, el⟩ := c.pend hi h0 is
      exact absurd (by rw [el, e]) (no l hl)
  refine ⟨?_, ?_, fun x hx => ?_, fun h x hx => ?_, fun x hx => ?_, fun h _ l => ⟨_, last_snoc _ _, k3 h l⟩, fun h => by omega⟩
  · rw [List.map_append]
    exact c.cv.new oa ob hi n
  · rw [List.map_append]
    refine List.pairwise_append.mpr ⟨c.up, by simp, fun t ht u hu => ?_⟩
    obtain ⟨x, hx, rfl⟩ := List.mem_map.mp ht
    rw [List.map_cons, List.map_nil, List.mem_singleton] at hu
    subst hu
    have h0 : 0 < i := Nat.pos_of_ne_zero fun z => by rw [c.beg z] at hx; cases hx
    have := K h0
    obtain ⟨t, e, l⟩ := c.to hi x hx
    have := ((c.cv.ok _ (List.mem_map.mpr ⟨x, hx, rfl⟩)).2 t e).2
    show x.1.1.val < m.1.val
    grind
  · rcases List.mem_append.mp hx with hx | hx
    · exact c.ahd x hx
    · rw [List.mem_singleton.mp hx]
      rcases hah with ⟨e, rfl⟩ | ⟨e, rfl⟩
      · refine .inl ⟨?_, rfl⟩
        show m.1.val = 0
        rw [e, val_1, cast_zero]
      · have s0 := st_ok oa ob hi
        have lt : ((stS a b)[i] : RR.Rl) < m.1.val := by
          rcases Nat.eq_zero_or_pos i with z | z
          · subst z
            have h0 := stS_0 oa ob
            rw [List.getElem?_eq_getElem hi] at h0
            have h0 := Option.some.inj h0
            rw [h0, cast_zero]
            rcases tri m.1.val with q | q | q
            · exact q
            · have := o.1.nn; exfalso; grind
            · exact absurd (val_inj o.1.nm (whole_nmR 0) (by rw [val_1, cast_zero]; exact q)) e
          · exact K z
        rcases two with ⟨_, e', _⟩ | ⟨s, e', l0⟩
        · rw [e', val_1] at lt; exfalso; grind
        · refine .inr ⟨_, _, s0, by rw [val_1]; exact lt, fun z => s (Int.sign_eq_zero_iff_zero.mp (by omega)), rfl, fun w nw l1 l2 => ?_⟩
          rw [val_1] at l1
          rw [piece_sd oa ob hi nw ⟨by grind, fun e' he => by have := p0.2 e' he; have l2 : w.val < m.1.val := l2; grind⟩]
          exact ln_left l0 l2
  · rcases List.mem_append.mp hx with hx | hx
    · exact c.to_nx hi h hx
    · rw [List.mem_singleton.mp hx]
      exact k1 h
  · rcases List.mem_append.mp hx with hx | hx
    · rcases c.bhd x hx with h | ⟨h, e, lst⟩
      · exact .inl h
      · have z := c.nought oa ob hi hx e
        have is := (n3 _ (at_seam hi)).mp z
        have e' : m.1 = .fr (stS a b)[i] 1 := val_inj o.1.nm (st_ok oa ob hi).nm (by rw [val_1]; have := is.1; have := p0.1; grind)
        exact absurd (by rw [e, e']) (no x lst)
    · rw [List.mem_singleton.mp hx]
      rcases k2 with h | ⟨h, e⟩
      · exact .inl h
      · exact .inr ⟨h, e, last_snoc _ _⟩
theorem Cz.join {f : Tm} {ah bh : D} (c : Cz dx dy a b i (qs ++ [((f, some m.1), ah, bh)])) (oa : ThOk a) (ob : ThOk b) (hi : i < (stS a b).length) (n : NtOk (stS a b)[i] (stS a b)[i + 1]? (dfW dx dy a b (stS a b)[i]) (some m)) : Cz dx dy a b (i + 1) (qs ++ [((f, m.2), ah, bhV m (dfW dx dy a b (stS a b)[i]))]) := by
  obtain ⟨k1, k2, k3⟩ := new_last oa ob hi n
  have up := c.up
  rw [List.map_append] at up
  refine ⟨?_, ?_, fun x hx => ?_, fun h x hx => ?_, fun x hx => ?_, fun h _ l => ⟨_, last_snoc _ _, k3 h l⟩, fun h => by omega⟩
  · have := c.cv
    rw [List.map_append] at this ⊢
    exact this.join oa ob hi n
  · rw [List.map_append]
    exact up
  · rcases List.mem_append.mp hx with hx | hx
    · exact c.ahd x (List.mem_append_left _ hx)
    · rw [List.mem_singleton.mp hx]
      exact c.ahd ((f, some m.1), ah, bh) (by simp)
  · rcases List.mem_append.mp hx with hx | hx
    · exact c.to_nx hi h (List.mem_append_left _ hx)
    · rw [List.mem_singleton.mp hx]
      exact k1 h
  · rcases List.mem_append.mp hx with hx | hx
    · rcases c.bhd x (List.mem_append_left _ hx) with h | ⟨h, e, lst⟩
      · exact .inl h
      · exfalso
        rw [last_snoc] at lst
        have lst := Option.some.inj lst
        have := (List.pairwise_append.mp up).2.2 x.1.1 (List.mem_map.mpr ⟨x, hx, rfl⟩) f (by simp)
        rw [← lst] at this
        have this : f.val < f.val := this
        grind
    · rw [List.mem_singleton.mp hx]
      rcases k2 with h | ⟨h, e⟩
      · exact .inl h
      · exact .inr ⟨h, e, last_snoc _ _⟩
theorem Cz.fin (c : Cz dx dy a b (stS a b).length ms) : MeetOk dx dy a b ms := ⟨c.cv.fin, c.up, c.ahd, fun m hm => by
  rcases c.bhd m hm with h | ⟨h, _⟩
  · exact h
  · omega⟩
end
end SL
namespace SL
open RR PySem
/-! ### meetings as the laws look for them: from cut to cut -/
theorem cut_piece {ths : List Th} {dx dy : Int} {cs : List (Int × Int)} (c : CutsF ths dx dy cs) (ok : ∀ a ∈ ths, ThOk a) {i : Nat} (hi : i < cs.length) {x y : Nat} (hx : x < ths.length) (hy : y < ths.length) :
    ∃ P : P3, ∀ w : Tm, w.Nm → vF cs[i] ≤ w.val → (∀ h : i + 1 < cs.length, w.val ≤ vF cs[i + 1]) → hv w dx dy ths[x] - hv w dx dy ths[y] = lnV P w.val := by
  obtain ⟨t, nt, l1, r1⟩ := beh_ex c.ok c.up hi
  have ma := List.getElem_mem hx
  have mb := List.getElem_mem hy
  have oa := ok _ ma
  have ob := ok _ mb
  generalize ths[x] = a at *
  generalize ths[y] = b at *
  have t0 : 0 ≤ t.val := by
    have := (c.ok _ (List.getElem_mem hi))
    have := nn_fr this.nm.1 this.nn
    have l1' : (Tm.fr (cs[i]).1 (cs[i]).2).val < t.val := l1
    grind
  have brC : ∀ z ∈ stS a b, ((z, 1) : Int × Int) ∈ cs := fun z hz => by
    rcases stS_mem.mp hz with h | h
    · rcases (beg_mem oa.up).mp h with h | ⟨r, hr, h⟩
      · rw [h]; exact c.zero
      · rw [h]; exact c.row a ma r hr
    · rcases (beg_mem ob.up).mp h with h | ⟨r, hr, h⟩
      · rw [h]; exact c.zero
      · rw [h]; exact c.row b mb r hr
  have vw : ∀ z : Int, vF (z, 1) = (z : RR.Rl) := fun z => val_1
  have S0 := stS_0 oa ob
  have key : ∀ (n j : Nat) (h : j < (stS a b).length), (stS a b).length - j = n → ((stS a b)[j] : RR.Rl) ≤ t.val → ∃ (j : Nat) (h : j < (stS a b).length), ((stS a b)[j] : RR.Rl) ≤ t.val ∧ ∀ e, (stS a b)[j + 1]? = some e → t.val < (e : RR.Rl) := by
    intro n
    induction n with
    | zero => intro j h e; omega
    | succ n ih =>
      intro j h e l
      rcases Nat.lt_or_ge (j + 1) (stS a b).length with z | z
      · by_cases q : ((stS a b)[j + 1] : RR.Rl) ≤ t.val
        · exact ih (j + 1) z (by omega) q
        · refine ⟨j, h, l, fun e he => ?_⟩
          rw [List.getElem?_eq_getElem z] at he
          cases he
          rcases tri (((stS a b)[j + 1] : RR.Rl) - t.val) with y | y | y
          · grind
          · exact absurd (by grind) q
          · exact absurd (by grind) q
      · exact ⟨j, h, l, fun v hv => by rw [List.getElem?_eq_none z] at hv; cases hv⟩
  obtain ⟨h0, e0⟩ := List.getElem?_eq_some_iff.mp S0
  obtain ⟨j, hj, lo, hi'⟩ := key _ 0 h0 rfl (by rw [e0, cast_zero]; exact t0)
  have loC : ((stS a b)[j] : RR.Rl) ≤ vF cs[i] := by
    have me := brC _ (List.getElem_mem hj)
    rcases cut_side c.up hi l1 r1 me with q | ⟨h, q⟩
    · rw [vw] at q; exact q
    · rw [vw] at q; have := r1 h; exfalso; grind
  refine ⟨dfW dx dy a b (stS a b)[j], fun w nw k1 k2 => piece_is oa ob hj nw (by grind) fun e he => ?_⟩
  have lt := hi' e he
  have me := brC e (List.mem_of_getElem? he)
  rcases cut_side c.up hi l1 r1 me with q | ⟨h, q⟩
  · rw [vw] at q; exfalso; grind
  · rw [vw] at q; have := k2 h; grind
section
variable {dx dy : Int} {a b : Th} {cs : List (Int × Int)} {i : Nat} {ms : List Mx}
theorem cut_seg (c : CutsF [a, b] dx dy cs) (ok : ∀ x ∈ [a, b], ThOk x) (hi : i < cs.length) {t u : Tm} (nt : t.Nm) (nu : u.Nm) (l1 : vF cs[i] < t.val) (r1 : ∀ h : i + 1 < cs.length, t.val < vF cs[i + 1]) (l2 : vF cs[i] < u.val) (r2 : ∀ h : i + 1 < cs.length, u.val < vF cs[i + 1]) : sdT dx dy a b t = sdT dx dy a b u := by
  have key : ∀ {t u : Tm}, t.Nm → u.Nm → vF cs[i] < t.val → (∀ h : i + 1 < cs.length, u.val < vF cs[i + 1]) → t.val ≤ u.val → sdT dx dy a b t = sdT dx dy a b u := fun {t u} nt nu l r le => by
    have h : sdT dx dy b a t = sdT dx dy b a u := pair_stay c ok hi nt nu l le r (x := 1) (y := 0) (by simp) (by decide)
    rw [sdT_turn, sdT_turn (w := u)] at h
    omega
  rcases tri (u.val - t.val) with y | y | y
  · exact key nt nu l1 r2 (by grind)
  · exact (key nu nt l2 r1 (by grind)).symm
  · exact key nt nu l1 r2 (by grind)
theorem cut_zero (c : CutsF [a, b] dx dy cs) (ok : ∀ x ∈ [a, b], ThOk x) (hi : i < cs.length) {t : Tm} (nt : t.Nm) (l1 : vF cs[i] < t.val) (r1 : ∀ h : i + 1 < cs.length, t.val < vF cs[i + 1]) (z : sdT dx dy a b t = 0) {w : Tm} (nw : w.Nm) (k1 : vF cs[i] ≤ w.val) (k2 : ∀ h : i + 1 < cs.length, w.val ≤ vF cs[i + 1]) : sdT dx dy a b w = 0 := by
  obtain ⟨P, hP⟩ := cut_piece c ok hi (x := 0) (y := 1) (by simp) (by simp)
  have hP : ∀ w : Tm, w.Nm → vF cs[i] ≤ w.val → (∀ h : i + 1 < cs.length, w.val ≤ vF cs[i + 1]) → hv w dx dy a - hv w dx dy b = lnV P w.val := hP
  have oi := (c.ok _ (List.getElem_mem hi)).e
  have nx : ∀ y, (cs[i + 1]?.map fun p => Tm.fr p.1 p.2) = some y → EOk y ∧ (Tm.fr (cs[i]).1 (cs[i]).2).val < y.val := fun x hx => by
    obtain ⟨p, ep, rfl⟩ := Option.map_eq_some_iff.mp hx
    obtain ⟨h, rfl⟩ := List.getElem?_eq_some_iff.mp ep
    exact ⟨(c.ok _ (List.getElem_mem h)).e, List.pairwise_iff_getElem.mp c.up i (i + 1) hi h (by omega)⟩
  obtain ⟨u, nu, u1, u2⟩ := mid1 oi nx
  have u1 : vF cs[i] < u.val := u1
  have u2 : ∀ h : i + 1 < cs.length, u.val < vF cs[i + 1] := fun h => u2 (.fr (cs[i + 1]).1 (cs[i + 1]).2) (by rw [List.getElem?_eq_getElem h]; rfl)
  have zt : lnV P t.val = 0 := by rw [← hP t nt (by grind) fun h => by have := r1 h; grind]; exact sdT_0.mp z
  have open_ : ∀ v : Tm, v.Nm → vF cs[i] < v.val → (∀ h : i + 1 < cs.length, v.val < vF cs[i + 1]) → lnV P v.val = 0 := fun v nv v1 v2 => by
    rw [← hP v nv (by grind) fun h => by have := v2 h; grind]
    exact sdT_0.mp ((cut_seg c ok hi nt nv l1 r1 v1 v2).symm.trans z)
  have s0 : P.2.1 = 0 := by
    refine Classical.byContradiction fun hm => ?_
    have two : ∃ v : Tm, v.Nm ∧ vF cs[i] < v.val ∧ (∀ h : i + 1 < cs.length, v.val < vF cs[i + 1]) ∧ v.val ≠ t.val := by
      by_cases e : u.val = t.val
      · -- between the cut and any whole, rooted: halve towards the cut
        by_cases hx : ∃ p q : Int, u = .fr p q
        · obtain ⟨p, q, rfl⟩ := hx
          have q0 := nu.1
          have c0 := (c.ok _ (List.getElem_mem hi)).nm.1
          have lt := (vF_lt (p := cs[i]) (q := (p, q)) c0 q0).mp u1
          have lt : (cs[i]).1 * q < p * (cs[i]).2 := lt
          obtain ⟨m, n, _, _, nm2, e2, _⟩ := low_fr (a := (cs[i]).1 + p) (b := (cs[i]).2 + q) (s := 1) (by omega) (by rw [if_neg (by omega)])
          have v1 := low_lt (p := cs[i]) c0 nm2.1 (by omega) e2 (by rw [Int.mul_add, Int.add_mul]; omega)
          have v2 := lt_low (p := (p, q)) q0 nm2.1 (by omega) e2 (by show ((cs[i]).1 + p) * q < p * ((cs[i]).2 + q); rw [Int.mul_add, Int.add_mul]; omega)
          have v2 : (Tm.fr m n).val < (Tm.fr p q).val := v2
          exact ⟨.fr m n, nm2, v1, fun h => by have := u2 h; grind, by grind⟩
        · obtain ⟨p, q, nm, l⟩ := ln_root hm
          have := ln_one hm l zt
          exfalso
          exact hx ⟨p, q, val_inj nu nm (by grind)⟩
      · exact ⟨u, nu, u1, u2, e⟩
    obtain ⟨v, nv, v1, v2, ne⟩ := two
    exact ne (ln_one hm (open_ v nv v1 v2) zt)
  rw [sdT_0, hP w nw k1 k2, ln_flat s0 w.val t.val]
  exact zt
theorem cut_beg (c : CutsF [a, b] dx dy cs) (h : 0 < cs.length) : vF cs[0] = 0 := by
  have z := c.zero
  have v0 : vF (0, 1) = 0 := by show (Tm.fr 0 1).val = 0; rw [val_1, cast_zero]
  have o := c.ok _ (List.getElem_mem h)
  have nn : 0 ≤ vF cs[0] := nn_fr o.nm.1 o.nn
  obtain ⟨j, hj, e⟩ := List.getElem_of_mem z
  rcases Nat.eq_zero_or_pos j with q | q
  · subst q; rw [e, v0]
  · have := List.pairwise_iff_getElem.mp c.up 0 j h hj q
    rw [e, v0] at this
    grind
structure LB (dx dy : Int) (a b : Th) (ms : List Mx) : Prop where
  ok : ∀ m ∈ ms, SOk m.1
  tru : ∀ m ∈ ms, ∀ w : Tm, w.Nm → InS m.1 w.val → sdT dx dy a b w = 0
  up : (ms.map (·.1.1)).Pairwise fun t u : Tm => t.val < u.val
  ahd : ∀ m ∈ ms, Ahd dx dy a b m.1.1 m.2.1
  bhd : ∀ m ∈ ms, Bhd dx dy a b m.1.2 m.2.2
theorem LB.snoc {m : Mx} (L : LB dx dy a b ms) (om : SOk m.1) (z : ∀ w : Tm, w.Nm → InS m.1 w.val → sdT dx dy a b w = 0) (lt : ∀ x ∈ ms, x.1.1.val < m.1.1.val) (ha : Ahd dx dy a b m.1.1 m.2.1) (hb : Bhd dx dy a b m.1.2 m.2.2) : LB dx dy a b (ms ++ [m]) := by
  have split : ∀ {p : Mx → Prop}, (∀ x ∈ ms, p x) → p m → ∀ x ∈ ms ++ [m], p x := fun {p} h1 h2 x hx => by
    rcases List.mem_append.mp hx with hx | hx
    · exact h1 x hx
    · rw [List.mem_singleton.mp hx]; exact h2
  refine ⟨split L.ok om, split L.tru z, ?_, split L.ahd ha, split L.bhd hb⟩
  rw [List.map_append]
  refine List.pairwise_append.mpr ⟨L.up, by simp, fun t ht u hu => ?_⟩
  obtain ⟨x, hx, rfl⟩ := List.mem_map.mp ht
  rw [List.map_cons, List.map_nil, List.mem_singleton] at hu
  subst hu
  exact lt x hx
structure LI (dx dy : Int) (a b : Th) (cs : List (Int × Int)) (i : Nat) (ms : List Mx) (bg : Option (Tm × D)) (last : D) : Prop extends LB dx dy a b ms where
  cov : ∀ w : Tm, w.Nm → 0 ≤ w.val → (∀ h : i < cs.length, w.val < vF cs[i]) → sdT dx dy a b w = 0 → (∃ m ∈ ms, InS m.1 w.val) ∨ ∃ t s, bg = some (t, s) ∧ t.val ≤ w.val
  lim : ∀ (h : i < cs.length), ∀ m ∈ ms, m.1.1.val < vF cs[i]
  bgo : ∀ t s, bg = some (t, s) → EOk t ∧ Ahd dx dy a b t s ∧ (∀ m ∈ ms, m.1.1.val < t.val) ∧ (∀ h : i < cs.length, t.val < vF cs[i]) ∧ ∀ w : Tm, w.Nm → t.val ≤ w.val → (∀ h : i < cs.length, w.val ≤ vF cs[i]) → sdT dx dy a b w = 0
  las : (i = 0 ∧ last = .non ∧ bg = none) ∨ ∃ s, last = .int s ∧ 0 < i ∧ (bg = none → s ≠ 0) ∧ ∀ (h : i - 1 < cs.length) (w : Tm), w.Nm → vF cs[i - 1] < w.val → (∀ h : i < cs.length, w.val < vF cs[i]) → sdT dx dy a b w = s
structure LM (dx dy : Int) (a b : Th) (cs : List (Int × Int)) (i : Nat) (ms : List Mx) (t : Tm) (s : D) : Prop extends LB dx dy a b ms where
  cov : ∀ (h : i < cs.length) (w : Tm), w.Nm → 0 ≤ w.val → w.val ≤ vF cs[i] → sdT dx dy a b w = 0 → (∃ m ∈ ms, InS m.1 w.val) ∨ t.val ≤ w.val
  et : EOk t
  at_ : Ahd dx dy a b t s
  lt : ∀ m ∈ ms, m.1.1.val < t.val
  le : ∀ h : i < cs.length, t.val ≤ vF cs[i]
  z : ∀ (h : i < cs.length) (w : Tm), w.Nm → t.val ≤ w.val → w.val ≤ vF cs[i] → sdT dx dy a b w = 0
theorem LI.start (c : CutsF [a, b] dx dy cs) : LI dx dy a b cs 0 [] none .non where
  ok := fun m h => (nomatch h)
  tru := fun m h => (nomatch h)
  up := .nil
  ahd := fun m h => (nomatch h)
  bhd := fun m h => (nomatch h)
  cov := fun w nw w0 l _ => by
    have h := List.length_pos_of_mem c.zero
    have := l h
    rw [cut_beg c h] at this
    exfalso; grind
  lim := fun _ m h => (nomatch h)
  bgo := fun t s h => (nomatch h)
  las := .inl ⟨rfl, rfl, rfl⟩
abbrev cT (p : Int × Int) : Tm := .fr p.1 p.2
theorem beh_sd {m n : Int} (c : CutsF [a, b] dx dy cs) (ok : ∀ x ∈ [a, b], ThOk x) (hi : i < cs.length) (bo : BehOk cs i m n) {w : Tm} (nw : w.Nm) (l1 : vF cs[i] < w.val) (r1 : ∀ h : i + 1 < cs.length, w.val < vF cs[i + 1]) : sdT dx dy a b w = sdT dx dy a b (.fr m n) := cut_seg c ok hi nw bo.nm l1 r1 (bo.lo hi) bo.hi
theorem beh_las {m n : Int} {bg : Option (Tm × D)} (c : CutsF [a, b] dx dy cs) (ok : ∀ x ∈ [a, b], ThOk x) (hi : i < cs.length) (bo : BehOk cs i m n) (h : bg = none → sdT dx dy a b (.fr m n) ≠ 0) : (i + 1 = 0 ∧ D.int (sdT dx dy a b (.fr m n)) = .non ∧ bg = none) ∨ ∃ s, D.int (sdT dx dy a b (.fr m n)) = .int s ∧ 0 < i + 1 ∧ (bg = none → s ≠ 0) ∧ ∀ (h : i + 1 - 1 < cs.length) (w : Tm), w.Nm → vF cs[i + 1 - 1] < w.val → (∀ h : i + 1 < cs.length, w.val < vF cs[i + 1]) → sdT dx dy a b w = s :=
  .inr ⟨_, rfl, by omega, h, fun _ w nw l1 r1 => beh_sd c ok hi bo nw l1 r1⟩
theorem cut_lt (c : CutsF [a, b] dx dy cs) (hi : i < cs.length) (h : i + 1 < cs.length) : vF cs[i] < vF cs[i + 1] := List.pairwise_iff_getElem.mp c.up i (i + 1) hi h (by omega)
theorem LM.go {t : Tm} {s : D} {m n : Int} (L : LM dx dy a b cs i ms t s) (c : CutsF [a, b] dx dy cs) (ok : ∀ x ∈ [a, b], ThOk x) (hi : i < cs.length) (bo : BehOk cs i m n) (z : sdT dx dy a b (.fr m n) = 0) : LI dx dy a b cs (i + 1) ms (some (t, s)) (.int (sdT dx dy a b (.fr m n))) := by
  have le := L.le hi
  refine ⟨L.toLB, fun w nw w0 l z' => ?_, fun h x hx => by have := L.lt x hx; have := cut_lt c hi h; grind, fun t' s' h => ?_, beh_las c ok hi bo fun h => (nomatch h)⟩
  · rcases tri (vF cs[i] - w.val) with q | q | q
    · rcases L.cov hi w nw w0 (by grind) z' with c | l'
      · exact .inl c
      · exact .inr ⟨t, s, rfl, l'⟩
    · exact .inr ⟨t, s, rfl, by grind⟩
    · exact .inr ⟨t, s, rfl, by grind⟩
  · cases h
    refine ⟨L.et, L.at_, L.lt, fun h => by have := cut_lt c hi h; grind, fun w nw l k => ?_⟩
    rcases tri (vF cs[i] - w.val) with q | q | q
    · exact L.z hi w nw l (by grind)
    · exact cut_zero c ok hi bo.nm (bo.lo hi) bo.hi z nw (by grind) k
    · exact L.z hi w nw l (by grind)
theorem LB.meet (L : LB dx dy a b ms) (cov : ∀ w : Tm, w.Nm → 0 ≤ w.val → sdT dx dy a b w = 0 → ∃ m ∈ ms, InS m.1 w.val) : MeetOk dx dy a b ms where
  cv := ⟨fun x hx => by obtain ⟨m, hm, rfl⟩ := List.mem_map.mp hx; exact L.ok m hm, fun x hx w nw i => by obtain ⟨m, hm, rfl⟩ := List.mem_map.mp hx; exact sdT_0.mp (L.tru m hm w nw i), fun w nw w0 _ h => by
    obtain ⟨m, hm, i⟩ := cov w nw w0 (sdT_0.mpr h)
    exact ⟨m.1, List.mem_map.mpr ⟨m, hm, rfl⟩, i⟩⟩
  up := L.up
  ahd := L.ahd
  bhd := L.bhd
end
end SL
namespace SL
open RR PySem
/-! ### the gathered stretches on the heap, sides and all -/
structure MtV (B N : Nat) (ps : List (Mx × Nat)) (h : Hs) : Prop where
  at_ : h[N]? = some (.lst (ps.map fun p => .ref p.2))
  cell : ∀ p ∈ ps, h[p.2]? = some (.lst (stD p.1.1 p.1.2.1 p.1.2.2))
  fl : ∀ p ∈ ps, FlM p.1
  nd : (ps.map (·.2)).Nodup
  far : ∀ p ∈ ps, B ≤ p.2 ∧ p.2 ≠ N
section
variable {B N : Nat} {ps : List (Mx × Nat)} {h h' : Hs}
theorem MtV.s (a : MtV B N ps h) : MtS B N (ps.map fun p => (p.1.1, p.2)) h := by
  refine ⟨by rw [List.map_map]; exact a.at_, fun p hp => ?_, by rw [List.map_map]; exact a.nd, fun p hp => ?_⟩
  · obtain ⟨q, hq, rfl⟩ := List.mem_map.mp hp
    exact ⟨_, _, a.cell q hq, a.fl q hq⟩
  · obtain ⟨q, hq, rfl⟩ := List.mem_map.mp hp
    exact a.far q hq
theorem MtV.push {m : Sx} {x y : D} (a : MtV B N ps h) (fx : FlD x) (fy : FlD y) (lB : B ≤ h.length) : MtV B N (ps ++ [((m, x, y), h.length)]) ((h ++ [AO.lst (stD m x y)]).set N (.lst (ps.map (fun p => D.ref p.2) ++ [.ref h.length]))) := by
  have lN := get_lt a.at_
  have lt : ∀ p ∈ ps, p.2 < h.length := fun p hp => get_lt (a.cell p hp)
  refine ⟨?_, fun p hp => ?_, fun p hp => ?_, ?_, fun p hp => ?_⟩
  · rw [set_at (by simp; omega), List.map_append]; rfl
  · rcases List.mem_append.mp hp with hp | hp
    · rw [List.getElem?_set_ne (fun z => (a.far p hp).2 z.symm)]
      exact get_app _ (a.cell p hp)
    · rw [List.mem_singleton.mp hp]
      show ((h ++ [AO.lst (stD m x y)]).set N _)[h.length]? = _
      rw [List.getElem?_set_ne (by omega)]
      exact get_last
  · rcases List.mem_append.mp hp with hp | hp
    · exact a.fl p hp
    · rw [List.mem_singleton.mp hp]
      exact ⟨fx, fy⟩
  · rw [List.map_append]
    refine List.nodup_append.mpr ⟨a.nd, by simp, fun u hu v hv => ?_⟩
    obtain ⟨p, hp, rfl⟩ := List.mem_map.mp hu
    simp only [List.map_cons, List.map_nil, List.mem_singleton] at hv
    subst hv
    have := lt p hp
    omega
  · rcases List.mem_append.mp hp with hp | hp
    · exact a.far p hp
    · rw [List.mem_singleton.mp hp]
      exact ⟨lB, by show h.length ≠ N; omega⟩
theorem MtV.put {m : Mx} {m' : Sx} {r : Nat} {x y : D} (a : MtV B N (ps ++ [(m, r)]) h) (fx : FlD x) (fy : FlD y) : MtV B N (ps ++ [((m', x, y), r)]) (h.set r (.lst (stD m' x y))) := by
  have e0 := a.cell (m, r) (by simp)
  have rN := (a.far (m, r) (by simp)).2
  refine ⟨?_, fun p hp => ?_, fun p hp => ?_, ?_, fun p hp => ?_⟩
  · rw [List.getElem?_set_ne rN, a.at_, List.map_append, List.map_append]
    rfl
  · rcases List.mem_append.mp hp with hp | hp
    · have nd := a.nd
      rw [List.map_append] at nd
      have ne := (List.nodup_append.mp nd).2.2 p.2 (List.mem_map.mpr ⟨p, hp, rfl⟩) r (by simp)
      rw [List.getElem?_set_ne (fun z => ne z.symm)]
      exact a.cell p (List.mem_append_left _ hp)
    · rw [List.mem_singleton.mp hp]
      exact set_at (get_lt e0)
  · rcases List.mem_append.mp hp with hp | hp
    · exact a.fl p (List.mem_append_left _ hp)
    · rw [List.mem_singleton.mp hp]
      exact ⟨fx, fy⟩
  · have := a.nd
    rw [List.map_append] at this ⊢
    exact this
  · rcases List.mem_append.mp hp with hp | hp
    · exact a.far p (List.mem_append_left _ hp)
    · rw [List.mem_singleton.mp hp]
      exact a.far (m, r) (by simp)
theorem MtV.last {m : Mx} {r : Nat} (a : MtV B N (ps ++ [(m, r)]) h) : subG' (.ref N) (.int (-1)) h = some (.ref r, h) := by
  have e := a.at_
  rw [List.map_append, List.map_cons, List.map_nil] at e
  exact ev_last (getL_lst e)
end
end SL
namespace SL
open RR PySem
/-! ### twelve things by hand -/
theorem StoryOk.few {dx dy : Int} {sths : List Th} {rs : List R3} (S : StoryOk dx dy sths rs) (ok : ∀ a ∈ sths, ThOk a) : ∀ r ∈ rs, r.2.1.length ≤ sths.length ∧ r.2.2.length ≤ sths.length := fun r hr => by
  have lf : ∀ t, (LN dx dy sths t).length ≤ sths.length := fun t => by
    unfold LN
    rw [List.length_map]
    exact (levN_few ok).1
  obtain ⟨k, hk, rfl⟩ := List.getElem_of_mem hr
  refine ⟨by rw [S.at_ _ hr]; exact lf _, ?_⟩
  obtain ⟨w, nw, lw, u⟩ := mid1 (S.ok _ hr) (u := rs[k + 1]?.map (·.1)) (fun x hx => by
    obtain ⟨s, es, rfl⟩ := Option.map_eq_some_iff.mp hx
    exact S.nxt hk es)
  rw [← S.beh k hk w nw lw fun r hr => u r.1 (by rw [hr]; rfl)]
  exact lf _
end SL
namespace SL
open PySem PySem.Spec PyProof.Rows L2
/-! ### sorted(list, key=f), f's keys any alike data without lists -/
mutual
def flat : D → Bool
  | .tup ds => flats ds
  | .ref _ => false
  | .non => true
  | .bl _ => true
  | .int _ => true
  | .str _ => true
  | .ty _ => true
  | .fn _ => true
  | .exn _ => true
def flats : List D → Bool
  | [] => true
  | d :: ds => flat d && flats ds
end
section
variable {K : PySem.W.Frag} {α α' : Al} {L L' : Nat} {H H' : Hp}
mutual
theorem rep_flat (e : ∀ b o, H b = some o → H' b = some o) : ∀ (d : D) (v : V), flat d = true → Rep K α L H d v → Rep K α' L' H' d v
  | .non, _, _, r => r
  | .bl _, _, _, r => r
  | .int _, _, _, r => r
  | .str _, _, _, r => r
  | .ty _, _, _, r => r
  | .fn _, _, _, r => r
  | .exn _, _, _, r => r
  | .ref _, _, f, _ => nomatch f
  | .tup ds, _, f, ⟨a, xs, ev, tp, rs⟩ => ⟨a, xs, ev, tpL_ext e tp, reps_flat e ds xs f rs⟩
theorem reps_flat (e : ∀ b o, H b = some o → H' b = some o) : ∀ (ds : List D) (xs : List V), flats ds = true → Reps K α L H ds xs → Reps K α' L' H' ds xs
  | [], _, _, r => r
  | d :: ds, _, f, ⟨x, ys, ex, r, rs⟩ => ⟨x, ys, ex, rep_flat e d x (Bool.and_eq_true_iff.mp f).1 r, reps_flat e ds ys (Bool.and_eq_true_iff.mp f).2 rs⟩
end
end
section
variable {X : Cx} {k : Nat} {fa : Addr} {fd : FuncData} {ps : List Str} {g : GC}
end
/-! on plain data -/
section
variable {X : Cx} {e : Expr} {p1 p4 p5 kp : Pos} {x : Str} {m : MA} {g : GC} {k : Nat}
end
end SL
namespace SL
open PySem PySem.Spec PyProof.Rows L2
/-! ### < of alike data (tuples too) -/
section
variable {X : Cx}
end
end SL
namespace SL
open RR PySem
/-! ### passings -/
abbrev Pw := Tm × Str × Str
def pwD (p : Pw) : D := .tup [TD p.1, .str p.2.1, .str p.2.2]
def pwLt (p q : Pw) : Prop := p.1.val < q.1.val ∨ (p.1.val = q.1.val ∧ (ltN p.2.1 q.2.1 ∨ (p.2.1 = q.2.1 ∧ ltN p.2.2 q.2.2)))
theorem pwLt_asym {p q : Pw} (h : pwLt p q) (k : pwLt q p) : False := by
  rcases h with h | ⟨h, h'⟩
  · rcases k with k | ⟨k, _⟩ <;> grind
  · rcases k with k | ⟨k, k'⟩
    · grind
    · rcases h' with h' | ⟨h', h''⟩
      · rcases k' with k' | ⟨k', _⟩
        · exact ltN_asym h' k'
        · exact ltN_ne h' k'.symm
      · rcases k' with k' | ⟨k', k''⟩
        · exact ltN_ne k' h'.symm
        · exact ltN_asym h'' k''
theorem pwLt_trans {p q r : Pw} (h : pwLt p q) (k : pwLt q r) : pwLt p r := by
  rcases h with h | ⟨h, h'⟩
  · rcases k with k | ⟨k, _⟩
    · exact .inl (by grind)
    · exact .inl (by grind)
  · rcases k with k | ⟨k, k'⟩
    · exact .inl (by grind)
    · refine .inr ⟨by grind, ?_⟩
      rcases h' with h' | ⟨h', h''⟩
      · rcases k' with k' | ⟨k', _⟩
        · exact .inl (ltN_tr h' k')
        · exact .inl (by rw [← k']; exact h')
      · rcases k' with k' | ⟨k', k''⟩
        · exact .inl (by rw [h']; exact k')
        · exact .inr ⟨h'.trans k', ltN_tr h'' k''⟩
theorem pwLt_tri {p q : Pw} (np : p.1.Nm) (nq : q.1.Nm) (ne : p ≠ q) : pwLt p q ∨ pwLt q p := by
  rcases tri (q.1.val - p.1.val) with y | y | y
  · exact .inl (.inl (by grind))
  · exact .inr (.inl (by grind))
  · have e : p.1 = q.1 := val_inj np nq (by grind)
    by_cases e1 : p.2.1 = q.2.1
    · have e2 : p.2.2 ≠ q.2.2 := fun z => ne (Prod.ext e (Prod.ext e1 z))
      rcases ltN_tri e2 with z | z
      · exact .inl (.inr ⟨by grind, .inr ⟨e1, z⟩⟩)
      · exact .inr (.inr ⟨by grind, .inr ⟨e1.symm, z⟩⟩)
    · rcases ltN_tri e1 with z | z
      · exact .inl (.inr ⟨by grind, .inl z⟩)
      · exact .inr (.inr ⟨by grind, .inl z⟩)
open Classical in
noncomputable def mts (dx dy : Int) (a b : Th) : List Mx := if h : ∃ ms, MeetOk dx dy a b ms then choose h else []
theorem mts_ok {dx dy : Int} {a b : Th} {ms : List Mx} (M : MeetOk dx dy a b ms) : MeetOk dx dy a b (mts dx dy a b) := by
  have h : ∃ ms, MeetOk dx dy a b ms := ⟨ms, M⟩
  unfold mts
  rw [dif_pos h]
  exact Classical.choose_spec h
theorem mts_eq {dx dy : Int} {a b : Th} {ms : List Mx} (M : MeetOk dx dy a b ms) : mts dx dy a b = ms := (mts_ok M).uniq M
def tO (m : Mx) : Tm := m.1.2.getD (.fr 0 1)
def sd11 (m : Mx) : Bool := match m.2.1, m.2.2 with
  | .int p, .int q => decide (p = -1 ∧ q = 1)
  | _, _ => false
def sd1m (m : Mx) : Bool := match m.2.1, m.2.2 with
  | .int p, .int q => decide (p = 1 ∧ q = -1)
  | _, _ => false
theorem sd_int {m : Mx} (h : sd11 m = true ∨ sd1m m = true) : ∃ p q : Int, m.2 = (.int p, .int q) ∧ (sd11 m = decide (p = -1 ∧ q = 1)) ∧ (sd1m m = decide (p = 1 ∧ q = -1)) := by
  obtain ⟨s, x, y⟩ := m
  unfold sd11 sd1m at *
  cases x <;> cases y <;> first | (rcases h with h | h <;> cases h; done) | exact ⟨_, _, rfl, rfl, rfl⟩
theorem ahd_fl {dx dy : Int} {a b : Th} {t : Tm} {d : D} (h : Ahd dx dy a b t d) : FlD d := by
  rcases h with ⟨_, e⟩ | ⟨_, s, _, _, _, e, _⟩
  · exact .inl e
  · exact .inr ⟨s, e⟩
theorem bhd_fl {dx dy : Int} {a b : Th} {t : Option Tm} {d : D} (h : Bhd dx dy a b t d) : FlD d := by
  rcases h with ⟨_, e⟩ | ⟨_, _, s, _, _, _, e, _⟩
  · exact .inl e
  · exact .inr ⟨s, e⟩
theorem MeetOk.fl {dx dy : Int} {a b : Th} {ms : List Mx} (A : MeetOk dx dy a b ms) : ∀ m ∈ ms, FlM m := fun m hm => ⟨ahd_fl (A.ahd m hm), bhd_fl (A.bhd m hm)⟩
theorem MeetOk.to_some {dx dy : Int} {a b : Th} {ms : List Mx} (A : MeetOk dx dy a b ms) {m : Mx} (hm : m ∈ ms) (h : sd11 m = true ∨ sd1m m = true) : m.1.2 = some (tO m) := by
  obtain ⟨p, q, e, _⟩ := sd_int h
  rcases A.bhd m hm with ⟨_, z⟩ | ⟨u, _, _, z, _⟩
  · rw [e] at z; cases z
  · unfold tO; rw [z]; rfl
theorem MeetOk.tos {dx dy : Int} {a b : Th} {ms : List Mx} (A : MeetOk dx dy a b ms) : ms.Pairwise fun m n => m.1.2 ≠ n.1.2 := by
  refine List.Pairwise.imp_of_mem (fun {m n} hm hn lt e => ?_) (List.pairwise_map.mp A.up)
  have om := A.s hm
  have on := A.s hn
  have i1 : InS n.1 n.1.1.val := in_from on
  have i2 : InS m.1 n.1.1.val := ⟨by grind, fun t et => by rw [e] at et; exact i1.2 t et⟩
  have := A.same A hm hn i2 i1
  rw [this] at lt
  grind
def PassAt (dx dy : Int) (a b : Th) (t : Tm) : Prop := ∃ m ∈ mts dx dy a b, sd11 m = true ∧ tO m = t
structure PassOk (dx dy : Int) (ths : List Th) (ps : List Pw) : Prop where
  up : ps.Pairwise pwLt
  mem : ∀ p, p ∈ ps ↔ ∃ a ∈ ths, ∃ b ∈ ths, a.nm ≠ b.nm ∧ p.2.1 = a.nm ∧ p.2.2 = b.nm ∧ PassAt dx dy a b p.1
theorem PassOk.uniq {dx dy : Int} {ths ths' : List Th} {ps qs : List Pw} (A : PassOk dx dy ths ps) (B : PassOk dx dy ths' qs) (pm : ths'.Perm ths) : ps = qs := by
  have nd : ∀ {l : List Pw}, l.Pairwise pwLt → l.Nodup := fun h => h.imp fun {p q} l e => by rw [e] at l; exact pwLt_asym l l
  refine List.Perm.eq_of_pairwise (le := pwLt) (fun a b _ _ h1 h2 => (pwLt_asym h1 h2).elim) A.up B.up ((List.perm_ext_iff_of_nodup (nd A.up) (nd B.up)).mpr fun p => ?_)
  rw [A.mem, B.mem]
  constructor
  · rintro ⟨a, ha, b, hb, h⟩
    exact ⟨a, pm.mem_iff.mpr ha, b, pm.mem_iff.mpr hb, h⟩
  · rintro ⟨a, ha, b, hb, h⟩
    exact ⟨a, pm.mem_iff.mp ha, b, pm.mem_iff.mp hb, h⟩
/-! the other direction -/
theorem hv_neg {dx dy : Int} {a : Th} {w : Tm} : hv w (0 - dx) (0 - dy) a = 0 - hv w dx dy a := by
  have e : ∀ (x y : Int), (0 - dx) * x + (0 - dy) * y = 0 - (dx * x + dy * y) := fun x y => by
    rw [Int.sub_mul, Int.sub_mul]; omega
  unfold hv pv hyT hyF
  dsimp only
  rw [e, e]
  simp only [cast_sub, cast_zero]
  grind
theorem sd_neg {dx dy : Int} {a b : Th} {w : Tm} : sdT (0 - dx) (0 - dy) a b w = sdT dx dy b a w := by
  unfold sdT
  rw [hv_neg, hv_neg]
  congr 1
  grind
theorem MeetOk.neg {dx dy : Int} {a b : Th} {ms : List Mx} (A : MeetOk dx dy b a ms) : MeetOk (0 - dx) (0 - dy) a b ms where
  cv := ⟨A.cv.ok, fun m hm w nw i => by have := A.cv.tru m hm w nw i; rw [hv_neg, hv_neg]; grind, fun w nw w0 l h => A.cv.cov w nw w0 l (by rw [hv_neg, hv_neg] at h; grind)⟩
  up := A.up
  ahd := fun m hm => by
    rcases A.ahd m hm with h | ⟨y, s, oy, ly, s0, k, h⟩
    · exact .inl h
    · exact .inr ⟨y, s, oy, ly, s0, k, fun w nw l1 l2 => by rw [sd_neg, h w nw l1 l2]⟩
  bhd := fun m hm => by
    rcases A.bhd m hm with h | ⟨u, y, s, e, oy, s0, k, h⟩
    · exact .inl h
    · exact .inr ⟨u, y, s, e, oy, s0, k, fun w nw l1 l2 => by rw [sd_neg, h w nw l1 l2]⟩
end SL
namespace SL
open RR PySem
/-! ### the meetings of all, gathered pair by pair -/
def eNe (e f : Ax) : Prop := ¬ (e.1 = f.1 ∧ e.2.1 = f.2.1 ∧ e.2.2.1.2 = f.2.2.1.2) ∧ ¬ (e.1 = f.2.1 ∧ e.2.1 = f.1)
structure AmI (dx dy : Int) (sths : List Th) (done : Nat → Nat → Prop) (E : List Ax) : Prop where
  mem : ∀ e ∈ E, ∃ (k l : Nat) (hk : k < sths.length) (hl : l < sths.length), k < l ∧ done k l ∧ e.1 = sths[k].nm ∧ e.2.1 = sths[l].nm ∧ e.2.2 ∈ mts dx dy sths[k] sths[l]
  cov : ∀ (k l : Nat) (hk : k < sths.length) (hl : l < sths.length), k < l → done k l → MeetOk dx dy sths[k] sths[l] (mts dx dy sths[k] sths[l]) ∧ ∀ m ∈ mts dx dy sths[k] sths[l], (sths[k].nm, sths[l].nm, m) ∈ E
  ne : E.Pairwise eNe
section
variable {dx dy : Int} {sths : List Th} {done done' : Nat → Nat → Prop} {E : List Ax}
theorem AmI.nil (h : ∀ k l, k < l → ¬ done k l) : AmI dx dy sths done [] := ⟨fun e h => (nomatch h), fun k l _ _ lt d => absurd d (h k l lt), .nil⟩
theorem AmI.congr (I : AmI dx dy sths done E) (h : ∀ k l, k < l → l < sths.length → (done k l ↔ done' k l)) : AmI dx dy sths done' E := ⟨fun e he => by
  obtain ⟨k, l, hk, hl, lt, d, r⟩ := I.mem e he
  exact ⟨k, l, hk, hl, lt, (h k l lt hl).mp d, r⟩, fun k l hk hl lt d => I.cov k l hk hl lt ((h k l lt hl).mpr d), I.ne⟩
theorem nd_nm {ths : List Th} (nd : (ths.map Th.nm).Nodup) {k l : Nat} (hk : k < ths.length) (hl : l < ths.length) (e : ths[k].nm = ths[l].nm) : k = l := by
  have pw := List.pairwise_iff_getElem.mp nd
  rcases Nat.lt_trichotomy k l with z | z | z
  · have := pw k l (by simpa using hk) (by simpa using hl) z
    simp only [List.getElem_map] at this
    exact absurd e this
  · exact z
  · have := pw l k (by simpa using hl) (by simpa using hk) z
    simp only [List.getElem_map] at this
    exact absurd e.symm this
theorem AmI.add {i j : Nat} (I : AmI dx dy sths done E) (nd : (sths.map Th.nm).Nodup) (hi : i < sths.length) (hj : j < sths.length) (lt : i < j) (no : ¬ done i j) {ms : List Mx} (M : MeetOk dx dy sths[i] sths[j] ms) :
    AmI dx dy sths (fun k l => done k l ∨ (k = i ∧ l = j)) (E ++ ms.map fun m => (sths[i].nm, sths[j].nm, m)) := by
  have em := mts_eq M
  refine ⟨fun e he => ?_, fun k l hk hl kl d => ?_, ?_⟩
  · rcases List.mem_append.mp he with he | he
    · obtain ⟨k, l, hk, hl, lt, d, r⟩ := I.mem e he
      exact ⟨k, l, hk, hl, lt, .inl d, r⟩
    · obtain ⟨m, hm, rfl⟩ := List.mem_map.mp he
      exact ⟨i, j, hi, hj, lt, .inr ⟨rfl, rfl⟩, rfl, rfl, by rw [em]; exact hm⟩
  · rcases d with d | ⟨rfl, rfl⟩
    · obtain ⟨h1, h2⟩ := I.cov k l hk hl kl d
      exact ⟨h1, fun m hm => List.mem_append_left _ (h2 m hm)⟩
    · exact ⟨mts_ok M, fun m hm => List.mem_append_right _ (List.mem_map.mpr ⟨m, by rw [em] at hm; exact hm, rfl⟩)⟩
  · refine List.pairwise_append.mpr ⟨I.ne, ?_, fun e he f hf => ?_⟩
    · refine List.pairwise_map.mpr ((M.tos).imp fun {m n} h => ⟨fun z => h z.2.2, fun z => ?_⟩)
      exact absurd (nd_nm nd hi hj z.1) (by omega)
    · obtain ⟨k, l, hk, hl, kl, d, e1, e2, _⟩ := I.mem e he
      obtain ⟨m, hm, rfl⟩ := List.mem_map.mp hf
      refine ⟨fun z => ?_, fun z => ?_⟩
      · have h1 := nd_nm nd hk hi (e1.symm.trans z.1)
        have h2 := nd_nm nd hl hj (e2.symm.trans z.2.1)
        subst h1 h2
        exact no d
      · have h1 := nd_nm nd hk hj (e1.symm.trans z.1)
        have h2 := nd_nm nd hl hi (e2.symm.trans z.2)
        omega
end
/-! ### put in order -/
def goP (e : Ax) : Option Pw := if sd11 e.2.2 = true then some (tO e.2.2, e.1, e.2.1) else if sd1m e.2.2 = true then some (tO e.2.2, e.2.1, e.1) else none
theorem ins_sorted {α : Type} {lt : α → α → Prop} (f : α → Bool) (tr : ∀ a b c, lt a b → lt b c → lt a c) {x : α} : ∀ {l : List α}, l.Pairwise lt → (∀ y ∈ l, f y = true → lt y x) → (∀ y ∈ l, f y = false → lt x y) → (∀ y ∈ l, ∀ z ∈ l, lt y z → f z = true → f y = true) →
    (l.take (l.filter f).length ++ [x] ++ l.drop (l.filter f).length).Pairwise lt
  | [], _, _, _, _ => by simp
  | y :: l, pw, h1, h2, h3 => by
    obtain ⟨p1, p2⟩ := List.pairwise_cons.mp pw
    have ih := ins_sorted f tr (x := x) p2 (fun z hz => h1 z (List.mem_cons_of_mem _ hz)) (fun z hz => h2 z (List.mem_cons_of_mem _ hz)) fun a ha b hb => h3 a (List.mem_cons_of_mem _ ha) b (List.mem_cons_of_mem _ hb)
    cases e : f y with
    | true =>
      rw [List.filter_cons_of_pos e, List.length_cons, List.take_succ_cons, List.drop_succ_cons, List.cons_append, List.cons_append]
      refine List.pairwise_cons.mpr ⟨fun z hz => ?_, ih⟩
      rcases List.mem_append.mp hz with hz | hz
      · rcases List.mem_append.mp hz with hz | hz
        · exact p1 z (List.mem_of_mem_take hz)
        · rw [List.mem_singleton.mp hz]; exact h1 y List.mem_cons_self e
      · exact p1 z (List.mem_of_mem_drop hz)
    | false =>
      have none : (l.filter f) = [] := List.filter_eq_nil_iff.mpr fun z hz fz => by
        have := h3 y List.mem_cons_self z (List.mem_cons_of_mem _ hz) (p1 z hz) fz
        rw [e] at this; cases this
      rw [List.filter_cons_of_neg (by rw [e]; decide), none]
      show ([] ++ [x] ++ (y :: l)).Pairwise lt
      refine List.pairwise_cons.mpr ⟨fun z hz => ?_, pw⟩
      have hxy := h2 y List.mem_cons_self e
      rcases List.mem_cons.mp hz with rfl | hz
      · exact hxy
      · exact tr _ _ _ hxy (p1 z hz)
structure PI (E : List Ax) (fs : List Pw) : Prop where
  up : fs.Pairwise pwLt
  mem : ∀ p, p ∈ fs ↔ ∃ e ∈ E, goP e = some p
theorem PI.nil : PI [] [] := ⟨.nil, fun p => ⟨fun h => (nomatch h), fun ⟨e, he, _⟩ => (nomatch he)⟩⟩
theorem PI.skip {E : List Ax} {fs : List Pw} {e : Ax} (I : PI E fs) (h : goP e = none) : PI (E ++ [e]) fs := ⟨I.up, fun p => by
  rw [I.mem]
  constructor
  · rintro ⟨f, hf, r⟩; exact ⟨f, List.mem_append_left _ hf, r⟩
  · rintro ⟨f, hf, r⟩
    rcases List.mem_append.mp hf with hf | hf
    · exact ⟨f, hf, r⟩
    · rw [List.mem_singleton.mp hf, h] at r; cases r⟩
theorem PI.put {E : List Ax} {fs : List Pw} {e : Ax} {p : Pw} (I : PI E fs) (h : goP e = some p) (np : p.1.Nm) (nf : ∀ q ∈ fs, q.1.Nm) (new : p ∉ fs) (f : Pw → Bool) (hf : ∀ q ∈ fs, f q = true ↔ pwLt q p) :
    PI (E ++ [e]) (fs.take (fs.filter f).length ++ [p] ++ fs.drop (fs.filter f).length) := by
  refine ⟨ins_sorted (lt := pwLt) f (fun _ _ _ h k => pwLt_trans h k) I.up (fun q hq z => (hf q hq).mp z) (fun q hq z => ?_) (fun q hq r hr lt z => (hf q hq).mpr (pwLt_trans lt ((hf r hr).mp z))), fun q => ?_⟩
  · rcases pwLt_tri (nf q hq) np (fun e => new (e ▸ hq)) with y | y
    · have := (hf q hq).mpr y
      rw [this] at z; cases z
    · exact y
  · have perm : (fs.take (fs.filter f).length ++ [p] ++ fs.drop (fs.filter f).length).Perm (p :: fs) := by
      have := List.perm_middle (a := p) (l₁ := fs.take (fs.filter f).length) (l₂ := fs.drop (fs.filter f).length)
      rw [List.take_append_drop] at this
      rw [List.append_assoc]
      exact this
    rw [perm.mem_iff, List.mem_cons, I.mem]
    constructor
    · rintro (rfl | ⟨f, hf, r⟩)
      · exact ⟨e, by simp, h⟩
      · exact ⟨f, List.mem_append_left _ hf, r⟩
    · rintro ⟨f, hf, r⟩
      rcases List.mem_append.mp hf with hf | hf
      · exact .inr ⟨f, hf, r⟩
      · rw [List.mem_singleton.mp hf, h] at r
        exact .inl (Option.some.inj r).symm
theorem AmI.row {dx dy : Int} {sths : List Th} {done : Nat → Nat → Prop} {E : List Ax} (I : AmI dx dy sths done E) {e : Ax} (he : e ∈ E) {p : Pw} (h : goP e = some p) : e.2.2.1.2 = some (tO e.2.2) ∧ EOk p.1 ∧ p.1 = tO e.2.2 := by
  obtain ⟨k, l, hk, hl, lt, d, e1, e2, hm⟩ := I.mem e he
  obtain ⟨M, _⟩ := I.cov k l hk hl lt d
  have hs : sd11 e.2.2 = true ∨ sd1m e.2.2 = true := by
    unfold goP at h
    split at h
    · exact .inl ‹_›
    · split at h
      · exact .inr ‹_›
      · cases h
  have ts := M.to_some hm hs
  have ep : p.1 = tO e.2.2 := by
    unfold goP at h
    split at h
    · cases h; rfl
    · split at h
      · cases h; rfl
      · cases h
  exact ⟨ts, by rw [ep]; exact ((M.s hm).2 _ ts).1, ep⟩
end SL
namespace SL
open RR PySem
/-! ### the law's passings, sorted by whole keys -/
def FrP (p : Pw) : Prop := ∃ q : Int × Int, p.1 = cT q ∧ FrOk q
/-! gathered over all pairs -/
structure LmI (dx dy : Int) (ths : List Th) (done : Nat → Nat → Prop) (F : List Pw) : Prop where
  mem : ∀ p, p ∈ F ↔ ∃ (k l : Nat) (hk : k < ths.length) (hl : l < ths.length), done k l ∧ ths[k].nm ≠ ths[l].nm ∧ p.2.1 = ths[k].nm ∧ p.2.2 = ths[l].nm ∧ PassAt dx dy ths[k] ths[l] p.1
  nd : F.Nodup
  ok : ∀ p ∈ F, FrP p
section
variable {dx dy : Int} {ths : List Th} {done done' : Nat → Nat → Prop} {F : List Pw}
theorem LmI.nil (h : ∀ k l, ¬ done k l) : LmI dx dy ths done [] := ⟨fun p => ⟨fun h => (nomatch h), fun ⟨k, l, _, _, d, _⟩ => absurd d (h k l)⟩, .nil, fun p h => (nomatch h)⟩
theorem LmI.congr (I : LmI dx dy ths done F) (h : ∀ k l, k < ths.length → l < ths.length → (done k l ↔ done' k l)) : LmI dx dy ths done' F := ⟨fun p => by
  rw [I.mem]
  constructor
  · rintro ⟨k, l, hk, hl, d, r⟩; exact ⟨k, l, hk, hl, (h k l hk hl).mp d, r⟩
  · rintro ⟨k, l, hk, hl, d, r⟩; exact ⟨k, l, hk, hl, (h k l hk hl).mpr d, r⟩, I.nd, I.ok⟩
theorem LmI.skip {i j : Nat} (I : LmI dx dy ths done F) (hi : i < ths.length) (hj : j < ths.length) (e : ths[i].nm = ths[j].nm) : LmI dx dy ths (fun k l => done k l ∨ (k = i ∧ l = j)) F := ⟨fun p => by
  rw [I.mem]
  constructor
  · rintro ⟨k, l, hk, hl, d, r⟩; exact ⟨k, l, hk, hl, .inl d, r⟩
  · rintro ⟨k, l, hk, hl, d | ⟨rfl, rfl⟩, r⟩
    · exact ⟨k, l, hk, hl, d, r⟩
    · exact absurd e r.1, I.nd, I.ok⟩
def rowsL (x y : Str) (ms : List Mx) : List Pw := (ms.filter sd11).map fun m => (tO m, x, y)
theorem LmI.add {i j : Nat} (I : LmI dx dy ths done F) (nd : (ths.map Th.nm).Nodup) (hi : i < ths.length) (hj : j < ths.length) (ne : ths[i].nm ≠ ths[j].nm) (no : ¬ done i j) {ms : List Mx} (M : MeetOk dx dy ths[i] ths[j] ms) (fr : ∀ m ∈ ms, ∀ t, m.1.2 = some t → ∃ q, t = cT q ∧ FrOk q) :
    LmI dx dy ths (fun k l => done k l ∨ (k = i ∧ l = j)) (F ++ rowsL ths[i].nm ths[j].nm ms) := by
  have em := mts_eq M
  refine ⟨fun p => ?_, ?_, fun p hp => ?_⟩
  · rw [List.mem_append, I.mem]
    constructor
    · rintro (⟨k, l, hk, hl, d, r⟩ | hp)
      · exact ⟨k, l, hk, hl, .inl d, r⟩
      · obtain ⟨m, hm, rfl⟩ := List.mem_map.mp hp
        obtain ⟨h1, h2⟩ := List.mem_filter.mp hm
        exact ⟨i, j, hi, hj, .inr ⟨rfl, rfl⟩, ne, rfl, rfl, m, by rw [em]; exact h1, h2, rfl⟩
    · rintro ⟨k, l, hk, hl, d | ⟨rfl, rfl⟩, n, e1, e2, pa⟩
      · exact .inl ⟨k, l, hk, hl, d, n, e1, e2, pa⟩
      · obtain ⟨m, hm, s, t⟩ := pa
        rw [em] at hm
        exact .inr (List.mem_map.mpr ⟨m, List.mem_filter.mpr ⟨hm, s⟩, Prod.ext t (Prod.ext e1.symm e2.symm)⟩)
  · refine List.nodup_append.mpr ⟨I.nd, ?_, fun p hp q hq e => ?_⟩
    · refine List.pairwise_map.mpr (List.Pairwise.imp_of_mem (fun {m n} hm hn h z => ?_) (M.tos.filter sd11))
      obtain ⟨h1, h2⟩ := List.mem_filter.mp hm
      obtain ⟨h3, h4⟩ := List.mem_filter.mp hn
      have et : tO m = tO n := congrArg (·.1) z
      exact h (by rw [M.to_some h1 (.inl h2), M.to_some h3 (.inl h4), et])
    · subst e
      obtain ⟨k, l, hk, hl, d, _, e1, e2, _⟩ := (I.mem p).mp hp
      obtain ⟨m, hm, rfl⟩ := List.mem_map.mp hq
      have h1 := nd_nm nd hk hi e1.symm
      have h2 := nd_nm nd hl hj e2.symm
      subst h1 h2
      exact no d
  · rcases List.mem_append.mp hp with hp | hp
    · exact I.ok p hp
    · obtain ⟨m, hm, rfl⟩ := List.mem_map.mp hp
      obtain ⟨h1, h2⟩ := List.mem_filter.mp hm
      exact fr m h1 _ (M.to_some h1 (.inl h2))
end
/-! the other way about -/
end SL
namespace SL
open RR PySem
end SL
namespace SL
open RR PySem
end SL
namespace SL
open RR PySem
/-! ### things that go by height 0 along (1000, 999) -/
structure RunOk (nm : Str) (A r u s : Int) : Prop where
  nm : nm ∈ (["m", "zed", "b", "aa"] : List Str)
  a0 : 0 < A
  a1 : A ≤ 1957021
  r : 0 < r ∧ r ≤ 1000
  u : 0 < u ∧ u ≤ 1000
  s : 0 ≤ s ∧ s ≤ 1000000
def runT (nm : Str) (A r u s : Int) : Th := ⟨nm, 0 - A + 999 * A.fdiv 1999, A - 1000 * A.fdiv 1999, [⟨s, r, u⟩]⟩
def soT : Th := ⟨"so", 0, 0, []⟩
def runS (r u : Int) : Int := 1000 * r + 999 * u
section
variable {nm : Str} {A r u s : Int}
theorem run_val (w : Tm) : hv w 1000 999 (runT nm A r u s) = if flo w < s then ((0 - A : Int) : RR.Rl) else ((0 - A - runS r u * s : Int) : RR.Rl) + ((runS r u : Int) : RR.Rl) * w.val := by
  have e : hv w 1000 999 (runT nm A r u s) = pv (1000 * (posF (·.u) (0 - A + 999 * A.fdiv 1999) 0 0 [⟨s, r, u⟩] (flo w) - spF (·.u) 0 [⟨s, r, u⟩] (flo w) * flo w) + 999 * (posF (·.v) (A - 1000 * A.fdiv 1999) 0 0 [⟨s, r, u⟩] (flo w) - spF (·.v) 0 [⟨s, r, u⟩] (flo w) * flo w)) (1000 * spF (·.u) 0 [⟨s, r, u⟩] (flo w) + 999 * spF (·.v) 0 [⟨s, r, u⟩] (flo w)) 0 w.val := rfl
  rw [e]
  unfold posF spF
  split
  · next h =>
    unfold pv
    rw [show (1000 * (0 - A + 999 * A.fdiv 1999 + 0 * (flo w - 0) - 0 * flo w) + 999 * (A - 1000 * A.fdiv 1999 + 0 * (flo w - 0) - 0 * flo w)) = 0 - A by omega]
    rw [show (1000 * 0 + 999 * 0 : Int) = 0 by decide, cast_zero]
    grind
  · next h =>
    unfold posF spF pv runS
    dsimp only
    generalize flo w = f
    rw [show (1000 * (0 - A + 999 * A.fdiv 1999 + 0 * (s - 0) + r * (f - s) - r * f) + 999 * (A - 1000 * A.fdiv 1999 + 0 * (s - 0) + u * (f - s) - u * f)) = 0 - A - (1000 * r + 999 * u) * s by
      have e1 : r * (f - s) = r * f - r * s := Int.mul_sub ..
      have e2 : u * (f - s) = u * f - u * s := Int.mul_sub ..
      have e3 : (1000 * r + 999 * u) * s = 1000 * (r * s) + 999 * (u * s) := by rw [Int.add_mul, Int.mul_assoc, Int.mul_assoc]
      omega]
    rw [cast_zero]
    grind
theorem so_val (w : Tm) : hv w 1000 999 soT = 0 := by
  have e : hv w 1000 999 soT = pv (1000 * (posF (·.u) 0 0 0 [] (flo w) - spF (·.u) 0 [] (flo w) * flo w) + 999 * (posF (·.v) 0 0 0 [] (flo w) - spF (·.v) 0 [] (flo w) * flo w)) (1000 * spF (·.u) 0 [] (flo w) + 999 * spF (·.v) 0 [] (flo w)) 0 w.val := rfl
  rw [e]
  unfold posF spF pv
  rw [show (1000 * (0 + 0 * (flo w - 0) - 0 * flo w) + 999 * (0 + 0 * (flo w - 0) - 0 * flo w)) = 0 by omega, show (1000 * 0 + 999 * 0 : Int) = 0 by decide, cast_zero]
  grind
theorem run_lo (o : RunOk nm A r u s) {w : Tm} (nw : w.Nm) (l : w.val ≤ (s : RR.Rl)) : hv w 1000 999 (runT nm A r u s) - hv w 1000 999 soT = ((0 - A : Int) : RR.Rl) := by
  rw [run_val, so_val]
  have fw := flo_is nw
  split
  · grind
  · next h =>
    have : (s : RR.Rl) ≤ (flo w : RR.Rl) := by rw [cast_le]; omega
    have := fw.1
    have e : w.val = (s : RR.Rl) := by grind
    rw [e, cast_sub, cast_mul]
    grind
theorem run_hi (o : RunOk nm A r u s) {w : Tm} (nw : w.Nm) (l : (s : RR.Rl) ≤ w.val) : hv w 1000 999 (runT nm A r u s) - hv w 1000 999 soT = ((runS r u : Int) : RR.Rl) * (w.val - (s : RR.Rl)) - (A : RR.Rl) := by
  rw [run_val, so_val]
  have fw := flo_is nw
  split
  · next h =>
    have : ((flo w + 1 : Int) : RR.Rl) ≤ (s : RR.Rl) := by rw [cast_le]; omega
    rw [cast_add, cast_one] at this
    have := fw.2
    exfalso
    grind
  · rw [cast_sub, cast_mul, cast_sub, cast_zero]
    grind
def RunAt (A r u s : Int) (p : Int × Int) : Prop := FrOk p ∧ ((runS r u : Int) : RR.Rl) * (vF p - (s : RR.Rl)) = (A : RR.Rl)
theorem run_pos (o : RunOk nm A r u s) : 0 < runS r u := by
  have := o.r
  have := o.u
  unfold runS
  omega
theorem run_after (o : RunOk nm A r u s) {p : Int × Int} (h : RunAt A r u s p) : (s : RR.Rl) < vF p := by
  have h1 := cast_pos (run_pos o)
  have h2 := cast_pos o.a0
  obtain ⟨_, e⟩ := h
  generalize vF p = v at *
  rcases tri (v - (s : RR.Rl)) with y | y | y
  · grind
  · have := mul_posR _ _ h1 (show 0 < 0 - (v - (s : RR.Rl)) by grind)
    grind
  · rw [y] at e
    grind
theorem sgmp {x y : RR.Rl} (h : 0 < y) : sgR (x * y) = sgR x := by
  rcases tri x with z | z | z
  · rw [sg_pos z, sg_pos (mul_posR _ _ z h)]
  · rw [sg_neg z, sg_neg (by have := mul_posR _ _ (show 0 < 0 - x by grind) h; grind)]
  · rw [z, show (0 : RR.Rl) * y = 0 by grind]
theorem run_sd (o : RunOk nm A r u s) {p : Int × Int} (h : RunAt A r u s p) {w : Tm} (nw : w.Nm) : sdT 1000 999 (runT nm A r u s) soT w = sgR (w.val - vF p) := by
  have h1 := cast_pos (run_pos o)
  have h2 := cast_pos o.a0
  have af := run_after o h
  obtain ⟨_, e⟩ := h
  unfold sdT
  rcases tri (w.val - (s : RR.Rl)) with y | y | y
  · rw [run_hi o nw (by grind)]
    generalize vF p = v at *
    rw [show ((runS r u : Int) : RR.Rl) * (w.val - (s : RR.Rl)) - (A : RR.Rl) = ((runS r u : Int) : RR.Rl) * (w.val - v) by grind, show ((runS r u : Int) : RR.Rl) * (w.val - v) = (w.val - v) * ((runS r u : Int) : RR.Rl) by grind]
    exact SL.sgmp h1
  · rw [run_lo o nw (by grind), cast_sub, cast_zero, sg_neg (by grind), sg_neg (by grind)]
  · rw [run_lo o nw (by grind), cast_sub, cast_zero, sg_neg (by grind), sg_neg (by grind)]
def runM (p : Int × Int) : Mx := ((cT p, some (cT p)), .int (-1), .int 1)
theorem run_meet (o : RunOk nm A r u s) {p : Int × Int} (h : RunAt A r u s p) : MeetOk 1000 999 (runT nm A r u s) soT [runM p] := by
  have op := h.1
  have af := run_after o h
  have s0 : (0 : RR.Rl) ≤ (s : RR.Rl) := by rw [← cast_zero, cast_le]; exact o.s.1
  have cv : (cT p).val = vF p := rfl
  have inm : ∀ x, InS (cT p, some (cT p)) x ↔ x = vF p := fun x => by
    unfold InS
    constructor
    · rintro ⟨l, k⟩
      have := k _ rfl
      dsimp only at l this
      rw [cv] at l this
      grind
    · rintro rfl
      exact ⟨by show (cT p).val ≤ _; rw [cv]; grind, fun t et => by cases et; rw [cv]; grind⟩
  refine ⟨⟨fun m hm => ?_, fun m hm w nw i => ?_, fun w nw w0 _ z => ?_⟩, by simp, fun m hm => ?_, fun m hm => ?_⟩
  · rw [List.mem_singleton.mp hm]
    exact ⟨op.e, fun t et => by cases et; exact ⟨op.e, by show vF p ≤ vF p; grind⟩⟩
  · rw [List.mem_singleton.mp hm] at i
    have e := (inm _).mp i
    have := run_sd o h nw
    rw [e, show vF p - vF p = 0 by grind, sg_zero] at this
    exact sdT_0.mp this
  · refine ⟨_, List.mem_singleton.mpr rfl, (inm _).mpr ?_⟩
    have := run_sd o h nw
    rw [sdT_0.mpr z] at this
    have := sg_eq0.mp this.symm
    grind
  · rw [List.mem_singleton.mp hm]
    refine .inr ⟨.fr 0 1, -1, .whole (by decide) (by decide), by rw [val_1, cast_zero]; show 0 < vF p; grind, by decide, rfl, fun w nw _ l => ?_⟩
    have l : w.val < vF p := l
    rw [run_sd o h nw, sg_neg (by grind)]
  · rw [List.mem_singleton.mp hm]
    refine .inr ⟨cT p, none, 1, rfl, fun y hy => (nomatch hy), by decide, rfl, fun w nw l _ => ?_⟩
    have l : vF p < w.val := l
    rw [run_sd o h nw, sg_pos (by grind)]
end
end SL
namespace SL
open RR PySem
/-! ### the number by which one comes to 1 -/
structure InvI (n m old new one oth : Int) : Prop where
  o0 : 0 ≤ old
  o1 : old ≤ m
  n0 : 0 ≤ new
  n1 : new ≤ m
  d1 : m ∣ n * one - old
  d2 : m ∣ n * oth - new
  sg : ∃ P R : Int, 0 ≤ P ∧ 0 ≤ R ∧ P ≤ m ∧ R ≤ m ∧ (old = 0 → R = 0) ∧ R * old + P * new = m ∧ ((one = P ∧ oth = -R) ∨ (one = -P ∧ oth = R))
theorem InvI.start {n m : Int} (m0 : 0 < m) : InvI n m (n.fmod m) m 1 0 where
  o0 := Int.fmod_nonneg_of_pos _ m0
  o1 := Int.le_of_lt (Int.fmod_lt_of_pos _ m0)
  n0 := Int.le_of_lt m0
  n1 := Int.le_refl _
  d1 := by
    refine ⟨n.fdiv m, ?_⟩
    have := Int.mul_fdiv_add_fmod n m
    omega
  d2 := ⟨-1, by omega⟩
  sg := ⟨1, 0, by decide, by decide, by omega, by omega, fun _ => rfl, by omega, .inl ⟨rfl, rfl⟩⟩
theorem InvI.step {n m old new one oth : Int} (I : InvI n m old new one oth) (p : 0 < new) : InvI n m new (old - old.fdiv new * new) oth (one - old.fdiv new * oth) ∧ (old - old.fdiv new * new).toNat < new.toNat ∧ 0 ≤ old.fdiv new ∧ old.fdiv new ≤ m := by
  obtain ⟨o0, o1, n0, n1, ⟨a, ha⟩, ⟨b, hb⟩, P, R, P0, R0, P1, R1, z, e, sg⟩ := I
  have t0 : 0 ≤ old.fdiv new := by rw [Int.fdiv_eq_ediv_of_nonneg _ n0]; exact Int.ediv_nonneg o0 n0
  have fe := Int.mul_fdiv_add_fmod old new
  have f0 := Int.fmod_nonneg_of_pos old p
  have f1 := Int.fmod_lt_of_pos old p
  have ef : old - old.fdiv new * new = old.fmod new := by rw [Int.mul_comm]; omega
  have t1 : old.fdiv new ≤ m := by
    have : old.fdiv new * 1 ≤ old.fdiv new * new := Int.mul_le_mul_of_nonneg_left (by omega) t0
    omega
  rw [ef]
  generalize ht : old.fdiv new = t at *
  have tR : 0 ≤ t * R := Int.mul_nonneg t0 R0
  have e2 : (P + t * R) * new + R * (old.fmod new) = m := by
    have : R * old.fmod new = R * old - t * R * new := by
      rw [← ef, Int.mul_sub]
      congr 1
      rw [← Int.mul_assoc, Int.mul_comm R t]
    rw [Int.add_mul, this]
    omega
  refine ⟨⟨n0, n1, f0, by omega, ⟨b, hb⟩, ⟨a - t * b, ?_⟩, R, P + t * R, R0, by omega, R1, ?_, fun h => by omega, e2, ?_⟩, by omega, t0, t1⟩
  · rw [← ef]
    have h1 : n * (one - t * oth) = n * one - t * (n * oth) := by rw [Int.mul_sub]; congr 1; rw [← Int.mul_assoc, ← Int.mul_assoc, Int.mul_comm n t]
    have h2 : m * (a - t * b) = m * a - t * (m * b) := by rw [Int.mul_sub]; congr 1; rw [← Int.mul_assoc, ← Int.mul_assoc, Int.mul_comm m t]
    rw [h1, h2, ← ha, ← hb, Int.mul_sub]
    omega
  · have h1 : (P + t * R) * 1 ≤ (P + t * R) * new := Int.mul_le_mul_of_nonneg_left (by omega) (by omega)
    have h2 : 0 ≤ R * old.fmod new := Int.mul_nonneg R0 f0
    omega
  · rcases sg with ⟨rfl, rfl⟩ | ⟨rfl, rfl⟩
    · refine .inr ⟨rfl, ?_⟩
      rw [Int.mul_neg]; omega
    · exact .inl ⟨rfl, by omega⟩
theorem InvI.bd {n m old new one oth : Int} (I : InvI n m old new one oth) : -m ≤ one ∧ one ≤ m ∧ -m ≤ oth ∧ oth ≤ m := by
  obtain ⟨P, R, P0, R0, P1, R1, _, _, sg⟩ := I.sg
  rcases sg with ⟨rfl, rfl⟩ | ⟨rfl, rfl⟩ <;> omega
theorem InvI.fin {n m new one oth : Int} (I : InvI n m 1 new one oth) (m0 : 0 < m) : 0 ≤ one.fmod m ∧ one.fmod m < m ∧ m ∣ n * one.fmod m - 1 := by
  refine ⟨Int.fmod_nonneg_of_pos _ m0, Int.fmod_lt_of_pos _ m0, ?_⟩
  obtain ⟨a, ha⟩ := I.d1
  have fe := Int.mul_fdiv_add_fmod one m
  refine ⟨a - n * one.fdiv m, ?_⟩
  have e : one.fmod m = one - m * one.fdiv m := by omega
  rw [e, Int.mul_sub, Int.mul_sub, ← ha]
  have : n * (m * one.fdiv m) = m * (n * one.fdiv m) := by rw [← Int.mul_assoc, ← Int.mul_assoc, Int.mul_comm n m]
  omega
end SL
namespace SL
open RR PySem
/-! ### the passings of one, sorted by times and names -/
structure PsI (l : List Th) (ps : List Pw) : Prop where
  mem : ∀ q, q ∈ ps ↔ ∃ a ∈ l, a.nm ≠ "so" ∧ q.2.1 = a.nm ∧ q.2.2 = "so" ∧ PassAt 1000 999 a soT q.1
  nd : ps.Nodup
  ok : ∀ p ∈ ps, FrP p
theorem PsI.nil : PsI [] [] := ⟨fun q => ⟨fun h => (nomatch h), fun ⟨a, ha, _⟩ => (nomatch ha)⟩, .nil, fun p h => (nomatch h)⟩
theorem PsI.skip {l : List Th} {ps : List Pw} {a : Th} (I : PsI l ps) (e : a.nm = "so") : PsI (l ++ [a]) ps := ⟨fun q => by
  rw [I.mem]
  constructor
  · rintro ⟨b, hb, r⟩; exact ⟨b, List.mem_append_left _ hb, r⟩
  · rintro ⟨b, hb, r⟩
    rcases List.mem_append.mp hb with hb | hb
    · exact ⟨b, hb, r⟩
    · rw [List.mem_singleton.mp hb] at r; exact absurd e r.1, I.nd, I.ok⟩
theorem run_pass {nm : Str} {A r u s : Int} (o : RunOk nm A r u s) {p : Int × Int} (h : RunAt A r u s p) (t : Tm) : PassAt 1000 999 (runT nm A r u s) soT t ↔ t = cT p := by
  unfold PassAt
  rw [mts_eq (run_meet o h)]
  constructor
  · rintro ⟨m, hm, _, e⟩
    rw [List.mem_singleton.mp hm] at e
    exact e.symm
  · rintro rfl
    exact ⟨_, List.mem_singleton.mpr rfl, rfl, rfl⟩
theorem PsI.put {l : List Th} {ps : List Pw} {nm : Str} {A r u s : Int} (I : PsI l ps) (o : RunOk nm A r u s) {p : Int × Int} (h : RunAt A r u s p) (new : ∀ b ∈ l, b.nm ≠ nm) (ns : nm ≠ "so") : PsI (l ++ [runT nm A r u s]) (ps ++ [((cT p, nm, "so") : Pw)]) := by
  refine ⟨fun q => ?_, ?_, fun q hq => ?_⟩
  · rw [List.mem_append, I.mem, List.mem_singleton]
    constructor
    · rintro (⟨b, hb, r⟩ | rfl)
      · exact ⟨b, List.mem_append_left _ hb, r⟩
      · exact ⟨_, List.mem_append_right _ (List.mem_singleton.mpr rfl), ns, rfl, rfl, (run_pass o h _).mpr rfl⟩
    · rintro ⟨b, hb, n, e1, e2, pa⟩
      rcases List.mem_append.mp hb with hb | hb
      · exact .inl ⟨b, hb, n, e1, e2, pa⟩
      · rw [List.mem_singleton.mp hb] at e1 pa
        exact .inr (Prod.ext ((run_pass o h _).mp pa) (Prod.ext e1 e2))
  · refine List.nodup_append.mpr ⟨I.nd, by simp, fun q hq q' hq' e => ?_⟩
    rw [List.mem_singleton.mp hq'] at e
    subst e
    obtain ⟨b, hb, _, e1, _⟩ := (I.mem _).mp hq
    exact new b hb e1.symm
  · rcases List.mem_append.mp hq with hq | hq
    · exact I.ok q hq
    · rw [List.mem_singleton.mp hq]
      exact ⟨p, rfl, h.1⟩
/-- what goes by "so" among all passings -/
theorem PsI.due {ths sths : List Th} {ps G qs : List Pw} (I : PsI ths ps) (pm : G.Perm ps) (up : G.Pairwise pwLt) (P : PassOk 1000 999 sths qs) (st : sths.Perm ths) (mso : soT ∈ ths) (one : ∀ b ∈ ths, b.nm = "so" → b = soT) : qs.filter (fun q => decide (q.2.2 = ("so" : Str))) = G := by
  have nd : ∀ {l : List Pw}, l.Pairwise pwLt → l.Nodup := fun h => h.imp fun {p q} l e => by rw [e] at l; exact pwLt_asym l l
  have up2 := P.up.filter fun q => decide (q.2.2 = ("so" : Str))
  refine List.Perm.eq_of_pairwise (le := pwLt) (fun a b _ _ h1 h2 => (pwLt_asym h1 h2).elim) up2 up ((List.perm_ext_iff_of_nodup (nd up2) (nd up)).mpr fun q => ?_)
  rw [List.mem_filter, pm.mem_iff, I.mem, P.mem, decide_eq_true_iff]
  constructor
  · rintro ⟨⟨a, ha, b, hb, n, e1, e2, pa⟩, e3⟩
    have eb := one b (st.mem_iff.mp hb) (e2.symm.trans e3)
    subst eb
    exact ⟨a, st.mem_iff.mp ha, n, e1, e3, pa⟩
  · rintro ⟨a, ha, n, e1, e3, pa⟩
    exact ⟨⟨a, st.mem_iff.mpr ha, soT, st.mem_iff.mpr mso, n, e1, e3, pa⟩, e3⟩
end SL
namespace SL
open RR PySem
/-! ### one world told in two ways: the sides are the same -/
theorem takeWhile_map_len {α β : Type} (f : α → β) (p : β → Bool) : ∀ l : List α, ((l.map f).takeWhile p).length = (l.takeWhile fun a => p (f a)).length
  | [] => rfl
  | a :: l => by
    rw [List.map_cons, List.takeWhile_cons, List.takeWhile_cons]
    cases p (f a) with
    | true => simp [takeWhile_map_len f p l]
    | false => rfl
def gpM (φ : Th → Th) (g : Gp) : Gp := (φ g.1, g.2.map φ)
theorem posG_map {v : Th → RR.Rl} {φ : Th → Th} (a : Th) (G : List Gp) : posG v (φ a) (G.map (gpM φ)) = posG (fun x => v (φ x)) a G := by
  unfold posG
  rw [takeWhile_map_len]
  rfl
open Classical in
theorem insL_map {v : Th → RR.Rl} {φ : Th → Th} (a : Th) (G : List Gp) : insL v (G.map (gpM φ)) (φ a) = (insL (fun x => v (φ x)) G a).map (gpM φ) := by
  unfold insL
  rw [posG_map, List.getElem?_map]
  cases e : G[posG (fun x => v (φ x)) a G]? with
  | none =>
    simp only [Option.map_none, List.map_append, List.map_take, List.map_drop, List.map_cons, List.map_nil]
    rfl
  | some g =>
    simp only [Option.map_some]
    show (if v (φ g.1) = v (φ a) then _ else _) = _
    by_cases z : v (φ g.1) = v (φ a)
    · rw [if_pos z, if_pos z, List.map_set]
      congr 1
      show (φ g.1, g.2.map φ ++ [φ a]) = (φ g.1, (g.2 ++ [a]).map φ)
      rw [List.map_append]
      rfl
    · rw [if_neg z, if_neg z]
      simp only [List.map_append, List.map_take, List.map_drop, List.map_cons, List.map_nil]
      rfl
theorem levF_map {v : Th → RR.Rl} {φ : Th → Th} (l : List Th) : levF v (l.map φ) = (levF (fun x => v (φ x)) l).map (gpM φ) := by
  induction l using snocRec with
  | nil => rfl
  | snoc l a ih =>
    rw [List.map_append, List.map_cons, List.map_nil, levF_snoc, levF_snoc, ih, insL_map]
structure Twin (dx dy dx' dy' : Int) (φ : Th → Th) (ths : List Th) : Prop where
  nm : ∀ a ∈ ths, (φ a).nm = a.nm
  sd : ∀ a ∈ ths, ∀ b ∈ ths, ∀ w : Tm, w.Nm → 0 ≤ w.val → sdT dx dy a b w = sdT dx' dy' (φ a) (φ b) w
section
variable {dx dy dx' dy' : Int} {φ : Th → Th} {ths : List Th}
theorem levF_mem {v : Th → RR.Rl} : ∀ {l : List Th}, ∀ g ∈ levF v l, ∀ a ∈ g.2, a ∈ l := fun {l} => by
  induction l using snocRec with
  | nil => intro g hg; cases hg
  | snoc l a ih =>
    intro g hg x hx
    rw [levF_snoc] at hg
    have old : ∀ g' ∈ levF v l, ∀ y ∈ g'.2, y ∈ l ++ [a] := fun g' h y hy => List.mem_append_left _ (ih g' h y hy)
    have fresh : ∀ y ∈ ((a, [a]) : Gp).2, y ∈ l ++ [a] := fun y hy => by rw [List.mem_singleton.mp hy]; simp
    have ins : g ∈ (levF v l).take (posG v a (levF v l)) ++ [(a, [a])] ++ (levF v l).drop (posG v a (levF v l)) → x ∈ l ++ [a] := fun h => by
      rcases List.mem_append.mp h with h | h
      · rcases List.mem_append.mp h with h | h
        · exact old g (List.mem_of_mem_take h) x hx
        · rw [List.mem_singleton.mp h] at hx; exact fresh x hx
      · exact old g (List.mem_of_mem_drop h) x hx
    unfold insL at hg
    split at hg
    · next gp e =>
      split at hg
      · rcases List.mem_or_eq_of_mem_set hg with hg | hg
        · exact old g hg x hx
        · rw [hg] at hx
          rcases List.mem_append.mp hx with hx | hx
          · exact old gp (List.mem_of_getElem? e) x hx
          · rw [List.mem_singleton.mp hx]; simp
      · exact ins hg
    · exact ins hg
theorem Twin.levN (T : Twin dx dy dx' dy' φ ths) {w : Tm} (nw : w.Nm) (w0 : 0 ≤ w.val) : levN (hv w dx' dy') (ths.map φ) = (levN (hv w dx dy) ths).map fun g => g.map φ := by
  unfold SL.levN
  rw [levF_map, List.map_map, List.map_map, ← lev_congr (v := hv w dx dy) (v' := fun x => hv w dx' dy' (φ x)) (l := ths) fun a ha b hb => T.sd a ha b hb w nw w0]
  rfl
theorem Twin.LN (T : Twin dx dy dx' dy' φ ths) {w : Tm} (nw : w.Nm) (w0 : 0 ≤ w.val) : LN dx' dy' (ths.map φ) w = LN dx dy ths w := by
  unfold SL.LN
  rw [T.levN nw w0, List.map_map]
  refine List.map_congr_left fun g hg => ?_
  show (g.map φ).map Th.nm = g.map Th.nm
  rw [List.map_map]
  refine List.map_congr_left fun a ha => T.nm a ?_
  unfold SL.levN at hg
  obtain ⟨gp, hgp, rfl⟩ := List.mem_map.mp hg
  exact levF_mem gp hgp a ha
theorem StoryOk.twin {rs : List R3} (T : Twin dx dy dx' dy' φ ths) (S : StoryOk dx dy ths rs) : StoryOk dx' dy' (ths.map φ) rs where
  len := S.len
  fst := S.fst
  ok := S.ok
  up := S.up
  at_ := fun r hr => by rw [S.at_ r hr, T.LN (S.ok r hr).nm (S.ok r hr).nn]
  beh := fun k h t nt l r => by
    have o := S.ok _ (List.getElem_mem h)
    rw [T.LN nt (by have := o.nn; grind)]
    exact S.beh k h t nt l r
  new := S.new
theorem MeetOk.twin {a b a' b' : Th} {ms : List Mx} (M : MeetOk dx dy a b ms) (sd : ∀ w : Tm, w.Nm → 0 ≤ w.val → sdT dx dy a b w = sdT dx' dy' a' b' w) : MeetOk dx' dy' a' b' ms where
  cv := ⟨M.cv.ok, fun m hm w nw i => by
    have w0 : 0 ≤ w.val := by have := (M.cv.ok m hm).1.nn; have := i.1; grind
    exact sdT_0.mp ((sd w nw w0).symm.trans (sdT_0.mpr (M.cv.tru m hm w nw i))), fun w nw w0 l h => M.cv.cov w nw w0 l (sdT_0.mp ((sd w nw w0).trans (sdT_0.mpr h)))⟩
  up := M.up
  ahd := fun m hm => by
    rcases M.ahd m hm with h | ⟨y, s, oy, ly, s0, k, h⟩
    · exact .inl h
    · exact .inr ⟨y, s, oy, ly, s0, k, fun w nw l1 l2 => by rw [← sd w nw (by have := oy.nn; grind), h w nw l1 l2]⟩
  bhd := fun m hm => by
    rcases M.bhd m hm with h | ⟨u, y, s, e, oy, s0, k, h⟩
    · exact .inl h
    · exact .inr ⟨u, y, s, e, oy, s0, k, fun w nw l1 l2 => by rw [← sd w nw (by have := ((M.s hm).2 u e).1.nn; grind), h w nw l1 l2]⟩
theorem PassOk.twin {ps : List Pw} (T : Twin dx dy dx' dy' φ ths) (P : PassOk dx dy ths ps) (ex : ∀ a ∈ ths, ∀ b ∈ ths, a.nm ≠ b.nm → ∃ ms, MeetOk dx dy a b ms) : PassOk dx' dy' (ths.map φ) ps := by
  have pa : ∀ a ∈ ths, ∀ b ∈ ths, a.nm ≠ b.nm → ∀ t, PassAt dx' dy' (φ a) (φ b) t ↔ PassAt dx dy a b t := fun a ha b hb ne t => by
    obtain ⟨ms, M⟩ := ex a ha b hb ne
    unfold PassAt
    rw [mts_eq (M.twin (T.sd a ha b hb)), mts_eq M]
  refine ⟨P.up, fun p => ?_⟩
  rw [P.mem]
  constructor
  · rintro ⟨a, ha, b, hb, n, e1, e2, h⟩
    exact ⟨φ a, List.mem_map.mpr ⟨a, ha, rfl⟩, φ b, List.mem_map.mpr ⟨b, hb, rfl⟩, by rw [T.nm a ha, T.nm b hb]; exact n, by rw [T.nm a ha]; exact e1, by rw [T.nm b hb]; exact e2, (pa a ha b hb n _).mpr h⟩
  · rintro ⟨a', ha', b', hb', n, e1, e2, h⟩
    obtain ⟨a, ha, rfl⟩ := List.mem_map.mp ha'
    obtain ⟨b, hb, rfl⟩ := List.mem_map.mp hb'
    rw [T.nm a ha] at n e1
    rw [T.nm b hb] at n e2
    exact ⟨a, ha, b, hb, n, e1, e2, (pa a ha b hb n _).mp h⟩
end
end SL
namespace SL
open RR PySem
/-! ### the ways of telling one world -/
/-! a row more, of the speed that holds -/
end SL
namespace SL
open RR PySem
/-! ### the story turned about -/
theorem LvOk.rev {v v' : Th → RR.Rl} {l : List Th} {G : List (List Th)} (h : LvOk v l G) (hn : ∀ x, v' x = 0 - v x) : LvOk v' l G.reverse where
  perm := ((List.reverse_perm G).flatten).trans h.perm
  ne := fun g hg => h.ne g (List.mem_reverse.mp hg)
  same := fun g hg a ha b hb => by rw [hn, hn, h.same g (List.mem_reverse.mp hg) a ha b hb]
  up := List.pairwise_reverse.mpr (h.up.imp fun {g g'} z a ha b hb => by
    have := z b hb a ha
    rw [hn, hn]
    grind)
  nm := fun g hg => h.nm g (List.mem_reverse.mp hg)
theorem LN_turn {dx dy : Int} {sths : List Th} (st : sths.Pairwise fun a b => ltN a.nm b.nm) (t : Tm) : LN (0 - dx) (0 - dy) sths t = (LN dx dy sths t).reverse := by
  unfold LN
  rw [(levN_lv (v := hv t (0 - dx) (0 - dy)) st).uniq ((levN_lv (v := hv t dx dy) st).rev fun x => hv_neg), List.map_reverse]
def turnR (r : R3) : R3 := (r.1, r.2.1.reverse, r.2.2.reverse)
theorem StoryOk.turn {dx dy : Int} {sths : List Th} {rs : List R3} (S : StoryOk dx dy sths rs) (st : sths.Pairwise fun a b => ltN a.nm b.nm) : StoryOk (0 - dx) (0 - dy) sths (rs.map turnR) := by
  have inj : ∀ x y : Gn, x.reverse ≠ y.reverse ↔ x ≠ y := fun x y => by
    constructor
    · exact fun h e => h (by rw [e])
    · exact fun h e => h (by have := congrArg List.reverse e; rwa [List.reverse_reverse, List.reverse_reverse] at this)
  refine ⟨by rw [List.length_map]; exact S.len, ?_, fun r' hr' => ?_, ?_, fun r' hr' => ?_, fun k h t nt l1 r1 => ?_, fun k h => ?_⟩
  · rw [List.getElem_map]; exact S.fst
  · obtain ⟨r, hr, rfl⟩ := List.mem_map.mp hr'
    exact S.ok r hr
  · exact List.pairwise_map.mpr S.up
  · obtain ⟨r, hr, rfl⟩ := List.mem_map.mp hr'
    show r.2.1.reverse = _
    rw [S.at_ r hr]
    exact (LN_turn st r.1).symm
  · have hk : k < rs.length := by rw [List.length_map] at h; exact h
    rw [List.getElem_map] at l1 ⊢
    rw [LN_turn st, S.beh k hk t nt l1 fun r' hr' => r1 (turnR r') (by rw [List.getElem?_map, hr']; rfl)]
    rfl
  · have hk : k + 1 < rs.length := by rw [List.length_map] at h; exact h
    rw [List.getElem_map, List.getElem_map]
    show rs[k + 1].2.1.reverse ≠ (rs[k]).2.2.reverse ∨ rs[k + 1].2.2.reverse ≠ (rs[k]).2.2.reverse
    rw [inj, inj]
    exact S.new k hk
end SL
namespace SL
open RR PySem
/-! ### rows at lesser times -/
structure RowT (r : Row) : Prop where
  t : r.t < 2 ^ 20
  u : -1000 ≤ r.u ∧ r.u ≤ 1000
  v : -1000 ≤ r.v ∧ r.v ≤ 1000
structure ThT (a : Th) : Prop where
  x : -1000000 ≤ a.x ∧ a.x ≤ 1000000
  y : -1000000 ≤ a.y ∧ a.y ≤ 1000000
  up : Rising 0 a.rs
  ok : ∀ r ∈ a.rs, RowT r
  few : a.rs.length ≤ 12
  nm : a.nm ∈ names13
theorem RowT.row {r : Row} (h : RowT r) : RowOk r := ⟨by have := h.t; omega, h.u, h.v⟩
theorem ThT.th {a : Th} (h : ThT a) : ThOk a := ⟨h.x, h.y, h.up, fun r hr => (h.ok r hr).row, h.few, h.nm⟩
/-! ### two things alone -/
/-! the ends, each once -/
def endsX (M : List Sx) : List Tm := (M.map fun m => m.1 :: m.2.toList).flatten
theorem mem_ends {M : List Sx} {t : Tm} : t ∈ endsX M ↔ ∃ m ∈ M, t = m.1 ∨ m.2 = some t := by
  unfold endsX
  rw [List.mem_flatten]
  constructor
  · rintro ⟨l, hl, ht⟩
    obtain ⟨m, hm, rfl⟩ := List.mem_map.mp hl
    refine ⟨m, hm, ?_⟩
    rcases List.mem_cons.mp ht with h | h
    · exact .inl h
    · exact .inr (Option.mem_toList.mp h)
  · rintro ⟨m, hm, h⟩
    refine ⟨_, List.mem_map.mpr ⟨m, hm, rfl⟩, ?_⟩
    rcases h with h | h
    · rw [h]; exact List.mem_cons_self
    · exact List.mem_cons_of_mem _ (Option.mem_toList.mpr h)
theorem MeetOk.gap {dx dy : Int} {a b : Th} {ms : List Mx} (A : MeetOk dx dy a b ms) {m n : Mx} (hm : m ∈ ms) (hn : n ∈ ms) (lt : m.1.1.val < n.1.1.val) : ∃ u, m.1.2 = some u ∧ u.val < n.1.1.val := by
  have on := A.s hn
  have i2 : InS n.1 n.1.1.val := ⟨by grind, fun t et => (on.2 t et).2⟩
  cases e : m.1.2 with
  | none =>
    have := A.same A hm hn ⟨by grind, fun t et => by rw [e] at et; cases et⟩ i2
    rw [this] at lt
    exact absurd lt (by grind)
  | some u =>
    refine ⟨u, rfl, ?_⟩
    rcases tri (n.1.1.val - u.val) with q | q | q
    · grind
    · have := A.same A hm hn ⟨by grind, fun t et => by rw [e] at et; cases et; grind⟩ i2
      rw [this] at lt
      exact absurd lt (by grind)
    · have := A.same A hm hn ⟨by grind, fun t et => by rw [e] at et; cases et; grind⟩ i2
      rw [this] at lt
      exact absurd lt (by grind)
theorem MeetOk.ends {dx dy : Int} {a b : Th} {ms : List Mx} (A : MeetOk dx dy a b ms) : (endsX (ms.map (·.1))).Pairwise fun t u => t.val ≤ u.val := by
  have h := List.pairwise_map.mp A.up
  have key : ∀ l : List Mx, (∀ m ∈ l, m ∈ ms) → l.Pairwise (fun m n => m.1.1.val < n.1.1.val) → (endsX (l.map (·.1))).Pairwise fun t u => t.val ≤ u.val := by
    intro l
    induction l with
    | nil => exact fun _ _ => .nil
    | cons m l ih =>
      intro hs p
      obtain ⟨p1, p2⟩ := List.pairwise_cons.mp p
      have om := A.s (hs m List.mem_cons_self)
      have ih := ih (fun x hx => hs x (List.mem_cons_of_mem _ hx)) p2
      show ((m.1.1 :: m.1.2.toList) ++ endsX (l.map (·.1))).Pairwise _
      rw [List.pairwise_append]
      have own : ∀ x ∈ (m.1.1 :: m.1.2.toList), ∀ n ∈ l, x.val ≤ n.1.1.val := fun x hx n hn => by
        have lt := p1 n hn
        obtain ⟨u, eu, lu⟩ := A.gap (hs m List.mem_cons_self) (hs n (List.mem_cons_of_mem _ hn)) lt
        rcases List.mem_cons.mp hx with h | h
        · rw [h]; grind
        · rw [eu] at h
          have : x = u := by simpa using h
          rw [this]; grind
      refine ⟨?_, ih, fun x hx y hy => ?_⟩
      · cases e : m.1.2 with
        | none => exact List.pairwise_singleton _ _
        | some u =>
          have := (om.2 u e).2
          exact List.pairwise_cons.mpr ⟨fun z hz => by have : z = u := by simpa using hz
                                                       rw [this]; assumption, List.pairwise_singleton _ _⟩
      · obtain ⟨s, hs', e⟩ := mem_ends.mp hy
        obtain ⟨n, hn, rfl⟩ := List.mem_map.mp hs'
        have on := A.s (hs n (List.mem_cons_of_mem _ hn))
        have := own x hx n hn
        rcases e with rfl | e
        · exact this
        · have := (on.2 y e).2; grind
  exact key ms (fun _ h => h) h
end SL
namespace SL
open RR PySem
/-! ### stories of truths and stretches -/
abbrev B3 := Tm × Bool × Bool
def sobS (acc : List B3) (x : B3) : List B3 := match acc.getLast? with
  | none => [x]
  | some l => if x.2.1 = l.2.2 ∧ x.2.2 = l.2.2 then acc else acc ++ [x]
def sobF (xs : List B3) : List B3 := xs.foldl sobS []
def strnT (fs : List Sx) (u : Option Tm) (t : Tm) (b : Bool) : List Sx × Option Tm := match u with
  | some w => if b = false then (fs ++ [(w, some t)], none) else (fs, some w)
  | none => (fs, none)
def strnS (st : List Sx × Option Tm) (r : B3) : List Sx × Option Tm := strnT st.1 (if r.2.1 = true ∧ st.2 = none then some r.1 else st.2) r.1 r.2.2
def strnA (rs : List B3) : List Sx × Option Tm := rs.foldl strnS ([], none)
def strnF (rs : List B3) : List Sx := match (strnA rs).2 with
  | none => (strnA rs).1
  | some t => (strnA rs).1 ++ [(t, none)]
def sxD (s : Sx) : D := .tup [TD s.1, oTD s.2]
theorem mapO_strs (h : Hs) (k : Nat) : ∀ l : List Str, mapO (toP k h) (l.map D.str) = some (l.map PyData.str)
  | [] => rfl
  | s :: l => by
    rw [List.map_cons, List.map_cons]
    unfold mapO
    rw [show toP k h (.str s) = some (.str s) from by cases k <;> rfl, mapO_strs h k l]
def inF (nm : Str) (g : Gn) : Bool := match g[0]? with
  | some l => decide (nm ∈ l)
  | none => false
def fsB (nm : Str) (rs : List R3) : List B3 := rs.map fun r => (r.1, inF nm r.2.1, inF nm r.2.2)
def fsF (nm : Str) (rs : List R3) : List Sx := strnF (sobF (fsB nm rs))
theorem LN_ne {dx dy : Int} {sths : List Th} {t : Tm} (ne : sths ≠ []) : LN dx dy sths t ≠ [] := fun e => by
  unfold LN at e
  have e' : levN (hv t dx dy) sths = [] := List.map_eq_nil_iff.mp e
  have := levN_flat (v := hv t dx dy) (l := sths)
  rw [e'] at this
  exact ne (List.length_eq_zero_iff.mp this.symm)
theorem StoryOk.full {dx dy : Int} {sths : List Th} {rs : List R3} (S : StoryOk dx dy sths rs) (ne : sths ≠ []) : ∀ r ∈ rs, r.2.1 ≠ [] ∧ r.2.2 ≠ [] := fun r hr => by
  refine ⟨by rw [S.at_ r hr]; exact LN_ne ne, ?_⟩
  obtain ⟨k, hk, rfl⟩ := List.getElem_of_mem hr
  obtain ⟨w, nw, l, u⟩ := mid1 (S.ok _ hr) (u := rs[k + 1]?.map (·.1)) fun x hx => by
    obtain ⟨s, es, rfl⟩ := Option.map_eq_some_iff.mp hx
    exact S.nxt hk es
  rw [← S.beh k hk w nw l fun r' hr' => u r'.1 (by rw [hr']; rfl)]
  exact LN_ne ne
end SL
namespace SL
open RR PySem
/-! ### all that is told of a world -/
def lP (ds : List D) : PyData := .list (pds ds)
theorem lP_eqv (ds : List D) : PyData.eqv (lP ds) (lP ds) = true := eqv_pds ds
theorem gsP_eqv (gs : List (List Th)) : PyData.eqv (gsP gs) (gsP gs) = true := eqv_same _ (gsP_plain gs)
def prsK (sths : List Th) (n : Nat) : List (Th × Th) := (List.range n).flatMap fun k => match sths[k]? with
  | some a => (sths.take k).map fun b => (a, b)
  | none => []
def prsB (sths : List Th) : List (Th × Th) := prsK sths sths.length
theorem prsB_mem {sths : List Th} {p : Th × Th} (h : p ∈ prsB sths) : p.1 ∈ sths ∧ p.2 ∈ sths ∧ ∃ i j : Nat, i < j ∧ sths[i]? = some p.2 ∧ sths[j]? = some p.1 := by
  unfold prsB prsK at h
  obtain ⟨k, hk, h⟩ := List.mem_flatMap.mp h
  have hk := List.mem_range.mp hk
  rw [List.getElem?_eq_getElem hk] at h
  obtain ⟨b, hb, rfl⟩ := List.mem_map.mp h
  obtain ⟨i, hi, e⟩ := List.getElem_of_mem hb
  have hi2 : i < k := by rw [List.length_take] at hi; omega
  rw [List.getElem_take] at e
  exact ⟨List.getElem_mem hk, List.mem_of_mem_take hb, i, k, hi2, by rw [List.getElem?_eq_getElem (by omega), e], List.getElem?_eq_getElem hk⟩
theorem prsB_map {φ : Th → Th} (sths : List Th) : prsB (sths.map φ) = (prsB sths).map fun p => (φ p.1, φ p.2) := by
  unfold prsB prsK
  rw [List.length_map, List.map_flatMap]
  congr 1
  funext k
  rw [List.getElem?_map]
  cases sths[k]? with
  | none => rfl
  | some a =>
    show ((sths.map φ).take k).map (fun b => (φ a, b)) = ((sths.take k).map fun b => (a, b)).map fun p => (φ p.1, φ p.2)
    rw [← List.map_take, List.map_map, List.map_map]
    rfl
def tellT : List Tm := [.fr 7 2, .fr 5 1, .rt (-11) 0 1 1]
def AllM (dx dy : Int) (sths : List Th) : Prop := ∀ a ∈ sths, ∀ b ∈ sths, a.nm ≠ b.nm → ∃ ms, MeetOk dx dy a b ms
structure AllV (dx dy : Int) (sths : List Th) (rs : List R3) (ps : List Pw) (V : List PyData) : Prop where
  st : StoryOk dx dy sths rs
  pp : PassOk dx dy sths ps
  am : AllM dx dy sths
  eq : V = [lP (rs.map r3D), lP (ps.map pwD)] ++ (sths.take 2).map (fun a => lP ((fsF a.nm rs).map sxD)) ++ (prsB sths).map (fun p => lP ((mts dx dy p.1 p.2).map mtD)) ++ tellT.map fun t => gsP (levN (hv t dx dy) sths)
theorem AllV.eqv {dx dy : Int} {sths : List Th} {rs : List R3} {ps : List Pw} {V : List PyData} (A : AllV dx dy sths rs ps V) : ∀ v ∈ V, PyData.eqv v v = true := fun v hv => by
  rw [A.eq] at hv
  rcases List.mem_append.mp hv with hv | hv
  · rcases List.mem_append.mp hv with hv | hv
    · rcases List.mem_append.mp hv with hv | hv
      · rcases List.mem_cons.mp hv with rfl | hv
        · exact lP_eqv _
        · rw [List.mem_singleton.mp hv]; exact lP_eqv _
      · obtain ⟨a, _, rfl⟩ := List.mem_map.mp hv
        exact lP_eqv _
    · obtain ⟨a, _, rfl⟩ := List.mem_map.mp hv
      exact lP_eqv _
  · obtain ⟨a, _, rfl⟩ := List.mem_map.mp hv
    exact gsP_eqv _
theorem gsP_map {φ : Th → Th} {gs : List (List Th)} (h : ∀ g ∈ gs, ∀ a ∈ g, (φ a).nm = a.nm) : gsP (gs.map fun g => g.map φ) = gsP gs := by
  unfold gsP
  rw [List.map_map]
  congr 1
  refine List.map_congr_left fun g hg => ?_
  show PyData.list (nmsP (g.map φ)) = .list (nmsP g)
  unfold nmsP
  rw [List.map_map]
  congr 1
  refine List.map_congr_left fun a ha => ?_
  show PyData.str (φ a).nm = .str a.nm
  rw [h g hg a ha]
theorem AllV.twin {dx dy dx' dy' : Int} {φ : Th → Th} {sths : List Th} {rs rs' : List R3} {ps ps' : List Pw} {V V' : List PyData} (T : Twin dx dy dx' dy' φ sths) (nt : ∀ t ∈ tellT, t.Nm ∧ 0 ≤ t.val) (nd : sths.Pairwise fun a b => ltN a.nm b.nm) (A : AllV dx dy sths rs ps V) (A' : AllV dx' dy' (sths.map φ) rs' ps' V') : V' = V := by
  have e1 : rs' = rs := A'.st.uniq (A.st.twin T)
  have e2 : ps' = ps := A'.pp.uniq (A.pp.twin T A.am) (List.Perm.refl _)
  subst e1
  subst e2
  rw [A.eq, A'.eq, ← List.map_take, List.map_map, prsB_map, List.map_map]
  congr 1
  · congr 1
    · congr 1
      refine List.map_congr_left fun a ha => ?_
      show lP ((fsF (φ a).nm rs').map sxD) = _
      rw [T.nm a (List.mem_of_mem_take ha)]
    · refine List.map_congr_left fun p hp => ?_
      obtain ⟨m1, m2, i, j, lt, ei, ej⟩ := prsB_mem hp
      show lP ((mts dx' dy' (φ p.1) (φ p.2)).map mtD) = lP ((mts dx dy p.1 p.2).map mtD)
      have ne : p.1.nm ≠ p.2.nm := fun e => by
        obtain ⟨hi, ei⟩ := List.getElem?_eq_some_iff.mp ei
        obtain ⟨hj, ej⟩ := List.getElem?_eq_some_iff.mp ej
        have := List.pairwise_iff_getElem.mp nd i j hi hj lt
        rw [ei, ej] at this
        exact ltN_ne this e.symm
      obtain ⟨ms, M⟩ := A.am _ m1 _ m2 ne
      rw [mts_eq (M.twin (T.sd _ m1 _ m2)), mts_eq M]
  · refine List.map_congr_left fun t ht => ?_
    obtain ⟨n, z⟩ := nt t ht
    rw [T.levN n z]
    refine gsP_map fun g hg a ha => T.nm a ?_
    unfold levN at hg
    obtain ⟨gp, hgp, rfl⟩ := List.mem_map.mp hg
    exact levF_mem gp hgp a ha
/-! on the heap -/
def AllD (B L : Nat) (h : Hs) (V : List PyData) : Prop := ∀ h', Keep (fun a => B ≤ a) h h' → toP 32 h' (.ref L) = some (.list V)
def Stb (B F : Nat) (h : Hs) (d : D) (v : PyData) : Prop := ∀ h', Keep (fun a => B ≤ a ∧ a ≠ F) h h' → toP 31 h' d = some v
theorem Stb.step {B F : Nat} {h g : Hs} {d : D} {v : PyData} (s : Stb B F h d v) (k : Keep (fun a => B ≤ a ∧ a ≠ F) h g) : Stb B F g d v := fun h' k' => s h' (k.trans k')
structure AllS (B F : Nat) (h : Hs) (V : List PyData) : Prop where
  ex : ∃ ds : List D, h[F]? = some (.lst ds) ∧ ds.length = V.length ∧ ∀ i (hi : i < ds.length) (hv : i < V.length), Stb B F h ds[i] V[i]
theorem AllS.step {B F : Nat} {h g : Hs} {V : List PyData} (s : AllS B F h V) (lF : B ≤ F) (k : KA h g) : AllS B F g V := by
  obtain ⟨ds, e, l, st⟩ := s.ex
  exact ⟨ds, k.get e trivial, l, fun i hi hv => (st i hi hv).step (k.weak fun _ _ => trivial)⟩
theorem AllS.push {B F : Nat} {h : Hs} {V : List PyData} {ds : List D} {d : D} {v : PyData} (s : AllS B F h V) (e : h[F]? = some (.lst ds)) (t : Stb B F h d v) : AllS B F (h.set F (.lst (ds ++ [d]))) (V ++ [v]) := by
  obtain ⟨ds', e', l, st⟩ := s.ex
  rw [e] at e'
  cases e'
  have k : Keep (fun a => B ≤ a ∧ a ≠ F) h (h.set F (.lst (ds ++ [d]))) := Keep.set (by simp)
  refine ⟨ds ++ [d], set_at (get_lt e), by simp [l], fun i hi hv => ?_⟩
  rcases Nat.lt_or_ge i ds.length with z | z
  · rw [List.getElem_append_left z, List.getElem_append_left (by omega)]
    exact (st i z (by omega)).step k
  · have : i = ds.length := by simp at hi; omega
    subst this
    rw [List.getElem_append_right (Nat.le_refl _), List.getElem_append_right (by omega)]
    simp only [Nat.sub_self, List.getElem_cons_zero, l]
    exact t.step k
theorem AllS.all {B F : Nat} {h : Hs} {V : List PyData} (s : AllS B F h V) (lF : B ≤ F) : AllD B F h V := fun h' k => by
  obtain ⟨ds, e, l, st⟩ := s.ex
  exact toP_lst (getL_lst (k.get e lF)) (mapO_of l fun i hx hy => st i hx hy h' (k.weak fun _ z => z.1))
structure AI (B F R : Nat) (H : Hs) (V : List PyData) (g : Hs) : Prop where
  s : AllS B F g V
  hd : ∃ ds, g[F]? = some (.lst (.ref R :: ds)) ∧ ds.length + 1 = V.length
  k : Keep (· ≠ F) H g
end SL
namespace SL
open RR PySem
/-! ### the thing with a row more -/
theorem Sths.map {φ : Th → Th} {ths sths : List Th} (h : ∀ a ∈ ths, (φ a).nm = a.nm) (st : Sths ths sths) : Sths (ths.map φ) (sths.map φ) := by
  refine ⟨st.1.map φ, List.pairwise_map.mpr (st.2.imp_of_mem fun {a b} ha hb l => ?_)⟩
  rw [h a (st.1.mem_iff.mp ha), h b (st.1.mem_iff.mp hb)]
  exact l
end SL
namespace SL
open RR PySem
/-! ### a way told thing by thing as a map -/
theorem AllD.keep {B L : Nat} {h g : Hs} {V : List PyData} (a : AllD B L h V) (k : Keep (fun b => B ≤ b) h g) : AllD B L g V := fun h' k' => a h' (k.trans k')
structure Way (V : List PyData) (dx dy : Int) (ths : List Th) : Prop where
  nd : (ths.map Th.nm).Nodup
  ok : ∀ a ∈ ths, ThOk a
  few : ths.length ≤ 12
  dir : DirOk dx dy
  same : ∀ sths rs ps V', Sths ths sths → AllV dx dy sths rs ps V' → V' = V
end SL
namespace SL
open RR PySem
/-! ### first and last: closed stretches -/
theorem mid_list {t : Tm} (et : EOk t) {u : Option Tm} (eu : ∀ x, u = some x → EOk x ∧ t.val < x.val) : ∀ {xs : List Tm}, (∀ x ∈ xs, EOk x) → ∃ w : Tm, w.Nm ∧ t.val < w.val ∧ (∀ x, u = some x → w.val < x.val) ∧ ∀ x ∈ xs, t.val < x.val → w.val < x.val := fun {xs} h => by
  have key : ∀ xs : List Tm, (∀ x ∈ xs, EOk x) → ∃ o : Option Tm, (∀ y, o = some y → EOk y ∧ t.val < y.val) ∧ ∀ x ∈ xs, t.val < x.val → ∃ y, o = some y ∧ y.val ≤ x.val := by
    intro xs
    induction xs with
    | nil => exact fun _ => ⟨none, fun y e => (by cases e), fun x hx => (by cases hx)⟩
    | cons a xs ih =>
      intro h
      obtain ⟨o, h1, h2⟩ := ih fun x hx => h x (List.mem_cons_of_mem _ hx)
      have oa := h a List.mem_cons_self
      by_cases l : t.val < a.val
      · cases o with
        | none =>
          refine ⟨some a, fun y e => by cases e; exact ⟨oa, l⟩, fun x hx lx => ?_⟩
          rcases List.mem_cons.mp hx with rfl | hx
          · exact ⟨x, rfl, by grind⟩
          · obtain ⟨y, e, _⟩ := h2 x hx lx
            cases e
        | some b =>
          obtain ⟨ob, lb⟩ := h1 b rfl
          by_cases c : a.val < b.val
          · refine ⟨some a, fun y e => by cases e; exact ⟨oa, l⟩, fun x hx lx => ?_⟩
            rcases List.mem_cons.mp hx with rfl | hx
            · exact ⟨x, rfl, by grind⟩
            · obtain ⟨y, e, z⟩ := h2 x hx lx
              cases e
              exact ⟨a, rfl, by grind⟩
          · refine ⟨some b, h1, fun x hx lx => ?_⟩
            rcases List.mem_cons.mp hx with rfl | hx
            · exact ⟨b, rfl, by rcases tri (x.val - b.val) with q | q | q <;> grind⟩
            · exact h2 x hx lx
      · refine ⟨o, h1, fun x hx lx => ?_⟩
        rcases List.mem_cons.mp hx with rfl | hx
        · exact absurd lx l
        · exact h2 x hx lx
  obtain ⟨o, h1, h2⟩ := key xs h
  obtain ⟨w, nw, l, a, b⟩ := mid2 et eu h1
  refine ⟨w, nw, l, a, fun x hx lx => ?_⟩
  obtain ⟨y, e, z⟩ := h2 x hx lx
  have := b y e
  grind
theorem sd_stay {dx dy : Int} {a b : Th} {M : List Sx} (c : Cv dx dy a b (fun _ => True) M) (oa : ThOk a) (ob : ThOk b) {t : Tm} (et : EOk t) {u : Option Tm} (eu : ∀ x, u = some x → EOk x ∧ t.val < x.val) (h : ∀ w : Tm, w.Nm → t.val < w.val → (∀ x, u = some x → w.val < x.val) → sdT dx dy a b w ≤ 0) : sdT dx dy a b t ≤ 0 := by
  refine Classical.byContradiction fun z => ?_
  have z : 0 < sdT dx dy a b t := by omega
  have no : ∀ m ∈ M, ¬ InS m t.val := fun m hm i => by
    have := sdT_0.mpr (c.tru m hm t et.nm i)
    omega
  obtain ⟨w, nw, l, lu, lx⟩ := mid_list et eu (xs := endsX M) fun x hx => by
    obtain ⟨m, hm, e⟩ := mem_ends.mp hx
    have om := c.ok m hm
    rcases e with rfl | e
    · exact om.1
    · exact (om.2 x e).1
  have e : sdT dx dy a b t = sdT dx dy a b w := by
    refine sides_stay c oa ob et.nm nw et.nn (by grind) fun m hm => ?_
    have om := c.ok m hm
    refine ⟨?_, fun x ex => ?_⟩
    · rcases tri (m.1.val - t.val) with q | q | q
      · exact .inr (lx _ (mem_ends.mpr ⟨m, hm, .inl rfl⟩) (by grind))
      · exact .inl (by grind)
      · exact (no m hm ⟨by grind, fun x ex => by have := (om.2 x ex).2; grind⟩).elim
    · rcases tri (x.val - t.val) with q | q | q
      · exact .inr (lx _ (mem_ends.mpr ⟨m, hm, .inr ex⟩) (by grind))
      · exact .inl (by grind)
      · refine (no m hm ⟨?_, fun y ey => ?_⟩).elim
        · have := (om.2 x ex).2; grind
        · rw [ex] at ey; cases ey; grind
  have := h w nw l lu
  omega
theorem nodup_nm {ths : List Th} (nd : (ths.map Th.nm).Nodup) {a b : Th} (ha : a ∈ ths) (hb : b ∈ ths) (e : a.nm = b.nm) : a = b := by
  obtain ⟨i, hi, rfl⟩ := List.getElem_of_mem ha
  obtain ⟨j, hj, rfl⟩ := List.getElem_of_mem hb
  have pw := List.pairwise_iff_getElem.mp nd
  rcases Nat.lt_trichotomy i j with z | z | z
  · have := pw i j (by simpa using hi) (by simpa using hj) z
    simp only [List.getElem_map] at this
    exact absurd e this
  · subst z; rfl
  · have := pw j i (by simpa using hj) (by simpa using hi) z
    simp only [List.getElem_map] at this
    exact absurd e.symm this
theorem first_mem {v : Th → RR.Rl} {l : List Th} {G : List (List Th)} (L : LvOk v l G) (nd : (l.map Th.nm).Nodup) {a : Th} (ha : a ∈ l) : inF a.nm (G.map fun g => g.map Th.nm) = true ↔ ∀ b ∈ l, v a ≤ v b := by
  have own : ∀ x ∈ l, ∃ g ∈ G, x ∈ g := fun x hx => List.mem_flatten.mp (L.perm.mem_iff.mpr hx)
  have inl : ∀ g ∈ G, ∀ x ∈ g, x ∈ l := fun g hg x hx => L.perm.mem_iff.mp (List.mem_flatten.mpr ⟨g, hg, hx⟩)
  match G, L with
  | [], L =>
    obtain ⟨g, hg, _⟩ := own a ha
    cases hg
  | g :: G, L =>
    have e : inF a.nm ((g :: G).map fun g => g.map Th.nm) = decide (a.nm ∈ g.map Th.nm) := rfl
    rw [e, decide_eq_true_iff]
    have mem : a.nm ∈ g.map Th.nm ↔ a ∈ g := by
      constructor
      · intro h
        obtain ⟨x, hx, ex⟩ := List.mem_map.mp h
        have := nodup_nm nd (inl g List.mem_cons_self x hx) ha ex
        rw [← this]; exact hx
      · exact fun h => List.mem_map.mpr ⟨a, h, rfl⟩
    rw [mem]
    have up := List.pairwise_cons.mp L.up
    constructor
    · intro h b hb
      obtain ⟨g', hg', hb'⟩ := own b hb
      rcases List.mem_cons.mp hg' with rfl | hg'
      · rw [L.same _ List.mem_cons_self a h b hb']; grind
      · have := up.1 g' hg' a h b hb'
        grind
    · intro h
      obtain ⟨g', hg', ha'⟩ := own a ha
      rcases List.mem_cons.mp hg' with rfl | hg'
      · exact ha'
      · have ne := L.ne g List.mem_cons_self
        obtain ⟨c, hc⟩ := List.exists_mem_of_ne_nil g ne
        have := up.1 g' hg' c hc a ha'
        have := h c (inl g List.mem_cons_self c hc)
        exfalso; grind
theorem sd_le {dx dy : Int} {a b : Th} {w : Tm} : sdT dx dy a b w ≤ 0 ↔ hv w dx dy a ≤ hv w dx dy b := by
  unfold sdT
  rcases tri (hv w dx dy a - hv w dx dy b) with y | y | y
  · rw [sg_pos y]
    exact ⟨fun z => absurd z (by decide), fun z => by exfalso; grind⟩
  · rw [sg_neg y]
    exact ⟨fun _ => by grind, fun _ => by decide⟩
  · rw [y, sg_zero]
    exact ⟨fun _ => by grind, fun _ => by decide⟩
def AllC (dx dy : Int) (sths : List Th) : Prop := ∀ a ∈ sths, ∀ b ∈ sths, a.nm ≠ b.nm → ∃ M, Cv dx dy a b (fun _ => True) M
theorem AllC.neg {dx dy : Int} {sths : List Th} (h : AllC dx dy sths) : AllC (0 - dx) (0 - dy) sths := fun a ha b hb ne => by
  obtain ⟨M, c⟩ := h a ha b hb ne
  exact ⟨M, c.ok, fun m hm w nw i => by have := c.tru m hm w nw i; rw [hv_neg, hv_neg]; grind, fun w nw w0 l e => c.cov w nw w0 l (by rw [hv_neg, hv_neg] at e; grind)⟩
theorem StoryOk.closed {dx dy : Int} {sths : List Th} {rs : List R3} (S : StoryOk dx dy sths rs) (C : AllC dx dy sths) (ok : ∀ a ∈ sths, ThOk a) (st : sths.Pairwise fun a b => ltN a.nm b.nm) {a : Th} (ha : a ∈ sths) : ∀ x ∈ fsB a.nm rs, x.2.2 = true → x.2.1 = true := fun x hx h => by
  have nd : (sths.map Th.nm).Nodup := List.pairwise_map.mpr (st.imp fun l => ltN_ne l)
  obtain ⟨r, hr, rfl⟩ := List.mem_map.mp hx
  obtain ⟨k, hk, rfl⟩ := List.getElem_of_mem hr
  show inF a.nm (rs[k]).2.1 = true
  have h : inF a.nm (rs[k]).2.2 = true := h
  have o := S.ok _ hr
  rw [S.at_ _ hr]
  refine (first_mem (levN_lv (v := hv (rs[k]).1 dx dy) st) nd ha).mpr fun b hb => ?_
  by_cases e : a.nm = b.nm
  · rw [nodup_nm nd ha hb e]; grind
  · obtain ⟨M, c⟩ := C a ha b hb e
    refine sd_le.mp (sd_stay c (ok a ha) (ok b hb) o (u := rs[k + 1]?.map (·.1)) (fun y ey => ?_) fun w nw l lu => ?_)
    · obtain ⟨s, es, rfl⟩ := Option.map_eq_some_iff.mp ey
      exact S.nxt hk es
    · have e2 := S.beh k hk w nw l fun r' hr' => lu r'.1 (by rw [hr']; rfl)
      rw [← e2] at h
      exact sd_le.mpr ((first_mem (levN_lv (v := hv w dx dy) st) nd ha).mp h b hb)
end SL
namespace SL
open RR PySem
/-! ### the sign of a polynomial right behind a time -/
/-! ### the least ones, one by one -/
end SL
namespace SL
open PySem PySem.Spec PyProof.Rows L2
/-! ### defs as values: told by their names, called by a slot that holds one -/
structure CalV (P : Program) (w : World) (K : PySem.W.Frag) (mg : Str → Option Value) (base : Heap) (k : Nat) (x : Str) (g : GC) : Prop where
  ex : ∃ (a : Addr) (fd : FuncData) (ps : List Str), FnOk P w K mg base CX0 k a fd ps (lF K g) ∧ PySem.W.keepIn K (.ref a) = true ∧ Binds K fd ps [] ∧ PySem.W.nsIn K mainGlobals x = some (some (.ref a))
theorem CalV.mono {P : Program} {w : World} {K : PySem.W.Frag} {mg : Str → Option Value} {base : Heap} {j k : Nat} {x : Str} {g : GC} (c : CalV P w K mg base j x g) (h : j ≤ k) : CalV P w K mg base k x g := by
  obtain ⟨a, fd, ps, F, e1, e2, e3⟩ := c.ex
  exact ⟨a, fd, ps, F.mono h, e1, e2, e3⟩
/-! as it is evaluated -/
end SL
namespace SL
open RR PySem
/-! ### roads and squares on the heap -/
abbrev Rd := Th × Nat × Nat
def rdD (p : Rd) : L2.Key × D := (.inr p.1.nm, .tup [.ref p.2.1, .ref p.2.2])
structure Rds (B R : Nat) (sths : List Th) (ps : List Rd) (h : Hs) : Prop where
  th : ps.map (·.1) = sths
  at_ : h[R]? = some (.dct (ps.map rdD))
  ln : ∀ p ∈ ps, getL h p.2.1 = some ((wayT p.1).map (hlD 1 0)) ∧ getL h p.2.2 = some ((wayT p.1).map (hlD 0 1)) ∧ B ≤ p.2.1 ∧ B ≤ p.2.2 ∧ p.2.1 ≠ R ∧ p.2.2 ≠ R
noncomputable def sqP (t : Tm) (a b : Th) : P3 :=
  let X := lessP (hyT t 1 0 b) (hyT t 1 0 a)
  let Y := lessP (hyT t 0 1 b) (hyT t 0 1 a)
  (X.1 * X.1 + Y.1 * Y.1, (X.1 * X.2.1 + X.2.1 * X.1) + (Y.1 * Y.2.1 + Y.2.1 * Y.1), X.2.1 * X.2.1 + Y.2.1 * Y.2.1)
def oth (a : Th) (sths : List Th) : List Th := sths.filter fun b => decide (b.nm ≠ a.nm)
noncomputable def sqK (t : Tm) (a b : Th) : L2.Key × D := (.inr b.nm, pyD (sqP t a b))
structure Sqs (S : Nat) (s : Tm) (a : Th) (sths : List Th) (h : Hs) : Prop where
  at_ : h[S]? = some (.dct ((oth a sths).map (sqK s a)))
end SL
namespace SL
open RR PySem
/-! ### the next time at which another one is as near -/
structure NmI (t : Tm) (u f : Option Tm) (G A : RR.Rl → Prop) : Prop where
  c : f = u ∨ ∃ v, f = some v ∧ v.Nm ∧ TB 200 v ∧ t.val < v.val ∧ (∀ w, u = some w → v.val < w.val) ∧ G v.val
  n : ∀ x, A x → t.val < x → ¬ ∀ v, f = some v → x < v.val
theorem NmI.start {t : Tm} {u : Option Tm} {G : RR.Rl → Prop} : NmI t u u G fun _ => False := ⟨.inl rfl, fun _ h => h.elim⟩
theorem NmI.congr {t : Tm} {u f : Option Tm} {G A A' : RR.Rl → Prop} (a : NmI t u f G A) (h : ∀ x, A' x → A x) : NmI t u f G A' := ⟨a.c, fun x hx => a.n x (h x hx)⟩
theorem NmI.take {t r : Tm} {u f : Option Tm} {G A : RR.Rl → Prop} (a : NmI t u f G A) (nr : r.Nm) (tr : TB 200 r) (g : G r.val) (l : t.val < r.val) (m : ∀ v, f = some v → r.val < v.val) : NmI t u (some r) G fun x => A x ∨ x = r.val := by
  refine ⟨.inr ⟨r, rfl, nr, tr, l, fun w hw => ?_, g⟩, fun x hx lx k => ?_⟩
  · rcases a.c with e | ⟨v, e, _, _, _, h, _⟩
    · exact m w (e.trans hw)
    · have := m v e
      have := h w hw
      grind
  · have k := k r rfl
    rcases hx with hx | hx
    · refine a.n x hx lx fun v hv => ?_
      have := m v hv
      grind
    · rw [hx] at k
      exact absurd k (by grind)
theorem NmI.skip {t r : Tm} {u f : Option Tm} {G A : RR.Rl → Prop} (a : NmI t u f G A) (no : ¬ (t.val < r.val ∧ ∀ v, f = some v → r.val < v.val)) : NmI t u f G fun x => A x ∨ x = r.val := by
  refine ⟨a.c, fun x hx lx k => ?_⟩
  rcases hx with hx | hx
  · exact a.n x hx lx k
  · rw [hx] at lx k
    exact no ⟨lx, k⟩
structure Nxt (t : Tm) (u r : Option Tm) (Rt : RR.Rl → Prop) : Prop where
  none : r = none → ∀ x, Rt x → t.val < x → ¬ ∀ w, u = some w → x < w.val
  some : ∀ v, r = some v → v.Nm ∧ TB 200 v ∧ t.val < v.val ∧ (∀ w, u = some w → v.val < w.val) ∧ Rt v.val ∧ ∀ x, Rt x → t.val < x → ¬ x < v.val
open Classical in
theorem NmI.nxt {t : Tm} {u f : Option Tm} {G : RR.Rl → Prop} (a : NmI t u f G G) : Nxt t u (if f = u then none else f) G := by
  by_cases e : f = u
  · rw [if_pos e]
    refine ⟨fun _ x hx lx k => a.n x hx lx fun v hv => k v (by rw [← e]; exact hv), fun v hv => nomatch hv⟩
  · rw [if_neg e]
    rcases a.c with q | ⟨v, ev, n1, n2, n3, n4, n5⟩
    · exact absurd q e
    · refine ⟨fun q => (by rw [q] at ev; cases ev), fun w hw => ?_⟩
      rw [ev] at hw
      cases hw
      refine ⟨n1, n2, n3, n4, n5, fun x hx lx k => a.n x hx lx fun w hw => ?_⟩
      rw [ev] at hw
      cases hw
      exact k
end SL
namespace SL
open RR PySem
/-! ### what is nearest in a piece -/
end SL
namespace SL
open RR PySem
/-! ### squares stay from start to start -/
/-! ### stories of anything -/
theorem low_val {X Y : Int} (y0 : 0 < Y) : ∃ m n, (Tm.fr m n).Nm ∧ (Tm.fr m n).val = (Tm.fr X Y).val := by
  obtain ⟨p, q, e1, e2, nm, cr, -, -, -⟩ := low_fr (a := X) (b := Y) (s := 1) (by omega) (by rw [if_neg (by omega)])
  refine ⟨p, q, nm, ?_⟩
  have q0 : 0 < q := nm.1
  have a := val_fr (p := p) q0
  have b := val_fr (p := X) y0
  have c := congrArg (fun x : Int => (x : RR.Rl)) cr
  simp only [cast_mul] at c
  have hq := cast_le.mpr (show (1 : Int) ≤ q by omega)
  have hy := cast_le.mpr (show (1 : Int) ≤ Y by omega)
  rw [cast_one] at hq hy
  clear e1 e2
  have e : ((q : RR.Rl) * (Y : RR.Rl)) * ((Tm.fr p q).val - (Tm.fr X Y).val) = 0 := by grind
  rcases tri ((Tm.fr p q).val - (Tm.fr X Y).val) with y | y | y
  · exact absurd (show (0:RR.Rl) < ((q : RR.Rl) * (Y : RR.Rl)) * ((Tm.fr p q).val - (Tm.fr X Y).val) from pos_mul (pos_mul (by grind) (by grind)) y) (by rw [e]; grind)
  · exact absurd (show (0:RR.Rl) < ((q : RR.Rl) * (Y : RR.Rl)) * (-((Tm.fr p q).val - (Tm.fr X Y).val)) from pos_mul (pos_mul (by grind) (by grind)) (by grind)) (by grind)
  · grind
abbrev G3 (β : Type) := Tm × β × β
structure StoryG {β : Type} (f : Tm → β) (rs : List (G3 β)) : Prop where
  len : 0 < rs.length
  fst : (rs[0]'len).1 = .fr 0 1
  ok : ∀ r ∈ rs, r.1.Nm ∧ 0 ≤ r.1.val ∧ TB 220 r.1
  up : rs.Pairwise fun r s => r.1.val < s.1.val
  at_ : ∀ r ∈ rs, r.2.1 = f r.1
  beh : ∀ k (h : k < rs.length) (t : Tm), t.Nm → (rs[k]).1.val < t.val → (∀ r', rs[k + 1]? = some r' → t.val < r'.1.val) → f t = (rs[k]).2.2
  new : ∀ k (h : k + 1 < rs.length), (rs[k + 1]).2.1 ≠ (rs[k]'(Nat.lt_of_succ_lt h)).2.2 ∨ (rs[k + 1]).2.2 ≠ (rs[k]'(Nat.lt_of_succ_lt h)).2.2
theorem mid_free {t x : Tm} (nt : t.Nm) (nx : x.Nm) (lt : t.val < x.val) : ∃ X Y : Int, 0 < Y ∧ t.val < (Tm.fr X Y).val ∧ (Tm.fr X Y).val < x.val := by
  obtain ⟨N, N1, i1, i2⟩ := Tm.in_ex t x
  obtain ⟨B, hB⟩ : ∃ B : Int, big (N : RR.Rl) = (B : RR.Rl) := ⟨40 * (N * N * N * N * N * N * N), by
    unfold big
    simp only [cast_mul]
    rfl⟩
  obtain ⟨P, hP, hb⟩ : ∃ P : Int, 0 < P ∧ B < P := ⟨(if B < 0 then 0 else B) + 1, by split <;> omega, by split <;> omega⟩
  obtain ⟨s, hs⟩ := RR.fl_ex nt hP
  obtain ⟨a, b⟩ := spot_mid N1 nt nx i1 i2 lt hP (by rw [hB]; exact cast_lt.mpr hb) hs
  exact ⟨s + 1, P, hP, a, b⟩
theorem midG1 {t : Tm} (nt : t.Nm) (t0 : 0 ≤ t.val) (tb : TB 220 t) {u : Option Tm} (hu : ∀ x, u = some x → x.Nm ∧ TB 220 x ∧ t.val < x.val) : ∃ w : Tm, w.Nm ∧ t.val < w.val ∧ ∀ x, u = some x → w.val < x.val := by
  cases u with
  | none =>
    obtain ⟨f1, f2⟩ := flo_is nt
    refine ⟨.fr (flo t + 1) 1, ⟨by decide, by simp⟩, ?_, fun x h => nomatch h⟩
    rw [val_1, cast_add, cast_one]
    exact f2
  | some x =>
    obtain ⟨nx, bx, lt⟩ := hu x rfl
    obtain ⟨X, Y, y0, l1, l2⟩ := mid_free nt nx lt
    obtain ⟨m, n, nm, e⟩ := low_val (X := X) y0
    exact ⟨.fr m n, nm, by rw [e]; exact l1, fun y h => by cases h; rw [e]; exact l2⟩
theorem midG2 {t : Tm} (nt : t.Nm) (t0 : 0 ≤ t.val) (tb : TB 220 t) {u v : Option Tm} (hu : ∀ x, u = some x → x.Nm ∧ TB 220 x ∧ t.val < x.val) (hv : ∀ x, v = some x → x.Nm ∧ TB 220 x ∧ t.val < x.val) : ∃ w : Tm, w.Nm ∧ t.val < w.val ∧ (∀ x, u = some x → w.val < x.val) ∧ ∀ x, v = some x → w.val < x.val := by
  obtain ⟨w1, n1, l1, h1⟩ := midG1 nt t0 tb hu
  obtain ⟨w2, n2, l2, h2⟩ := midG1 nt t0 tb hv
  rcases tri (w2.val - w1.val) with y | y | y
  · exact ⟨w1, n1, l1, h1, fun x e => by have := h2 x e; grind⟩
  · exact ⟨w2, n2, l2, fun x e => by have := h1 x e; grind, h2⟩
  · exact ⟨w1, n1, l1, h1, fun x e => by have := h2 x e; grind⟩
section
variable {β : Type} {f : Tm → β} {rs rs' : List (G3 β)}
theorem StoryG.nxt (S : StoryG f rs) {k : Nat} (hk : k < rs.length) {s : G3 β} (e : rs[k + 1]? = some s) : s.1.Nm ∧ TB 220 s.1 ∧ (rs[k]).1.val < s.1.val := by
  obtain ⟨h, rfl⟩ := List.getElem?_eq_some_iff.mp e
  have o := S.ok _ (List.getElem_mem h)
  exact ⟨o.1, o.2.2, List.pairwise_iff_getElem.mp S.up k (k + 1) hk h (by omega)⟩
theorem StoryG.no (S : StoryG f rs) (S' : StoryG f rs') {k : Nat} (hk : k < rs.length) (hk' : k < rs'.length) (e : rs[k] = rs'[k]) (h1 : k + 1 < rs.length) (lt : ∀ s', rs'[k + 1]? = some s' → (rs[k + 1]).1.val < s'.1.val) : False := by
  have e1 : rs[k + 1]? = some rs[k + 1] := List.getElem?_eq_getElem h1
  obtain ⟨n1, b1', l1⟩ := S.nxt hk e1
  have o1 := S.ok _ (List.getElem_mem h1)
  have b1 := S'.beh k hk' _ n1 (by rw [← e]; exact l1) lt
  have a1 := S.at_ _ (List.getElem_mem h1)
  obtain ⟨w, nw, lw, u1, u2⟩ := midG2 n1 o1.2.1 b1' (u := rs[k + 1 + 1]?.map (·.1)) (v := rs'[k + 1]?.map (·.1)) (fun x hx => by
    obtain ⟨s, es, rfl⟩ := Option.map_eq_some_iff.mp hx
    exact S.nxt h1 es) (fun x hx => by
    obtain ⟨s, es, rfl⟩ := Option.map_eq_some_iff.mp hx
    obtain ⟨a, b, _⟩ := S'.nxt hk' es
    exact ⟨a, b, lt s es⟩)
  have b2 := S.beh (k + 1) h1 w nw lw fun r hr => u1 r.1 (by rw [hr]; rfl)
  have b3 := S'.beh k hk' w nw (by rw [← e]; grind) fun r hr => u2 r.1 (by rw [hr]; rfl)
  have n := S.new k h1
  rw [← e] at b1 b3
  rcases n with n | n
  · exact n (a1.trans b1)
  · exact n (b2.symm.trans b3)
theorem StoryG.row (S : StoryG f rs) (S' : StoryG f rs') {k : Nat} (hk : k < rs.length) (hk' : k < rs'.length) (e : (rs[k]).1 = (rs'[k]).1) : rs[k] = rs'[k] := by
  have o := S.ok _ (List.getElem_mem hk)
  have a := S.at_ _ (List.getElem_mem hk)
  have a' := S'.at_ _ (List.getElem_mem hk')
  obtain ⟨w, nw, lw, u1, u2⟩ := midG2 o.1 o.2.1 o.2.2 (u := rs[k + 1]?.map (·.1)) (v := rs'[k + 1]?.map (·.1)) (fun x hx => by
    obtain ⟨s, es, rfl⟩ := Option.map_eq_some_iff.mp hx
    exact S.nxt hk es) (fun x hx => by
    obtain ⟨s, es, rfl⟩ := Option.map_eq_some_iff.mp hx
    rw [e]
    exact S'.nxt hk' es)
  have b := S.beh k hk w nw lw fun r hr => u1 r.1 (by rw [hr]; rfl)
  have b' := S'.beh k hk' w nw (by rw [← e]; exact lw) fun r hr => u2 r.1 (by rw [hr]; rfl)
  refine Prod.ext e (Prod.ext ?_ ?_)
  · rw [a, a', e]
  · exact b.symm.trans b'
theorem StoryG.uniq (S : StoryG f rs) (S' : StoryG f rs') : rs = rs' := by
  have l0 := S.len
  have l0' := S'.len
  refine List.ext_getElem? fun k => ?_
  induction k with
  | zero =>
    rw [List.getElem?_eq_getElem l0, List.getElem?_eq_getElem l0']
    exact congrArg some (S.row S' l0 l0' (S.fst.trans S'.fst.symm))
  | succ k ih =>
    rcases Nat.lt_or_ge k rs.length with hk | hk
    · have hk' : k < rs'.length := by
        rw [List.getElem?_eq_getElem hk] at ih
        exact (List.getElem?_eq_some_iff.mp ih.symm).1
      have e : rs[k] = rs'[k] := by
        rw [List.getElem?_eq_getElem hk, List.getElem?_eq_getElem hk'] at ih
        exact Option.some.inj ih
      rcases Nat.lt_or_ge (k + 1) rs.length with h1 | h1
      · rcases Nat.lt_or_ge (k + 1) rs'.length with h2 | h2
        · rw [List.getElem?_eq_getElem h1, List.getElem?_eq_getElem h2]
          refine congrArg some (S.row S' h1 h2 ?_)
          have o1 := S.ok _ (List.getElem_mem h1)
          have o2 := S'.ok _ (List.getElem_mem h2)
          rcases tri ((rs'[k + 1]).1.val - (rs[k + 1]).1.val) with y | y | y
          · exact (S.no S' hk hk' e h1 fun s' es => by
              rw [List.getElem?_eq_getElem h2] at es
              cases es
              grind).elim
          · exact (S'.no S hk' hk e.symm h2 fun s' es => by
              rw [List.getElem?_eq_getElem h1] at es
              cases es
              grind).elim
          · exact val_inj o1.1 o2.1 (by grind)
        · exact (S.no S' hk hk' e h1 fun s' es => by rw [List.getElem?_eq_none h2] at es; cases es).elim
      · rcases Nat.lt_or_ge (k + 1) rs'.length with h2 | h2
        · exact (S'.no S hk' hk e.symm h2 fun s' es => by rw [List.getElem?_eq_none h1] at es; cases es).elim
        · rw [List.getElem?_eq_none h1, List.getElem?_eq_none h2]
    · have hk' : rs'.length ≤ k := by
        rw [List.getElem?_eq_none hk] at ih
        exact List.getElem?_eq_none_iff.mp ih.symm
      rw [List.getElem?_eq_none (by omega), List.getElem?_eq_none (by omega)]
end
end SL
namespace SL
open RR PySem
/-! ### rows of two lists of names on the heap -/
abbrev Zr := Tm × (List Str × Nat) × (List Str × Nat)
structure ZH (zs : List Zr) (h : Hs) : Prop where
  at_ : ∀ z ∈ zs, h[z.2.1.2]? = some (.lst (z.2.1.1.map D.str)) ∧ h[z.2.2.2]? = some (.lst (z.2.2.1.map D.str))
theorem ZH.keep {P : Nat → Prop} {zs : List Zr} {h h' : Hs} (a : ZH zs h) (k : Keep P h h') (p : ∀ z ∈ zs, P z.2.1.2 ∧ P z.2.2.2) : ZH zs h' := ⟨fun z hz => ⟨k.get (a.at_ z hz).1 (p z hz).1, k.get (a.at_ z hz).2 (p z hz).2⟩⟩
theorem toP_strs {h : Hs} {n k : Nat} {xs : List Str} (e : getL h n = some (xs.map D.str)) : toP (k + 1) h (.ref n) = some (.list (xs.map PyData.str)) := toP_lst e (mapO_strs h k xs)
theorem eqv_strs (xs ys : List Str) : PyData.eqv (.list (xs.map PyData.str)) (.list (ys.map PyData.str)) = decide (xs = ys) := by
  have := eqvs_dec (f := PyData.str) eqv_str xs ys
  show PyData.eqvAll _ _ = _
  by_cases z : xs = ys
  · rw [decide_eq_true z]; exact this.mpr z
  · rw [decide_eq_false z]
    exact Bool.eq_false_iff.mpr fun q => z (this.mp q)
theorem ne_strs {h : Hs} {n m : Nat} {xs ys : List Str} (e1 : getL h n = some (xs.map D.str)) (e2 : getL h m = some (ys.map D.str)) : neG (.ref n) (.ref m) h = some (.bl (decide (xs ≠ ys)), h) := by
  show (match eqB h (.ref n) (.ref m) with | some b => some (D.bl (!b), h) | none => none) = _
  have : eqB h (.ref n) (.ref m) = some (decide (xs = ys)) := by
    show (match toP 32 h (.ref n), toP 32 h (.ref m) with | some a, some b => some (PyData.eqv a b) | _, _ => none) = _
    rw [toP_strs (k := 31) e1, toP_strs (k := 31) e2]
    exact congrArg some (eqv_strs xs ys)
  rw [this]
  by_cases z : xs = ys <;> simp [z]
/-! ### the story, row by row -/
section
variable {β : Type} [DecidableEq β]
def sogS (acc : List (G3 β)) (x : G3 β) : List (G3 β) := match acc.getLast? with
  | none => [x]
  | some l => if x.2.1 = l.2.2 ∧ x.2.2 = l.2.2 then acc else acc ++ [x]
def sogF (xs : List (G3 β)) : List (G3 β) := xs.foldl sogS []
theorem sog_snoc {xs : List (G3 β)} {x : G3 β} : sogF (xs ++ [x]) = sogS (sogF xs) x := by
  unfold sogF
  rw [List.foldl_append]
  rfl
structure StG (f : Tm → β) (rs : List (G3 β)) (e : Option Tm) : Prop where
  len : 0 < rs.length
  fst : (rs[0]'len).1 = .fr 0 1
  ok : ∀ r ∈ rs, r.1.Nm ∧ 0 ≤ r.1.val ∧ TB 220 r.1
  up : rs.Pairwise fun r s => r.1.val < s.1.val
  at_ : ∀ r ∈ rs, r.2.1 = f r.1
  beh : ∀ k (h : k < rs.length) (t : Tm), t.Nm → (rs[k]).1.val < t.val → (∀ r', rs[k + 1]? = some r' → t.val < r'.1.val) → (∀ w, e = some w → t.val < w.val) → f t = (rs[k]).2.2
  new : ∀ k (h : k + 1 < rs.length), (rs[k + 1]).2.1 ≠ (rs[k]'(Nat.lt_of_succ_lt h)).2.2 ∨ (rs[k + 1]).2.2 ≠ (rs[k]'(Nat.lt_of_succ_lt h)).2.2
  lt : ∀ r ∈ rs, ∀ w, e = some w → r.1.val < w.val
theorem StG.done {f : Tm → β} {rs : List (G3 β)} (S : StG f rs none) : StoryG f rs := ⟨S.len, S.fst, S.ok, S.up, S.at_, fun k h t nt lt hr => S.beh k h t nt lt hr (fun w hw => nomatch hw), S.new⟩
structure RowG (f : Tm → β) (x : G3 β) (e : Option Tm) : Prop where
  ok : x.1.Nm ∧ 0 ≤ x.1.val ∧ TB 220 x.1
  at_ : x.2.1 = f x.1
  beh : ∀ t : Tm, t.Nm → x.1.val < t.val → (∀ w, e = some w → t.val < w.val) → f t = x.2.2
  lt : ∀ w, e = some w → x.1.val < w.val
theorem StG.first {f : Tm → β} {x : G3 β} {e : Option Tm} (r : RowG f x e) (z : x.1 = .fr 0 1) : StG f [x] e := by
  refine ⟨by simp, z, fun r' hr => ?_, List.pairwise_singleton _ _, fun r' hr => ?_, fun k h t nt lt hr hw => ?_, fun k h => ?_, fun r' hr => ?_⟩
  · rw [List.mem_singleton.mp hr]; exact r.ok
  · rw [List.mem_singleton.mp hr]; exact r.at_
  · have : k = 0 := by simp at h; exact h
    subst this
    exact r.beh t nt lt hw
  · simp at h
  · rw [List.mem_singleton.mp hr]; exact r.lt
theorem StG.step {f : Tm → β} {rs : List (G3 β)} {x : G3 β} {e : Option Tm} (S : StG f rs (some x.1)) (r : RowG f x e) : StG f (sogS rs x) e := by
  obtain ⟨J, l, rfl⟩ : ∃ J l, rs = J ++ [l] := by
    rcases List.eq_nil_or_concat rs with rfl | ⟨J, l, e⟩
    · have := S.len; simp at this
    · exact ⟨J, l, by rw [e, List.concat_eq_append]⟩
  have ll : (J ++ [l]).length = J.length + 1 := by simp
  have el : (J ++ [l])[J.length]? = some l := by simp
  have eN : (J ++ [l])[J.length + 1]? = none := by simp
  have lx := S.lt l (by simp) x.1 rfl
  have eS : sogS (J ++ [l]) x = if x.2.1 = l.2.2 ∧ x.2.2 = l.2.2 then J ++ [l] else J ++ [l] ++ [x] := by
    unfold sogS
    rw [List.getLast?_append]
    rfl
  rw [eS]
  by_cases z : x.2.1 = l.2.2 ∧ x.2.2 = l.2.2
  · rw [if_pos z]
    refine ⟨S.len, S.fst, S.ok, S.up, S.at_, fun k h t nt lt hr hw => ?_, S.new, fun r' hr w hw => ?_⟩
    · by_cases q : k = J.length
      · subst q
        have g : (J ++ [l])[J.length] = l := by simp
        rw [g] at lt ⊢
        rcases tri (t.val - x.1.val) with y | y | y
        · rw [r.beh t nt (by grind) hw, z.2]
        · have := S.beh J.length h t nt (by rw [g]; exact lt) hr fun w e => by cases e; grind
          rw [g] at this
          exact this
        · have e := val_inj nt r.ok.1 (by grind)
          rw [e, ← r.at_, z.1]
      · have hk : k + 1 < (J ++ [l]).length := by omega
        refine S.beh k h t nt lt hr fun w e => ?_
        cases e
        have h1 := hr _ (List.getElem?_eq_getElem hk)
        have h2 := S.lt _ (List.getElem_mem hk) x.1 rfl
        grind
    · have h1 := S.lt r' hr x.1 rfl
      have h2 := r.lt w hw
      grind
  · rw [if_neg z]
    have L : (J ++ [l] ++ [x]).length = (J ++ [l]).length + 1 := by simp
    have old : ∀ k (h : k < (J ++ [l]).length), (J ++ [l] ++ [x])[k]'(by omega) = (J ++ [l])[k] := fun k h => List.getElem_append_left h
    have oldq : ∀ k (h : k < (J ++ [l]).length), (J ++ [l] ++ [x])[k]? = (J ++ [l])[k]? := fun k h => List.getElem?_append_left h
    have nw : (J ++ [l] ++ [x])[(J ++ [l]).length]? = some x := by rw [List.getElem?_append_right (Nat.le_refl _), Nat.sub_self]; rfl
    refine ⟨by omega, (old 0 S.len ▸ S.fst), fun r' hr => ?_, ?_, fun r' hr => ?_, fun k h t nt lt hr hw => ?_, fun k h => ?_, fun r' hr w hw => ?_⟩
    · rcases List.mem_append.mp hr with hr | hr
      · exact S.ok r' hr
      · rw [List.mem_singleton.mp hr]; exact r.ok
    · refine List.pairwise_append.mpr ⟨S.up, List.pairwise_singleton _ _, fun a ha b hb => ?_⟩
      rw [List.mem_singleton.mp hb]
      exact S.lt a ha x.1 rfl
    · rcases List.mem_append.mp hr with hr | hr
      · exact S.at_ r' hr
      · rw [List.mem_singleton.mp hr]; exact r.at_
    · by_cases q : k < (J ++ [l]).length
      · rw [old k q] at lt ⊢
        by_cases q2 : k + 1 < (J ++ [l]).length
        · have h1 := hr _ ((oldq _ q2).trans (List.getElem?_eq_getElem q2))
          refine S.beh k q t nt lt (fun r' hr' => hr r' ((oldq _ q2).trans hr')) fun w e => ?_
          cases e
          have h2 := S.lt _ (List.getElem_mem q2) x.1 rfl
          grind
        · have e1 : k + 1 = (J ++ [l]).length := by omega
          have h1 := hr x (by rw [e1]; exact nw)
          exact S.beh k q t nt lt (fun r' hr' => by rw [List.getElem?_eq_none (by omega)] at hr'; cases hr') fun w e => by cases e; exact h1
      · have e1 : k = (J ++ [l]).length := by omega
        subst e1
        have g : (J ++ [l] ++ [x])[(J ++ [l]).length] = x := Option.some.inj ((List.getElem?_eq_getElem h).symm.trans nw)
        rw [g] at lt ⊢
        exact r.beh t nt lt hw
    · by_cases q : k + 1 < (J ++ [l]).length
      · rw [old (k + 1) q, old k (by omega)]
        exact S.new k q
      · have e1 : k = J.length := by omega
        subst e1
        have g1 : (J ++ [l] ++ [x])[J.length + 1] = x := by
          have nw' : (J ++ [l] ++ [x])[J.length + 1]? = some x := by rw [← ll]; exact nw
          exact Option.some.inj ((List.getElem?_eq_getElem h).symm.trans nw')
        have g2 : (J ++ [l] ++ [x])[J.length]'(by omega) = l := by
          rw [old J.length (by omega)]
          simp
        rw [g1, g2]
        by_cases y : x.2.1 = l.2.2
        · exact .inr fun y2 => z ⟨y, y2⟩
        · exact .inl y
    · rcases List.mem_append.mp hr with hr | hr
      · have h1 := S.lt r' hr x.1 rfl
        have h2 := r.lt w hw
        grind
      · rw [List.mem_singleton.mp hr]; exact r.lt w hw
def PreG (f : Tm → β) (xs : List (G3 β)) (t : Tm) : Prop := (xs = [] ∧ t = .fr 0 1) ∨ StG f (sogF xs) (some t)
theorem PreG.row {f : Tm → β} {xs : List (G3 β)} {x : G3 β} {e : Option Tm} (p : PreG f xs x.1) (r : RowG f x e) : StG f (sogF (xs ++ [x])) e := by
  rw [sog_snoc]
  rcases p with ⟨rfl, z⟩ | p
  · exact StG.first r z
  · exact p.step r
end
end SL
namespace SL
open RR PySem
open TL (tl)
open L2 (cutS)
theorem ev_inStrs {h : Hs} {L : Nat} {z : Str} {xs : List Str} (e : h[L]? = some (.lst (xs.map D.str))) : inG (.str z) (.ref L) h = some (.bl (decide (z ∈ xs)), h) := by
  have k : inB (.str z) (.ref L) h = some (decide (z ∈ xs)) := by
    have : inB (.str z) (.ref L) h = (match h[L]? with | some (.dct kvs) => (match keyOf (.str z) with | some k => some (valD kvs k).isSome | none => none) | some (.lst ds) => memB h (.str z) ds | some (.fz ds) => memB h (.str z) ds | _ => none) := rfl
    rw [this, e]
    show (match toP 32 h (.str z), mapO (toP 32 h) (xs.map D.str) with | some a, some bs => some (bs.any fun y => PySem.PyData.eqv y a) | _, _ => none) = _
    rw [mapO_strs h 32 xs]
    show some ((xs.map PySem.PyData.str).any fun y => PySem.PyData.eqv y (.str z)) = _
    refine congrArg some ?_
    rw [List.any_map]
    by_cases m : z ∈ xs
    · rw [decide_eq_true m]
      exact List.any_eq_true.mpr ⟨z, m, (eqv_str z z).mpr rfl⟩
    · rw [decide_eq_false m]
      refine List.any_eq_false.mpr fun y hy q => m ?_
      rw [← (eqv_str y z).mp q]
      exact hy
  show (match inB (.str z) (.ref L) h with | some k => some (D.bl k, h) | none => none) = _
  rw [k]
theorem ev_splitB {w : Str} {h : Hs} (l : w.length ≤ 10000) : splitG (.str w) [.str " "] h = some (.ref h.length, h ++ [.lst ((Txt.split w " ").map D.str)]) := by
  refine if_pos ⟨by decide +kernel, ?_⟩
  exact Nat.le_trans (show w.length + 2 ≤ 20000 by omega) (Nat.le_of_ble_eq_true rfl)
theorem ev_joinB {h : Hs} {n : Nat} {ws : List Str} (e : getL h n = some (ws.map D.str)) (l : ws.length ≤ 64) (each : ∀ w ∈ ws, w.length ≤ 20) : joinG (.str " ") [.ref n] h = some (.str (Txt.join " " ws), h) ∧ (Txt.join " " ws).length ≤ 2000 := by
  have e2 : (" " : Str).length = 1 := by decide +kernel
  have sm : ∀ ws : List Str, (∀ w ∈ ws, w.length ≤ 20) → (ws.map fun y : Str => y.length).sum ≤ 20 * ws.length := fun ws => by
    induction ws with
    | nil => intro _; simp
    | cons w ws ih =>
      intro z
      have := ih fun x hx => z x (List.mem_cons_of_mem _ hx)
      have := z w (List.mem_cons_self ..)
      rw [List.map_cons, List.sum_cons, List.length_cons]; omega
  constructor
  · show (match getL h n with | some ds => (match strsD ds with | some ys => if (ys.map fun y : Str => y.length).sum + ys.length * (" " : Str).length ≤ 16777216 then some (D.str (Txt.join " " ys), h) else none | none => none) | none => none) = _
    rw [e]
    simp only [strsD_map]
    refine if_pos ?_
    rw [e2]
    have := sm ws each
    omega
  · have key : ∀ ws : List Str, (∀ w ∈ ws, w.length ≤ 20) → (TL.joinL (tl " ") (ws.map tl)).length ≤ 21 * ws.length := fun ws => by
      induction ws with
      | nil => intro _; simp [TL.joinL]
      | cons w ws ih =>
        intro z
        have h1 := ih fun x hx => z x (List.mem_cons_of_mem _ hx)
        have h2 := z w (List.mem_cons_self ..)
        have h3 : (tl w).length ≤ 20 := by rw [← len_tl]; exact h2
        cases ws with
        | nil => show (tl w).length ≤ 21 * 1; omega
        | cons v ws =>
          show (tl w ++ (tl " " ++ TL.joinL (tl " ") ((v :: ws).map tl))).length ≤ _
          have h4 : (tl (" " : Str)).length = 1 := by decide +kernel
          rw [List.length_append, List.length_append, h4, List.length_cons]
          omega
    have := key ws each
    rw [len_tl, TL.join_eq, TL.tl_join]
    omega
theorem split_back {ws : List Str} (ne : ws ≠ []) (each : ∀ w ∈ ws, 32 ∉ tl w) : Txt.split (Txt.join " " ws) " " = ws :=
  TL.split_join (y := " ") (s := 32) (S := []) (by decide +kernel) (by decide +kernel) ne each
theorem ii_list {n : Nat} {ds : List D} {h : Hs} (e : h[n]? = some (.lst ds)) : isiG [.ref n, .ty "list"] h = some (.bl true, h) := by
  have t : tyN h (.ref n) = some "list" := by unfold tyN; simp only [e]
  show (match tyN h (.ref n) with | some a => if okT "list" then some (D.bl (isT a "list"), h) else none | none => none) = _
  rw [t]; rfl
end SL
namespace SL
open RR PySem
open TL (tl)
open L2 (cutS)
theorem ev_addS {x y : Str} {h : Hs} (l : x.length + y.length ≤ 10000) : addG (.str x) (.str y) h = some (.str (x ++ y), h) := if_pos (line_ok l)
theorem eq_strs {h : Hs} {n m : Nat} {xs ys : List Str} (e1 : getL h n = some (xs.map D.str)) (e2 : getL h m = some (ys.map D.str)) : eqG (.ref n) (.ref m) h = some (.bl (decide (xs = ys)), h) := by
  show (match eqB h (.ref n) (.ref m) with | some b => some (D.bl b, h) | none => none) = _
  have : eqB h (.ref n) (.ref m) = some (decide (xs = ys)) := by
    show (match toP 32 h (.ref n), toP 32 h (.ref m) with | some a, some b => some (PyData.eqv a b) | _, _ => none) = _
    rw [toP_strs (k := 31) e1, toP_strs (k := 31) e2]
    exact congrArg some (eqv_strs xs ys)
  rw [this]
theorem eq_nn {h : Hs} : eqG .non .non h = some (.bl true, h) := rfl
theorem len_app (x y : Str) : (x ++ y).length = x.length + y.length := by
  rw [len_tl, tl_app, List.length_append, len_tl, len_tl]
end SL
namespace K01
open SL RR
local macro_rules | `(tactic| walk_at "bd") => `(tactic| (first
  | assumption
  | (with_reducible apply Bd.add <;> walk_at "bd")
  | (with_reducible apply Bd.sub <;> walk_at "bd")
  | (with_reducible apply Bd.mul <;> walk_at "bd")
  | (with_reducible apply Bd.neg <;> walk_at "bd")
  | (with_reducible apply Bd.fdiv <;> walk_at "bd")
  | (with_reducible apply Bd.ite <;> walk_at "bd")
  | (with_reducible apply Bd.sign)
  | exact Bd.lit 64 rfl
  | exact Bd.lit 250 rfl))
local macro_rules | `(tactic| walk_at "dis") => `(tactic| (first
  | assumption
  | (with_reducible apply MOk.of <;> first | (walk_at "bd"; done) | exact Nat.le_of_ble_eq_true rfl)
  | (with_reducible apply Bd.mono <;> first | (walk_at "bd"; done) | exact Nat.le_of_ble_eq_true rfl)
  | (with_reducible apply DOk.of <;> first | (walk_at "bd"; done) | omega | exact Nat.le_of_ble_eq_true rfl)
  | omega))
local macro_rules | `(tactic| walk_at "ev") => `(tactic| simp (disch := walk_at "dis") only [ev_var0, ev_varS, ev_c, ev_op, ev_opK, ev_un, ev_call, ev_nil, ev_cons, ev_acK, ev_consK, ev_tup, ev_tupK, ev_lst, ev_lstK, ev_ifE, ev_ifS, ev_ifKT, ev_ifKF, ev_ifK, ev_ifKN,
  ev_tV, ev_tvK, ev_tTru, ev_truB, ev_truN, ev_truI, ev_and, ev_or, ev_not, ev_notK, ev_andT, ev_andF, ev_orT, ev_orF, ev_andK, ev_andKN, ev_orK, ev_orKN, ev_eAnd, ev_eOr, ev_eNot, ev_eNotB, ev_eAndT, ev_eAndF, ev_eAndB, ev_eAndBN, ev_eOrT, ev_eOrF, ev_eOrN, ev_eOrB, ev_eOrBN,
  ev_chain, ev_chK1, ev_chK2, ev_chK3, ev_chK3T, ev_chK3F, ev_seq, ev_thn, ev_thnR, ev_thnB, ev_thnC, ev_next, ev_break, ev_cont, ev_ret, ev_retK, ev_retN, ev_expr, ev_exprK, ev_asg, ev_asgK, ev_nxK, ev_gNm, ev_gTp, ev_gsNil, ev_gsCons, ev_gsK, ev_gSb, ev_gSbK1, ev_par, ev_parK2, ev_parK3, ev_mt,
  ev_add, ev_sub, ev_mul, ev_fdiv, ev_mod, ev_pow, ev_shl, ev_neg, ev_lt, ev_le, ev_gt, ev_ge, ev_eqI, ev_neI, ev_abs, ev_intB, ev_intI, ev_minI, ev_maxI, ev_bits, ev_get0, ev_get1, ev_get2, bd_ok, bd_none, ev_whT, ev_whF, ev_whD, ev_wh2, ev_wh2c, ev_wh2r, ev_wh2b, ev_for, ev_forK, ev_fr1, ev_fr2, ev_fr2c, ev_fr2r, ev_fr2b, ev_lc, ev_lcK, ev_lc1, ev_lc2T, ev_lc2F, ev_lc2D, ev_yes, ev_iSeq, ev_seqT, ev_seqS, ev_iRange, ev_iEnum, ev_iZip,
  ev_neIS, ev_eqIS, ev_neSS, ev_eqSS, ev_isN, ev_isNot, isNon_t, isNon_n, isNon_i, isNon_r, decide_true, decide_false, decide_eq_true_eq, eq_self, if_true, if_false,
  out_rt, out_nx, List.map_cons, List.map_nil, List.cons_append, List.nil_append, List.replicate, List.set_cons_zero, List.set_cons_succ, Nat.reduceSub, Int.reduceEq, Int.reduceLT, Int.reduceLE, Int.reduceMul, Int.reduceAdd, Int.reduceSub, Bool.not_true, Bool.not_false])
local macro_rules | `(tactic| walk_at "go") => `(tactic| repeat (first | walk_at "ev" | walk_at "fs"))
local macro_rules | `(tactic| walk_at "wv") => `(tactic| simp only [wp_ok, kn_eq, outQ_rt, outQ_nx, turnQ_nx, turnQ_ct, turnQ_bk, turnQ_rt, whQ_nx, whQ_bk, whQ_rt, whT_t, whT_f, whT_d, lcT_t, lcT_f, lcT_d])
local macro_rules | `(tactic| walk_at "wb") => `(tactic| with_reducible refine wp_bd ?_)
local macro_rules | `(tactic| walk_at "w") => `(tactic| repeat (first | walk_at "ev" | walk_at "wv" | walk_at "fs" | walk_at "wb"))
local macro_rules | `(tactic| walk_at "bd") => `(tactic| exact Bd.fm rfl)
local macro_rules | `(tactic| walk_at "fs") => `(tactic| simp only [p10_3, p10_6, p10_7, p10_8, p10_9, p10_12, p10_15, p10_18, p10_60])
local macro_rules | `(tactic| walk_at "fs") => `(tactic| simp only [ev_pNil, ev_pCons, ev_pK1, ev_pK2, ev_pK3s, ev_dict, ev_gSb, ev_gSbK1])
local macro_rules | `(tactic| walk_at "fs") => `(tactic| simp only [wipe_nil, wipe_cons])
local macro_rules | `(tactic| walk_at "fs") => `(tactic| simp only [ev_make, ev_fldSet, ev_fsK1, ev_om, ev_omK2, ev_intB])
local macro_rules | `(tactic| walk_at "fs") => `(tactic| simp only [ev_iEnumV, ev_enumV, isi_str, ev_isN, ev_isNot])
local macro_rules | `(tactic| walk_at "fs") => `(tactic| simp only [ev_sl, ev_slK1, ev_slK2, ev_slK3, ev_oSome, ev_oSomeK, ev_oNone, slT4, slT3, len_tup, ev_get3, ev_get4, th_rows, th_nm])
local macro_rules | `(tactic| walk_at "fs") => `(tactic| simp only [List.isEmpty_nil, List.isEmpty_cons])
local macro_rules | `(tactic| walk_at "fs") => `(tactic| simp only [sign_of_eq])
local macro_rules | `(tactic| walk_at "fs") => `(tactic| simp only [common_divisor_eq])
local macro_rules | `(tactic| walk_at "fs") => `(tactic| simp only [ev_last0, ev_last1, ev_pm, ite_int])
local macro_rules | `(tactic| walk_at "fs") => `(tactic| simp only [bb_non, bb_int, ne_nn, ne_bb, eq_bb, is_bb, eq_t2])
local macro_rules | `(tactic| walk_at "fs") => `(tactic| simp (disch := assumption) only [ev_slS, ev_lenS, ev_seqS])
theorem words_of_wp {w : PySem.Str} {h : Hs} {Q : D → Hs → Prop} (lw : w.length ≤ 10000) (q1 : (PySem.Str.ofString "") ∈ PySem.Txt.split w (PySem.Str.ofString " ") → ∀ h', KA h h' → Q .non h')
    (q2 : ¬ (PySem.Str.ofString "") ∈ PySem.Txt.split w (PySem.Str.ofString " ") → ∀ n h', KA h h' → h.length ≤ n → h'[n]? = some (.lst ((PySem.Txt.split w (PySem.Str.ofString " ")).map D.str)) → Q (.ref n) h') : WP (f_words_of [.str w] h) Q := by
  unfold f_words_of
  refine wp_run rfl ?_
  unfold m_words_of
  walk_at "w"
  rw [ev_mtK rfl]
  walk_at "w"
  rw [ev_splitB lw]
  walk_at "w"
  rw [ev_inStrs get_last]
  walk_at "w"
  refine wp_ite (fun a => ?_) (fun a => ?_)
  · walk_at "w"
    exact q1 a _ Keep.app
  · walk_at "w"
    exact q2 a _ _ Keep.app (Nat.le_refl _) get_last
theorem law_row_wp {ws : List PySem.Str} {W : Nat} {N : Int} {h : Hs} {Q : D → Hs → Prop} (hw : h[W]? = some (.lst (ws.map D.str))) (ne : ws ≠ []) (l64 : ws.length ≤ 64)
    (each : ∀ w ∈ ws, w.length ≤ 20 ∧ 32 ∉ TL.tl w ∧ w ≠ PySem.Str.ofString "") (n0 : 0 ≤ N) (q : ∀ h', KA h h' → Q (.bl true) h') : WP (f__law_row [.ref W, .int N] h) Q := by
  have sb := split_back ne fun w hw => (each w hw).2.1
  obtain ⟨ej, lj⟩ := ev_joinB (h := h) (getL_lst hw) l64 fun w hw => (each w hw).1
  have lr : (PySem.Txt.join " " ws).length ≤ 10000 := by omega
  have no : ¬ (PySem.Str.ofString "") ∈ PySem.Txt.split (PySem.Txt.join " " ws) (PySem.Str.ofString " ") := fun z => by
    have : (PySem.Str.ofString "") ∈ ws := by rw [← sb]; exact z
    exact (each _ this).2.2 rfl
  unfold f__law_row
  refine wp_run rfl ?_
  rw [m__law_row_q]
  walk_at "w"
  rw [ev_mtK rfl]
  walk_at "w"
  rw [ej]
  walk_at "w"
  generalize PySem.Txt.join (PySem.Str.ofString " ") ws = R at *
  rw [ev_range1 (j := 2) (by decide) (by decide)]
  walk_at "w"
  refine wp_fr 2 (fun i ρ g => ∃ x3 x4, ρ = [some (.ref W), some (.int N), some (.str R), x3, x4, none, none] ∧ KA h g) ⟨none, none, rfl, Keep.refl⟩ (fun i hi ρ g p => ?_) (fun ρ g p => ?_)
  · obtain ⟨x3, x4, rfl, kg⟩ := p
    refine ⟨.int (0 + (i : Nat)), _, _, srcR_in hi, rfl, ?_⟩
    unfold q__law_row_L1
    walk_at "w"
    refine words_of_wp lr (fun z => absurd z no) fun _ n g1 k1 ln e1 => ?_
    walk_at "w"
    rw [ii_list e1]
    walk_at "w"
    rw [ne_strs (getL_lst e1) (KA.getL (kg.trans k1) (getL_lst hw)), sb]
    walk_at "w"
    rw [if_neg (fun z : ws ≠ ws => z rfl)]
    walk_at "w"
    rw [ev_mtK (tyD_lst e1)]
    walk_at "w"
    rw [sb] at e1
    rw [ev_app e1 (small_line (by rw [List.length_map]; omega))]
    walk_at "w"
    exact ⟨_, _, rfl, (kg.trans k1).new (Nat.le_trans kg.1 ln)⟩
  · obtain ⟨x3, x4, rfl, kg⟩ := p
    refine ⟨srcR_out (Nat.le_refl _), ?_⟩
    walk_at "w"
    obtain ⟨k, ek⟩ : ∃ k : Nat, N.fmod (((TL.tl R).length : Nat) + 1) = (k : Nat) := ⟨(N.fmod (((TL.tl R).length : Nat) + 1)).toNat, by have := Int.fmod_nonneg_of_pos N (show (0 : Int) < ((TL.tl R).length : Nat) + 1 by omega); omega⟩
    rw [ek]
    walk_at "w"
    have c1 := L2.cutS_length R none (some (k : Int))
    have c2 := L2.cutS_length R (some (k : Int)) none
    have c3 : (PySem.Str.ofString " ").length = 1 := by decide +kernel
    have a1 : ∀ g, addG (D.str (L2.cutS R none (some (k : Int)))) (D.str (PySem.Str.ofString " ")) g = some (.str (L2.cutS R none (some (k : Int)) ++ PySem.Str.ofString " "), g) := fun g => ev_addS (by omega)
    have a2 : ∀ g, addG (D.str (L2.cutS R none (some (k : Int)) ++ PySem.Str.ofString " ")) (D.str (L2.cutS R (some (k : Int)) none)) g = some (.str (L2.cutS R none (some (k : Int)) ++ PySem.Str.ofString " " ++ L2.cutS R (some (k : Int)) none), g) := fun g => ev_addS (by rw [len_app]; omega)
    have lT : (L2.cutS R none (some (k : Int)) ++ PySem.Str.ofString " " ++ L2.cutS R (some (k : Int)) none).length ≤ 10000 := by rw [len_app, len_app]; omega
    simp only [a1]
    walk_at "w"
    simp only [a2]
    walk_at "w"
    rw [ev_mtK rfl]
    walk_at "w"
    rw [ev_splitB lT]
    walk_at "w"
    simp only [a1]
    walk_at "w"
    simp only [a2]
    walk_at "w"
    generalize L2.cutS R none (some (k : Int)) ++ PySem.Str.ofString " " ++ L2.cutS R (some (k : Int)) none = T at lT
    refine words_of_wp lT (fun y g1 k1 => ?_) fun y n g1 k1 ln e1 => ?_
    · walk_at "w"
      rw [ev_inStrs (Keep.get k1 get_last trivial), decide_eq_true y]
      walk_at "w"
      rw [eq_nn]
      walk_at "w"
      exact q _ ((kg.trans Keep.app).trans k1)
    · walk_at "w"
      rw [ev_inStrs (Keep.get k1 get_last trivial), decide_eq_false y]
      walk_at "w"
      rw [eq_strs (getL_lst e1) (KA.getL k1 getL_last)]
      walk_at "w"
      exact q _ ((kg.trans Keep.app).trans k1)
end K01
namespace SL
open RR PySem
open TL (tl)
structure OddIs (d : D) (h : Hs) (due : Bool) : Prop where
  st : ∀ g, KA h g → isiG [d, .ty "str"] g = some (.bl false, g)
  it : ∀ g, KA h g → ∃ a b, isiG [d, .ty "int"] g = some (.bl a, g) ∧ isiG [d, .ty "bool"] g = some (.bl b, g) ∧ (a && !b) = due
  am : due = true → ∃ v : Int, d = .int v ∧ -2 ≤ v ∧ v ≤ 7 ∧ ¬ (-1 ≤ v ∧ v ≤ 6)
theorem tyN_refK {h g : Hs} {n : Nat} {ds : List D} (e : h[n]? = some (.lst ds)) (k : KA h g) : tyN g (.ref n) = some "list" := by
  have := Keep.get k e trivial
  unfold tyN
  simp only [this]
theorem tyN_dctK {h g : Hs} {n : Nat} {ds : List (L2.Key × D)} (e : h[n]? = some (.dct ds)) (k : KA h g) : tyN g (.ref n) = some "dict" := by
  have := Keep.get k e trivial
  unfold tyN
  simp only [this]
theorem isi_ty {d : D} {g : Hs} {t T : String} (e : tyN g d = some t) (o : okT T = true) : isiG [d, .ty T] g = some (.bl (isT t T), g) := by
  show (match tyN g d with | some a => if okT T then some (D.bl (isT a T), g) else none | none => none) = _
  rw [e]
  simp only [o, if_true]
theorem odd_ty {d : D} {h : Hs} {t : String} {due : Bool} (e : ∀ g, KA h g → tyN g d = some t) (ns : isT t "str" = false) (dd : (isT t "int" && !isT t "bool") = due)
    (am : due = true → ∃ v : Int, d = .int v ∧ -2 ≤ v ∧ v ≤ 7 ∧ ¬ (-1 ≤ v ∧ v ≤ 6)) : OddIs d h due :=
  ⟨fun g k => by rw [isi_ty (e g k) rfl, ns], fun g k => ⟨_, _, isi_ty (e g k) rfl, isi_ty (e g k) rfl, dd⟩, am⟩
theorem odd_non {h : Hs} : OddIs .non h false := odd_ty (t := "NoneType") (fun _ _ => rfl) rfl rfl (by intro z; cases z)
theorem odd_bl {h : Hs} {b : Bool} : OddIs (.bl b) h false := odd_ty (t := "bool") (fun _ _ => rfl) rfl rfl (by intro z; cases z)
theorem odd_7 {h : Hs} : OddIs (.int 7) h true := odd_ty (t := "int") (fun _ _ => rfl) rfl rfl fun _ => ⟨7, rfl, by decide, by decide, by decide⟩
theorem odd_m2 {h : Hs} : OddIs (.int (-2)) h true := odd_ty (t := "int") (fun _ _ => rfl) rfl rfl fun _ => ⟨-2, rfl, by decide, by decide, by decide⟩
theorem odd_lst {h : Hs} {n : Nat} {ds : List D} (e : h[n]? = some (.lst ds)) : OddIs (.ref n) h false := odd_ty (fun _ k => tyN_refK e k) rfl rfl (by intro z; cases z)
theorem odd_dct {h : Hs} {n : Nat} {ds : List (L2.Key × D)} (e : h[n]? = some (.dct ds)) : OddIs (.ref n) h false := odd_ty (fun _ k => tyN_dctK e k) rfl rfl (by intro z; cases z)
theorem odd_tup {h : Hs} {ds : List D} : OddIs (.tup ds) h false := odd_ty (t := "tuple") (fun _ _ => rfl) rfl rfl (by intro z; cases z)
theorem isNot_bb {a b : Bool} {h : Hs} : isNotG (.bl a) (.bl b) h = some (.bl (!decide (a = b)), h) := rfl
theorem repr_bls {h : Hs} {n : Nat} {l : List Bool} (e : getL h n = some (l.map D.bl)) (ln : l.length ≤ 10) : reprG [.ref n] h = some (.str (PyData.list (l.map PyData.bool)).shown, h) := by
  have m : mapO (toP 31 h) (l.map D.bl) = some (l.map PyData.bool) := mapO_map l fun b _ => rfl
  refine reprG_ref (k := 1000) (toP_lst (k := 31) e m) ((RpOk.list (RpsOk.map (k := 5) (m := 10) (fun b _ => RpOk.bool) ln)).mono (by decide)) (by decide)
end SL
namespace SL
open RR PySem
theorem in_t27 {i : Int} {h : Hs} : inG (.int i) (.tup [.int 2, .int 7]) h = some (.bl (decide (i = 2 ∨ i = 7)), h) := by
  have : inG (.int i) (.tup [.int 2, .int 7]) h = some (.bl ([PyData.int 2, PyData.int 7].any fun y => PyData.eqv y (.int i)), h) := rfl
  rw [this]
  congr 3
  rw [Bool.eq_iff_iff]
  simp [PyData.eqv]
  omega
theorem odd_at {c : Int} {h0 : Hs} {n1 n2 n3 : Nat} {kv : List (L2.Key × D)} {a b : List D} (g1 : h0[n1]? = some (.lst a)) (g2 : h0[n2]? = some (.lst b)) (g3 : h0[n3]? = some (.dct kv)) {t : List D} (r0 : 0 ≤ c) (r8 : c < 8) :
    ∃ d due, subG' (.ref h0.length) (.int c) (h0 ++ [.lst [D.non, D.bl true, D.int 7, D.ref n1, D.ref n2, D.ref n3, D.tup t, D.int (-2)]]) = some (d, h0 ++ [.lst [D.non, D.bl true, D.int 7, D.ref n1, D.ref n2, D.ref n3, D.tup t, D.int (-2)]]) ∧
      OddIs d (h0 ++ [.lst [D.non, D.bl true, D.int 7, D.ref n1, D.ref n2, D.ref n3, D.tup t, D.int (-2)]]) due ∧ decide (c = 2 ∨ c = 7) = due := by
  have g : getL (h0 ++ [.lst [D.non, D.bl true, D.int 7, D.ref n1, D.ref n2, D.ref n3, D.tup t, D.int (-2)]]) h0.length = _ := getL_last
  have : c = 0 ∨ c = 1 ∨ c = 2 ∨ c = 3 ∨ c = 4 ∨ c = 5 ∨ c = 6 ∨ c = 7 := by omega
  rcases this with rfl | rfl | rfl | rfl | rfl | rfl | rfl | rfl
  · exact ⟨_, _, ev_idx g (L2.atI_nat (j := 0) rfl), odd_non, rfl⟩
  · exact ⟨_, _, ev_idx g (L2.atI_nat (j := 1) rfl), odd_bl, rfl⟩
  · exact ⟨_, _, ev_idx g (L2.atI_nat (j := 2) rfl), odd_7, rfl⟩
  · exact ⟨_, _, ev_idx g (L2.atI_nat (j := 3) rfl), odd_lst (get_app _ g1), rfl⟩
  · exact ⟨_, _, ev_idx g (L2.atI_nat (j := 4) rfl), odd_lst (get_app _ g2), rfl⟩
  · exact ⟨_, _, ev_idx g (L2.atI_nat (j := 5) rfl), odd_dct (get_app _ g3), rfl⟩
  · exact ⟨_, _, ev_idx g (L2.atI_nat (j := 6) rfl), odd_tup, rfl⟩
  · exact ⟨_, _, ev_idx g (L2.atI_nat (j := 7) rfl), odd_m2, rfl⟩
end SL
namespace SL
open RR PySem
open TL (tl)
def replK (y z : Str) (d : D) (h1 : Hs) : Option (D × Hs) := match d with
  | .str x => if x.length + (x.length + 1) * z.length ≤ 16777216 then some (.str (Txt.replace x y z), h1) else none
  | _ => none
theorem ev_repl {m : ME} {y z : Str} {ρ : Rho} {h : Hs} : eRepl m y z ρ h = bd (m ρ h) (replK y z) := rfl
theorem ev_replK {x : Str} {h : Hs} (l : x.length ≤ 11) : replK " " "" (.str x) h = some (.str (Txt.replace x " " ""), h) := by
  refine if_pos ?_
  have : ("" : Str).length = 0 := by decide +kernel
  rw [this]; omega
theorem ev_addLL {h : Hs} {n m : Nat} {xs ys : List D} (e1 : h[n]? = some (.lst xs)) (e2 : h[m]? = some (.lst ys)) (l : xs.length + ys.length ≤ 10000) : addG (.ref n) (.ref m) h = some (.ref h.length, h ++ [.lst (xs ++ ys)]) := by
  show (match h[n]?, h[m]? with | some (.lst xs), some (.lst ys) => if xs.length + ys.length ≤ sizeLine then some (D.ref h.length, h ++ [AO.lst (xs ++ ys)]) else none | _, _ => none) = _
  rw [e1, e2]
  exact if_pos (line_ok l)
def GoodW (v : Str) : Prop := v.length ≤ 20 ∧ 32 ∉ tl v ∧ v ≠ ""
theorem good_struck {w : Str} (l : w.length ≤ 11) : GoodW (("a" : Str) ++ Txt.replace w " " "") := by
  have ta : tl ("a" : Str) = [97] := by decide +kernel
  have e : tl (("a" : Str) ++ Txt.replace w " " "") = 97 :: (tl w).filter (· != 32) := by rw [tl_app, ta, tl_struck]; rfl
  refine ⟨?_, ?_, fun z => ?_⟩
  · rw [len_tl, e, List.length_cons]
    have := List.length_filter_le (· != 32) (tl w)
    rw [len_tl] at l
    omega
  · rw [e]
    simp
  · have := congrArg tl z
    rw [e] at this
    have e0 : tl ("" : Str) = [] := by decide +kernel
    rw [e0] at this
    cases this
theorem ka_dw {h0 h h' : Hs} {n : Nat} (k : KA h0 h) (l : h0.length ≤ n) (d : Keep (· ≠ n) h h') : KA h0 h' :=
  ⟨Nat.le_trans k.1 d.1, fun i hi _ => (d.2 i (Nat.lt_of_lt_of_le hi k.1) (by omega)).trans (k.2 i hi trivial)⟩
end SL
namespace SL
open RR PySem
theorem repr3 {b : Bool} {h : Hs} : reprG [.ref h.length] (h ++ [AO.lst [D.bl b, D.bl b, D.bl b]]) = some (.str (PyData.list [.bool b, .bool b, .bool b]).shown, h ++ [AO.lst [D.bl b, D.bl b, D.bl b]]) :=
  repr_bls (l := [b, b, b]) getL_last (by show 3 ≤ 10; decide)
end SL
namespace SL
open RR PySem
theorem sign_pm (s : Int) : (if 0 < s then (1 : Int) else 0) - (if s < 0 then (1 : Int) else 0) = s.sign := by
  rcases Int.lt_trichotomy s 0 with q | q | q
  · rw [if_neg (by omega), if_pos q, Int.sign_eq_neg_one_of_neg q]; rfl
  · subst q; rfl
  · rw [if_pos q, if_neg (by omega), Int.sign_eq_one_of_pos q]; rfl
theorem ne_2 {h : Hs} {n m : Nat} {a b c d : Int} (e1 : getL h n = some [.int a, .int b]) (e2 : getL h m = some [.int c, .int d]) (e : a = c) (f : b = d) : neG (.ref n) (.ref m) h = some (.bl false, h) := by
  subst e f
  exact ne_ints (xs := [a, b]) e1 e2
end SL
namespace SL
open RR PySem
open TL (tl)
theorem tx_strI {i : Int} {h : Hs} (l : i.natAbs < 10 ^ 40) : strG [.int i] h = some (.str (Str.ofString (toString i)), h) ∧ (Str.ofString (toString i)).length ≤ 200 := by
  have b : Bd 140 i := Nat.lt_trans l (by decide)
  have r := RpOk.int b (by decide)
  refine ⟨?_, Nat.le_trans r.le (by decide)⟩
  have : i.natAbs.log2 < 1920 := by
    have := r.sh
    unfold PyData.showable at this
    exact of_decide_eq_true this
  exact if_pos this
theorem ev_mulS {a : Str} {i : Int} {h : Hs} (h0 : 0 ≤ i) (h1 : i ≤ 1000000) (h2 : a.length ≤ 10) : mulSG (.str a) (.int i) h = some (.str (Txt.mul a i), h) := if_pos ⟨h0, h1, h2⟩
theorem mul_le {a : Str} {i : Int} (ha : a.length ≤ 1) (h0 : 0 ≤ i) (h1 : i ≤ 6000) : (Txt.mul a i).length ≤ 6000 := by
  have := PyProof.Rows.len_mul a i
  rw [if_neg (by simp; omega)] at this
  have h2 : a.length = 0 ∨ a.length = 1 := by omega
  rcases h2 with e | e
  · rw [e] at this; simp at this; omega
  · rw [e] at this; simp at this; omega
theorem p10_40 {h : Hs} : powG (.int 10) (.int 40) h = some (.int 10000000000000000000000000000000000000000, h) := rfl
end SL
namespace SL
open RR PySem
theorem mul_le0 {a : Str} {i : Int} (ha : a.length ≤ 1) (h0 : 0 ≤ i) (h1 : i ≤ 100) : (Txt.mul a i).length ≤ 100 := by
  have := PyProof.Rows.len_mul a i
  rw [if_neg (by simp; omega)] at this
  have h2 : a.length = 0 ∨ a.length = 1 := by omega
  rcases h2 with e | e
  · rw [e] at this; simp at this; omega
  · rw [e] at this; simp at this; omega
end SL
namespace SL
open RR PySem
theorem repr6 {h : Hs} : reprG [.ref h.length] (h ++ [AO.lst [D.bl true, D.bl true, D.bl true, D.bl true, D.bl false, D.bl false]]) = some (.str (Str.ofString "[True, True, True, True, False, False]"), h ++ [AO.lst [D.bl true, D.bl true, D.bl true, D.bl true, D.bl false, D.bl false]]) := by
  refine (repr_bls (l := [true, true, true, true, false, false]) getL_last (by show 6 ≤ 10; decide)).trans ?_
  have e : (PyData.list ([true, true, true, true, false, false].map PyData.bool)).shown = Str.ofString "[True, True, True, True, False, False]" := by decide +kernel
  rw [e]
  rfl
end SL
namespace K01
open SL RR
local macro_rules | `(tactic| walk_at "bd") => `(tactic| (first
  | assumption
  | (with_reducible apply Bd.add <;> walk_at "bd")
  | (with_reducible apply Bd.sub <;> walk_at "bd")
  | (with_reducible apply Bd.mul <;> walk_at "bd")
  | (with_reducible apply Bd.neg <;> walk_at "bd")
  | (with_reducible apply Bd.fdiv <;> walk_at "bd")
  | (with_reducible apply Bd.ite <;> walk_at "bd")
  | (with_reducible apply Bd.sign)
  | exact Bd.lit 64 rfl
  | exact Bd.lit 250 rfl))
local macro_rules | `(tactic| walk_at "dis") => `(tactic| (first
  | assumption
  | (with_reducible apply MOk.of <;> first | (walk_at "bd"; done) | exact Nat.le_of_ble_eq_true rfl)
  | (with_reducible apply Bd.mono <;> first | (walk_at "bd"; done) | exact Nat.le_of_ble_eq_true rfl)
  | (with_reducible apply DOk.of <;> first | (walk_at "bd"; done) | omega | exact Nat.le_of_ble_eq_true rfl)
  | omega))
local macro_rules | `(tactic| walk_at "ev") => `(tactic| simp (disch := walk_at "dis") only [ev_var0, ev_varS, ev_c, ev_op, ev_opK, ev_un, ev_call, ev_nil, ev_cons, ev_acK, ev_consK, ev_tup, ev_tupK, ev_lst, ev_lstK, ev_ifE, ev_ifS, ev_ifKT, ev_ifKF, ev_ifK, ev_ifKN,
  ev_tV, ev_tvK, ev_tTru, ev_truB, ev_truN, ev_truI, ev_and, ev_or, ev_not, ev_notK, ev_andT, ev_andF, ev_orT, ev_orF, ev_andK, ev_andKN, ev_orK, ev_orKN, ev_eAnd, ev_eOr, ev_eNot, ev_eNotB, ev_eAndT, ev_eAndF, ev_eAndB, ev_eAndBN, ev_eOrT, ev_eOrF, ev_eOrN, ev_eOrB, ev_eOrBN,
  ev_chain, ev_chK1, ev_chK2, ev_chK3, ev_chK3T, ev_chK3F, ev_seq, ev_thn, ev_thnR, ev_thnB, ev_thnC, ev_next, ev_break, ev_cont, ev_ret, ev_retK, ev_retN, ev_expr, ev_exprK, ev_asg, ev_asgK, ev_nxK, ev_gNm, ev_gTp, ev_gsNil, ev_gsCons, ev_gsK, ev_gSb, ev_gSbK1, ev_par, ev_parK2, ev_parK3, ev_mt,
  ev_add, ev_sub, ev_mul, ev_fdiv, ev_mod, ev_pow, ev_shl, ev_neg, ev_lt, ev_le, ev_gt, ev_ge, ev_eqI, ev_neI, ev_abs, ev_intB, ev_intI, ev_minI, ev_maxI, ev_bits, ev_get0, ev_get1, ev_get2, bd_ok, bd_none, ev_whT, ev_whF, ev_whD, ev_wh2, ev_wh2c, ev_wh2r, ev_wh2b, ev_for, ev_forK, ev_fr1, ev_fr2, ev_fr2c, ev_fr2r, ev_fr2b, ev_lc, ev_lcK, ev_lc1, ev_lc2T, ev_lc2F, ev_lc2D, ev_yes, ev_iSeq, ev_seqT, ev_seqS, ev_iRange, ev_iEnum, ev_iZip,
  ev_neIS, ev_eqIS, ev_neSS, ev_eqSS, ev_isN, ev_isNot, isNon_t, isNon_n, isNon_i, isNon_r, decide_true, decide_false, decide_eq_true_eq, eq_self, if_true, if_false,
  out_rt, out_nx, List.map_cons, List.map_nil, List.cons_append, List.nil_append, List.replicate, List.set_cons_zero, List.set_cons_succ, Nat.reduceSub, Int.reduceEq, Int.reduceLT, Int.reduceLE, Int.reduceMul, Int.reduceAdd, Int.reduceSub, Bool.not_true, Bool.not_false])
local macro_rules | `(tactic| walk_at "go") => `(tactic| repeat (first | walk_at "ev" | walk_at "fs"))
local macro_rules | `(tactic| walk_at "wv") => `(tactic| simp only [wp_ok, kn_eq, outQ_rt, outQ_nx, turnQ_nx, turnQ_ct, turnQ_bk, turnQ_rt, whQ_nx, whQ_bk, whQ_rt, whT_t, whT_f, whT_d, lcT_t, lcT_f, lcT_d])
local macro_rules | `(tactic| walk_at "wb") => `(tactic| with_reducible refine wp_bd ?_)
local macro_rules | `(tactic| walk_at "w") => `(tactic| repeat (first | walk_at "ev" | walk_at "wv" | walk_at "fs" | walk_at "wb"))
local macro_rules | `(tactic| walk_at "bd") => `(tactic| exact Bd.fm rfl)
local macro_rules | `(tactic| walk_at "fs") => `(tactic| simp only [p10_3, p10_6, p10_7, p10_8, p10_9, p10_12, p10_15, p10_18, p10_60])
local macro_rules | `(tactic| walk_at "fs") => `(tactic| simp only [ev_pNil, ev_pCons, ev_pK1, ev_pK2, ev_pK3s, ev_dict, ev_gSb, ev_gSbK1])
local macro_rules | `(tactic| walk_at "fs") => `(tactic| simp only [wipe_nil, wipe_cons])
local macro_rules | `(tactic| walk_at "fs") => `(tactic| simp only [ev_make, ev_fldSet, ev_fsK1, ev_om, ev_omK2, ev_intB])
local macro_rules | `(tactic| walk_at "fs") => `(tactic| simp only [ev_iEnumV, ev_enumV, isi_str, ev_isN, ev_isNot])
local macro_rules | `(tactic| walk_at "fs") => `(tactic| simp only [ev_sl, ev_slK1, ev_slK2, ev_slK3, ev_oSome, ev_oSomeK, ev_oNone, slT4, slT3, len_tup, ev_get3, ev_get4, th_rows, th_nm])
local macro_rules | `(tactic| walk_at "fs") => `(tactic| simp only [List.isEmpty_nil, List.isEmpty_cons])
local macro_rules | `(tactic| walk_at "fs") => `(tactic| simp only [sign_of_eq])
local macro_rules | `(tactic| walk_at "fs") => `(tactic| simp only [common_divisor_eq])
local macro_rules | `(tactic| walk_at "fs") => `(tactic| simp only [ev_last0, ev_last1, ev_pm, ite_int])
local macro_rules | `(tactic| walk_at "fs") => `(tactic| simp only [bb_non, bb_int, ne_nn, ne_bb, eq_bb, is_bb, eq_t2])
local macro_rules | `(tactic| walk_at "fs") => `(tactic| simp (disch := assumption) only [ev_slS, ev_lenS, ev_seqS])
noncomputable def q_t1 : MS := (sSeq (sFor (iSeq (eLst (aCons (eVar 6) (aCons (eOp addG (eC (.str "-")) (eVar 6)) (aCons (eCall strG (aCons (eVar 7) aNil)) (aCons (eCall strG (aCons (eVar 8) aNil)) (aCons (eVar 9) (aCons (eOp addG (eC (.str "-")) (eVar 9)) (aCons (eOp addG (eC (.str "0")) (eCall strG (aCons (eVar 8) aNil))) (aCons (eOp mulSG (eC (.str "7")) (eC (.int 5000))) aNil)))))))))) (gNm 10) q_law_L2) (sSeq (sAsg (eOp mulG (eVar 7) (eOp subG (eCall f__law_digit (aCons (eVar 4) (aCons (eC (.int 1000)) aNil))) (eC (.int 400)))) (gNm 11)) (sSeq (sIf (tOr2 (tNot1 (tTru (eCall f__law_divided (aCons (eVar 8) (aCons (eVar 11) aNil))))) (tNot1 (tTru (eCall f__law_divided (aCons (eOp mulG (eVar 7) (eVar 8)) (aCons (eOp mulG (eVar 8) (eVar 11)) aNil)))))) (sRet (eC (.bl false))) sNext) (sSeq (sIf (tOr2 (tNot1 (tTru (eCall f__law_rooted (aCons (eVar 8) aNil)))) (tOr2 (tNot1 (tTru (eCall f__law_rooted (aCons (eOp mulG (eVar 8) (eVar 8)) aNil)))) (tNot1 (tTru (eCall f__law_rooted (aCons (eOp addG (eOp addG (eOp mulG (eVar 8) (eVar 8)) (eOp modG (eVar 8) (eC (.int 3)))) (eC (.int 1))) aNil)))))) (sRet (eC (.bl false))) sNext) (sSeq (sIf (tV (eOp neG (eLst (aCons (eCall f_sign_of (aCons (eVar 7) aNil)) (aCons (eCall f_sign_of (aCons (eOp subG (eOp subG (eC (.int 0)) (eVar 8)) (eC (.int 1))) aNil)) aNil))) (eLst (aCons (eOp subG (eCall intG (aCons (eOp gtG (eVar 7) (eC (.int 0))) aNil)) (eCall intG (aCons (eOp ltG (eVar 7) (eC (.int 0))) aNil))) (aCons (eUn negG (eC (.int 1))) aNil))))) (sRet (eC (.bl false))) sNext) (sSeq (sAsg (eOp addG (eVar 1) (eLst (aCons (eOp addG (eC (.str "a")) (eRepl (eVar 6) " " "")) aNil))) (gNm 1)) (sSeq (sAsg (eOp subG' (eLst (aCons (eC .non) (aCons (eC (.bl true)) (aCons (eC (.int 7)) (aCons (eLst aNil) (aCons (eLst (aCons (eC (.str "a")) aNil)) (aCons (fun _ h => some (.ref h.length, h ++ [.dct []])) (aCons (eTup (aCons (eC (.str "a")) aNil)) (aCons (eUn negG (eC (.int 2))) aNil))))))))) (eOp modG (eVar 3) (eC (.int 8)))) (gNm 12)) (sSeq (sIf (tOr2 (tV (eOp isNotG (eCall f_number_of (aCons (eVar 12) aNil)) (eC .non))) (tOr2 (tV (eOp isNotG (eCall f_words_of (aCons (eVar 12) aNil)) (eC .non))) (tV (eOp isNotG (eCall f_is_name (aCons (eVar 12) aNil)) (eC (.bl false)))))) (sRet (eC (.bl false))) sNext) (sSeq (sAsg (eOp inG (eOp modG (eVar 3) (eC (.int 8))) (eTup (aCons (eC (.int 2)) (aCons (eC (.int 7)) aNil)))) (gNm 13)) (sSeq (sIf (tV (eOp neG (eCall reprG (aCons (eLst (aCons (eCall f_is_whole (aCons (eVar 12) aNil)) (aCons (eCall f_is_number (aCons (eVar 12) aNil)) (aCons (eCall f_is_among (aCons (eVar 12) (aCons (eUn negG (eC (.int 2))) (aCons (eC (.int 7)) aNil)))) aNil)))) aNil)) (eCall reprG (aCons (eLst (aCons (eVar 13) (aCons (eVar 13) (aCons (eVar 13) aNil)))) aNil)))) (sRet (eC (.bl false))) sNext) (sIf (tTru (eCall f_is_among (aCons (eVar 12) (aCons (eUn negG (eC (.int 1))) (aCons (eC (.int 6)) aNil))))) (sRet (eC (.bl false))) sNext)))))))))))
theorem q_law_L1_T : q_law_L1 = (sSeq (sAsg (eCall f__law_draw (aCons (eVar 3) (aCons (eVar 2) aNil))) (gNm 4)) (sSeq (sAsg (eOp subG' (eLst (aCons (eC (.str "0123456789")) (aCons (eC (.str "abcdefghijklmnopqrstuvwxyz")) (aCons (eC (.str "01-")) (aCons (eC (.str "Aaz_ -\n.1;~\x40[`{/:")) aNil))))) (eCall f__law_digit (aCons (eVar 4) (aCons (eC (.int 4)) aNil)))) (gNm 5)) (sSeq (sAsg (eCall f__law_word (aCons (eVar 4) (aCons (eVar 5) aNil))) (gNm 6)) (sSeq (sPar [7, 8] (aCons (eOp subG (eCall f__law_digit (aCons (eVar 4) (aCons (eC (.int 60)) aNil))) (eC (.int 30))) (aCons (eOp modG (eVar 3) (eOp powG (eC (.int 10)) (eC (.int 40)))) aNil))) (sSeq (sAsg (eOp addG (eC (.str "1")) (eOp mulSG (eC (.str "0")) (eOp addG (eC (.int 37)) (eCall f__law_digit (aCons (eVar 4) (aCons (eC (.int 5)) aNil)))))) (gNm 9)) q_t1))))) := rfl
noncomputable def q_t2 : MS := (sSeq (sAsg (eOp mulG (eVar 7) (eOp subG (eCall f__law_digit (aCons (eVar 4) (aCons (eC (.int 1000)) aNil))) (eC (.int 400)))) (gNm 11)) (sSeq (sIf (tOr2 (tNot1 (tTru (eCall f__law_divided (aCons (eVar 8) (aCons (eVar 11) aNil))))) (tNot1 (tTru (eCall f__law_divided (aCons (eOp mulG (eVar 7) (eVar 8)) (aCons (eOp mulG (eVar 8) (eVar 11)) aNil)))))) (sRet (eC (.bl false))) sNext) (sSeq (sIf (tOr2 (tNot1 (tTru (eCall f__law_rooted (aCons (eVar 8) aNil)))) (tOr2 (tNot1 (tTru (eCall f__law_rooted (aCons (eOp mulG (eVar 8) (eVar 8)) aNil)))) (tNot1 (tTru (eCall f__law_rooted (aCons (eOp addG (eOp addG (eOp mulG (eVar 8) (eVar 8)) (eOp modG (eVar 8) (eC (.int 3)))) (eC (.int 1))) aNil)))))) (sRet (eC (.bl false))) sNext) (sSeq (sIf (tV (eOp neG (eLst (aCons (eCall f_sign_of (aCons (eVar 7) aNil)) (aCons (eCall f_sign_of (aCons (eOp subG (eOp subG (eC (.int 0)) (eVar 8)) (eC (.int 1))) aNil)) aNil))) (eLst (aCons (eOp subG (eCall intG (aCons (eOp gtG (eVar 7) (eC (.int 0))) aNil)) (eCall intG (aCons (eOp ltG (eVar 7) (eC (.int 0))) aNil))) (aCons (eUn negG (eC (.int 1))) aNil))))) (sRet (eC (.bl false))) sNext) (sSeq (sAsg (eOp addG (eVar 1) (eLst (aCons (eOp addG (eC (.str "a")) (eRepl (eVar 6) " " "")) aNil))) (gNm 1)) (sSeq (sAsg (eOp subG' (eLst (aCons (eC .non) (aCons (eC (.bl true)) (aCons (eC (.int 7)) (aCons (eLst aNil) (aCons (eLst (aCons (eC (.str "a")) aNil)) (aCons (fun _ h => some (.ref h.length, h ++ [.dct []])) (aCons (eTup (aCons (eC (.str "a")) aNil)) (aCons (eUn negG (eC (.int 2))) aNil))))))))) (eOp modG (eVar 3) (eC (.int 8)))) (gNm 12)) (sSeq (sIf (tOr2 (tV (eOp isNotG (eCall f_number_of (aCons (eVar 12) aNil)) (eC .non))) (tOr2 (tV (eOp isNotG (eCall f_words_of (aCons (eVar 12) aNil)) (eC .non))) (tV (eOp isNotG (eCall f_is_name (aCons (eVar 12) aNil)) (eC (.bl false)))))) (sRet (eC (.bl false))) sNext) (sSeq (sAsg (eOp inG (eOp modG (eVar 3) (eC (.int 8))) (eTup (aCons (eC (.int 2)) (aCons (eC (.int 7)) aNil)))) (gNm 13)) (sSeq (sIf (tV (eOp neG (eCall reprG (aCons (eLst (aCons (eCall f_is_whole (aCons (eVar 12) aNil)) (aCons (eCall f_is_number (aCons (eVar 12) aNil)) (aCons (eCall f_is_among (aCons (eVar 12) (aCons (eUn negG (eC (.int 2))) (aCons (eC (.int 7)) aNil)))) aNil)))) aNil)) (eCall reprG (aCons (eLst (aCons (eVar 13) (aCons (eVar 13) (aCons (eVar 13) aNil)))) aNil)))) (sRet (eC (.bl false))) sNext) (sIf (tTru (eCall f_is_among (aCons (eVar 12) (aCons (eUn negG (eC (.int 1))) (aCons (eC (.int 6)) aNil))))) (sRet (eC (.bl false))) sNext))))))))))
theorem q_t1_T : q_t1 = (sSeq (sFor (iSeq (eLst (aCons (eVar 6) (aCons (eOp addG (eC (.str "-")) (eVar 6)) (aCons (eCall strG (aCons (eVar 7) aNil)) (aCons (eCall strG (aCons (eVar 8) aNil)) (aCons (eVar 9) (aCons (eOp addG (eC (.str "-")) (eVar 9)) (aCons (eOp addG (eC (.str "0")) (eCall strG (aCons (eVar 8) aNil))) (aCons (eOp mulSG (eC (.str "7")) (eC (.int 5000))) aNil)))))))))) (gNm 10) q_law_L2) q_t2) := rfl
noncomputable def q_t3 : MS := (sSeq (sAsg (eOp addG (eVar 1) (eLst (aCons (eOp addG (eC (.str "a")) (eRepl (eVar 6) " " "")) aNil))) (gNm 1)) (sSeq (sAsg (eOp subG' (eLst (aCons (eC .non) (aCons (eC (.bl true)) (aCons (eC (.int 7)) (aCons (eLst aNil) (aCons (eLst (aCons (eC (.str "a")) aNil)) (aCons (fun _ h => some (.ref h.length, h ++ [.dct []])) (aCons (eTup (aCons (eC (.str "a")) aNil)) (aCons (eUn negG (eC (.int 2))) aNil))))))))) (eOp modG (eVar 3) (eC (.int 8)))) (gNm 12)) (sSeq (sIf (tOr2 (tV (eOp isNotG (eCall f_number_of (aCons (eVar 12) aNil)) (eC .non))) (tOr2 (tV (eOp isNotG (eCall f_words_of (aCons (eVar 12) aNil)) (eC .non))) (tV (eOp isNotG (eCall f_is_name (aCons (eVar 12) aNil)) (eC (.bl false)))))) (sRet (eC (.bl false))) sNext) (sSeq (sAsg (eOp inG (eOp modG (eVar 3) (eC (.int 8))) (eTup (aCons (eC (.int 2)) (aCons (eC (.int 7)) aNil)))) (gNm 13)) (sSeq (sIf (tV (eOp neG (eCall reprG (aCons (eLst (aCons (eCall f_is_whole (aCons (eVar 12) aNil)) (aCons (eCall f_is_number (aCons (eVar 12) aNil)) (aCons (eCall f_is_among (aCons (eVar 12) (aCons (eUn negG (eC (.int 2))) (aCons (eC (.int 7)) aNil)))) aNil)))) aNil)) (eCall reprG (aCons (eLst (aCons (eVar 13) (aCons (eVar 13) (aCons (eVar 13) aNil)))) aNil)))) (sRet (eC (.bl false))) sNext) (sIf (tTru (eCall f_is_among (aCons (eVar 12) (aCons (eUn negG (eC (.int 1))) (aCons (eC (.int 6)) aNil))))) (sRet (eC (.bl false))) sNext))))))
theorem q_t2_T : q_t2 = (sSeq (sAsg (eOp mulG (eVar 7) (eOp subG (eCall f__law_digit (aCons (eVar 4) (aCons (eC (.int 1000)) aNil))) (eC (.int 400)))) (gNm 11)) (sSeq (sIf (tOr2 (tNot1 (tTru (eCall f__law_divided (aCons (eVar 8) (aCons (eVar 11) aNil))))) (tNot1 (tTru (eCall f__law_divided (aCons (eOp mulG (eVar 7) (eVar 8)) (aCons (eOp mulG (eVar 8) (eVar 11)) aNil)))))) (sRet (eC (.bl false))) sNext) (sSeq (sIf (tOr2 (tNot1 (tTru (eCall f__law_rooted (aCons (eVar 8) aNil)))) (tOr2 (tNot1 (tTru (eCall f__law_rooted (aCons (eOp mulG (eVar 8) (eVar 8)) aNil)))) (tNot1 (tTru (eCall f__law_rooted (aCons (eOp addG (eOp addG (eOp mulG (eVar 8) (eVar 8)) (eOp modG (eVar 8) (eC (.int 3)))) (eC (.int 1))) aNil)))))) (sRet (eC (.bl false))) sNext) (sSeq (sIf (tV (eOp neG (eLst (aCons (eCall f_sign_of (aCons (eVar 7) aNil)) (aCons (eCall f_sign_of (aCons (eOp subG (eOp subG (eC (.int 0)) (eVar 8)) (eC (.int 1))) aNil)) aNil))) (eLst (aCons (eOp subG (eCall intG (aCons (eOp gtG (eVar 7) (eC (.int 0))) aNil)) (eCall intG (aCons (eOp ltG (eVar 7) (eC (.int 0))) aNil))) (aCons (eUn negG (eC (.int 1))) aNil))))) (sRet (eC (.bl false))) sNext) q_t3)))) := rfl
noncomputable def q_t4 : MS := (sSeq (sAsg (eOp subG' (eLst (aCons (eC .non) (aCons (eC (.bl true)) (aCons (eC (.int 7)) (aCons (eLst aNil) (aCons (eLst (aCons (eC (.str "a")) aNil)) (aCons (fun _ h => some (.ref h.length, h ++ [.dct []])) (aCons (eTup (aCons (eC (.str "a")) aNil)) (aCons (eUn negG (eC (.int 2))) aNil))))))))) (eOp modG (eVar 3) (eC (.int 8)))) (gNm 12)) (sSeq (sIf (tOr2 (tV (eOp isNotG (eCall f_number_of (aCons (eVar 12) aNil)) (eC .non))) (tOr2 (tV (eOp isNotG (eCall f_words_of (aCons (eVar 12) aNil)) (eC .non))) (tV (eOp isNotG (eCall f_is_name (aCons (eVar 12) aNil)) (eC (.bl false)))))) (sRet (eC (.bl false))) sNext) (sSeq (sAsg (eOp inG (eOp modG (eVar 3) (eC (.int 8))) (eTup (aCons (eC (.int 2)) (aCons (eC (.int 7)) aNil)))) (gNm 13)) (sSeq (sIf (tV (eOp neG (eCall reprG (aCons (eLst (aCons (eCall f_is_whole (aCons (eVar 12) aNil)) (aCons (eCall f_is_number (aCons (eVar 12) aNil)) (aCons (eCall f_is_among (aCons (eVar 12) (aCons (eUn negG (eC (.int 2))) (aCons (eC (.int 7)) aNil)))) aNil)))) aNil)) (eCall reprG (aCons (eLst (aCons (eVar 13) (aCons (eVar 13) (aCons (eVar 13) aNil)))) aNil)))) (sRet (eC (.bl false))) sNext) (sIf (tTru (eCall f_is_among (aCons (eVar 12) (aCons (eUn negG (eC (.int 1))) (aCons (eC (.int 6)) aNil))))) (sRet (eC (.bl false))) sNext)))))
theorem q_t3_T : q_t3 = (sSeq (sAsg (eOp addG (eVar 1) (eLst (aCons (eOp addG (eC (.str "a")) (eRepl (eVar 6) " " "")) aNil))) (gNm 1)) q_t4) := rfl
local macro_rules | `(tactic| walk_at "fs") => `(tactic| simp only [isNot_bb])
theorem number_of_odd {d : D} {h g : Hs} {due : Bool} (o : OddIs d h due) (k : KA h g) : f_number_of [d] g = some (.non, g) := by
  unfold f_number_of
  rw [runB_ok (by rfl)]
  unfold m_number_of
  walk_at "go"
  rw [o.st g k]
  walk_at "go"
theorem words_of_odd {d : D} {h g : Hs} {due : Bool} (o : OddIs d h due) (k : KA h g) : f_words_of [d] g = some (.non, g) := by
  unfold f_words_of
  rw [runB_ok (by rfl)]
  unfold m_words_of
  walk_at "go"
  rw [o.st g k]
  walk_at "go"
theorem is_name_odd {d : D} {h g : Hs} {due : Bool} (o : OddIs d h due) (k : KA h g) : f_is_name [d] g = some (.bl false, g) := by
  unfold f_is_name
  rw [runB_ok (by rfl)]
  unfold m_is_name
  walk_at "go"
  rw [o.st g k]
  walk_at "go"
theorem is_whole_odd {d : D} {h g : Hs} {due : Bool} (o : OddIs d h due) (k : KA h g) : f_is_whole [d] g = some (.bl due, g) := by
  obtain ⟨a, b, e1, e2, e3⟩ := o.it g k
  unfold f_is_whole
  rw [runB_ok (by rfl)]
  unfold m_is_whole
  subst e3
  cases a
  · walk_at "go"
    rw [e1]
    walk_at "go"
    rfl
  · walk_at "go"
    rw [e1]
    walk_at "go"
    rw [e2]
    cases b <;> walk_at "go" <;> rfl
theorem is_number_odd {d : D} {h g : Hs} {due : Bool} (o : OddIs d h due) (k : KA h g) : f_is_number [d] g = some (.bl due, g) := is_whole_odd o k
theorem is_among_odd {d : D} {h g : Hs} {due : Bool} (o : OddIs d h due) (k : KA h g) : f_is_among [d, .int (-2), .int 7] g = some (.bl due, g) ∧ f_is_among [d, .int (-1), .int 6] g = some (.bl false, g) := by
  have w := is_whole_odd o k
  cases due with
  | false =>
    constructor <;>
    · unfold f_is_among
      rw [runB_ok (by rfl)]
      unfold m_is_among
      walk_at "go"
      rw [w]
      walk_at "go"
  | true =>
    obtain ⟨v, rfl, a, b, c⟩ := o.am rfl
    constructor
    · unfold f_is_among
      rw [runB_ok (by rfl)]
      unfold m_is_among
      walk_at "go"
      rw [w]
      walk_at "go"
      simp only [if_pos a, decide_eq_true b]
      try walk_at "go"
    · unfold f_is_among
      rw [runB_ok (by rfl)]
      unfold m_is_among
      walk_at "go"
      rw [w]
      walk_at "go"
      by_cases z : -1 ≤ v
      · simp only [if_pos z, decide_eq_false (fun y => c ⟨z, y⟩)]
        try walk_at "go"
      · simp only [if_neg z]
        try walk_at "go"
end K01
namespace K01
open SL RR
local macro_rules | `(tactic| walk_at "bd") => `(tactic| (first
  | assumption
  | (with_reducible apply Bd.add <;> walk_at "bd")
  | (with_reducible apply Bd.sub <;> walk_at "bd")
  | (with_reducible apply Bd.mul <;> walk_at "bd")
  | (with_reducible apply Bd.neg <;> walk_at "bd")
  | (with_reducible apply Bd.fdiv <;> walk_at "bd")
  | (with_reducible apply Bd.ite <;> walk_at "bd")
  | (with_reducible apply Bd.sign)
  | exact Bd.lit 64 rfl
  | exact Bd.lit 250 rfl))
local macro_rules | `(tactic| walk_at "dis") => `(tactic| (first
  | assumption
  | (with_reducible apply MOk.of <;> first | (walk_at "bd"; done) | exact Nat.le_of_ble_eq_true rfl)
  | (with_reducible apply Bd.mono <;> first | (walk_at "bd"; done) | exact Nat.le_of_ble_eq_true rfl)
  | (with_reducible apply DOk.of <;> first | (walk_at "bd"; done) | omega | exact Nat.le_of_ble_eq_true rfl)
  | omega))
local macro_rules | `(tactic| walk_at "ev") => `(tactic| simp (disch := walk_at "dis") only [ev_var0, ev_varS, ev_c, ev_op, ev_opK, ev_un, ev_call, ev_nil, ev_cons, ev_acK, ev_consK, ev_tup, ev_tupK, ev_lst, ev_lstK, ev_ifE, ev_ifS, ev_ifKT, ev_ifKF, ev_ifK, ev_ifKN,
  ev_tV, ev_tvK, ev_tTru, ev_truB, ev_truN, ev_truI, ev_and, ev_or, ev_not, ev_notK, ev_andT, ev_andF, ev_orT, ev_orF, ev_andK, ev_andKN, ev_orK, ev_orKN, ev_eAnd, ev_eOr, ev_eNot, ev_eNotB, ev_eAndT, ev_eAndF, ev_eAndB, ev_eAndBN, ev_eOrT, ev_eOrF, ev_eOrN, ev_eOrB, ev_eOrBN,
  ev_chain, ev_chK1, ev_chK2, ev_chK3, ev_chK3T, ev_chK3F, ev_seq, ev_thn, ev_thnR, ev_thnB, ev_thnC, ev_next, ev_break, ev_cont, ev_ret, ev_retK, ev_retN, ev_expr, ev_exprK, ev_asg, ev_asgK, ev_nxK, ev_gNm, ev_gTp, ev_gsNil, ev_gsCons, ev_gsK, ev_gSb, ev_gSbK1, ev_par, ev_parK2, ev_parK3, ev_mt,
  ev_add, ev_sub, ev_mul, ev_fdiv, ev_mod, ev_pow, ev_shl, ev_neg, ev_lt, ev_le, ev_gt, ev_ge, ev_eqI, ev_neI, ev_abs, ev_intB, ev_intI, ev_minI, ev_maxI, ev_bits, ev_get0, ev_get1, ev_get2, bd_ok, bd_none, ev_whT, ev_whF, ev_whD, ev_wh2, ev_wh2c, ev_wh2r, ev_wh2b, ev_for, ev_forK, ev_fr1, ev_fr2, ev_fr2c, ev_fr2r, ev_fr2b, ev_lc, ev_lcK, ev_lc1, ev_lc2T, ev_lc2F, ev_lc2D, ev_yes, ev_iSeq, ev_seqT, ev_seqS, ev_iRange, ev_iEnum, ev_iZip,
  ev_neIS, ev_eqIS, ev_neSS, ev_eqSS, ev_isN, ev_isNot, isNon_t, isNon_n, isNon_i, isNon_r, decide_true, decide_false, decide_eq_true_eq, eq_self, if_true, if_false,
  out_rt, out_nx, List.map_cons, List.map_nil, List.cons_append, List.nil_append, List.replicate, List.set_cons_zero, List.set_cons_succ, Nat.reduceSub, Int.reduceEq, Int.reduceLT, Int.reduceLE, Int.reduceMul, Int.reduceAdd, Int.reduceSub, Bool.not_true, Bool.not_false])
local macro_rules | `(tactic| walk_at "go") => `(tactic| repeat (first | walk_at "ev" | walk_at "fs"))
local macro_rules | `(tactic| walk_at "wv") => `(tactic| simp only [wp_ok, kn_eq, outQ_rt, outQ_nx, turnQ_nx, turnQ_ct, turnQ_bk, turnQ_rt, whQ_nx, whQ_bk, whQ_rt, whT_t, whT_f, whT_d, lcT_t, lcT_f, lcT_d])
local macro_rules | `(tactic| walk_at "wb") => `(tactic| with_reducible refine wp_bd ?_)
local macro_rules | `(tactic| walk_at "w") => `(tactic| repeat (first | walk_at "ev" | walk_at "wv" | walk_at "fs" | walk_at "wb"))
local macro_rules | `(tactic| walk_at "bd") => `(tactic| exact Bd.fm rfl)
local macro_rules | `(tactic| walk_at "fs") => `(tactic| simp only [p10_3, p10_6, p10_7, p10_8, p10_9, p10_12, p10_15, p10_18, p10_60])
local macro_rules | `(tactic| walk_at "fs") => `(tactic| simp only [ev_pNil, ev_pCons, ev_pK1, ev_pK2, ev_pK3s, ev_dict, ev_gSb, ev_gSbK1])
local macro_rules | `(tactic| walk_at "fs") => `(tactic| simp only [wipe_nil, wipe_cons])
local macro_rules | `(tactic| walk_at "fs") => `(tactic| simp only [ev_make, ev_fldSet, ev_fsK1, ev_om, ev_omK2, ev_intB])
local macro_rules | `(tactic| walk_at "fs") => `(tactic| simp only [ev_iEnumV, ev_enumV, isi_str, ev_isN, ev_isNot])
local macro_rules | `(tactic| walk_at "fs") => `(tactic| simp only [ev_sl, ev_slK1, ev_slK2, ev_slK3, ev_oSome, ev_oSomeK, ev_oNone, slT4, slT3, len_tup, ev_get3, ev_get4, th_rows, th_nm])
local macro_rules | `(tactic| walk_at "fs") => `(tactic| simp only [List.isEmpty_nil, List.isEmpty_cons])
local macro_rules | `(tactic| walk_at "fs") => `(tactic| simp only [sign_of_eq])
local macro_rules | `(tactic| walk_at "fs") => `(tactic| simp only [common_divisor_eq])
local macro_rules | `(tactic| walk_at "fs") => `(tactic| simp only [ev_last0, ev_last1, ev_pm, ite_int])
local macro_rules | `(tactic| walk_at "fs") => `(tactic| simp only [bb_non, bb_int, ne_nn, ne_bb, eq_bb, is_bb, eq_t2])
local macro_rules | `(tactic| walk_at "fs") => `(tactic| simp (disch := assumption) only [ev_slS, ev_lenS, ev_seqS])
local macro_rules | `(tactic| walk_at "fs") => `(tactic| simp only [isNot_bb])
theorem t4_wp {x0 x1 x2 x4 x5 x6 x7 x8 x9 x10 x11 x12 x13 x14 : Option D} {c : Int} {h : Hs} {Q : Out × Rho → Hs → Prop} (q : ∀ d e h', KA h h' → Q (.nx, [x0, x1, x2, some (.int c), x4, x5, x6, x7, x8, x9, x10, x11, some d, some e, x14]) h') :
    WP (q_t4 [x0, x1, x2, some (.int c), x4, x5, x6, x7, x8, x9, x10, x11, x12, x13, x14] h) Q := by
  have r0 := Int.fmod_nonneg_of_pos c (show (0 : Int) < 8 by decide)
  have r8 := Int.fmod_lt_of_pos c (show (0 : Int) < 8 by decide)
  unfold q_t4
  walk_at "w"
  obtain ⟨d, due, e, o, hd⟩ := odd_at (c := c.fmod 8) (h0 := h ++ [AO.lst []] ++ [AO.lst [D.str (PySem.Str.ofString "a")]] ++ [AO.dct []]) (t := [D.str (PySem.Str.ofString "a")]) (get_app _ (get_app _ get_last)) (get_app _ get_last) get_last r0 r8
  rw [e]
  have kH : KA h (h ++ [AO.lst []] ++ [AO.lst [D.str (PySem.Str.ofString "a")]] ++ [AO.dct []] ++
        [AO.lst
            [D.non, D.bl true, D.int 7, D.ref (List.length h), D.ref (List.length (h ++ [AO.lst []])),
              D.ref (List.length (h ++ [AO.lst []] ++ [AO.lst [D.str (PySem.Str.ofString "a")]])),
              D.tup [D.str (PySem.Str.ofString "a")], D.int (-2)]]) := ((Keep.app.trans Keep.app).trans Keep.app).trans Keep.app
  revert o kH
  generalize h ++ [AO.lst []] ++ [AO.lst [D.str (PySem.Str.ofString "a")]] ++ [AO.dct []] ++
        [AO.lst
            [D.non, D.bl true, D.int 7, D.ref (List.length h), D.ref (List.length (h ++ [AO.lst []])),
              D.ref (List.length (h ++ [AO.lst []] ++ [AO.lst [D.str (PySem.Str.ofString "a")]])),
              D.tup [D.str (PySem.Str.ofString "a")], D.int (-2)]] = H
  intro o kH
  walk_at "w"
  rw [number_of_odd o Keep.refl]
  walk_at "w"
  rw [words_of_odd o Keep.refl]
  walk_at "w"
  rw [is_name_odd o Keep.refl]
  walk_at "w"
  rw [in_t27, hd]
  walk_at "w"
  rw [is_whole_odd o Keep.refl]
  walk_at "w"
  rw [is_number_odd o Keep.refl]
  walk_at "w"
  rw [(is_among_odd o Keep.refl).1]
  walk_at "w"
  rw [repr3]
  walk_at "w"
  rw [repr3]
  walk_at "w"
  rw [(is_among_odd o (Keep.app.trans Keep.app)).2]
  walk_at "w"
  exact q _ _ _ ((kH.trans Keep.app).trans Keep.app)
local macro_rules | `(tactic| walk_at "fs") => `(tactic| simp only [ev_repl])
theorem t3_wp {x0 x2 x4 x5 x7 x8 x9 x10 x11 x12 x13 x14 : Option D} {c : Int} {w : PySem.Str} {ws : List PySem.Str} {W : Nat} {h : Hs} {Q : Out × Rho → Hs → Prop} (hW : h[W]? = some (.lst (ws.map D.str))) (lW : ws.length ≤ 64) (lw : w.length ≤ 11)
    (q : ∀ W' v d e h', KA h h' → h'[W']? = some (.lst ((ws ++ [v]).map D.str)) → GoodW v → Q (.nx, [x0, some (.ref W'), x2, some (.int c), x4, x5, some (.str w), x7, x8, x9, x10, x11, some d, some e, x14]) h') :
    WP (q_t3 [x0, some (.ref W), x2, some (.int c), x4, x5, some (.str w), x7, x8, x9, x10, x11, x12, x13, x14] h) Q := by
  rw [q_t3_T]
  walk_at "w"
  rw [ev_replK lw]
  walk_at "w"
  have g := good_struck lw
  rw [ev_addS (by have := g.1; rw [len_app] at this; omega)]
  walk_at "w"
  rw [ev_addLL (get_app _ hW) get_last (by simp; omega)]
  walk_at "w"
  refine t4_wp fun d e h' k => ?_
  refine q _ _ d e h' ((Keep.app.trans Keep.app).trans k) ?_ g
  rw [Keep.get k get_last trivial, List.map_append]
  rfl
end K01
namespace K01
open SL RR
local macro_rules | `(tactic| walk_at "bd") => `(tactic| (first
  | assumption
  | (with_reducible apply Bd.add <;> walk_at "bd")
  | (with_reducible apply Bd.sub <;> walk_at "bd")
  | (with_reducible apply Bd.mul <;> walk_at "bd")
  | (with_reducible apply Bd.neg <;> walk_at "bd")
  | (with_reducible apply Bd.fdiv <;> walk_at "bd")
  | (with_reducible apply Bd.ite <;> walk_at "bd")
  | (with_reducible apply Bd.sign)
  | exact Bd.lit 64 rfl
  | exact Bd.lit 250 rfl))
local macro_rules | `(tactic| walk_at "dis") => `(tactic| (first
  | assumption
  | (with_reducible apply MOk.of <;> first | (walk_at "bd"; done) | exact Nat.le_of_ble_eq_true rfl)
  | (with_reducible apply Bd.mono <;> first | (walk_at "bd"; done) | exact Nat.le_of_ble_eq_true rfl)
  | (with_reducible apply DOk.of <;> first | (walk_at "bd"; done) | omega | exact Nat.le_of_ble_eq_true rfl)
  | omega))
local macro_rules | `(tactic| walk_at "ev") => `(tactic| simp (disch := walk_at "dis") only [ev_var0, ev_varS, ev_c, ev_op, ev_opK, ev_un, ev_call, ev_nil, ev_cons, ev_acK, ev_consK, ev_tup, ev_tupK, ev_lst, ev_lstK, ev_ifE, ev_ifS, ev_ifKT, ev_ifKF, ev_ifK, ev_ifKN,
  ev_tV, ev_tvK, ev_tTru, ev_truB, ev_truN, ev_truI, ev_and, ev_or, ev_not, ev_notK, ev_andT, ev_andF, ev_orT, ev_orF, ev_andK, ev_andKN, ev_orK, ev_orKN, ev_eAnd, ev_eOr, ev_eNot, ev_eNotB, ev_eAndT, ev_eAndF, ev_eAndB, ev_eAndBN, ev_eOrT, ev_eOrF, ev_eOrN, ev_eOrB, ev_eOrBN,
  ev_chain, ev_chK1, ev_chK2, ev_chK3, ev_chK3T, ev_chK3F, ev_seq, ev_thn, ev_thnR, ev_thnB, ev_thnC, ev_next, ev_break, ev_cont, ev_ret, ev_retK, ev_retN, ev_expr, ev_exprK, ev_asg, ev_asgK, ev_nxK, ev_gNm, ev_gTp, ev_gsNil, ev_gsCons, ev_gsK, ev_gSb, ev_gSbK1, ev_par, ev_parK2, ev_parK3, ev_mt,
  ev_add, ev_sub, ev_mul, ev_fdiv, ev_mod, ev_pow, ev_shl, ev_neg, ev_lt, ev_le, ev_gt, ev_ge, ev_eqI, ev_neI, ev_abs, ev_intB, ev_intI, ev_minI, ev_maxI, ev_bits, ev_get0, ev_get1, ev_get2, bd_ok, bd_none, ev_whT, ev_whF, ev_whD, ev_wh2, ev_wh2c, ev_wh2r, ev_wh2b, ev_for, ev_forK, ev_fr1, ev_fr2, ev_fr2c, ev_fr2r, ev_fr2b, ev_lc, ev_lcK, ev_lc1, ev_lc2T, ev_lc2F, ev_lc2D, ev_yes, ev_iSeq, ev_seqT, ev_seqS, ev_iRange, ev_iEnum, ev_iZip,
  ev_neIS, ev_eqIS, ev_neSS, ev_eqSS, ev_isN, ev_isNot, isNon_t, isNon_n, isNon_i, isNon_r, decide_true, decide_false, decide_eq_true_eq, eq_self, if_true, if_false,
  out_rt, out_nx, List.map_cons, List.map_nil, List.cons_append, List.nil_append, List.replicate, List.set_cons_zero, List.set_cons_succ, Nat.reduceSub, Int.reduceEq, Int.reduceLT, Int.reduceLE, Int.reduceMul, Int.reduceAdd, Int.reduceSub, Bool.not_true, Bool.not_false])
local macro_rules | `(tactic| walk_at "go") => `(tactic| repeat (first | walk_at "ev" | walk_at "fs"))
local macro_rules | `(tactic| walk_at "wv") => `(tactic| simp only [wp_ok, kn_eq, outQ_rt, outQ_nx, turnQ_nx, turnQ_ct, turnQ_bk, turnQ_rt, whQ_nx, whQ_bk, whQ_rt, whT_t, whT_f, whT_d, lcT_t, lcT_f, lcT_d])
local macro_rules | `(tactic| walk_at "wb") => `(tactic| with_reducible refine wp_bd ?_)
local macro_rules | `(tactic| walk_at "w") => `(tactic| repeat (first | walk_at "ev" | walk_at "wv" | walk_at "fs" | walk_at "wb"))
local macro_rules | `(tactic| walk_at "bd") => `(tactic| exact Bd.fm rfl)
local macro_rules | `(tactic| walk_at "fs") => `(tactic| simp only [p10_3, p10_6, p10_7, p10_8, p10_9, p10_12, p10_15, p10_18, p10_60])
local macro_rules | `(tactic| walk_at "fs") => `(tactic| simp only [ev_pNil, ev_pCons, ev_pK1, ev_pK2, ev_pK3s, ev_dict, ev_gSb, ev_gSbK1])
local macro_rules | `(tactic| walk_at "fs") => `(tactic| simp only [wipe_nil, wipe_cons])
local macro_rules | `(tactic| walk_at "fs") => `(tactic| simp only [ev_make, ev_fldSet, ev_fsK1, ev_om, ev_omK2, ev_intB])
local macro_rules | `(tactic| walk_at "fs") => `(tactic| simp only [ev_iEnumV, ev_enumV, isi_str, ev_isN, ev_isNot])
local macro_rules | `(tactic| walk_at "fs") => `(tactic| simp only [ev_sl, ev_slK1, ev_slK2, ev_slK3, ev_oSome, ev_oSomeK, ev_oNone, slT4, slT3, len_tup, ev_get3, ev_get4, th_rows, th_nm])
local macro_rules | `(tactic| walk_at "fs") => `(tactic| simp only [List.isEmpty_nil, List.isEmpty_cons])
local macro_rules | `(tactic| walk_at "fs") => `(tactic| simp only [sign_of_eq])
local macro_rules | `(tactic| walk_at "fs") => `(tactic| simp only [common_divisor_eq])
local macro_rules | `(tactic| walk_at "fs") => `(tactic| simp only [ev_last0, ev_last1, ev_pm, ite_int])
local macro_rules | `(tactic| walk_at "fs") => `(tactic| simp only [bb_non, bb_int, ne_nn, ne_bb, eq_bb, is_bb, eq_t2])
local macro_rules | `(tactic| walk_at "fs") => `(tactic| simp (disch := assumption) only [ev_slS, ev_lenS, ev_seqS])
local macro_rules | `(tactic| walk_at "fs") => `(tactic| simp only [isNot_bb])
local macro_rules | `(tactic| walk_at "fs") => `(tactic| simp only [ev_repl])
theorem t2_wp {x0 x2 x5 x9 x10 x11 x12 x13 x14 : Option D} {c s G : Int} {n : Nat} {w : PySem.Str} {ws : List PySem.Str} {W : Nat} {h0 h : Hs} {Q : Out × Rho → Hs → Prop} (k0 : KA h0 h) (ln : h0.length ≤ n) (st : Dw n h) (hW : h0[W]? = some (.lst (ws.map D.str))) (lW : ws.length ≤ 64) (lw : w.length ≤ 11)
    (s0 : -30 ≤ s) (s1 : s < 30) (g0 : 0 ≤ G) (g1 : G < 10000000000000000000000000000000000000000)
    (q : ∀ W' v x11 d e h', KA h0 h' → h'[W']? = some (.lst ((ws ++ [v]).map D.str)) → GoodW v → Q (.nx, [x0, some (.ref W'), x2, some (.int c), some (.ref n), x5, some (.str w), some (.int s), some (.int G), x9, x10, x11, some d, some e, x14]) h') :
    WP (q_t2 [x0, some (.ref W), x2, some (.int c), some (.ref n), x5, some (.str w), some (.int s), some (.int G), x9, x10, x11, x12, x13, x14] h) Q := by
  rw [q_t2_T]
  walk_at "w"
  refine digit_wp st (by decide) (by decide) fun r h1 r0 r1 d1 => ?_
  have k1 : KA h0 h1 := ka_dw k0 ln d1.1
  have bs : Bd 6 s := Bd.of_range (by omega) (by omega)
  have bG : Bd 140 G := Bd.of_range (by omega) (by omega)
  have br : Bd 12 (r - 400) := Bd.of_range (by omega) (by omega)
  walk_at "w"
  generalize hz : r - 400 = z at br
  refine law_divided_wp (bG.mono (by decide)) ((Bd.mul bs br).mono (by decide)) ?_
  walk_at "w"
  refine law_divided_wp ((Bd.mul bs bG).mono (by decide)) ((Bd.mul bG (Bd.mul bs br)).mono (by decide)) ?_
  walk_at "w"
  have gg : 0 ≤ G * G := Int.mul_nonneg g0 g0
  have m0 := Int.fmod_nonneg_of_pos G (show (0 : Int) < 3 by decide)
  have m1 := Int.fmod_lt_of_pos G (show (0 : Int) < 3 by decide)
  have bm : Bd 4 (G.fmod 3) := Bd.of_range (by omega) (by omega)
  have bGG : Bd 280 (G * G) := Bd.mul bG bG
  refine law_rooted_wp g0 (bG.mono (by decide)) ?_
  walk_at "w"
  refine law_rooted_wp gg (bGG.mono (by decide)) ?_
  walk_at "w"
  refine law_rooted_wp (by omega) ((Bd.add (Bd.add bGG bm) (Bd.lit 4 (i := 1) rfl)).mono (by decide)) ?_
  walk_at "w"
  rw [ne_2 (KA.getL Keep.app getL_last) getL_last (sign_pm s).symm (Int.sign_eq_neg_one_of_neg (by omega))]
  walk_at "w"
  have kk : KA h0 (h1 ++ [AO.lst [D.int s.sign, D.int (0 - G - 1).sign]] ++
        [AO.lst [D.int ((if 0 < s then 1 else 0) - if s < 0 then 1 else 0), D.int (-1)]]) := (k1.trans Keep.app).trans Keep.app
  exact t3_wp (Keep.get kk hW trivial) lW lw fun W' v d e h' k e1 g => q _ _ _ _ _ _ (kk.trans k) e1 g
theorem t1_wp {x0 x2 x5 x10 x11 x12 x13 x14 : Option D} {c s G : Int} {n : Nat} {w lo : PySem.Str} {ws : List PySem.Str} {W : Nat} {h0 h : Hs} {Q : Out × Rho → Hs → Prop} (k0 : KA h0 h) (ln : h0.length ≤ n) (st : Dw n h) (hW : h0[W]? = some (.lst (ws.map D.str))) (lW : ws.length ≤ 64) (lw : w.length ≤ 11) (ll : lo.length ≤ 6000)
    (s0 : -30 ≤ s) (s1 : s < 30) (g0 : 0 ≤ G) (g1 : G < 10000000000000000000000000000000000000000)
    (q : ∀ W' v x10 x11 d e h', KA h0 h' → h'[W']? = some (.lst ((ws ++ [v]).map D.str)) → GoodW v → Q (.nx, [x0, some (.ref W'), x2, some (.int c), some (.ref n), x5, some (.str w), some (.int s), some (.int G), some (.str lo), x10, x11, some d, some e, x14]) h') :
    WP (q_t1 [x0, some (.ref W), x2, some (.int c), some (.ref n), x5, some (.str w), some (.int s), some (.int G), some (.str lo), x10, x11, x12, x13, x14] h) Q := by
  obtain ⟨es, ls⟩ := tx_strI (i := s) (h := h) (by omega)
  obtain ⟨eG, lG⟩ := tx_strI (i := G) (h := h) (by omega)
  have l1 : (PySem.Str.ofString "-").length = 1 := by decide +kernel
  have l2 : (PySem.Str.ofString "0").length = 1 := by decide +kernel
  have l3 : (PySem.Str.ofString "7").length = 1 := by decide +kernel
  rw [q_t1_T]
  walk_at "w"
  rw [ev_addS (by omega)]
  walk_at "w"
  rw [es]
  walk_at "w"
  rw [eG]
  walk_at "w"
  rw [ev_addS (by omega)]
  walk_at "w"
  rw [eG]
  walk_at "w"
  rw [ev_addS (by omega)]
  walk_at "w"
  rw [ev_mulS (by decide) (by decide) (by omega)]
  walk_at "w"
  have l4 : (PySem.Txt.mul (PySem.Str.ofString "7") 5000).length ≤ 6000 := mul_le (by omega) (by decide) (by decide)
  obtain ⟨xs, ex, lx, ax⟩ : ∃ xs : List PySem.Str, [D.str w, D.str (PySem.Str.ofString "-" ++ w), D.str (PySem.Str.ofString (toString s)), D.str (PySem.Str.ofString (toString G)), D.str lo, D.str (PySem.Str.ofString "-" ++ lo), D.str (PySem.Str.ofString "0" ++ PySem.Str.ofString (toString G)), D.str (PySem.Txt.mul (PySem.Str.ofString "7") 5000)] = xs.map D.str ∧ xs.length = 8 ∧ ∀ y ∈ xs, y.length ≤ 10000 := by
    refine ⟨[_, _, _, _, _, _, _, _], rfl, rfl, fun y hy => ?_⟩
    simp only [List.mem_cons, List.not_mem_nil, or_false] at hy
    rcases hy with rfl | rfl | rfl | rfl | rfl | rfl | rfl | rfl <;> (try rw [len_app]) <;> omega
  rw [ex, ev_seqL getL_last]
  walk_at "w"
  refine wp_fr 8 (fun i ρ g => ∃ x10, ρ = [x0, some (.ref W), x2, some (.int c), some (.ref n), x5, some (.str w), some (.int s), some (.int G), some (.str lo), x10, x11, x12, x13, x14] ∧ KA (h ++ [AO.lst (xs.map D.str)]) g) ⟨_, rfl, Keep.refl⟩ (fun i hi ρ g p => ?_) (fun ρ g p => ?_)
  · obtain ⟨x10, rfl, kg⟩ := p
    have hi' : i < xs.length := by omega
    refine ⟨.str xs[i], _, _, srcL_in (KA.getL kg getL_last) (by rw [List.getElem?_map, List.getElem?_eq_getElem hi']; rfl), rfl, ?_⟩
    unfold q_law_L2
    walk_at "w"
    refine law_one_wp (ax _ (List.getElem_mem hi')) fun h' k' => ?_
    walk_at "w"
    exact ⟨_, rfl, kg.trans k'⟩
  · obtain ⟨x10, rfl, kg⟩ := p
    refine ⟨srcL_out (KA.getL kg getL_last) (by rw [List.length_map]; omega), ?_⟩
    walk_at "w"
    have kg' : KA h g := Keep.app.trans kg
    exact t2_wp (k0.trans kg') ln ((Dwp.refl st).keep kg').2 hW lW lw s0 s1 g0 g1 fun W' v x11 d e h' k e1 gg => q W' v x10 x11 d e h' k e1 gg
end K01
namespace K01
open SL RR
local macro_rules | `(tactic| walk_at "bd") => `(tactic| (first
  | assumption
  | (with_reducible apply Bd.add <;> walk_at "bd")
  | (with_reducible apply Bd.sub <;> walk_at "bd")
  | (with_reducible apply Bd.mul <;> walk_at "bd")
  | (with_reducible apply Bd.neg <;> walk_at "bd")
  | (with_reducible apply Bd.fdiv <;> walk_at "bd")
  | (with_reducible apply Bd.ite <;> walk_at "bd")
  | (with_reducible apply Bd.sign)
  | exact Bd.lit 64 rfl
  | exact Bd.lit 250 rfl))
local macro_rules | `(tactic| walk_at "dis") => `(tactic| (first
  | assumption
  | (with_reducible apply MOk.of <;> first | (walk_at "bd"; done) | exact Nat.le_of_ble_eq_true rfl)
  | (with_reducible apply Bd.mono <;> first | (walk_at "bd"; done) | exact Nat.le_of_ble_eq_true rfl)
  | (with_reducible apply DOk.of <;> first | (walk_at "bd"; done) | omega | exact Nat.le_of_ble_eq_true rfl)
  | omega))
local macro_rules | `(tactic| walk_at "ev") => `(tactic| simp (disch := walk_at "dis") only [ev_var0, ev_varS, ev_c, ev_op, ev_opK, ev_un, ev_call, ev_nil, ev_cons, ev_acK, ev_consK, ev_tup, ev_tupK, ev_lst, ev_lstK, ev_ifE, ev_ifS, ev_ifKT, ev_ifKF, ev_ifK, ev_ifKN,
  ev_tV, ev_tvK, ev_tTru, ev_truB, ev_truN, ev_truI, ev_and, ev_or, ev_not, ev_notK, ev_andT, ev_andF, ev_orT, ev_orF, ev_andK, ev_andKN, ev_orK, ev_orKN, ev_eAnd, ev_eOr, ev_eNot, ev_eNotB, ev_eAndT, ev_eAndF, ev_eAndB, ev_eAndBN, ev_eOrT, ev_eOrF, ev_eOrN, ev_eOrB, ev_eOrBN,
  ev_chain, ev_chK1, ev_chK2, ev_chK3, ev_chK3T, ev_chK3F, ev_seq, ev_thn, ev_thnR, ev_thnB, ev_thnC, ev_next, ev_break, ev_cont, ev_ret, ev_retK, ev_retN, ev_expr, ev_exprK, ev_asg, ev_asgK, ev_nxK, ev_gNm, ev_gTp, ev_gsNil, ev_gsCons, ev_gsK, ev_gSb, ev_gSbK1, ev_par, ev_parK2, ev_parK3, ev_mt,
  ev_add, ev_sub, ev_mul, ev_fdiv, ev_mod, ev_pow, ev_shl, ev_neg, ev_lt, ev_le, ev_gt, ev_ge, ev_eqI, ev_neI, ev_abs, ev_intB, ev_intI, ev_minI, ev_maxI, ev_bits, ev_get0, ev_get1, ev_get2, bd_ok, bd_none, ev_whT, ev_whF, ev_whD, ev_wh2, ev_wh2c, ev_wh2r, ev_wh2b, ev_for, ev_forK, ev_fr1, ev_fr2, ev_fr2c, ev_fr2r, ev_fr2b, ev_lc, ev_lcK, ev_lc1, ev_lc2T, ev_lc2F, ev_lc2D, ev_yes, ev_iSeq, ev_seqT, ev_seqS, ev_iRange, ev_iEnum, ev_iZip,
  ev_neIS, ev_eqIS, ev_neSS, ev_eqSS, ev_isN, ev_isNot, isNon_t, isNon_n, isNon_i, isNon_r, decide_true, decide_false, decide_eq_true_eq, eq_self, if_true, if_false,
  out_rt, out_nx, List.map_cons, List.map_nil, List.cons_append, List.nil_append, List.replicate, List.set_cons_zero, List.set_cons_succ, Nat.reduceSub, Int.reduceEq, Int.reduceLT, Int.reduceLE, Int.reduceMul, Int.reduceAdd, Int.reduceSub, Bool.not_true, Bool.not_false])
local macro_rules | `(tactic| walk_at "go") => `(tactic| repeat (first | walk_at "ev" | walk_at "fs"))
local macro_rules | `(tactic| walk_at "wv") => `(tactic| simp only [wp_ok, kn_eq, outQ_rt, outQ_nx, turnQ_nx, turnQ_ct, turnQ_bk, turnQ_rt, whQ_nx, whQ_bk, whQ_rt, whT_t, whT_f, whT_d, lcT_t, lcT_f, lcT_d])
local macro_rules | `(tactic| walk_at "wb") => `(tactic| with_reducible refine wp_bd ?_)
local macro_rules | `(tactic| walk_at "w") => `(tactic| repeat (first | walk_at "ev" | walk_at "wv" | walk_at "fs" | walk_at "wb"))
local macro_rules | `(tactic| walk_at "bd") => `(tactic| exact Bd.fm rfl)
local macro_rules | `(tactic| walk_at "fs") => `(tactic| simp only [p10_3, p10_6, p10_7, p10_8, p10_9, p10_12, p10_15, p10_18, p10_60])
local macro_rules | `(tactic| walk_at "fs") => `(tactic| simp only [ev_pNil, ev_pCons, ev_pK1, ev_pK2, ev_pK3s, ev_dict, ev_gSb, ev_gSbK1])
local macro_rules | `(tactic| walk_at "fs") => `(tactic| simp only [wipe_nil, wipe_cons])
local macro_rules | `(tactic| walk_at "fs") => `(tactic| simp only [ev_make, ev_fldSet, ev_fsK1, ev_om, ev_omK2, ev_intB])
local macro_rules | `(tactic| walk_at "fs") => `(tactic| simp only [ev_iEnumV, ev_enumV, isi_str, ev_isN, ev_isNot])
local macro_rules | `(tactic| walk_at "fs") => `(tactic| simp only [ev_sl, ev_slK1, ev_slK2, ev_slK3, ev_oSome, ev_oSomeK, ev_oNone, slT4, slT3, len_tup, ev_get3, ev_get4, th_rows, th_nm])
local macro_rules | `(tactic| walk_at "fs") => `(tactic| simp only [List.isEmpty_nil, List.isEmpty_cons])
local macro_rules | `(tactic| walk_at "fs") => `(tactic| simp only [sign_of_eq])
local macro_rules | `(tactic| walk_at "fs") => `(tactic| simp only [common_divisor_eq])
local macro_rules | `(tactic| walk_at "fs") => `(tactic| simp only [ev_last0, ev_last1, ev_pm, ite_int])
local macro_rules | `(tactic| walk_at "fs") => `(tactic| simp only [bb_non, bb_int, ne_nn, ne_bb, eq_bb, is_bb, eq_t2])
local macro_rules | `(tactic| walk_at "fs") => `(tactic| simp (disch := assumption) only [ev_slS, ev_lenS, ev_seqS])
local macro_rules | `(tactic| walk_at "fs") => `(tactic| simp only [isNot_bb])
local macro_rules | `(tactic| walk_at "fs") => `(tactic| simp only [ev_repl])
theorem signs4 {r : Int} {n : Nat} {h : Hs} (e : getL h n = some [D.str (PySem.Str.ofString "0123456789"), D.str (PySem.Str.ofString "abcdefghijklmnopqrstuvwxyz"), D.str (PySem.Str.ofString "01-"), D.str (PySem.Str.ofString "Aaz_ -\n.1;~\x40[`{/:")]) (r0 : 0 ≤ r) (r4 : r < 4) : ∃ S : PySem.Str, (1 ≤ (TL.tl S).length ∧ S.length ≤ 10000) ∧ subG' (.ref n) (.int r) h = some (.str S, h) := by
  have : r = 0 ∨ r = 1 ∨ r = 2 ∨ r = 3 := by omega
  rcases this with rfl | rfl | rfl | rfl
  · exact ⟨_, by decide +kernel, ev_idx e (L2.atI_nat (j := 0) rfl)⟩
  · exact ⟨_, by decide +kernel, ev_idx e (L2.atI_nat (j := 1) rfl)⟩
  · exact ⟨_, by decide +kernel, ev_idx e (L2.atI_nat (j := 2) rfl)⟩
  · exact ⟨_, by decide +kernel, ev_idx e (L2.atI_nat (j := 3) rfl)⟩
local macro_rules | `(tactic| walk_at "fs") => `(tactic| simp only [p10_40])
theorem turn_wp {x0 x4 x5 x6 x7 x8 x9 x10 x11 x12 x13 x14 : Option D} {c k : Int} {ws : List PySem.Str} {W : Nat} {h0 : Hs} {Q : Out × Rho → Hs → Prop} (bk : Bd 50 k) (hW : h0[W]? = some (.lst (ws.map D.str))) (lW : ws.length ≤ 64)
    (q : ∀ W' v y4 y5 y6 y7 y8 y9 y10 y11 y12 y13 h', KA h0 h' → h'[W']? = some (.lst ((ws ++ [v]).map D.str)) → GoodW v → Q (.nx, [x0, some (.ref W'), some (.int k), some (.int c), y4, y5, y6, y7, y8, y9, y10, y11, y12, y13, x14]) h') :
    WP (q_law_L1 [x0, some (.ref W), some (.int k), some (.int c), x4, x5, x6, x7, x8, x9, x10, x11, x12, x13, x14] h0) Q := by
  rw [q_law_L1_T]
  walk_at "w"
  refine draw_wp bk fun h1 k1 d1 => ?_
  walk_at "w"
  refine digit_wp (d1.app) (by decide) (by decide) fun r h2 r0 r1 d2 => ?_
  walk_at "w"
  have n01 : h1.length ≠ h0.length := by have := d1.lt; omega
  obtain ⟨S, hS, eS⟩ := signs4 (Keep.getL d2.1 getL_last n01) r0 r1
  rw [eS]
  walk_at "w"
  refine law_word_wp d2.2 hS.1 hS.2 fun w h3 lw _ d3 => ?_
  walk_at "w"
  refine digit_wp d3.2 (by decide) (by decide) fun s h4 s0 s1 d4 => ?_
  walk_at "w"
  refine digit_wp d4.2 (by decide) (by decide) fun z h5 z0 z1 d5 => ?_
  walk_at "w"
  have l2 : (PySem.Str.ofString "0").length = 1 := by decide +kernel
  have l1 : (PySem.Str.ofString "1").length = 1 := by decide +kernel
  rw [ev_mulS (by omega) (by omega) (by omega)]
  walk_at "w"
  have l3 := mul_le0 (a := PySem.Str.ofString "0") (i := 37 + z) (by omega) (by omega) (by omega)
  rw [ev_addS (by omega)]
  walk_at "w"
  have g0 := Int.fmod_nonneg_of_pos c (show (0 : Int) < 10000000000000000000000000000000000000000 by decide)
  have g1 := Int.fmod_lt_of_pos c (show (0 : Int) < 10000000000000000000000000000000000000000 by decide)
  have kk : KA h0 h5 := ka_dw (ka_dw (ka_dw (ka_dw (k1.trans Keep.app) (Nat.le_refl _) d2.1) (Nat.le_refl _) d3.1) (Nat.le_refl _) d4.1) (Nat.le_refl _) d5.1
  exact t1_wp kk (Nat.le_refl _) d5.2 hW lW lw (by rw [len_app]; omega) (by omega) (by omega) g0 g1 fun W' v x10 x11 d e h' k e1 gg => q W' v _ _ _ _ _ _ _ _ _ _ h' k e1 gg
end K01
namespace K01
open SL RR
local macro_rules | `(tactic| walk_at "bd") => `(tactic| (first
  | assumption
  | (with_reducible apply Bd.add <;> walk_at "bd")
  | (with_reducible apply Bd.sub <;> walk_at "bd")
  | (with_reducible apply Bd.mul <;> walk_at "bd")
  | (with_reducible apply Bd.neg <;> walk_at "bd")
  | (with_reducible apply Bd.fdiv <;> walk_at "bd")
  | (with_reducible apply Bd.ite <;> walk_at "bd")
  | (with_reducible apply Bd.sign)
  | exact Bd.lit 64 rfl
  | exact Bd.lit 250 rfl))
local macro_rules | `(tactic| walk_at "dis") => `(tactic| (first
  | assumption
  | (with_reducible apply MOk.of <;> first | (walk_at "bd"; done) | exact Nat.le_of_ble_eq_true rfl)
  | (with_reducible apply Bd.mono <;> first | (walk_at "bd"; done) | exact Nat.le_of_ble_eq_true rfl)
  | (with_reducible apply DOk.of <;> first | (walk_at "bd"; done) | omega | exact Nat.le_of_ble_eq_true rfl)
  | omega))
local macro_rules | `(tactic| walk_at "ev") => `(tactic| simp (disch := walk_at "dis") only [ev_var0, ev_varS, ev_c, ev_op, ev_opK, ev_un, ev_call, ev_nil, ev_cons, ev_acK, ev_consK, ev_tup, ev_tupK, ev_lst, ev_lstK, ev_ifE, ev_ifS, ev_ifKT, ev_ifKF, ev_ifK, ev_ifKN,
  ev_tV, ev_tvK, ev_tTru, ev_truB, ev_truN, ev_truI, ev_and, ev_or, ev_not, ev_notK, ev_andT, ev_andF, ev_orT, ev_orF, ev_andK, ev_andKN, ev_orK, ev_orKN, ev_eAnd, ev_eOr, ev_eNot, ev_eNotB, ev_eAndT, ev_eAndF, ev_eAndB, ev_eAndBN, ev_eOrT, ev_eOrF, ev_eOrN, ev_eOrB, ev_eOrBN,
  ev_chain, ev_chK1, ev_chK2, ev_chK3, ev_chK3T, ev_chK3F, ev_seq, ev_thn, ev_thnR, ev_thnB, ev_thnC, ev_next, ev_break, ev_cont, ev_ret, ev_retK, ev_retN, ev_expr, ev_exprK, ev_asg, ev_asgK, ev_nxK, ev_gNm, ev_gTp, ev_gsNil, ev_gsCons, ev_gsK, ev_gSb, ev_gSbK1, ev_par, ev_parK2, ev_parK3, ev_mt,
  ev_add, ev_sub, ev_mul, ev_fdiv, ev_mod, ev_pow, ev_shl, ev_neg, ev_lt, ev_le, ev_gt, ev_ge, ev_eqI, ev_neI, ev_abs, ev_intB, ev_intI, ev_minI, ev_maxI, ev_bits, ev_get0, ev_get1, ev_get2, bd_ok, bd_none, ev_whT, ev_whF, ev_whD, ev_wh2, ev_wh2c, ev_wh2r, ev_wh2b, ev_for, ev_forK, ev_fr1, ev_fr2, ev_fr2c, ev_fr2r, ev_fr2b, ev_lc, ev_lcK, ev_lc1, ev_lc2T, ev_lc2F, ev_lc2D, ev_yes, ev_iSeq, ev_seqT, ev_seqS, ev_iRange, ev_iEnum, ev_iZip,
  ev_neIS, ev_eqIS, ev_neSS, ev_eqSS, ev_isN, ev_isNot, isNon_t, isNon_n, isNon_i, isNon_r, decide_true, decide_false, decide_eq_true_eq, eq_self, if_true, if_false,
  out_rt, out_nx, List.map_cons, List.map_nil, List.cons_append, List.nil_append, List.replicate, List.set_cons_zero, List.set_cons_succ, Nat.reduceSub, Int.reduceEq, Int.reduceLT, Int.reduceLE, Int.reduceMul, Int.reduceAdd, Int.reduceSub, Bool.not_true, Bool.not_false])
local macro_rules | `(tactic| walk_at "go") => `(tactic| repeat (first | walk_at "ev" | walk_at "fs"))
local macro_rules | `(tactic| walk_at "wv") => `(tactic| simp only [wp_ok, kn_eq, outQ_rt, outQ_nx, turnQ_nx, turnQ_ct, turnQ_bk, turnQ_rt, whQ_nx, whQ_bk, whQ_rt, whT_t, whT_f, whT_d, lcT_t, lcT_f, lcT_d])
local macro_rules | `(tactic| walk_at "wb") => `(tactic| with_reducible refine wp_bd ?_)
local macro_rules | `(tactic| walk_at "w") => `(tactic| repeat (first | walk_at "ev" | walk_at "wv" | walk_at "fs" | walk_at "wb"))
local macro_rules | `(tactic| walk_at "bd") => `(tactic| exact Bd.fm rfl)
local macro_rules | `(tactic| walk_at "fs") => `(tactic| simp only [p10_3, p10_6, p10_7, p10_8, p10_9, p10_12, p10_15, p10_18, p10_60])
local macro_rules | `(tactic| walk_at "fs") => `(tactic| simp only [ev_pNil, ev_pCons, ev_pK1, ev_pK2, ev_pK3s, ev_dict, ev_gSb, ev_gSbK1])
local macro_rules | `(tactic| walk_at "fs") => `(tactic| simp only [wipe_nil, wipe_cons])
local macro_rules | `(tactic| walk_at "fs") => `(tactic| simp only [ev_make, ev_fldSet, ev_fsK1, ev_om, ev_omK2, ev_intB])
local macro_rules | `(tactic| walk_at "fs") => `(tactic| simp only [ev_iEnumV, ev_enumV, isi_str, ev_isN, ev_isNot])
local macro_rules | `(tactic| walk_at "fs") => `(tactic| simp only [ev_sl, ev_slK1, ev_slK2, ev_slK3, ev_oSome, ev_oSomeK, ev_oNone, slT4, slT3, len_tup, ev_get3, ev_get4, th_rows, th_nm])
local macro_rules | `(tactic| walk_at "fs") => `(tactic| simp only [List.isEmpty_nil, List.isEmpty_cons])
local macro_rules | `(tactic| walk_at "fs") => `(tactic| simp only [sign_of_eq])
local macro_rules | `(tactic| walk_at "fs") => `(tactic| simp only [common_divisor_eq])
local macro_rules | `(tactic| walk_at "fs") => `(tactic| simp only [ev_last0, ev_last1, ev_pm, ite_int])
local macro_rules | `(tactic| walk_at "fs") => `(tactic| simp only [bb_non, bb_int, ne_nn, ne_bb, eq_bb, is_bb, eq_t2])
local macro_rules | `(tactic| walk_at "fs") => `(tactic| simp (disch := assumption) only [ev_slS, ev_lenS, ev_seqS])
local macro_rules | `(tactic| walk_at "fs") => `(tactic| simp only [isNot_bb])
local macro_rules | `(tactic| walk_at "fs") => `(tactic| simp only [ev_repl])
theorem sum_ints {h : Hs} {n : Nat} {ns : List Int} (e : getL h n = some (ns.map D.int)) : sumG [.ref n] h = some (.int ns.sum, h) := by
  unfold sumG
  simp only [e, intsD_map]
theorem whole_lit {i : Int} {g : Hs} : f_is_whole [.int i] g = some (.bl true, g) := rfl
theorem number_lit {i : Int} {g : Hs} : f_is_number [.int i] g = some (.bl true, g) := rfl
theorem among_59 {g : Hs} : f_is_among [.int 5, .int 0, .int 9] g = some (.bl true, g) := rfl
theorem among_569 {g : Hs} : f_is_among [.int 5, .int 6, .int 9] g = some (.bl false, g) := rfl
theorem law_ok (ns : List Int) (hl : ns.length ≤ 63) (hb : ∀ z ∈ ns, PySem.Builtin.Int.intBits z ≤ 1048576) : ∃ h', f_law [.ref 0] [.fz (ns.map D.int)] = some (.bl true, h') := by
  suffices h : WP (f_law [.ref 0] [.fz (ns.map D.int)]) fun d _ => d = .bl true by
    obtain ⟨d, h', e, rfl⟩ := h
    exact ⟨h', e⟩
  have h0 : getL [.fz (ns.map D.int)] 0 = some (ns.map D.int) := rfl
  generalize ([.fz (ns.map D.int)] : Hs) = Z at h0 ⊢
  unfold f_law
  refine wp_run rfl ?_
  rw [m_law_q]
  walk_at "w"
  have h1 : getL (Z ++ [AO.lst []]) 0 = some (ns.map D.int) := KA.getL Keep.app h0
  rw [slL h1, show cutD (ns.map D.int) none (some 63) = (ns.map D.int).take 63 from cut_to (k := 63), List.take_of_length_le (by rw [List.length_map]; exact hl)]
  walk_at "w"
  rw [sum_ints (KA.getL Keep.app h1)]
  walk_at "w"
  rw [ev_addL (get_app _ get_last) get_last (Nat.le_trans (show _ ≤ 4000 by simp; omega) (Nat.le_of_ble_eq_true rfl))]
  walk_at "w"
  have ec : (ns.map D.int ++ [D.int ns.sum] : List D) = (ns ++ [ns.sum]).map D.int := by rw [List.map_append]; rfl
  rw [ec]
  have eE : (Z ++ [AO.lst []] ++ [AO.lst (ns.map D.int)] ++ [AO.lst [D.int ns.sum]] ++ [AO.lst ((ns ++ [ns.sum]).map D.int)])[(Z ++ [AO.lst []] ++ [AO.lst (ns.map D.int)] ++ [AO.lst [D.int ns.sum]]).length]? = some (.lst ((ns ++ [ns.sum]).map D.int)) := get_last
  have eW : (Z ++ [AO.lst []] ++ [AO.lst (ns.map D.int)] ++ [AO.lst [D.int ns.sum]] ++ [AO.lst ((ns ++ [ns.sum]).map D.int)])[Z.length]? = some (.lst []) := get_app _ (get_app _ (get_app _ get_last))
  have eZ : getL (Z ++ [AO.lst []] ++ [AO.lst (ns.map D.int)] ++ [AO.lst [D.int ns.sum]] ++ [AO.lst ((ns ++ [ns.sum]).map D.int)]) 0 = some (ns.map D.int) := KA.getL Keep.app (KA.getL Keep.app (KA.getL Keep.app h1))
  generalize Z ++ [AO.lst []] ++ [AO.lst (ns.map D.int)] ++ [AO.lst [D.int ns.sum]] ++ [AO.lst ((ns ++ [ns.sum]).map D.int)] = H at *
  generalize (Z ++ [AO.lst []] ++ [AO.lst (ns.map D.int)] ++ [AO.lst [D.int ns.sum]]).length = E at *
  generalize Z.length = W at *
  rw [ev_enumVr (getL_lst eE)]
  walk_at "w"
  have lcs : (ns ++ [ns.sum]).length ≤ 64 := by simp; omega
  have lcp : 1 ≤ (ns ++ [ns.sum]).length := by simp
  generalize ns ++ [ns.sum] = cs at *
  refine wp_fr cs.length (fun i ρ g => ∃ (W : Nat) (ws : List PySem.Str) (x2 x3 x4 x5 x6 x7 x8 x9 x10 x11 x12 x13 : Option D), ρ = [some (.ref 0), some (.ref W), x2, x3, x4, x5, x6, x7, x8, x9, x10, x11, x12, x13, none] ∧ KA H g ∧ g[W]? = some (.lst (ws.map D.str)) ∧ ws.length = i ∧ ∀ w ∈ ws, GoodW w) ⟨_, [], _, _, _, _, _, _, _, _, _, _, _, _, rfl, Keep.refl, eW, rfl, fun w hw => by cases hw⟩ ?_ ?_
  · rintro i hi ρ g ⟨W, ws, x2, x3, x4, x5, x6, x7, x8, x9, x10, x11, x12, x13, rfl, kg, eg, lw, gw⟩
    obtain ⟨I, hI⟩ : ∃ I : Int, I = (i : Nat) := ⟨_, rfl⟩
    refine ⟨_, [some (.ref 0), some (.ref W), some (.int I), some (.int cs[i]), x4, x5, x6, x7, x8, x9, x10, x11, x12, x13, none], g, srcE_in (KA.getL kg (getL_lst eE)) (by rw [List.getElem?_map, List.getElem?_eq_getElem hi]; rfl), by rw [hI]; rfl, ?_⟩
    refine turn_wp (Bd.mono (n := 10) (Bd.of_range (by omega) (by omega)) (by decide)) eg (by omega) fun W' v y4 y5 y6 y7 y8 y9 y10 y11 y12 y13 h' k' e' gv => ?_
    refine ⟨_, _, _, _, _, _, _, _, _, _, _, _, _, _, rfl, kg.trans k', e', by rw [List.length_append, lw]; rfl, fun w hw => ?_⟩
    rcases List.mem_append.mp hw with z | z
    · exact gw w z
    · rw [List.mem_singleton.mp z]; exact gv
  · rintro ρ g ⟨W, ws, x2, x3, x4, x5, x6, x7, x8, x9, x10, x11, x12, x13, rfl, kg, eg, lw, gw⟩
    refine ⟨srcE_out (KA.getL kg (getL_lst eE)) (by simp), ?_⟩
    walk_at "w"
    refine is_name_wp (by decide +kernel) fun g1 k1 => ?_
    rw [show decide (NameOk (PySem.Str.ofString "ab")) = true from by decide +kernel]
    walk_at "w"
    rw [whole_lit]
    walk_at "w"
    rw [among_59]
    walk_at "w"
    rw [number_lit]
    walk_at "w"
    refine is_name_wp (by decide +kernel) fun g2 k2 => ?_
    rw [show decide (NameOk (PySem.Str.ofString "aB")) = false from by decide +kernel]
    walk_at "w"
    rw [among_569]
    walk_at "w"
    rw [repr6]
    walk_at "w"
    have kA : KA g (g2 ++ [AO.lst [D.bl true, D.bl true, D.bl true, D.bl true, D.bl false, D.bl false]]) := (k1.trans k2).trans Keep.app
    generalize g2 ++ [AO.lst [D.bl true, D.bl true, D.bl true, D.bl true, D.bl false, D.bl false]] = G at kA
    refine law_rooted_wp (by decide) (Bd.lit 4000 (i := 0) rfl) ?_
    walk_at "w"
    refine law_rooted_wp (by decide) (Bd.lit 4000 (i := 1) rfl) ?_
    walk_at "w"
    refine law_divided_wp (Bd.lit 4000 (i := 0) rfl) (Bd.lit 4000 (i := 0) rfl) ?_
    walk_at "w"
    refine law_divided_wp (Bd.lit 4000 (i := 2) rfl) (Bd.lit 4000 (i := 3) rfl) ?_
    walk_at "w"
    have emp : (PySem.Str.ofString "") ∈ PySem.Txt.split (PySem.Str.ofString "") (PySem.Str.ofString " ") := by decide +kernel
    refine words_of_wp (by decide +kernel) (fun _ g3 k3 => ?_) fun z => absurd emp z
    walk_at "w"
    rw [sum_ints (KA.getL ((kg.trans kA).trans k3) eZ)]
    walk_at "w"
    obtain ⟨r, er, r0, r1⟩ := mixed_eq ns.sum 2 g3 (Bd.lit 60 (i := 2) rfl)
    rw [er]
    walk_at "w"
    refine law_row_wp (Keep.get (kA.trans k3) eg trivial) (fun z => by rw [z] at lw; simp at lw; omega) (by omega) gw r0 fun h' k' => ?_
    walk_at "w"
end K01
namespace K01
open PySem PySem.Spec PyProof.Rows L2 SL
set_option maxHeartbeats 0 in
theorem all_mk {l : PySem.W.OpenLaw} {w : World} {K : PySem.W.Frag} {h : Heap} {mg : Str → Option Value} {fa f0 f1 f2 f3 f4 f5 f6 f7 f8 f9 f10 f11 f12 f13 f14 f15 f16 f17 f18 f19 : Addr} (X : K.In h) (G : h.Ns mainGlobals mg) (hfa : mg "law" = some (.ref fa))
    {od0 an0 : Option Addr} {sl0 : Array (Option Value)} {oc0 kV0 dc0 pm0 cd0 ct0 : Value}
    {od1 an1 : Option Addr} {sl1 : Array (Option Value)} {oc1 kV1 dc1 pm1 cd1 ct1 : Value}
    {od2 an2 : Option Addr} {sl2 : Array (Option Value)} {oc2 kV2 dc2 pm2 cd2 ct2 : Value}
    {od3 an3 : Option Addr} {sl3 : Array (Option Value)} {oc3 kV3 dc3 pm3 cd3 ct3 : Value}
    {od4 an4 : Option Addr} {sl4 : Array (Option Value)} {oc4 kV4 dc4 pm4 cd4 ct4 : Value}
    {od5 an5 : Option Addr} {sl5 : Array (Option Value)} {oc5 kV5 dc5 pm5 cd5 ct5 : Value}
    {od6 an6 : Option Addr} {sl6 : Array (Option Value)} {oc6 kV6 dc6 pm6 cd6 ct6 : Value}
    {od7 an7 : Option Addr} {sl7 : Array (Option Value)} {oc7 kV7 dc7 pm7 cd7 ct7 : Value}
    {od8 an8 : Option Addr} {sl8 : Array (Option Value)} {oc8 kV8 dc8 pm8 cd8 ct8 : Value}
    {od9 an9 : Option Addr} {sl9 : Array (Option Value)} {oc9 kV9 dc9 pm9 cd9 ct9 : Value}
    {od10 an10 : Option Addr} {sl10 : Array (Option Value)} {oc10 kV10 dc10 pm10 cd10 ct10 : Value}
    {od11 an11 : Option Addr} {sl11 : Array (Option Value)} {oc11 kV11 dc11 pm11 cd11 ct11 : Value}
    {od12 an12 : Option Addr} {sl12 : Array (Option Value)} {oc12 kV12 dc12 pm12 cd12 ct12 : Value}
    {od13 an13 : Option Addr} {sl13 : Array (Option Value)} {oc13 kV13 dc13 pm13 cd13 ct13 : Value}
    {od14 an14 : Option Addr} {sl14 : Array (Option Value)} {oc14 kV14 dc14 pm14 cd14 ct14 : Value}
    {od15 an15 : Option Addr} {sl15 : Array (Option Value)} {oc15 kV15 dc15 pm15 cd15 ct15 : Value}
    {od16 an16 : Option Addr} {sl16 : Array (Option Value)} {oc16 kV16 dc16 pm16 cd16 ct16 : Value}
    {od17 an17 : Option Addr} {sl17 : Array (Option Value)} {oc17 kV17 dc17 pm17 cd17 ct17 : Value}
    {od18 an18 : Option Addr} {sl18 : Array (Option Value)} {oc18 kV18 dc18 pm18 cd18 ct18 : Value}
    {od19 an19 : Option Addr} {sl19 : Array (Option Value)} {oc19 kV19 dc19 pm19 cd19 ct19 : Value}
    (a0 : PySem.W.nsIn K mainGlobals "_law_mixed" = some (some (.ref f0))) (l0 : K.lookup f0 = some ⟨oc0, od0, .func (PySem.W.fnOf "_law_mixed" "_law_mixed" (defArgs s__law_mixed) (defBody s__law_mixed) (defScope s__law_mixed) .none kV0 dc0 pm0 an0 cd0 ct0), sl0⟩) (e0 : PySem.W.codeIn K cd0 "_law_mixed" = true) (p0 : PySem.W.keepIn K (.ref f0) = true)
    (a1 : PySem.W.nsIn K mainGlobals "_law_draw" = some (some (.ref f1))) (l1 : K.lookup f1 = some ⟨oc1, od1, .func (PySem.W.fnOf "_law_draw" "_law_draw" (defArgs s__law_draw) (defBody s__law_draw) (defScope s__law_draw) .none kV1 dc1 pm1 an1 cd1 ct1), sl1⟩) (e1 : PySem.W.codeIn K cd1 "_law_draw" = true) (p1 : PySem.W.keepIn K (.ref f1) = true)
    (a2 : PySem.W.nsIn K mainGlobals "_law_digit" = some (some (.ref f2))) (l2 : K.lookup f2 = some ⟨oc2, od2, .func (PySem.W.fnOf "_law_digit" "_law_digit" (defArgs s__law_digit) (defBody s__law_digit) (defScope s__law_digit) .none kV2 dc2 pm2 an2 cd2 ct2), sl2⟩) (e2 : PySem.W.codeIn K cd2 "_law_digit" = true) (p2 : PySem.W.keepIn K (.ref f2) = true)
    (a3 : PySem.W.nsIn K mainGlobals "_law_word" = some (some (.ref f3))) (l3 : K.lookup f3 = some ⟨oc3, od3, .func (PySem.W.fnOf "_law_word" "_law_word" (defArgs s__law_word) (defBody s__law_word) (defScope s__law_word) .none kV3 dc3 pm3 an3 cd3 ct3), sl3⟩) (e3 : PySem.W.codeIn K cd3 "_law_word" = true) (p3 : PySem.W.keepIn K (.ref f3) = true)
    (a4 : PySem.W.nsIn K mainGlobals "_law_number" = some (some (.ref f4))) (l4 : K.lookup f4 = some ⟨oc4, od4, .func (PySem.W.fnOf "_law_number" "_law_number" (defArgs s__law_number) (defBody s__law_number) (defScope s__law_number) .none kV4 dc4 pm4 an4 cd4 ct4), sl4⟩) (e4 : PySem.W.codeIn K cd4 "_law_number" = true) (p4 : PySem.W.keepIn K (.ref f4) = true)
    (a5 : PySem.W.nsIn K mainGlobals "number_of" = some (some (.ref f5))) (l5 : K.lookup f5 = some ⟨oc5, od5, .func (PySem.W.fnOf "number_of" "number_of" (defArgs s_number_of) (defBody s_number_of) (defScope s_number_of) .none kV5 dc5 pm5 an5 cd5 ct5), sl5⟩) (e5 : PySem.W.codeIn K cd5 "number_of" = true) (p5 : PySem.W.keepIn K (.ref f5) = true)
    (a6 : PySem.W.nsIn K mainGlobals "is_name" = some (some (.ref f6))) (l6 : K.lookup f6 = some ⟨oc6, od6, .func (PySem.W.fnOf "is_name" "is_name" (defArgs s_is_name) (defBody s_is_name) (defScope s_is_name) .none kV6 dc6 pm6 an6 cd6 ct6), sl6⟩) (e6 : PySem.W.codeIn K cd6 "is_name" = true) (p6 : PySem.W.keepIn K (.ref f6) = true)
    (a7 : PySem.W.nsIn K mainGlobals "_law_one" = some (some (.ref f7))) (l7 : K.lookup f7 = some ⟨oc7, od7, .func (PySem.W.fnOf "_law_one" "_law_one" (defArgs s__law_one) (defBody s__law_one) (defScope s__law_one) .none kV7 dc7 pm7 an7 cd7 ct7), sl7⟩) (e7 : PySem.W.codeIn K cd7 "_law_one" = true) (p7 : PySem.W.keepIn K (.ref f7) = true)
    (a8 : PySem.W.nsIn K mainGlobals "common_divisor" = some (some (.ref f8))) (l8 : K.lookup f8 = some ⟨oc8, od8, .func (PySem.W.fnOf "common_divisor" "common_divisor" (defArgs s_common_divisor) (defBody s_common_divisor) (defScope s_common_divisor) .none kV8 dc8 pm8 an8 cd8 ct8), sl8⟩) (e8 : PySem.W.codeIn K cd8 "common_divisor" = true) (p8 : PySem.W.keepIn K (.ref f8) = true)
    (a9 : PySem.W.nsIn K mainGlobals "_law_divided" = some (some (.ref f9))) (l9 : K.lookup f9 = some ⟨oc9, od9, .func (PySem.W.fnOf "_law_divided" "_law_divided" (defArgs s__law_divided) (defBody s__law_divided) (defScope s__law_divided) .none kV9 dc9 pm9 an9 cd9 ct9), sl9⟩) (e9 : PySem.W.codeIn K cd9 "_law_divided" = true) (p9 : PySem.W.keepIn K (.ref f9) = true)
    (a10 : PySem.W.nsIn K mainGlobals "whole_root" = some (some (.ref f10))) (l10 : K.lookup f10 = some ⟨oc10, od10, .func (PySem.W.fnOf "whole_root" "whole_root" (defArgs s_whole_root) (defBody s_whole_root) (defScope s_whole_root) .none kV10 dc10 pm10 an10 cd10 ct10), sl10⟩) (e10 : PySem.W.codeIn K cd10 "whole_root" = true) (p10 : PySem.W.keepIn K (.ref f10) = true)
    (a11 : PySem.W.nsIn K mainGlobals "is_square" = some (some (.ref f11))) (l11 : K.lookup f11 = some ⟨oc11, od11, .func (PySem.W.fnOf "is_square" "is_square" (defArgs s_is_square) (defBody s_is_square) (defScope s_is_square) .none kV11 dc11 pm11 an11 cd11 ct11), sl11⟩) (e11 : PySem.W.codeIn K cd11 "is_square" = true) (p11 : PySem.W.keepIn K (.ref f11) = true)
    (a12 : PySem.W.nsIn K mainGlobals "_law_rooted" = some (some (.ref f12))) (l12 : K.lookup f12 = some ⟨oc12, od12, .func (PySem.W.fnOf "_law_rooted" "_law_rooted" (defArgs s__law_rooted) (defBody s__law_rooted) (defScope s__law_rooted) .none kV12 dc12 pm12 an12 cd12 ct12), sl12⟩) (e12 : PySem.W.codeIn K cd12 "_law_rooted" = true) (p12 : PySem.W.keepIn K (.ref f12) = true)
    (a13 : PySem.W.nsIn K mainGlobals "sign_of" = some (some (.ref f13))) (l13 : K.lookup f13 = some ⟨oc13, od13, .func (PySem.W.fnOf "sign_of" "sign_of" (defArgs s_sign_of) (defBody s_sign_of) (defScope s_sign_of) .none kV13 dc13 pm13 an13 cd13 ct13), sl13⟩) (e13 : PySem.W.codeIn K cd13 "sign_of" = true) (p13 : PySem.W.keepIn K (.ref f13) = true)
    (a14 : PySem.W.nsIn K mainGlobals "words_of" = some (some (.ref f14))) (l14 : K.lookup f14 = some ⟨oc14, od14, .func (PySem.W.fnOf "words_of" "words_of" (defArgs s_words_of) (defBody s_words_of) (defScope s_words_of) .none kV14 dc14 pm14 an14 cd14 ct14), sl14⟩) (e14 : PySem.W.codeIn K cd14 "words_of" = true) (p14 : PySem.W.keepIn K (.ref f14) = true)
    (a15 : PySem.W.nsIn K mainGlobals "is_whole" = some (some (.ref f15))) (l15 : K.lookup f15 = some ⟨oc15, od15, .func (PySem.W.fnOf "is_whole" "is_whole" (defArgs s_is_whole) (defBody s_is_whole) (defScope s_is_whole) .none kV15 dc15 pm15 an15 cd15 ct15), sl15⟩) (e15 : PySem.W.codeIn K cd15 "is_whole" = true) (p15 : PySem.W.keepIn K (.ref f15) = true)
    (a16 : PySem.W.nsIn K mainGlobals "is_among" = some (some (.ref f16))) (l16 : K.lookup f16 = some ⟨oc16, od16, .func (PySem.W.fnOf "is_among" "is_among" (defArgs s_is_among) (defBody s_is_among) (defScope s_is_among) .none kV16 dc16 pm16 an16 cd16 ct16), sl16⟩) (e16 : PySem.W.codeIn K cd16 "is_among" = true) (p16 : PySem.W.keepIn K (.ref f16) = true)
    (a17 : PySem.W.nsIn K mainGlobals "is_number" = some (some (.ref f17))) (l17 : K.lookup f17 = some ⟨oc17, od17, .func (PySem.W.fnOf "is_number" "is_number" (defArgs s_is_number) (defBody s_is_number) (defScope s_is_number) .none kV17 dc17 pm17 an17 cd17 ct17), sl17⟩) (e17 : PySem.W.codeIn K cd17 "is_number" = true) (p17 : PySem.W.keepIn K (.ref f17) = true)
    (a18 : PySem.W.nsIn K mainGlobals "_law_row" = some (some (.ref f18))) (l18 : K.lookup f18 = some ⟨oc18, od18, .func (PySem.W.fnOf "_law_row" "_law_row" (defArgs s__law_row) (defBody s__law_row) (defScope s__law_row) .none kV18 dc18 pm18 an18 cd18 ct18), sl18⟩) (e18 : PySem.W.codeIn K cd18 "_law_row" = true) (p18 : PySem.W.keepIn K (.ref f18) = true)
    (a19 : PySem.W.nsIn K mainGlobals "law" = some (some (.ref f19))) (l19 : K.lookup f19 = some ⟨oc19, od19, .func (PySem.W.fnOf "law" "law" (defArgs s_law) (defBody s_law) (defScope s_law) .none kV19 dc19 pm19 an19 cd19 ct19), sl19⟩) (e19 : PySem.W.codeIn K cd19 "law" = true) (p19 : PySem.W.keepIn K (.ref f19) = true)
    {t0 : PySem.Tok} (kc0 : PySem.W.nsIn K mainGlobals "MOST_FIGURES" = some (some (.int 40 t0)))
    {t1 : PySem.Tok} (kc1 : PySem.W.nsIn K mainGlobals "FIGURES" = some (some (.str "0123456789" t1)))
    {t2 : PySem.Tok} (kc2 : PySem.W.nsIn K mainGlobals "MOST_LETTERS" = some (some (.int 8 t2)))
    {t3 : PySem.Tok} (kc3 : PySem.W.nsIn K mainGlobals "LETTERS" = some (some (.str "abcdefghijklmnopqrstuvwxyz" t3)))
    (z0 : PySem.W.nsIn K mainGlobals "abs" = some none) (z1 : PySem.W.nsIn K mainGlobals "all" = some none) (z2 : PySem.W.nsIn K mainGlobals "bool" = some none) (z3 : PySem.W.nsIn K mainGlobals "enumerate" = some none) (z4 : PySem.W.nsIn K mainGlobals "int" = some none) (z5 : PySem.W.nsIn K mainGlobals "isinstance" = some none) (z6 : PySem.W.nsIn K mainGlobals "len" = some none) (z7 : PySem.W.nsIn K mainGlobals "list" = some none) (z8 : PySem.W.nsIn K mainGlobals "range" = some none) (z9 : PySem.W.nsIn K mainGlobals "repr" = some none) (z10 : PySem.W.nsIn K mainGlobals "str" = some none) (z11 : PySem.W.nsIn K mainGlobals "sum" = some none) :
    ∃ fd : FuncData, (∀ (s : Shared) (v : Value), BindsTo s fd ⟨[v], []⟩ [("_law_script", v)]) ∧ ∀ base : Heap, K.In base → base.Ns mainGlobals mg → FnAt callerA l.prog w K mg base 4 fa fd ["_law_script"] (lF K f_law) := by
  have e := hfa.symm.trans (PySem.W.mg_of X G a19)
  cases e
  have bg : ∀ x, x ∈ blts → mg x = none := fun x hx => by
    unfold blts at hx
    simp only [List.mem_cons, List.not_mem_nil, or_false] at hx
    rcases hx with rfl | rfl | rfl | rfl | rfl | rfl | rfl | rfl | rfl | rfl | rfl | rfl
    · exact PySem.W.mg_none_of X G z0
    · exact PySem.W.mg_none_of X G z1
    · exact PySem.W.mg_none_of X G z2
    · exact PySem.W.mg_none_of X G z3
    · exact PySem.W.mg_none_of X G z4
    · exact PySem.W.mg_none_of X G z5
    · exact PySem.W.mg_none_of X G z6
    · exact PySem.W.mg_none_of X G z7
    · exact PySem.W.mg_none_of X G z8
    · exact PySem.W.mg_none_of X G z9
    · exact PySem.W.mg_none_of X G z10
    · exact PySem.W.mg_none_of X G z11
  have k_MOST_FIGURES : Kon K mg "MOST_FIGURES" d_MOST_FIGURES := ⟨_, (.int 40), PySem.W.mg_of X G kc0, ⟨_, rfl⟩, fun _ _ _ => rfl⟩
  have k_FIGURES : Kon K mg "FIGURES" d_FIGURES := ⟨_, (.str "0123456789"), PySem.W.mg_of X G kc1, ⟨_, rfl⟩, fun _ _ _ => rfl⟩
  have k_MOST_LETTERS : Kon K mg "MOST_LETTERS" d_MOST_LETTERS := ⟨_, (.int 8), PySem.W.mg_of X G kc2, ⟨_, rfl⟩, fun _ _ _ => rfl⟩
  have k_LETTERS : Kon K mg "LETTERS" d_LETTERS := ⟨_, (.str "abcdefghijklmnopqrstuvwxyz"), PySem.W.mg_of X G kc3, ⟨_, rfl⟩, fun _ _ _ => rfl⟩
  refine ⟨PySem.W.fnOf "law" "law" (defArgs s_law) (defBody s_law) (defScope s_law) .none kV19 dc19 pm19 an19 cd19 ct19, fun s v => .of_eq rfl, fun base _ _ => ?_⟩
  have F0 := fun_mk (st := s__law_mixed) l0 e0 p0
  have o0 := ok__law_mixed (P := l.prog) (w := w) (mg := mg) (base := base) (k := 0) F0 bg
  have c__law_mixed : Cal l.prog w K mg base 1 "_law_mixed" f__law_mixed := cal_of o0 (PySem.W.mg_of X G a0) p0 (F0.binds fun _ _ _ _ _ _ us hl => match us, hl with | [_, _], _ => rfl)
  have F1 := fun_mk (st := s__law_draw) l1 e1 p1
  have o1 := ok__law_draw (P := l.prog) (w := w) (mg := mg) (base := base) (k := 1) F1 bg (c__law_mixed.mono (by decide))
  have c__law_draw : Cal l.prog w K mg base 2 "_law_draw" f__law_draw := cal_of o1 (PySem.W.mg_of X G a1) p1 (F1.binds fun _ _ _ _ _ _ us hl => match us, hl with | [_, _], _ => rfl)
  have F2 := fun_mk (st := s__law_digit) l2 e2 p2
  have o2 := ok__law_digit (P := l.prog) (w := w) (mg := mg) (base := base) (k := 0) F2 bg
  have c__law_digit : Cal l.prog w K mg base 1 "_law_digit" f__law_digit := cal_of o2 (PySem.W.mg_of X G a2) p2 (F2.binds fun _ _ _ _ _ _ us hl => match us, hl with | [_, _], _ => rfl)
  have F3 := fun_mk (st := s__law_word) l3 e3 p3
  have o3 := ok__law_word (P := l.prog) (w := w) (mg := mg) (base := base) (k := 1) F3 bg (c__law_digit.mono (by decide))
  have c__law_word : Cal l.prog w K mg base 2 "_law_word" f__law_word := cal_of o3 (PySem.W.mg_of X G a3) p3 (F3.binds fun _ _ _ _ _ _ us hl => match us, hl with | [_, _], _ => rfl)
  have F4 := fun_mk (st := s__law_number) l4 e4 p4
  have o4 := ok__law_number (P := l.prog) (w := w) (mg := mg) (base := base) (k := 0) F4 bg
  have c__law_number : Cal l.prog w K mg base 1 "_law_number" f__law_number := cal_of o4 (PySem.W.mg_of X G a4) p4 (F4.binds fun _ _ _ _ _ _ us hl => match us, hl with | [_], _ => rfl)
  have F5 := fun_mk (st := s_number_of) l5 e5 p5
  have o5 := ok_number_of (P := l.prog) (w := w) (mg := mg) (base := base) (k := 0) F5 bg k_MOST_FIGURES k_FIGURES
  have c_number_of : Cal l.prog w K mg base 1 "number_of" f_number_of := cal_of o5 (PySem.W.mg_of X G a5) p5 (F5.binds fun _ _ _ _ _ _ us hl => match us, hl with | [_], _ => rfl)
  have F6 := fun_mk (st := s_is_name) l6 e6 p6
  have o6 := ok_is_name (P := l.prog) (w := w) (mg := mg) (base := base) (k := 0) F6 bg k_MOST_LETTERS k_LETTERS
  have c_is_name : Cal l.prog w K mg base 1 "is_name" f_is_name := cal_of o6 (PySem.W.mg_of X G a6) p6 (F6.binds fun _ _ _ _ _ _ us hl => match us, hl with | [_], _ => rfl)
  have F7 := fun_mk (st := s__law_one) l7 e7 p7
  have o7 := ok__law_one (P := l.prog) (w := w) (mg := mg) (base := base) (k := 1) F7 bg (c__law_number.mono (by decide)) (c_number_of.mono (by decide)) (c_is_name.mono (by decide))
  have c__law_one : Cal l.prog w K mg base 2 "_law_one" f__law_one := cal_of o7 (PySem.W.mg_of X G a7) p7 (F7.binds fun _ _ _ _ _ _ us hl => match us, hl with | [_], _ => rfl)
  have F8 := fun_mk (st := s_common_divisor) l8 e8 p8
  have o8 := ok_common_divisor (P := l.prog) (w := w) (mg := mg) (base := base) (k := 0) F8 bg
  have c_common_divisor : Cal l.prog w K mg base 1 "common_divisor" f_common_divisor := cal_of o8 (PySem.W.mg_of X G a8) p8 (F8.binds fun _ _ _ _ _ _ us hl => match us, hl with | [_, _], _ => rfl)
  have F9 := fun_mk (st := s__law_divided) l9 e9 p9
  have o9 := ok__law_divided (P := l.prog) (w := w) (mg := mg) (base := base) (k := 1) F9 bg (c_common_divisor.mono (by decide))
  have c__law_divided : Cal l.prog w K mg base 2 "_law_divided" f__law_divided := cal_of o9 (PySem.W.mg_of X G a9) p9 (F9.binds fun _ _ _ _ _ _ us hl => match us, hl with | [_, _], _ => rfl)
  have F10 := fun_mk (st := s_whole_root) l10 e10 p10
  have o10 := ok_whole_root (P := l.prog) (w := w) (mg := mg) (base := base) (k := 0) F10 bg
  have c_whole_root : Cal l.prog w K mg base 1 "whole_root" f_whole_root := cal_of o10 (PySem.W.mg_of X G a10) p10 (F10.binds fun _ _ _ _ _ _ us hl => match us, hl with | [_], _ => rfl)
  have F11 := fun_mk (st := s_is_square) l11 e11 p11
  have o11 := ok_is_square (P := l.prog) (w := w) (mg := mg) (base := base) (k := 1) F11 bg (c_whole_root.mono (by decide))
  have c_is_square : Cal l.prog w K mg base 2 "is_square" f_is_square := cal_of o11 (PySem.W.mg_of X G a11) p11 (F11.binds fun _ _ _ _ _ _ us hl => match us, hl with | [_], _ => rfl)
  have F12 := fun_mk (st := s__law_rooted) l12 e12 p12
  have o12 := ok__law_rooted (P := l.prog) (w := w) (mg := mg) (base := base) (k := 2) F12 bg (c_whole_root.mono (by decide)) (c_is_square.mono (by decide))
  have c__law_rooted : Cal l.prog w K mg base 3 "_law_rooted" f__law_rooted := cal_of o12 (PySem.W.mg_of X G a12) p12 (F12.binds fun _ _ _ _ _ _ us hl => match us, hl with | [_], _ => rfl)
  have F13 := fun_mk (st := s_sign_of) l13 e13 p13
  have o13 := ok_sign_of (P := l.prog) (w := w) (mg := mg) (base := base) (k := 0) F13 bg
  have c_sign_of : Cal l.prog w K mg base 1 "sign_of" f_sign_of := cal_of o13 (PySem.W.mg_of X G a13) p13 (F13.binds fun _ _ _ _ _ _ us hl => match us, hl with | [_], _ => rfl)
  have F14 := fun_mk (st := s_words_of) l14 e14 p14
  have o14 := ok_words_of (P := l.prog) (w := w) (mg := mg) (base := base) (k := 0) F14 bg
  have c_words_of : Cal l.prog w K mg base 1 "words_of" f_words_of := cal_of o14 (PySem.W.mg_of X G a14) p14 (F14.binds fun _ _ _ _ _ _ us hl => match us, hl with | [_], _ => rfl)
  have F15 := fun_mk (st := s_is_whole) l15 e15 p15
  have o15 := ok_is_whole (P := l.prog) (w := w) (mg := mg) (base := base) (k := 0) F15 bg
  have c_is_whole : Cal l.prog w K mg base 1 "is_whole" f_is_whole := cal_of o15 (PySem.W.mg_of X G a15) p15 (F15.binds fun _ _ _ _ _ _ us hl => match us, hl with | [_], _ => rfl)
  have F16 := fun_mk (st := s_is_among) l16 e16 p16
  have o16 := ok_is_among (P := l.prog) (w := w) (mg := mg) (base := base) (k := 1) F16 bg (c_is_whole.mono (by decide))
  have c_is_among : Cal l.prog w K mg base 2 "is_among" f_is_among := cal_of o16 (PySem.W.mg_of X G a16) p16 (F16.binds fun _ _ _ _ _ _ us hl => match us, hl with | [_, _, _], _ => rfl)
  have F17 := fun_mk (st := s_is_number) l17 e17 p17
  have o17 := ok_is_number (P := l.prog) (w := w) (mg := mg) (base := base) (k := 0) F17 bg
  have c_is_number : Cal l.prog w K mg base 1 "is_number" f_is_number := cal_of o17 (PySem.W.mg_of X G a17) p17 (F17.binds fun _ _ _ _ _ _ us hl => match us, hl with | [_], _ => rfl)
  have F18 := fun_mk (st := s__law_row) l18 e18 p18
  have o18 := ok__law_row (P := l.prog) (w := w) (mg := mg) (base := base) (k := 1) F18 bg (c_words_of.mono (by decide))
  have c__law_row : Cal l.prog w K mg base 2 "_law_row" f__law_row := cal_of o18 (PySem.W.mg_of X G a18) p18 (F18.binds fun _ _ _ _ _ _ us hl => match us, hl with | [_, _], _ => rfl)
  have F19 := fun_mk (st := s_law) l19 e19 p19
  have o19 := fun (A : Around) (hA : A.guards = some []) => ok_law (P := l.prog) (w := w) (mg := mg) (base := base) (k := 3) hA F19 bg (c__law_draw.mono (by decide)) (c__law_digit.mono (by decide)) (c__law_word.mono (by decide)) (c__law_one.mono (by decide)) (c__law_divided.mono (by decide)) (c__law_rooted.mono (by decide)) (c_sign_of.mono (by decide)) (c_number_of.mono (by decide)) (c_words_of.mono (by decide)) (c_is_name.mono (by decide)) (c_is_among.mono (by decide)) (c_is_number.mono (by decide)) (c_is_whole.mono (by decide)) (c__law_mixed.mono (by decide)) (c__law_row.mono (by decide))
  exact o19 callerA rfl
theorem enter {K : PySem.W.Frag} {H : Hp} {a : Addr} {E : XK} (ns : List Int) (hl : ns.length ≤ 63) (hb : ∀ z ∈ ns, Builtin.Int.intBits z ≤ 1048576) (ho : Only H) (hS : SqL K H a (ns.map V.int)) : lF K f_law [.ref a] H (fun v _ => v = .bl true) E :=
  have ⟨_, e⟩ := law_ok ns hl hb
  enter_of ho hS e
end K01
open PySem PySem.W PyProof.Rows
local macro_rules | `(tactic| walk_at "kd") => `(tactic| (repeat' (first | exact SL.KD.int | exact SL.KD.str | exact SL.KD.non | exact SL.KD.bl | exact SL.KDs.nil | apply SL.KDs.cons | (refine' SL.KD.tup ?hk ?ht ?hd ?hs ?h; (case hk => k_is); (case ht => exact rfl); (case hd => exact rfl); (case hs => decide)))))
set_option maxHeartbeats 0 in
theorem PySem.Challenge.cw_nearways_k01_words_and_numbers_holds : PySem.Challenge.rw_nearways_k01_words_and_numbers.Holds := by
  w_on; o_law; k_head; (case hw => w_witness2)
  k_fill
  refine SL.walk_at_lawB (l := PySem.Challenge.rw_nearways_k01_words_and_numbers) (n := 63) (k := 4) (x := "_law_script") (sp := fun w => SL.lF _ K01.f_law) rfl (by decide) rfl ⟨rfl, by decide, by decide⟩ (fun w h Y => PySem.W.kIn_of Y) ?F (fun _ H a ns hl hb ho hS => K01.enter ns hl hb ho hS)
  case F =>
    intro w mg fa h KX G hmg
    refine' K01.all_mk KX G hmg ?a0 ?l0 ?e0 ?p0 ?a1 ?l1 ?e1 ?p1 ?a2 ?l2 ?e2 ?p2 ?a3 ?l3 ?e3 ?p3 ?a4 ?l4 ?e4 ?p4 ?a5 ?l5 ?e5 ?p5 ?a6 ?l6 ?e6 ?p6 ?a7 ?l7 ?e7 ?p7 ?a8 ?l8 ?e8 ?p8 ?a9 ?l9 ?e9 ?p9 ?a10 ?l10 ?e10 ?p10 ?a11 ?l11 ?e11 ?p11 ?a12 ?l12 ?e12 ?p12 ?a13 ?l13 ?e13 ?p13 ?a14 ?l14 ?e14 ?p14 ?a15 ?l15 ?e15 ?p15 ?a16 ?l16 ?e16 ?p16 ?a17 ?l17 ?e17 ?p17 ?a18 ?l18 ?e18 ?p18 ?a19 ?l19 ?e19 ?p19 ?kc0 ?kc1 ?kc2 ?kc3 ?z0 ?z1 ?z2 ?z3 ?z4 ?z5 ?z6 ?z7 ?z8 ?z9 ?z10 ?z11
    (case a0 => k_is); (case l0 => k_is); (case e0 => k_is); (case p0 => k_is)
    (case a1 => k_is); (case l1 => k_is); (case e1 => k_is); (case p1 => k_is)
    (case a2 => k_is); (case l2 => k_is); (case e2 => k_is); (case p2 => k_is)
    (case a3 => k_is); (case l3 => k_is); (case e3 => k_is); (case p3 => k_is)
    (case a4 => k_is); (case l4 => k_is); (case e4 => k_is); (case p4 => k_is)
    (case a5 => k_is); (case l5 => k_is); (case e5 => k_is); (case p5 => k_is)
    (case a6 => k_is); (case l6 => k_is); (case e6 => k_is); (case p6 => k_is)
    (case a7 => k_is); (case l7 => k_is); (case e7 => k_is); (case p7 => k_is)
    (case a8 => k_is); (case l8 => k_is); (case e8 => k_is); (case p8 => k_is)
    (case a9 => k_is); (case l9 => k_is); (case e9 => k_is); (case p9 => k_is)
    (case a10 => k_is); (case l10 => k_is); (case e10 => k_is); (case p10 => k_is)
    (case a11 => k_is); (case l11 => k_is); (case e11 => k_is); (case p11 => k_is)
    (case a12 => k_is); (case l12 => k_is); (case e12 => k_is); (case p12 => k_is)
    (case a13 => k_is); (case l13 => k_is); (case e13 => k_is); (case p13 => k_is)
    (case a14 => k_is); (case l14 => k_is); (case e14 => k_is); (case p14 => k_is)
    (case a15 => k_is); (case l15 => k_is); (case e15 => k_is); (case p15 => k_is)
    (case a16 => k_is); (case l16 => k_is); (case e16 => k_is); (case p16 => k_is)
    (case a17 => k_is); (case l17 => k_is); (case e17 => k_is); (case p17 => k_is)
    (case a18 => k_is); (case l18 => k_is); (case e18 => k_is); (case p18 => k_is)
    (case a19 => k_is); (case l19 => k_is); (case e19 => k_is); (case p19 => k_is)
    (case kc0 => k_is)
    (case kc1 => k_is)
    (case kc2 => k_is)
    (case kc3 => k_is)
    (case z0 => k_is); (case z1 => k_is); (case z2 => k_is); (case z3 => k_is); (case z4 => k_is); (case z5 => k_is); (case z6 => k_is); (case z7 => k_is); (case z8 => k_is); (case z9 => k_is); (case z10 => k_is); (case z11 => k_is)
