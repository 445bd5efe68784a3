import PyProof.Rows.All
import Wide.All
import OpenK.AllK
import Wide.FinOn
import HandS.ForExc
import HandS.Comp
import HandS.Iter
import HandS.Wide
import HandS.Lambda
import HandS.IsInst
import HandS.SortInts
import HandS.SetFor
import HandS.More
import HandS.EndBits
import HandS.ExcIs
import HandS.Conv
import HandS.Remove
import HandS.RevTup
import HandS.Rev
import HandS.HotCalls
import HandS.SortKw
import HandS.ForDict
import KE.SortData
import KE.SortKeyHeap
import HandS.TryOnly
import HandS.TupLe
import KE.KLam
import KE.KNestM
import HandS.EndTab
import HandS.Codes
import HandS.Text
import PySem.Challenge.RW_quits_k17_whole_the_least_is_left
set_option Elab.async false
set_option linter.all false
set_option maxRecDepth 100000
set_option maxHeartbeats 8000000
namespace Ab
open PySem PySem.Spec PyProof.Rows L2

inductive D where
  | non | bl (b : Bool) | int (i : Int) | str (s : Str) | tup (xs : List D) | lst (xs : List D) | scr (xs : List D) | cell (n : Nat) | exn (a : Addr) (c : Str)
inductive Cel where
  | lst (xs : List D) | obj (C : Str) (fs : List (Str × D)) | dk (kvs : List (Key × D)) | dt (kvs : List (List Key × D)) | dkf (o : Obj) (xs : List (Key × V)) (kvs : List (Key × D)) | dtf (o : Obj) (xs : List (List Key × V)) (kvs : List (List Key × D)) | tab (P : Addr) (q : Str) | dead
abbrev Env := List (Option D)
abbrev Sto := List Cel
abbrev KD := D → Sto → Prop
abbrev XD := Str → Sto → Prop
abbrev XE := Str → Env → Sto → Prop

mutual
def D.pure : D → Bool
  | .non => true
  | .bl _ => true
  | .int _ => true
  | .str _ => true
  | .tup xs => pureAll xs
  | .lst xs => pureAll xs
  | .scr xs => pureAll xs
  | .cell _ => false
  | .exn .. => false
def pureAll : List D → Bool
  | [] => true
  | x :: xs => x.pure && pureAll xs
end

structure Gi where
  cl : Str → Addr

section
variable (K : PySem.W.Frag) (H0 : Hp) (r : List Addr)
mutual
def Rel : D → V → Prop
  | .non, v => v = .non
  | .bl b, v => v = .bl b
  | .int i, v => v = .int i
  | .str s, v => v = .str s
  | .tup ds, v => ∃ a xs, v = .ref a ∧ SqT K H0 a xs ∧ Rels ds xs
  | .lst ds, v => ∃ a xs, v = .ref a ∧ Rd H0 a (.lst xs) ∧ Rels ds xs
  | .scr ds, v => ∃ a xs, v = .ref a ∧ SqL K H0 a xs ∧ Rels ds xs
  | .cell n, v => ∃ a, v = .ref a ∧ r[n]? = some a
  | .exn a _, v => v = .ref a
def Rels : List D → List V → Prop
  | [], xs => xs = []
  | d :: ds, xs => ∃ y ys, xs = y :: ys ∧ Rel d y ∧ Rels ds ys
end
end

def Ex (H H' : Hp) : Prop := ∀ a o, H a = some o → H' a = some o
theorem Ex.refl (H : Hp) : Ex H H := fun _ _ h => h
theorem Ex.trans {H H1 H2 : Hp} (a : Ex H H1) (b : Ex H1 H2) : Ex H H2 := fun x o h => b x o (a x o h)
theorem Ex.new {H : Hp} {p : Addr} {o : HO} (h : H p = none) : Ex H (upd H p o) := fun a u e => by
  rw [upd_ne (ne_of_none e h)]
  exact e
theorem Ex.none {H H' : Hp} {p : Addr} (e : Ex H H') (h : H' p = none) : H p = none := by
  cases h1 : H p with
  | none => rfl
  | some o =>
    rw [e p o h1] at h
    cases h
theorem Ex.rd {H H' : Hp} {a : Addr} {u : HO} (e : Ex H H') (h : Rd H a u) : Rd H' a u := by
  rcases h with h | ⟨o, h⟩
  · exact .inl (e a _ h)
  · exact .inr ⟨o, e a _ h⟩
theorem Ex.sql {K : PySem.W.Frag} {H H' : Hp} {a : Addr} {xs : List V} (e : Ex H H') (h : SqL K H a xs) : SqL K H' a xs := by
  rcases h with h | h
  · exact .inl (e.rd h)
  · exact .inr h
theorem Ex.sqt {K : PySem.W.Frag} {H H' : Hp} {a : Addr} {xs : List V} (e : Ex H H') (h : SqT K H a xs) : SqT K H' a xs := by
  rcases h with h | h
  · exact .inl (e.rd h)
  · exact .inr h

section
variable {K : PySem.W.Frag} {H0 H0' : Hp} {r r' : List Addr}
theorem pre_get {α : Type} {l l' : List α} (h : l <+: l') {n : Nat} {a : α} (e : l[n]? = some a) : l'[n]? = some a := by
  obtain ⟨t, rfl⟩ := h
  have : n < l.length := (List.getElem?_eq_some_iff.mp e).1
  rw [List.getElem?_append_left this]
  exact e
mutual
theorem Rel.mono (e : Ex H0 H0') (p : r <+: r') : ∀ {d : D} {v : V}, Rel K H0 r d v → Rel K H0' r' d v
  | .non, _, h => by unfold Rel at h ⊢; exact h
  | .bl _, _, h => by unfold Rel at h ⊢; exact h
  | .int _, _, h => by unfold Rel at h ⊢; exact h
  | .str _, _, h => by unfold Rel at h ⊢; exact h
  | .tup ds, _, h => by
    unfold Rel at h ⊢
    obtain ⟨a, xs, rfl, h1, h2⟩ := h
    exact ⟨a, xs, rfl, e.sqt h1, Rels.mono e p h2⟩
  | .lst ds, _, h => by
    unfold Rel at h ⊢
    obtain ⟨a, xs, rfl, h1, h2⟩ := h
    exact ⟨a, xs, rfl, e.rd h1, Rels.mono e p h2⟩
  | .scr ds, _, h => by
    unfold Rel at h ⊢
    obtain ⟨a, xs, rfl, h1, h2⟩ := h
    exact ⟨a, xs, rfl, e.sql h1, Rels.mono e p h2⟩
  | .cell n, _, h => by
    unfold Rel at h ⊢
    obtain ⟨a, rfl, h1⟩ := h
    exact ⟨a, rfl, pre_get p h1⟩
  | .exn ..,  _, h => by unfold Rel at h ⊢; exact h
theorem Rels.mono (e : Ex H0 H0') (p : r <+: r') : ∀ {ds : List D} {vs : List V}, Rels K H0 r ds vs → Rels K H0' r' ds vs
  | [], _, h => by unfold Rels at h ⊢; exact h
  | d :: ds, _, h => by
    unfold Rels at h ⊢
    obtain ⟨y, ys, rfl, h1, h2⟩ := h
    exact ⟨y, ys, rfl, Rel.mono e p h1, Rels.mono e p h2⟩
end
theorem Rels.length : ∀ {ds : List D} {vs : List V}, Rels K H0 r ds vs → vs.length = ds.length
  | [], _, h => by unfold Rels at h; subst h; rfl
  | d :: ds, _, h => by
    unfold Rels at h
    obtain ⟨y, ys, rfl, h1, h2⟩ := h
    rw [List.length_cons, List.length_cons, Rels.length h2]
theorem Rels.nil : Rels K H0 r [] [] := by unfold Rels; rfl
theorem Rels.cons {d : D} {ds : List D} {v : V} {vs : List V} (h : Rel K H0 r d v) (h2 : Rels K H0 r ds vs) : Rels K H0 r (d :: ds) (v :: vs) := by
  unfold Rels; exact ⟨v, vs, rfl, h, h2⟩
theorem Rels.uncons {d : D} {ds : List D} {vs : List V} (h : Rels K H0 r (d :: ds) vs) : ∃ y ys, vs = y :: ys ∧ Rel K H0 r d y ∧ Rels K H0 r ds ys := by
  unfold Rels at h; exact h
theorem Rels.unnil {vs : List V} (h : Rels K H0 r [] vs) : vs = [] := by
  unfold Rels at h; exact h
theorem Rels.get : ∀ {ds : List D} {vs : List V} {i : Nat} {d : D}, Rels K H0 r ds vs → ds[i]? = some d → ∃ v, vs[i]? = some v ∧ Rel K H0 r d v
  | [], _, _, _, _, e => by simp at e
  | x :: ds, _, 0, d, h, e => by
    obtain ⟨y, ys, rfl, h1, h2⟩ := h.uncons
    simp at e; subst e
    exact ⟨y, rfl, h1⟩
  | x :: ds, _, i + 1, d, h, e => by
    obtain ⟨y, ys, rfl, h1, h2⟩ := h.uncons
    simp at e
    obtain ⟨v, e1, e2⟩ := Rels.get h2 e
    exact ⟨v, by simpa using e1, e2⟩
theorem Rels.get' : ∀ {ds : List D} {vs : List V} {i : Nat} {v : V}, Rels K H0 r ds vs → vs[i]? = some v → ∃ d, ds[i]? = some d ∧ Rel K H0 r d v
  | [], _, _, _, h, e => by rw [h.unnil] at e; simp at e
  | x :: ds, _, 0, d, h, e => by
    obtain ⟨y, ys, rfl, h1, h2⟩ := h.uncons
    simp at e; subst e
    exact ⟨x, rfl, h1⟩
  | x :: ds, _, i + 1, d, h, e => by
    obtain ⟨y, ys, rfl, h1, h2⟩ := h.uncons
    simp at e
    obtain ⟨v, e1, e2⟩ := Rels.get' h2 e
    exact ⟨v, by simpa using e1, e2⟩
theorem Rels.append : ∀ {ds es : List D} {vs ws : List V}, Rels K H0 r ds vs → Rels K H0 r es ws → Rels K H0 r (ds ++ es) (vs ++ ws)
  | [], es, vs, ws, h, h2 => by rw [h.unnil]; exact h2
  | d :: ds, es, vs, ws, h, h2 => by
    obtain ⟨y, ys, rfl, h1, h3⟩ := h.uncons
    exact Rels.cons h1 (Rels.append h3 h2)
theorem Rels.set : ∀ {ds : List D} {vs : List V} {d : D} {v : V} (i : Nat), Rels K H0 r ds vs → Rel K H0 r d v → Rels K H0 r (ds.set i d) (vs.set i v)
  | [], _, _, _, _, h, _ => by rw [h.unnil]; exact Rels.nil
  | x :: ds, _, d, v, 0, h, h2 => by
    obtain ⟨y, ys, rfl, h1, h3⟩ := h.uncons
    exact Rels.cons h2 h3
  | x :: ds, _, d, v, i + 1, h, h2 => by
    obtain ⟨y, ys, rfl, h1, h3⟩ := h.uncons
    exact Rels.cons h1 (Rels.set i h3 h2)
theorem Rels.take : ∀ {ds : List D} {vs : List V} (n : Nat), Rels K H0 r ds vs → Rels K H0 r (ds.take n) (vs.take n)
  | [], _, n, h => by rw [h.unnil]; simp; exact Rels.nil
  | x :: ds, _, 0, h => by simp; exact Rels.nil
  | x :: ds, _, n + 1, h => by
    obtain ⟨y, ys, rfl, h1, h3⟩ := h.uncons
    exact Rels.cons h1 (Rels.take n h3)
theorem Rels.drop : ∀ {ds : List D} {vs : List V} (n : Nat), Rels K H0 r ds vs → Rels K H0 r (ds.drop n) (vs.drop n)
  | [], _, n, h => by rw [h.unnil]; simp; exact Rels.nil
  | x :: ds, _, 0, h => by simpa using h
  | x :: ds, _, n + 1, h => by
    obtain ⟨y, ys, rfl, h1, h3⟩ := h.uncons
    exact Rels.drop n h3
theorem Rels.reverse : ∀ {ds : List D} {vs : List V}, Rels K H0 r ds vs → Rels K H0 r ds.reverse vs.reverse
  | [], _, h => by rw [h.unnil]; exact Rels.nil
  | x :: ds, _, h => by
    obtain ⟨y, ys, rfl, h1, h3⟩ := h.uncons
    rw [List.reverse_cons, List.reverse_cons]
    exact (Rels.reverse h3).append (Rels.cons h1 Rels.nil)
theorem Rels.ints : ∀ {ns : List Int} {vs : List V}, Rels K H0 r (ns.map D.int) vs ↔ vs = ns.map V.int
  | [], vs => ⟨fun h => h.unnil, fun h => by rw [h]; exact Rels.nil⟩
  | n :: ns, vs => by
    constructor
    · intro h
      obtain ⟨y, ys, rfl, h1, h3⟩ := Rels.uncons h
      unfold Rel at h1
      rw [Rels.ints.mp h3, h1]
      rfl
    · intro h
      subst h
      refine Rels.cons ?_ (Rels.ints.mpr rfl)
      unfold Rel
      rfl
mutual
theorem Rel.of_pure : ∀ {d : D} {v : V}, d.pure = true → Rel K H0 r d v → Rel K H0 r' d v
  | .non, _, _, h => by unfold Rel at h ⊢; exact h
  | .bl _, _, _, h => by unfold Rel at h ⊢; exact h
  | .int _, _, _, h => by unfold Rel at h ⊢; exact h
  | .str _, _, _, h => by unfold Rel at h ⊢; exact h
  | .tup ds, _, p, h => by
    unfold Rel at h ⊢
    obtain ⟨a, xs, rfl, h1, h2⟩ := h
    exact ⟨a, xs, rfl, h1, Rels.of_pure (by unfold D.pure at p; exact p) h2⟩
  | .lst ds, _, p, h => by
    unfold Rel at h ⊢
    obtain ⟨a, xs, rfl, h1, h2⟩ := h
    exact ⟨a, xs, rfl, h1, Rels.of_pure (by unfold D.pure at p; exact p) h2⟩
  | .scr ds, _, p, h => by
    unfold Rel at h ⊢
    obtain ⟨a, xs, rfl, h1, h2⟩ := h
    exact ⟨a, xs, rfl, h1, Rels.of_pure (by unfold D.pure at p; exact p) h2⟩
  | .cell n, _, p, h => by unfold D.pure at p; cases p
  | .exn ..,  _, p, h => by unfold D.pure at p; cases p
theorem Rels.of_pure : ∀ {ds : List D} {vs : List V}, pureAll ds = true → Rels K H0 r ds vs → Rels K H0 r' ds vs
  | [], _, _, h => by rw [h.unnil]; exact Rels.nil
  | d :: ds, _, p, h => by
    unfold pureAll at p
    rw [Bool.and_eq_true] at p
    obtain ⟨y, ys, rfl, h1, h3⟩ := h.uncons
    exact Rels.cons (Rel.of_pure p.1 h1) (Rels.of_pure p.2 h3)
end
end

def RelF (K : PySem.W.Frag) (H0 : Hp) (r : List Addr) : List (Str × D) → List (Str × V) → Prop
  | [], xs => xs = []
  | (f, d) :: ds, xs => ∃ y ys, xs = (f, y) :: ys ∧ Rel K H0 r d y ∧ RelF K H0 r ds ys
def RelK {κ : Type} (K : PySem.W.Frag) (H0 : Hp) (r : List Addr) : List (κ × D) → List (κ × V) → Prop
  | [], xs => xs = []
  | (f, d) :: ds, xs => ∃ y ys, xs = (f, y) :: ys ∧ Rel K H0 r d y ∧ RelK K H0 r ds ys
theorem RelF.mono {K : PySem.W.Frag} {H0 H0' : Hp} {r r' : List Addr} (e : Ex H0 H0') (p : r <+: r') : ∀ {ds : List (Str × D)} {vs : List (Str × V)}, RelF K H0 r ds vs → RelF K H0' r' ds vs
  | [], _, h => h
  | (f, d) :: ds, _, h => by
    obtain ⟨y, ys, rfl, h1, h2⟩ := h
    exact ⟨y, ys, rfl, h1.mono e p, RelF.mono e p h2⟩
theorem RelK.mono {κ : Type} {K : PySem.W.Frag} {H0 H0' : Hp} {r r' : List Addr} (e : Ex H0 H0') (p : r <+: r') : ∀ {ds : List (κ × D)} {vs : List (κ × V)}, RelK K H0 r ds vs → RelK K H0' r' ds vs
  | [], _, h => h
  | (f, d) :: ds, _, h => by
    obtain ⟨y, ys, rfl, h1, h2⟩ := h
    exact ⟨y, ys, rfl, h1.mono e p, RelK.mono e p h2⟩

def CelOk (K : PySem.W.Frag) (g : Gi) (H0 : Hp) (r : List Addr) (H : Hp) (a : Addr) : Cel → Prop
  | .lst ds => H0 a = none ∧ ∃ xs, H a = some (.lst xs) ∧ Rels K H0 r ds xs
  | .obj C fs => H0 a = none ∧ ∃ dx xs, H a = some (.ins (g.cl C) dx xs) ∧ RelF K H0 r fs xs
  | .dk kvs => H0 a = none ∧ ∃ xs, H a = some (.dK xs) ∧ RelK K H0 r kvs xs
  | .dt kvs => H0 a = none ∧ ∃ xs, H a = some (.dT xs) ∧ RelK K H0 r kvs xs
  | .dkf o xs kvs => H0 a = none ∧ H a = some (.frz o (.dK xs)) ∧ RelK K H0 r kvs xs
  | .dtf o xs kvs => H0 a = none ∧ H a = some (.frz o (.dT xs)) ∧ RelK K H0 r kvs xs
  | .tab _ q => a = g.cl q ∧ H0 a = none ∧ ∃ ps : Array Value, H a = some (.tbl ps) ∧ TriplesOk ps.toList ∧ ∀ (pos : Pos) (cv : Value), codeAmong pos ps.toList = some cv → ∃ c, cv = .ref c ∧ H0 c = some (LamX.CodeO c q)
  | .dead => True
structure Sim (K : PySem.W.Frag) (g : Gi) (H0 : Hp) (r : List Addr) (S : Sto) (H : Hp) : Prop where
  ex : Ex H0 H
  len : r.length = S.length
  nd : r.Nodup
  there : ∀ a ∈ r, H a ≠ none
  cel : ∀ (n : Nat) (a : Addr) (c : Cel), r[n]? = some a → S[n]? = some c → CelOk K g H0 r H a c
structure Fut (H0 : Hp) (r : List Addr) (H : Hp) (H0' : Hp) (r' : List Addr) (H' : Hp) : Prop where
  ext : Ex H0 H0'
  pre : r <+: r'
  keep : ∀ a o, H a = some o → a ∉ r → H' a = some o
  newC : ∀ a, a ∈ r' → a ∉ r → H a = none
  newF : ∀ a o, H0' a = some o → H0 a = none → H a = none ∨ a ∈ r

section
variable {K : PySem.W.Frag} {g : Gi} {H0 H0' H1 H H' H'' : Hp} {r r' r'' : List Addr} {S S' : Sto}
theorem Fut.refl : Fut H0 r H H0 r H :=
  ⟨Ex.refl _, List.prefix_refl _, fun _ _ h _ => h, fun _ h h' => absurd h h', fun _ _ h h' => by rw [h] at h'; cases h'⟩
theorem Fut.trans (a : Fut H0 r H H0' r' H') (t' : ∀ a ∈ r, H' a ≠ none) (b : Fut H0' r' H' H1 r'' H'') : Fut H0 r H H1 r'' H'' := by
  refine ⟨a.ext.trans b.ext, a.pre.trans b.pre, fun x o h hn => ?_, fun x h hn => ?_, fun x o h hn => ?_⟩
  · refine b.keep x o (a.keep x o h hn) fun h' => ?_
    rw [a.newC x h' hn] at h
    cases h
  · by_cases h' : x ∈ r'
    · exact a.newC x h' hn
    · have q := b.newC x h h'
      cases e : H x with
      | none => rfl
      | some o =>
        rw [a.keep x o e hn] at q
        cases q
  · cases e : H0' x with
    | some u => exact a.newF x u e hn
    | none =>
      rcases b.newF x o h e with q | q
      · by_cases hr : x ∈ r
        · exact .inr hr
        · refine .inl ?_
          cases e2 : H x with
          | none => rfl
          | some u =>
            rw [a.keep x u e2 hr] at q
            cases q
      · by_cases hr : x ∈ r
        · exact .inr hr
        · exact .inl (a.newC x q hr)
theorem Sim.therePre (s : Sim K g H0' r' S' H') (p : r <+: r') : ∀ a ∈ r, H' a ≠ none := fun a h => s.there a (p.subset h)
theorem Fut.tr (a : Fut H0 r H H0' r' H') (s : Sim K g H0' r' S' H') (b : Fut H0' r' H' H1 r'' H'') : Fut H0 r H H1 r'' H'' := a.trans (s.therePre a.pre) b
theorem Rel.fut {d : D} {v : V} (h : Rel K H0 r d v) (f : Fut H0 r H H0' r' H') : Rel K H0' r' d v := h.mono f.ext f.pre
theorem Rels.fut {d : List D} {v : List V} (h : Rels K H0 r d v) (f : Fut H0 r H H0' r' H') : Rels K H0' r' d v := h.mono f.ext f.pre
theorem CelOk.mono {a : Addr} {c : Cel} (h : CelOk K g H0 r H a c) (e : Ex H0 H0') (p : r <+: r') (h0 : H0 a = none → H0' a = none) (hH : H' a = H a) : CelOk K g H0' r' H' a c := by
  cases c with
  | lst ds =>
    obtain ⟨q, xs, h1, h2⟩ := h
    exact ⟨h0 q, xs, by rw [hH]; exact h1, h2.mono e p⟩
  | obj C fs =>
    obtain ⟨q, dx, xs, h1, h2⟩ := h
    exact ⟨h0 q, dx, xs, by rw [hH]; exact h1, h2.mono e p⟩
  | dk kvs =>
    obtain ⟨q, xs, h1, h2⟩ := h
    exact ⟨h0 q, xs, by rw [hH]; exact h1, h2.mono e p⟩
  | dt kvs =>
    obtain ⟨q, xs, h1, h2⟩ := h
    exact ⟨h0 q, xs, by rw [hH]; exact h1, h2.mono e p⟩
  | dkf o xs kvs =>
    obtain ⟨q, h1, h2⟩ := h
    exact ⟨h0 q, by rw [hH]; exact h1, h2.mono e p⟩
  | dtf o xs kvs =>
    obtain ⟨q, h1, h2⟩ := h
    exact ⟨h0 q, by rw [hH]; exact h1, h2.mono e p⟩
  | tab P q =>
    obtain ⟨ea, n0, ps, h1, h2, h3⟩ := h
    refine ⟨ea, h0 n0, ps, by rw [hH]; exact h1, h2, fun pos cv hc => ?_⟩
    obtain ⟨c, e1, e2⟩ := h3 pos cv hc
    exact ⟨c, e1, e _ _ e2⟩
  | dead => trivial
theorem Sim.frz (s : Sim K g H0 r S H) {p : Addr} {o : HO} (h : H p = none) : Sim K g (upd H0 p o) r S (upd H p o) ∧ Fut H0 r H (upd H0 p o) r (upd H p o) := by
  have h0 : H0 p = none := s.ex.none h
  have np : p ∉ r := fun z => s.there p z h
  refine ⟨⟨fun a u e => ?_, s.len, s.nd, fun a ha => ?_, fun n a c e1 e2 => ?_⟩, ⟨Ex.new h0, List.prefix_refl _, fun a u e _ => Ex.new h a u e, fun a h1 h2 => absurd h1 h2, fun a u e en => ?_⟩⟩
  · by_cases ha : a = p
    · subst ha; rw [upd_same] at e ⊢; exact e
    · rw [upd_ne ha] at e ⊢; exact s.ex a u e
  · have : a ≠ p := fun z => np (z ▸ ha)
    rw [upd_ne this]; exact s.there a ha
  · have : a ≠ p := fun z => np (z ▸ List.mem_of_getElem? e1)
    exact (s.cel n a c e1 e2).mono (Ex.new h0) (List.prefix_refl _) (fun q => by rw [upd_ne this]; exact q) (upd_ne this)
  · by_cases ha : a = p
    · subst ha; exact .inl h
    · rw [upd_ne ha, en] at e; cases e
theorem Sim.junk (s : Sim K g H0 r S H) {p : Addr} {o : HO} (h : H p = none) : Sim K g H0 r S (upd H p o) ∧ Fut H0 r H H0 r (upd H p o) := by
  have np : p ∉ r := fun z => s.there p z h
  refine ⟨⟨s.ex.trans (Ex.new h), s.len, s.nd, fun a ha => ?_, fun n a c e1 e2 => ?_⟩, ⟨Ex.refl _, List.prefix_refl _, fun a u e _ => Ex.new h a u e, fun a h1 h2 => absurd h1 h2, fun a u e en => by rw [e] at en; cases en⟩⟩
  · have : a ≠ p := fun z => np (z ▸ ha)
    rw [upd_ne this]; exact s.there a ha
  · have : a ≠ p := fun z => np (z ▸ List.mem_of_getElem? e1)
    exact (s.cel n a c e1 e2).mono (Ex.refl _) (List.prefix_refl _) (fun q => q) (upd_ne this)
theorem Sim.new (s : Sim K g H0 r S H) {p : Addr} {o : HO} {c : Cel} (h : H p = none) (hc : ∀ H', H' p = some o → CelOk K g H0 r H' p c) : Sim K g H0 (r ++ [p]) (S ++ [c]) (upd H p o) ∧ Fut H0 r H H0 (r ++ [p]) (upd H p o) := by
  have h0 : H0 p = none := s.ex.none h
  have np : p ∉ r := fun z => s.there p z h
  refine ⟨⟨s.ex.trans (Ex.new h), by rw [List.length_append, List.length_append, s.len]; rfl, ?_, fun a ha => ?_, fun n a c' e1 e2 => ?_⟩, ⟨Ex.refl _, List.prefix_append _ _, fun a u e _ => Ex.new h a u e, fun a h1 h2 => ?_, fun a u e en => by rw [e] at en; cases en⟩⟩
  · refine List.nodup_append.mpr ⟨s.nd, by simp, fun a ha b hb => ?_⟩
    rw [List.mem_singleton] at hb
    subst hb
    exact fun z => np (z ▸ ha)
  · rcases List.mem_append.mp ha with ha | ha
    · have : a ≠ p := fun z => np (z ▸ ha)
      rw [upd_ne this]; exact s.there a ha
    · rw [List.mem_singleton] at ha
      subst ha
      rw [upd_same]; intro z; cases z
  · by_cases hn : n < r.length
    · rw [List.getElem?_append_left hn] at e1
      rw [List.getElem?_append_left (by rw [← s.len]; exact hn)] at e2
      have : a ≠ p := fun z => np (z ▸ List.mem_of_getElem? e1)
      exact (s.cel n a c' e1 e2).mono (Ex.refl _) (List.prefix_append _ _) (fun q => q) (upd_ne this)
    · have hn' : n = r.length := by
        have := (List.getElem?_eq_some_iff.mp e1).1
        rw [List.length_append, List.length_singleton] at this
        omega
      subst hn'
      rw [List.getElem?_append_right (Nat.le_refl _), Nat.sub_self] at e1
      rw [s.len, List.getElem?_append_right (Nat.le_refl _), Nat.sub_self] at e2
      cases e1
      cases e2
      exact (hc _ upd_same).mono (Ex.refl _) (List.prefix_append _ _) (fun q => q) rfl
  · rcases List.mem_append.mp h1 with h1 | h1
    · exact absurd h1 h2
    · rw [List.mem_singleton] at h1
      subst h1
      exact h
theorem Sim.write (s : Sim K g H0 r S H) {n : Nat} {p : Addr} {o : HO} {c c' : Cel} (hr : r[n]? = some p) (hS : S[n]? = some c) (h0 : H0 p = none) (hc : ∀ H', H' p = some o → CelOk K g H0 r H' p c') : Sim K g H0 r (S.set n c') (upd H p o) ∧ Fut H0 r H H0 r (upd H p o) := by
  have pr : p ∈ r := List.mem_of_getElem? hr
  have hn : n < S.length := (List.getElem?_eq_some_iff.mp hS).1
  refine ⟨⟨fun a u e => ?_, by rw [List.length_set]; exact s.len, s.nd, fun a ha => ?_, fun m a d e1 e2 => ?_⟩, ⟨Ex.refl _, List.prefix_refl _, fun a u e na => ?_, fun a h1 h2 => absurd h1 h2, fun a u e en => by rw [e] at en; cases en⟩⟩
  · have : a ≠ p := fun z => by rw [z, h0] at e; cases e
    rw [upd_ne this]; exact s.ex a u e
  · by_cases e : a = p
    · subst e; rw [upd_same]; intro z; cases z
    · rw [upd_ne e]; exact s.there a ha
  · by_cases hm : m = n
    · subst hm
      rw [hr] at e1
      cases e1
      rw [List.getElem?_set_self hn] at e2
      cases e2
      exact hc _ upd_same
    · rw [List.getElem?_set_ne (Ne.symm hm)] at e2
      have : a ≠ p := fun z => hm (nd_ix s.nd (z ▸ e1) hr)
      exact (s.cel m a d e1 e2).mono (Ex.refl _) (List.prefix_refl _) (fun q => q) (upd_ne this)
  · have : a ≠ p := fun z => na (z ▸ pr)
    rw [upd_ne this]; exact e
theorem Sim.freeze (s : Sim K g H0 r S H) {n : Nat} {p : Addr} {ds : List D} (hr : r[n]? = some p) (hS : S[n]? = some (.lst ds)) :
    ∃ xs, H p = some (.lst xs) ∧ Sim K g (upd H0 p (.lst xs)) r (S.set n .dead) H ∧ Fut H0 r H (upd H0 p (.lst xs)) r H ∧ Rels K H0 r ds xs := by
  obtain ⟨h0, xs, hp, hx⟩ := s.cel n p _ hr hS
  have pr : p ∈ r := List.mem_of_getElem? hr
  have hn : n < S.length := (List.getElem?_eq_some_iff.mp hS).1
  refine ⟨xs, hp, ⟨fun a u e => ?_, by rw [List.length_set]; exact s.len, s.nd, s.there, fun m a d e1 e2 => ?_⟩, ⟨Ex.new h0, List.prefix_refl _, fun a u e _ => e, fun a h1 h2 => absurd h1 h2, fun a u e en => ?_⟩, hx⟩
  · by_cases ha : a = p
    · subst ha; rw [upd_same] at e; rw [hp]; exact e
    · rw [upd_ne ha] at e; exact s.ex a u e
  · by_cases hm : m = n
    · subst hm
      rw [List.getElem?_set_self hn] at e2
      cases e2
      trivial
    · rw [List.getElem?_set_ne (Ne.symm hm)] at e2
      have : a ≠ p := fun z => hm (nd_ix s.nd (z ▸ e1) hr)
      exact (s.cel m a d e1 e2).mono (Ex.new h0) (List.prefix_refl _) (fun q => by rw [upd_ne this]; exact q) rfl
  · by_cases ha : a = p
    · subst ha; exact .inr pr
    · rw [upd_ne ha, en] at e; cases e
end
end Ab

namespace Ab
open PySem PySem.Spec PyProof.Rows L2

def hgt0 : Nat := 0
def hgt1 : Nat := hgt0
def hgt2 : Nat := hgt1
def hgt3 : Nat := hgt2
def hgt4 : Nat := hgt3
def hgt5 : Nat := hgt4
def hgt6 : Nat := hgt5
def hgt7 : Nat := hgt6
def hgt8 : Nat := hgt7
def hgt9 : Nat := hgt8
def hgt10 : Nat := hgt9
def hgt11 : Nat := hgt10
def hgt12 : Nat := hgt11
def hgt13 : Nat := hgt12
def hgt14 : Nat := hgt13
def hgt15 : Nat := hgt14
def hgt16 : Nat := hgt15
def hgt17 : Nat := hgt16
def hgt18 : Nat := hgt17
def hgt19 : Nat := hgt18
def hgt20 : Nat := hgt19
def hgt21 : Nat := hgt20
def hgt22 : Nat := hgt21
def hgt23 : Nat := hgt22
def hgt24 : Nat := hgt23
def hgt25 : Nat := hgt24
def hgt26 : Nat := hgt25
def hgt27 : Nat := hgt26
def hgt28 : Nat := hgt27
def hgt29 : Nat := hgt28
def hgt30 : Nat := hgt29
def hgt31 : Nat := hgt30
def hgt32 : Nat := hgt31
def hgt33 : Nat := hgt32
def hgt34 : Nat := hgt33
def hgt35 : Nat := hgt34
def hgt36 : Nat := hgt35
def hgt37 : Nat := hgt36
def hgt38 : Nat := hgt37
def hgt39 : Nat := hgt38
def hgt40 : Nat := hgt39
def hgt41 : Nat := hgt40
def hgt42 : Nat := hgt41
def hgt43 : Nat := hgt42
def hgt44 : Nat := hgt43
def hgt45 : Nat := hgt44
def hgt46 : Nat := hgt45
def hgt47 : Nat := hgt46
def hgt48 : Nat := hgt47
def hgt49 : Nat := hgt48
def hgt50 : Nat := hgt49
def hgt51 : Nat := hgt50
def hgt52 : Nat := hgt51
def hgt53 : Nat := hgt52
def hgt54 : Nat := hgt53
def hgt55 : Nat := hgt54
def hgt56 : Nat := hgt55
def hgt57 : Nat := hgt56
def hgt58 : Nat := hgt57
def hgt59 : Nat := hgt58
@[reducible] def HG (α : Type) : Type := (fun (_ : Nat) => α) hgt59
abbrev WE := XE → Env → Sto → KD → Prop
abbrev WT := XE → Env → Sto → (Bool → Sto → Prop) → Prop
abbrev WA := XE → Env → Sto → (List D → Sto → Prop) → Prop
structure Kd where
  nx : Env → Sto → Prop
  rt : KD
  xc : XE
abbrev WS := Kd → Env → Sto → Prop
abbrev WF := List D → Sto → KD → XD → Prop

def slot : Env → Nat → Option D
  | [], _ => none
  | x :: _, 0 => x
  | _ :: xs, n + 1 => slot xs n
theorem slot_some : ∀ {s : Env} {i : Nat} {d : D}, slot s i = some d → s[i]? = some (some d)
  | [], _, _, h => by cases h
  | x :: _, 0, d, h => by
    have : x = some d := h
    subst this; rfl
  | _ :: xs, n + 1, d, h => by
    have := slot_some (s := xs) (i := n) h
    simpa using this

def RelSt (K : PySem.W.Frag) (H0 : Hp) (r : List Addr) (s : Env) (sv : L2.St) : Prop := s.length = sv.length ∧ ∀ (i : Nat) (d : D), s[i]? = some (some d) → ∃ v, sv[i]? = some (some v) ∧ Rel K H0 r d v
section
variable {K : PySem.W.Frag} {g : Gi} {H0 H0' H1 H H' : Hp} {r r' : List Addr} {S S' : Sto} {s : Env} {sv : L2.St}
theorem RelSt.mono (h : RelSt K H0 r s sv) (e : Ex H0 H0') (p : r <+: r') : RelSt K H0' r' s sv := ⟨h.1, fun i d q => by
  obtain ⟨v, h1, h2⟩ := h.2 i d q
  exact ⟨v, h1, h2.mono e p⟩⟩
theorem RelSt.fut (h : RelSt K H0 r s sv) (f : Fut H0 r H H0' r' H') : RelSt K H0' r' s sv := h.mono f.ext f.pre
theorem RelSt.set (h : RelSt K H0 r s sv) (i : Nat) {d : D} {v : V} (q : Rel K H0 r d v) : RelSt K H0 r (s.set i (some d)) (sv.set i (some v)) := by
  refine ⟨by rw [List.length_set, List.length_set]; exact h.1, fun j e hj => ?_⟩
  by_cases hij : i = j
  · subst hij
    by_cases hl : i < s.length
    · rw [List.getElem?_set_self hl] at hj
      cases hj
      exact ⟨v, List.getElem?_set_self (by rw [← h.1]; exact hl), q⟩
    · rw [List.getElem?_eq_none (by rw [List.length_set]; omega)] at hj
      cases hj
  · rw [List.getElem?_set_ne hij] at hj ⊢
    exact h.2 j e hj
theorem RelSt.unset (h : RelSt K H0 r s sv) (i : Nat) : RelSt K H0 r (s.set i none) (sv.set i none) := by
  refine ⟨by rw [List.length_set, List.length_set]; exact h.1, fun j e hj => ?_⟩
  by_cases hij : i = j
  · subst hij
    by_cases hl : i < s.length
    · rw [List.getElem?_set_self hl] at hj
      cases hj
    · rw [List.getElem?_eq_none (by rw [List.length_set]; omega)] at hj
      cases hj
  · rw [List.getElem?_set_ne hij] at hj ⊢
    exact h.2 j e hj

def CtE (K : PySem.W.Frag) (g : Gi) (H0 : Hp) (r : List Addr) (H : Hp) (k : KD) (Q : VK) : Prop :=
  ∀ d v H0' r' S' H', Fut H0 r H H0' r' H' → Sim K g H0' r' S' H' → Rel K H0' r' d v → k d S' → Q v H'
def CtX (K : PySem.W.Frag) (g : Gi) (H0 : Hp) (r : List Addr) (H : Hp) (s : Env) (sv : L2.St) (xc : XE) (W : WX) : Prop :=
  ∀ c H0' r' S' H', Fut H0 r H H0' r' H' → Sim K g H0' r' S' H' → xc c s S' → W (.ref (g.cl c)) none sv H'
theorem CtE.fut {k : KD} {Q : VK} (c : CtE K g H0 r H k Q) (f : Fut H0 r H H0' r' H') (si : Sim K g H0' r' S' H') : CtE K g H0' r' H' k Q :=
  fun d v H0'' r'' S'' H'' f2 s2 rl kk => c d v H0'' r'' S'' H'' (f.tr si f2) s2 rl kk
theorem CtX.fut {xc : XE} {W : WX} (c : CtX K g H0 r H s sv xc W) (f : Fut H0 r H H0' r' H') (si : Sim K g H0' r' S' H') : CtX K g H0' r' H' s sv xc W :=
  fun d H0'' r'' S'' H'' f2 s2 kk => c d H0'' r'' S'' H'' (f.tr si f2) s2 kk
end

def GoodE (X : Cx) (g : Gi) (W : WX) (te : TE) (w : WE) : Prop :=
  ∀ H0 r S H s sv Q k xc, Sim X.K g H0 r S H → RelSt X.K H0 r s sv → w xc s S k → CtE X.K g H0 r H k Q → CtX X.K g H0 r H s sv xc W → te sv H Q
def GoodT (X : Cx) (g : Gi) (W : WX) (te : TT) (w : WT) : Prop :=
  ∀ H0 r S H s sv (Q : Bool → Hp → Prop) (k : Bool → Sto → Prop) xc, Sim X.K g H0 r S H → RelSt X.K H0 r s sv → w xc s S k →
    (∀ b H0' r' S' H', Fut H0 r H H0' r' H' → Sim X.K g H0' r' S' H' → k b S' → Q b H') → CtX X.K g H0 r H s sv xc W → te sv H Q
def GoodA (X : Cx) (g : Gi) (W : WX) (te : TA) (w : WA) : Prop :=
  ∀ H0 r S H s sv (Q : List V → Hp → Prop) (k : List D → Sto → Prop) xc, Sim X.K g H0 r S H → RelSt X.K H0 r s sv → w xc s S k →
    (∀ ds vs H0' r' S' H', Fut H0 r H H0' r' H' → Sim X.K g H0' r' S' H' → Rels X.K H0' r' ds vs → k ds S' → Q vs H') → CtX X.K g H0 r H s sv xc W → te sv H Q
def SE (X : Cx) (g : Gi) (W : WX) (e : Expr) (w : WE) : Prop := ∃ te, PE X e te ∧ GoodE X g W te w
def STt (X : Cx) (g : Gi) (W : WX) (e : Expr) (w : WT) : Prop := ∃ te, PT X e te ∧ GoodT X g W te w
def SPw (X : Cx) (g : Gi) (W : WX) (e : Expr) (w : WT) : Prop := ∃ te, PW X e te ∧ GoodT X g W te w
def SA (X : Cx) (g : Gi) (W : WX) (e : List Expr) (w : WA) : Prop := ∃ te, PA X e te ∧ GoodA X g W te w

section
variable {X : Cx} {g : Gi} {W : WX} {a b c e : Expr} {pos : Pos} {wa wb wc we : WE} {wt wu : WT}

def kOpt : Option D → Sto → KD → Prop := fun (x0 : HG (Option D)) x1 x2 => match x0, x1, x2 with
  | some d, S, k => k d S
  | none, _, _ => False
def wVar (i : Nat) : WE := fun (_ : HG XE) s S k => kOpt (slot s i) S k
def wC (d : D) : WE := fun (_ : HG XE) _ S k => k d S
theorem se_var (i : Nat) {x : Str} {pos : Pos} (hN : X.N[i]? = some x := by rfl) (hv : Vis X.env.scope x := by first | exact Or.inl rfl | exact Or.inr (Or.inl rfl) | exact Or.inr (Or.inr rfl)) (hd : (x == ("__debug__" : Str)) = false := by decide)
    (hcd : (x == ("__classdict__" : Str)) = false := by decide) : SE X g W (.Name x pos) (wVar i) := by
  refine ⟨_, pe_var hN hv hd hcd, fun H0 r S H s sv Q k xc si rs h ce _ => ?_⟩
  unfold wVar at h
  cases q : slot s i with
  | none => rw [q] at h; exact h.elim
  | some d =>
    rw [q] at h
    obtain ⟨v, h1, h2⟩ := rs.2 i d (slot_some q)
    exact ⟨v, h1, ce d v H0 r S H .refl si h2 h⟩
theorem se_int {i : Int} {j : Nat} : SE X g W (.Constant (.int i) j pos) (wC (.int i)) :=
  ⟨_, pe_int, fun H0 r S H s sv Q k xc si rs h ce _ => ce _ _ H0 r S H .refl si (by unfold Rel; rfl) h⟩
theorem se_bl {i : Bool} {j : Nat} : SE X g W (.Constant (.bool i) j pos) (wC (.bl i)) :=
  ⟨_, pe_bl, fun H0 r S H s sv Q k xc si rs h ce _ => ce _ _ H0 r S H .refl si (by unfold Rel; rfl) h⟩
theorem se_non {j : Nat} : SE X g W (.Constant .none j pos) (wC .non) :=
  ⟨_, pe_non, fun H0 r S H s sv Q k xc si rs h ce _ => ce _ _ H0 r S H .refl si (by unfold Rel; rfl) h⟩
def lview (S : Sto) : D → Option (List D)
  | .lst xs => some xs
  | .scr xs => some xs
  | .cell n => match S[n]? with
    | some (.lst xs) => some xs
    | _ => none
  | _ => none
def tview : D → Option (List D)
  | .tup xs => some xs
  | _ => none
def sview (S : Sto) : D → Option (List D)
  | .tup xs => some xs
  | d => lview S d
section
variable {K : PySem.W.Frag} {H0 H : Hp} {r : List Addr} {S : Sto} {d : D} {v : V} {ds : List D}
def rview (S : Sto) : D → Option (List D)
  | .lst xs => some xs
  | .cell n => match S[n]? with
    | some (.lst xs) => some xs
    | _ => none
  | _ => none
theorem rview_rel (si : Sim K g H0 r S H) (h : Rel K H0 r d v) (e : rview S d = some ds) : ∃ a xs, v = .ref a ∧ Rd H a (.lst xs) ∧ Rels K H0 r ds xs := by
  unfold rview at e
  split at e
  · cases e
    unfold Rel at h
    obtain ⟨a, xs, rfl, h1, h2⟩ := h
    exact ⟨a, xs, rfl, si.ex.rd h1, h2⟩
  · rename_i n
    split at e
    · rename_i xs hS
      cases e
      unfold Rel at h
      obtain ⟨a, rfl, h1⟩ := h
      obtain ⟨_, ys, h2, h3⟩ := si.cel n a _ h1 hS
      exact ⟨a, ys, rfl, .inl h2, h3⟩
    · cases e
  · cases e
theorem lview_rel (si : Sim K g H0 r S H) (h : Rel K H0 r d v) (e : lview S d = some ds) : ∃ a xs, v = .ref a ∧ SqL K H a xs ∧ Rels K H0 r ds xs := by
  unfold lview at e
  split at e
  · cases e
    unfold Rel at h
    obtain ⟨a, xs, rfl, h1, h2⟩ := h
    exact ⟨a, xs, rfl, .inl (si.ex.rd h1), h2⟩
  · cases e
    unfold Rel at h
    obtain ⟨a, xs, rfl, h1, h2⟩ := h
    exact ⟨a, xs, rfl, si.ex.sql h1, h2⟩
  · rename_i n
    split at e
    · rename_i xs hS
      cases e
      unfold Rel at h
      obtain ⟨a, rfl, h1⟩ := h
      obtain ⟨_, ys, h2, h3⟩ := si.cel n a _ h1 hS
      exact ⟨a, ys, rfl, .inl (.inl h2), h3⟩
    · cases e
  · cases e
theorem tview_rel (si : Sim K g H0 r S H) (h : Rel K H0 r d v) (e : tview d = some ds) : ∃ a xs, v = .ref a ∧ SqT K H a xs ∧ Rels K H0 r ds xs := by
  unfold tview at e
  split at e
  · cases e
    unfold Rel at h
    obtain ⟨a, xs, rfl, h1, h2⟩ := h
    exact ⟨a, xs, rfl, si.ex.sqt h1, h2⟩
  · cases e
theorem sview_rel (si : Sim K g H0 r S H) (h : Rel K H0 r d v) (e : sview S d = some ds) : ∃ a xs, v = .ref a ∧ (SqL K H a xs ∨ SqT K H a xs) ∧ Rels K H0 r ds xs := by
  cases d with
  | tup xs =>
    obtain ⟨a, ys, h1, h2, h3⟩ := tview_rel (d := .tup xs) si h e
    exact ⟨a, ys, h1, .inr h2, h3⟩
  | lst xs =>
    obtain ⟨a, ys, h1, h2, h3⟩ := lview_rel (d := .lst xs) si h e
    exact ⟨a, ys, h1, .inl h2, h3⟩
  | scr xs =>
    obtain ⟨a, ys, h1, h2, h3⟩ := lview_rel (d := .scr xs) si h e
    exact ⟨a, ys, h1, .inl h2, h3⟩
  | cell n =>
    obtain ⟨a, ys, h1, h2, h3⟩ := lview_rel (d := .cell n) si h e
    exact ⟨a, ys, h1, .inl h2, h3⟩
  | _ => cases e
theorem rel_int {i : Int} (h : Rel K H0 r (.int i) v) : v = .int i := by unfold Rel at h; exact h
theorem rel_bl {i : Bool} (h : Rel K H0 r (.bl i) v) : v = .bl i := by unfold Rel at h; exact h
theorem rel_str {i : Str} (h : Rel K H0 r (.str i) v) : v = .str i := by unfold Rel at h; exact h
theorem rel_non (h : Rel K H0 r .non v) : v = .non := by unfold Rel at h; exact h
theorem rel_int' {i : Int} : Rel K H0 r (.int i) (.int i) := by unfold Rel; rfl
theorem rel_bl' {i : Bool} : Rel K H0 r (.bl i) (.bl i) := by unfold Rel; rfl
theorem rel_str' {i : Str} : Rel K H0 r (.str i) (.str i) := by unfold Rel; rfl
theorem rel_non' : Rel K H0 r .non .non := by unfold Rel; rfl
theorem Sim.lst {xs : List V} {p : Addr} (si : Sim K g H0 r S H) (hp : H p = none) (h : Rels K H0 r ds xs) :
    Sim K g (upd H0 p (.lst xs)) r S (upd H p (.lst xs)) ∧ Fut H0 r H (upd H0 p (.lst xs)) r (upd H p (.lst xs)) ∧ Rel K (upd H0 p (.lst xs)) r (.lst ds) (.ref p) := by
  obtain ⟨h1, h2⟩ := si.frz (o := .lst xs) hp
  refine ⟨h1, h2, ?_⟩
  unfold Rel
  exact ⟨p, xs, rfl, .inl upd_same, h.fut h2⟩
theorem Sim.tup {xs : List V} {p : Addr} (si : Sim K g H0 r S H) (hp : H p = none) (h : Rels K H0 r ds xs) :
    Sim K g (upd H0 p (.tup xs)) r S (upd H p (.tup xs)) ∧ Fut H0 r H (upd H0 p (.tup xs)) r (upd H p (.tup xs)) ∧ Rel K (upd H0 p (.tup xs)) r (.tup ds) (.ref p) := by
  obtain ⟨h1, h2⟩ := si.frz (o := .tup xs) hp
  refine ⟨h1, h2, ?_⟩
  unfold Rel
  exact ⟨p, xs, rfl, .inl (.inl upd_same), h.fut h2⟩
end

abbrev OW := D → D → Sto → KD → Prop
def GoodO (K : PySem.W.Frag) (g : Gi) (rr : R2) (f : OW) : Prop :=
  ∀ H0 r S H d e x y k Q, Sim K g H0 r S H → Rel K H0 r d x → Rel K H0 r e y → f d e S k → CtE K g H0 r H k Q → rr x y H Q
def wOp (f : OW) (wa wb : WE) : WE := fun (xc : HG XE) s S k => wa xc s S fun x S1 => wb xc s S1 fun y S2 => f x y S2 k
theorem goodOp {rr : R2} {f : OW} {ta tb : TE} (go : GoodO X.K g rr f) (ga : GoodE X g W ta wa) (gb : GoodE X g W tb wb) : GoodE X g W (tOp rr ta tb) (wOp f wa wb) := by
  intro H0 r S H s sv Q k xc si rs h ce cx
  refine ga H0 r S H s sv _ _ xc si rs h (fun d v H1 r1 S1 H1' f1 s1 rl h1 => ?_) cx
  refine gb H1 r1 S1 H1' s sv _ _ xc s1 (rs.fut f1) h1 (fun d2 v2 H2 r2 S2 H2' f2 s2 rl2 h2 => ?_) (cx.fut f1 s1)
  exact go H2 r2 S2 H2' d d2 v v2 k Q s2 (rl.fut f2) rl2 h2 (ce.fut (f1.tr s1 f2) s2)
theorem OpR.or {f : Value → Value → Sem Value} {r r' : R2} (h : OpR X f r) (h' : OpR X f r') : OpR X f (fun x y H Q => r x y H Q ∨ r' x y H Q) := by
  intro pins s σ H x y v u Q I rx ry q
  rcases q with q | q
  · exact h pins s σ H x y v u Q I rx ry q
  · exact h' pins s σ H x y v u Q I rx ry q
theorem se_bin {op : Operator} {rr : R2} {f : OW} (ho : OpR X (binaryOp op) rr) (go : GoodO X.K g rr f) (ha : SE X g W a wa) (hb : SE X g W b wb) : SE X g W (.BinOp a op b pos) (wOp f wa wb) := by
  obtain ⟨ta, pa, ga⟩ := ha
  obtain ⟨tb, pb, gb⟩ := hb
  exact ⟨_, pe_op ho pa pb, goodOp go ga gb⟩
def rCatX : R2 := fun x y H Q => ∃ l b xs zs, x = .ref l ∧ y = .ref b ∧ Rd H l (.lst xs) ∧ Rd H b (.lst zs) ∧ xs.length + zs.length ≤ sizeLine ∧ ∀ p, H p = none → Q (.ref p) (upd H p (.lst (xs ++ zs)))
theorem op_catX : OpR X (binaryOp .Add) rCatX := by
  intro pins s σ H x y v u Q I rx ry h
  obtain ⟨l, b, xs, zs, rfl, rfl, hH, hB, hz, q⟩ := h
  cases rx
  cases ry
  obtain ⟨z1, its, n, r, e⟩ := hH.ok I.hok
  obtain ⟨z2, its2, n2, r2, e2⟩ := hB.ok I.hok
  have l1 := r.length
  have l2 := r2.length
  refine PySem.P.add_list (items := its.toArray) (items2 := its2.toArray) e e2 ?_ (by rw [List.size_toArray, List.size_toArray]; omega)
  have ea : its.toArray ++ its2.toArray = (its ++ its2).toArray := by simp
  rw [ea]
  exact ⟨.ref _, _, I.lnew (t' := s.toks) (r.append r2) (by rw [List.length_append]; omega), rfl, q _ I.fresh⟩
end
end Ab

namespace Ab
open PySem PySem.Spec PyProof.Rows L2

mutual
def D.py : D → PyData
  | .non => .none
  | .bl b => .bool b
  | .int i => .int i
  | .str s => .str s
  | .tup xs => .tuple (pyAll xs)
  | .lst xs => .list (pyAll xs)
  | .scr xs => .list (pyAll xs)
  | .cell _ => .none
  | .exn .. => .none
def pyAll : List D → List PyData
  | [] => []
  | x :: xs => x.py :: pyAll xs
end
def D.eqv (a b : D) : Bool := PyData.eqv a.py b.py
def okEq : Nat → D → Bool
  | 0, _ => false
  | n + 1, d => match d with
    | .non => true
    | .bl _ => true
    | .int _ => true
    | .str s => PyData.strOk s
    | .tup xs => xs.all (okEq n)
    | .lst xs => xs.all (okEq n)
    | .scr xs => xs.all (okEq n)
    | .cell _ => false
    | .exn .. => false
theorem okEq_all_lay {n : Nat} (ih : ∀ d, okEq n d = true → d.py.canLay0 = true ∧ d.py.depth ≤ n) : ∀ xs : List D, xs.all (okEq n) = true → PyData.canLayAll0 (pyAll xs) = true ∧ PyData.depthAll (pyAll xs) ≤ n
  | [], _ => by unfold pyAll PyData.canLayAll0 PyData.depthAll; exact ⟨rfl, Nat.zero_le _⟩
  | x :: xs, h => by
    rw [List.all_cons, Bool.and_eq_true] at h
    obtain ⟨h1, h2⟩ := ih x h.1
    obtain ⟨h3, h4⟩ := okEq_all_lay ih xs h.2
    unfold pyAll PyData.canLayAll0 PyData.depthAll
    exact ⟨by rw [h1, h3]; rfl, Nat.max_le.mpr ⟨h2, h4⟩⟩
theorem okEq_lay : ∀ (n : Nat) (d : D), okEq n d = true → d.py.canLay0 = true ∧ d.py.depth ≤ n
  | 0, _, h => by unfold okEq at h; cases h
  | n + 1, d, h => by
    cases d with
    | non => unfold D.py PyData.canLay0 PyData.depth; exact ⟨rfl, Nat.zero_le _⟩
    | bl b => unfold D.py PyData.canLay0 PyData.depth; exact ⟨rfl, Nat.zero_le _⟩
    | int i => unfold D.py PyData.canLay0 PyData.depth; exact ⟨rfl, Nat.zero_le _⟩
    | str s =>
      unfold D.py PyData.canLay0 PyData.depth
      unfold okEq at h
      exact ⟨h, Nat.zero_le _⟩
    | tup xs =>
      unfold okEq at h
      obtain ⟨h1, h2⟩ := okEq_all_lay (okEq_lay n) xs h
      unfold D.py PyData.canLay0 PyData.depth
      exact ⟨h1, Nat.succ_le_succ h2⟩
    | lst xs =>
      unfold okEq at h
      obtain ⟨h1, h2⟩ := okEq_all_lay (okEq_lay n) xs h
      unfold D.py PyData.canLay0 PyData.depth
      exact ⟨h1, Nat.succ_le_succ h2⟩
    | scr xs =>
      unfold okEq at h
      obtain ⟨h1, h2⟩ := okEq_all_lay (okEq_lay n) xs h
      unfold D.py PyData.canLay0 PyData.depth
      exact ⟨h1, Nat.succ_le_succ h2⟩
    | cell n => unfold okEq at h; cases h
    | exn _ _ => unfold okEq at h; cases h
theorem okEq_shaped {d : D} (h : okEq 9 d = true) : SeqAt.shaped d.py = true := by
  obtain ⟨h1, h2⟩ := okEq_lay 9 d h
  unfold SeqAt.shaped
  rw [h1, Bool.true_and]
  exact decide_eq_true (by omega)

inductive Res (S : Sto) : D → D → Prop
  | pure {d : D} : d.pure = true → Res S d d
  | cell {n : Nat} {xs ys : List D} : S[n]? = some (.lst xs) → xs.length = ys.length → (∀ (i : Nat) (x y : D), xs[i]? = some x → ys[i]? = some y → Res S x y) → Res S (.cell n) (.lst ys)
  | lst {xs ys : List D} : xs.length = ys.length → (∀ (i : Nat) (x y : D), xs[i]? = some x → ys[i]? = some y → Res S x y) → Res S (.lst xs) (.lst ys)
  | tup {xs ys : List D} : xs.length = ys.length → (∀ (i : Nat) (x y : D), xs[i]? = some x → ys[i]? = some y → Res S x y) → Res S (.tup xs) (.tup ys)

section
variable {X : Cx} {g : Gi} {W : WX} {a b c e : Expr} {pos : Pos} {wa wb wc we : WE} {wt wu : WT}
variable {K : PySem.W.Frag} {H0 H : Hp} {r : List Addr} {S : Sto} {d : D} {v : V} {ds : List D}

mutual
theorem dp_pure (si : Sim K g H0 r S H) : ∀ {d : D} {v : V}, d.pure = true → Rel K H0 r d v → Dp K H v d.py
  | .non, v, _, h => by rw [rel_non h]; unfold D.py; exact .non
  | .bl b, v, _, h => by rw [rel_bl h]; unfold D.py; exact .bl b
  | .int i, v, _, h => by rw [rel_int h]; unfold D.py; exact .int i
  | .str i, v, _, h => by rw [rel_str h]; unfold D.py; exact .str i
  | .tup xs, v, p, h => by
    unfold Rel at h
    obtain ⟨a, ys, rfl, h1, h2⟩ := h
    unfold D.py
    exact .tup (si.ex.sqt h1) (dp_pureAll si (by unfold D.pure at p; exact p) h2)
  | .lst xs, v, p, h => by
    unfold Rel at h
    obtain ⟨a, ys, rfl, h1, h2⟩ := h
    unfold D.py
    exact .lst (.inl (si.ex.rd h1)) (dp_pureAll si (by unfold D.pure at p; exact p) h2)
  | .scr xs, v, p, h => by
    unfold Rel at h
    obtain ⟨a, ys, rfl, h1, h2⟩ := h
    unfold D.py
    exact .lst (si.ex.sql h1) (dp_pureAll si (by unfold D.pure at p; exact p) h2)
  | .cell n, v, p, _ => by unfold D.pure at p; cases p
  | .exn .., v, p, _ => by unfold D.pure at p; cases p
theorem dp_pureAll (si : Sim K g H0 r S H) : ∀ {ds : List D} {vs : List V}, pureAll ds = true → Rels K H0 r ds vs → DpAll K H vs (pyAll ds)
  | [], vs, _, h => by rw [h.unnil]; unfold pyAll; exact .nil
  | d :: ds, vs, p, h => by
    unfold pureAll at p
    rw [Bool.and_eq_true] at p
    obtain ⟨y, ys, rfl, h1, h2⟩ := h.uncons
    unfold pyAll
    exact .cons (dp_pure si p.1 h1) (dp_pureAll si p.2 h2)
end
theorem dpAll_of : ∀ {ys : List D} {xs : List D} {vs : List V}, xs.length = ys.length → Rels K H0 r xs vs → (∀ (i : Nat) (x y : D) (v : V), xs[i]? = some x → ys[i]? = some y → Rel K H0 r x v → Dp K H v y.py) → DpAll K H vs (pyAll ys)
  | [], xs, vs, hl, h, _ => by
    have : xs = [] := List.length_eq_zero_iff.mp hl
    subst this
    rw [h.unnil]
    unfold pyAll
    exact .nil
  | y :: ys, [], vs, hl, h, _ => by cases hl
  | y :: ys, x :: xs, vs, hl, h, f => by
    obtain ⟨v, vs', rfl, h1, h2⟩ := h.uncons
    unfold pyAll
    exact .cons (f 0 x y v rfl rfl h1) (dpAll_of (by simpa using hl) h2 fun i x' y' v' e1 e2 h3 => f (i + 1) x' y' v' (by simpa using e1) (by simpa using e2) h3)
theorem dp_res (si : Sim K g H0 r S H) {d a : D} (q : Res S d a) : ∀ {v : V}, Rel K H0 r d v → Dp K H v a.py := by
  induction q with
  | pure p => intro v h; exact dp_pure si p h
  | @cell n xs ys hS hl hh ih =>
    intro v h
    obtain ⟨a, zs, rfl, h1, h2⟩ := lview_rel (d := .cell n) (ds := xs) si h (by show (match S[n]? with | some (Cel.lst xs) => some xs | _ => none) = some xs; rw [hS])
    unfold D.py
    exact .lst h1 (dpAll_of hl h2 fun i x y v e1 e2 h3 => ih i x y e1 e2 h3)
  | @lst xs ys hl hh ih =>
    intro v h
    obtain ⟨a, zs, rfl, h1, h2⟩ := lview_rel (d := .lst xs) (ds := xs) si h rfl
    unfold D.py
    exact .lst h1 (dpAll_of hl h2 fun i x y v e1 e2 h3 => ih i x y e1 e2 h3)
  | @tup xs ys hl hh ih =>
    intro v h
    obtain ⟨a, zs, rfl, h1, h2⟩ := tview_rel (d := .tup xs) (ds := xs) si h rfl
    unfold D.py
    exact .tup h1 (dpAll_of hl h2 fun i x y v e1 e2 h3 => ih i x y e1 e2 h3)

def addW : D → D → Sto → KD → Prop
  | .int a, .int b, S, k => k (.int (a + b)) S
  | .str a, .str b, S, k => a.length + b.length ≤ sizeLine ∧ k (.str (a ++ b)) S
  | .tup a, .tup b, S, k => a ≠ [] ∧ a.length + b.length ≤ sizeLine ∧ k (.tup (a ++ b)) S
  | x, y, S, k => ∃ a b, rview S x = some a ∧ rview S y = some b ∧ a.length + b.length ≤ sizeLine ∧ k (.lst (a ++ b)) S
def rAddU (K : PySem.W.Frag) : R2 := fun x y H Q => rI0 (fun i j => .int (i + j)) x y H Q ∨ (∃ i j, x = .str i ∧ y = .str j ∧ i.length + j.length ≤ sizeLine ∧ Q (.str (i ++ j)) H) ∨ rCatT K x y H Q ∨ rCatX x y H Q
theorem op_addU : OpR X (binaryOp .Add) (rAddU X.K) := op_add.or (op_add_str.or (op_catT.or op_catX))
theorem good_add : GoodO K g (rAddU K) addW := by
  intro H0 r S H d e x y k Q si h1 h2 hw ce
  unfold addW at hw
  split at hw
  · rw [rel_int h1, rel_int h2]
    exact .inl ⟨_, _, rfl, rfl, ce _ _ _ _ _ _ .refl si rel_int' hw⟩
  · rw [rel_str h1, rel_str h2]
    exact .inr (.inl ⟨_, _, rfl, rfl, hw.1, ce _ _ _ _ _ _ .refl si rel_str' hw.2⟩)
  · obtain ⟨hn, hl, hk⟩ := hw
    obtain ⟨p, xs, rfl, q1, q2⟩ := tview_rel si h1 rfl
    obtain ⟨p', ys, rfl, q3, q4⟩ := tview_rel si h2 rfl
    refine .inr (.inr (.inl ⟨p, p', xs, ys, rfl, rfl, q1, q3, fun z => hn ?_, by rw [q2.length, q4.length]; exact hl, fun z => ?_, fun z q hq => ?_⟩))
    · have := q2.length
      rw [z] at this
      exact List.length_eq_zero_iff.mp this.symm
    · subst z
      have := q4.length
      rename_i b
      have hb : b = [] := List.length_eq_zero_iff.mp this.symm
      subst hb
      rw [List.append_nil] at hk
      exact ce _ _ _ _ _ _ .refl si h1 hk
    · obtain ⟨s1, s2, s3⟩ := si.tup hq (q2.append q4)
      exact ce _ _ _ _ _ _ s2 s1 s3 hk
  · obtain ⟨a, b, e1, e2, hl, hk⟩ := hw
    obtain ⟨p, xs, rfl, q1, q2⟩ := rview_rel si h1 e1
    obtain ⟨p', ys, rfl, q3, q4⟩ := rview_rel si h2 e2
    refine .inr (.inr (.inr ⟨p, p', xs, ys, rfl, rfl, q1, q3, by rw [q2.length, q4.length]; exact hl, fun q hq => ?_⟩))
    obtain ⟨s1, s2, s3⟩ := si.lst hq (q2.append q4)
    exact ce _ _ _ _ _ _ s2 s1 s3 hk
def iiW (C : Int → Int → Prop) (f : Int → Int → D) : D → D → Sto → KD → Prop
  | .int a, .int b, S, k => C a b ∧ k (f a b) S
  | _, _, _, _ => False
def ii0 (f : Int → Int → D) : D → D → Sto → KD → Prop
  | .int a, .int b, S, k => k (f a b) S
  | _, _, _, _ => False
theorem good_ii {C : Int → Int → Prop} {f : Int → Int → D} {fv : Int → Int → V} (hf : ∀ i j H0 r, Rel K H0 r (f i j) (fv i j)) : GoodO K g (rI C fv) (iiW C f) := by
  intro H0 r S H d e x y k Q si h1 h2 hw ce
  unfold iiW at hw
  split at hw
  · rw [rel_int h1, rel_int h2]
    exact ⟨_, _, rfl, rfl, hw.1, ce _ _ _ _ _ _ .refl si (hf _ _ _ _) hw.2⟩
  · exact hw.elim
theorem good_ii0 {f : Int → Int → D} {fv : Int → Int → V} (hf : ∀ i j H0 r, Rel K H0 r (f i j) (fv i j)) : GoodO K g (rI0 fv) (ii0 f) := by
  intro H0 r S H d e x y k Q si h1 h2 hw ce
  unfold ii0 at hw
  split at hw
  · rw [rel_int h1, rel_int h2]
    exact ⟨_, _, rfl, rfl, ce _ _ _ _ _ _ .refl si (hf _ _ _ _) hw⟩
  · exact hw.elim
def CDivX (i j : Int) : Prop := j ≠ 0 ∧ Builtin.divisionGoesByPylong i j = false
theorem op_mulX : OpR X (binaryOp .Mult) (rI IntMulOk fun i j => .int (i * j)) := opI fun _ _ _ _ _ _ _ hc q => mul_int q hc
theorem op_fdivX : OpR X (binaryOp .FloorDiv) (rI CDivX fun i j => .int (i.fdiv j)) := opI fun i j _ _ _ _ _ hc q => floordiv_int hc.1 q (.inl hc.2)
abbrev subW : OW := ii0 fun i j => .int (i - j)
abbrev mulW : OW := iiW IntMulOk fun i j => .int (i * j)
abbrev fdivW : OW := iiW CDivX fun i j => .int (i.fdiv j)
abbrev modW : OW := iiW (fun _ j => j ≠ 0) fun i j => .int (i.fmod j)
def powW : OW := iiW CPow fun i j => .int (i ^ j.toNat)
abbrev ltW : OW := ii0 fun i j => .bl (decide (i < j))
abbrev leW : OW := ii0 fun i j => .bl (decide (i ≤ j))
abbrev gtW : OW := ii0 fun i j => .bl (decide (j < i))
abbrev geW : OW := ii0 fun i j => .bl (decide (j ≤ i))
theorem se_add (ha : SE X g W a wa) (hb : SE X g W b wb) : SE X g W (.BinOp a .Add b pos) (wOp addW wa wb) := se_bin op_addU good_add ha hb
theorem se_sub (ha : SE X g W a wa) (hb : SE X g W b wb) : SE X g W (.BinOp a .Sub b pos) (wOp subW wa wb) := se_bin op_sub (good_ii0 fun _ _ _ _ => rel_int') ha hb
theorem se_mul (ha : SE X g W a wa) (hb : SE X g W b wb) : SE X g W (.BinOp a .Mult b pos) (wOp mulW wa wb) := se_bin op_mulX (good_ii fun _ _ _ _ => rel_int') ha hb
theorem se_fdiv (ha : SE X g W a wa) (hb : SE X g W b wb) : SE X g W (.BinOp a .FloorDiv b pos) (wOp fdivW wa wb) := se_bin op_fdivX (good_ii fun _ _ _ _ => rel_int') ha hb
theorem se_mod (ha : SE X g W a wa) (hb : SE X g W b wb) : SE X g W (.BinOp a .Mod b pos) (wOp modW wa wb) := se_bin op_modN (good_ii fun _ _ _ _ => rel_int') ha hb
theorem se_pow (ha : SE X g W a wa) (hb : SE X g W b wb) : SE X g W (.BinOp a .Pow b pos) (wOp powW wa wb) := se_bin op_pow (good_ii fun _ _ _ _ => rel_int') ha hb
def kNeg (k : KD) : D → Sto → Prop := fun (x0 : HG (D)) x1 => match x0, x1 with
  | .int i, S => k (.int (-i)) S
  | _, _ => False
def wNeg (wa : WE) : WE := fun (xc : HG XE) s S k => wa xc s S (kNeg k)
theorem se_neg (ha : SE X g W a wa) : SE X g W (.UnaryOp .USub a pos) (wNeg wa) := by
  obtain ⟨ta, pa, ga⟩ := ha
  refine ⟨_, pe_un un_neg pa, fun H0 r S H s sv Q k xc si rs h ce cx => ?_⟩
  refine ga H0 r S H s sv _ _ xc si rs h (fun d v H1 r1 S1 H1' f1 s1 rl h1 => ?_) cx
  unfold kNeg at h1
  split at h1
  · exact ⟨_, rel_int rl, ce _ _ _ _ _ _ f1 s1 rel_int' h1⟩
  · exact h1.elim

def GoodC (X : Cx) (g : Gi) (op : CmpOp) (f : OW) : Prop := ∃ rr, OpR X (compareOp op) rr ∧ GoodO X.K g rr f
def eqW : D → D → Sto → KD → Prop
  | .int a, .int b, S, k => k (.bl (decide (a = b))) S
  | .bl a, .bl b, S, k => k (.bl (decide (a = b))) S
  | .str a, .str b, S, k => k (.bl (decide (a = b))) S
  | .non, .non, S, k => k (.bl true) S
  | .non, .int _, S, k => k (.bl false) S
  | .int _, .non, S, k => k (.bl false) S
  | x, y, S, k => ∃ a b, Res S x a ∧ Res S y b ∧ okEq 9 a = true ∧ okEq 9 b = true ∧ k (.bl (a.eqv b)) S
def kNot (k : KD) : D → Sto → Prop := fun (x0 : HG (D)) x1 => match x0, x1 with
  | .bl b, S => k (.bl (!b)) S
  | _, _ => False
def neW : OW := fun x y S k => eqW x y S (kNot k)
def rEqU (K : PySem.W.Frag) : R2 := fun x y H Q => rEq x y H Q ∨ rEqD K x y H Q
def rNeU (K : PySem.W.Frag) : R2 := fun x y H Q => rNe x y H Q ∨ rNeD K x y H Q
theorem good_eq : GoodO K g (rEqU K) eqW := by
  intro H0 r S H d e x y k Q si h1 h2 hw ce
  unfold eqW at hw
  split at hw
  · rw [rel_int h1, rel_int h2]
    refine .inl ⟨rfl, ?_⟩
    rw [dec_int, Bool.beq_eq_decide_eq]
    exact ce _ _ _ _ _ _ .refl si rel_bl' hw
  · rw [rel_bl h1, rel_bl h2]
    refine .inl ⟨rfl, ?_⟩
    rw [dec_bl, Bool.beq_eq_decide_eq]
    exact ce _ _ _ _ _ _ .refl si rel_bl' hw
  · rw [rel_str h1, rel_str h2]
    refine .inl ⟨rfl, ?_⟩
    rw [dec_str, Bool.beq_eq_decide_eq]
    exact ce _ _ _ _ _ _ .refl si rel_bl' hw
  · rw [rel_non h1, rel_non h2]
    exact .inl ⟨rfl, ce _ _ _ _ _ _ .refl si rel_bl' hw⟩
  · rw [rel_non h1, rel_int h2]
    exact .inl ⟨rfl, ce _ _ _ _ _ _ .refl si rel_bl' hw⟩
  · rw [rel_int h1, rel_non h2]
    exact .inl ⟨rfl, ce _ _ _ _ _ _ .refl si rel_bl' hw⟩
  · obtain ⟨a, b, q1, q2, o1, o2, hk⟩ := hw
    exact .inr ⟨_, _, dp_res si q1 h1, dp_res si q2 h2, okEq_shaped o1, okEq_shaped o2, ce _ _ _ _ _ _ .refl si rel_bl' hk⟩
theorem good_ne : GoodO K g (rNeU K) neW := by
  intro H0 r S H d e x y k Q si h1 h2 hw ce
  unfold neW eqW kNot at hw
  split at hw
  · rw [rel_int h1, rel_int h2]
    refine .inl ⟨rfl, ?_⟩
    rw [dec_int, Bool.beq_eq_decide_eq]
    exact ce _ _ _ _ _ _ .refl si rel_bl' hw
  · rw [rel_bl h1, rel_bl h2]
    refine .inl ⟨rfl, ?_⟩
    rw [dec_bl, Bool.beq_eq_decide_eq]
    exact ce _ _ _ _ _ _ .refl si rel_bl' hw
  · rw [rel_str h1, rel_str h2]
    refine .inl ⟨rfl, ?_⟩
    rw [dec_str, Bool.beq_eq_decide_eq]
    exact ce _ _ _ _ _ _ .refl si rel_bl' hw
  · rw [rel_non h1, rel_non h2]
    exact .inl ⟨rfl, ce _ _ _ _ _ _ .refl si rel_bl' hw⟩
  · rw [rel_non h1, rel_int h2]
    exact .inl ⟨rfl, ce _ _ _ _ _ _ .refl si rel_bl' hw⟩
  · rw [rel_int h1, rel_non h2]
    exact .inl ⟨rfl, ce _ _ _ _ _ _ .refl si rel_bl' hw⟩
  · obtain ⟨a, b, q1, q2, o1, o2, hk⟩ := hw
    exact .inr ⟨_, _, dp_res si q1 h1, dp_res si q2 h2, okEq_shaped o1, okEq_shaped o2, ce _ _ _ _ _ _ .refl si rel_bl' hk⟩
def D.flat : D → Bool
  | .non => true
  | .bl _ => true
  | .int _ => true
  | .str _ => true
  | _ => false
def eqF : D → D → Bool
  | .non, .non => true
  | .bl a, .bl b => a == b
  | .bl a, .int b => (if a then 1 else 0) == b
  | .int a, .bl b => a == (if b then 1 else 0)
  | .int a, .int b => a == b
  | .str a, .str b => a == b
  | _, _ => false
def inF (x : D) (xs : List D) : Bool := xs.any fun y => eqF y x
theorem flat_rel {d : D} {v : V} (f : d.flat = true) (h : Rel K H0 r d v) : flatV v = true := by
  cases d with
  | non => rw [rel_non h]; rfl
  | bl b => rw [rel_bl h]; rfl
  | int b => rw [rel_int h]; rfl
  | str b => rw [rel_str h]; rfl
  | _ => cases f
theorem eqF_rel {d e : D} {v u : V} (f : d.flat = true) (f2 : e.flat = true) (h : Rel K H0 r d v) (h2 : Rel K H0 r e u) : eqV v u = eqF d e := by
  cases d with
  | non => rw [rel_non h]; cases e with
    | non => rw [rel_non h2]; rfl
    | bl b => rw [rel_bl h2]; rfl
    | int b => rw [rel_int h2]; rfl
    | str b => rw [rel_str h2]; rfl
    | _ => cases f2
  | bl b => rw [rel_bl h]; cases e with
    | non => rw [rel_non h2]; rfl
    | bl b => rw [rel_bl h2]; rfl
    | int b => rw [rel_int h2]; rfl
    | str b => rw [rel_str h2]; rfl
    | _ => cases f2
  | int b => rw [rel_int h]; cases e with
    | non => rw [rel_non h2]; rfl
    | bl b => rw [rel_bl h2]; rfl
    | int b => rw [rel_int h2]; rfl
    | str b => rw [rel_str h2]; rfl
    | _ => cases f2
  | str b => rw [rel_str h]; cases e with
    | non => rw [rel_non h2]; rfl
    | bl b => rw [rel_bl h2]; rfl
    | int b => rw [rel_int h2]; rfl
    | str b => rw [rel_str h2]; rfl
    | _ => cases f2
  | _ => cases f
theorem flats_rel : ∀ {ds : List D} {vs : List V}, ds.all D.flat = true → Rels K H0 r ds vs → vs.all flatV = true
  | [], vs, _, h => by rw [h.unnil]; rfl
  | d :: ds, vs, f, h => by
    rw [List.all_cons, Bool.and_eq_true] at f
    obtain ⟨y, ys, rfl, h1, h2⟩ := h.uncons
    rw [List.all_cons, flat_rel f.1 h1, flats_rel f.2 h2]; rfl
theorem inF_rel {d : D} {v : V} (f : d.flat = true) (h : Rel K H0 r d v) : ∀ {ds : List D} {vs : List V}, ds.all D.flat = true → Rels K H0 r ds vs → inV v vs = inF d ds
  | [], vs, _, q => by rw [q.unnil]; rfl
  | e :: ds, vs, fs, q => by
    rw [List.all_cons, Bool.and_eq_true] at fs
    obtain ⟨y, ys, rfl, h1, h2⟩ := q.uncons
    have ih := inF_rel f h fs.2 h2
    unfold inV inF at ih ⊢
    rw [List.any_cons, List.any_cons, eqF_rel fs.1 f h1 h, ih]
def inW (neg : Bool) : OW := fun x y S k => ∃ xs, sview S y = some xs ∧ x.flat = true ∧ xs.all D.flat = true ∧ k (.bl (if neg then !inF x xs else inF x xs)) S
theorem good_in {neg : Bool} : GoodO K g (rIn K neg) (inW neg) := by
  intro H0 r S H d e x y k Q si h1 h2 hw ce
  obtain ⟨xs, e1, f1, f2, hk⟩ := hw
  obtain ⟨p, ys, rfl, q1, q2⟩ := sview_rel si h2 e1
  refine ⟨p, ys, rfl, q1, flat_rel f1 h1, flats_rel f2 q2, ?_⟩
  rw [inF_rel f1 h1 f2 q2]
  exact ce _ _ _ _ _ _ .refl si rel_bl' hk
def isNW (neg : Bool) : D → D → Sto → KD → Prop
  | .non, .non, S, k => k (.bl (!neg)) S
  | _, .non, S, k => k (.bl neg) S
  | _, _, _, _ => False
def D.isN : D → Bool
  | .non => true
  | _ => false
theorem isN_rel {d : D} {v : V} (h : Rel K H0 r d v) : decide (v = .non) = d.isN := by
  cases d with
  | non => rw [rel_non h]; rfl
  | bl b => rw [rel_bl h]; rfl
  | int b => rw [rel_int h]; rfl
  | str b => rw [rel_str h]; rfl
  | tup xs => unfold Rel at h; obtain ⟨a, _, rfl, _⟩ := h; rfl
  | lst xs => unfold Rel at h; obtain ⟨a, _, rfl, _⟩ := h; rfl
  | scr xs => unfold Rel at h; obtain ⟨a, _, rfl, _⟩ := h; rfl
  | cell xs => unfold Rel at h; obtain ⟨a, rfl, _⟩ := h; rfl
  | exn a c => unfold Rel at h; subst h; rfl
theorem isNW_eq {neg : Bool} {x : D} {S : Sto} {k : KD} (h : isNW neg x .non S k) : k (.bl (if neg then !x.isN else x.isN)) S := by
  unfold isNW at h
  cases x <;> cases neg <;> exact h
theorem good_isN : GoodO K g (fun x y H Q => y = .non ∧ Q (.bl (decide (x = .non))) H) (isNW false) := by
  intro H0 r S H d e x y k Q si h1 h2 hw ce
  cases e with
  | non =>
    refine ⟨rel_non h2, ?_⟩
    rw [isN_rel h1]
    exact ce _ _ _ _ _ _ .refl si rel_bl' (isNW_eq hw)
  | _ => unfold isNW at hw; cases d <;> exact hw.elim
theorem good_notN : GoodO K g (fun x y H Q => y = .non ∧ Q (.bl (!decide (x = .non))) H) (isNW true) := by
  intro H0 r S H d e x y k Q si h1 h2 hw ce
  cases e with
  | non =>
    refine ⟨rel_non h2, ?_⟩
    rw [isN_rel h1]
    exact ce _ _ _ _ _ _ .refl si rel_bl' (isNW_eq hw)
  | _ => unfold isNW at hw; cases d <;> exact hw.elim
theorem gc_lt : GoodC X g .Lt ltW := ⟨_, op_lt, good_ii0 fun _ _ _ _ => rel_bl'⟩
theorem gc_gt : GoodC X g .Gt gtW := ⟨_, op_gt, good_ii0 fun _ _ _ _ => rel_bl'⟩
theorem gc_eq (hu : X.A.units + 64 < cLine) : GoodC X g .Eq eqW := ⟨_, op_eq.or (op_eqD hu), good_eq⟩
theorem gc_ne (hu : X.A.units + 64 < cLine) : GoodC X g .NotEq neW := ⟨_, op_ne.or (op_neD hu), good_ne⟩
theorem gc_in : GoodC X g .In (inW false) := ⟨_, op_in_seq, good_in⟩
theorem gc_notIn : GoodC X g .NotIn (inW true) := ⟨_, op_notIn_seq, good_in⟩
theorem gc_isN : GoodC X g .Is (isNW false) := ⟨_, op_isN, good_isN⟩
theorem gc_notN : GoodC X g .IsNot (isNW true) := ⟨_, op_notN, good_notN⟩
theorem se_cmp {op : CmpOp} {f : OW} (hc : GoodC X g op f) (ha : SE X g W a wa) (hb : SE X g W b wb) (hm : behindInMarks op b = false := by first | exact nomark _ | rfl) : SE X g W (.Compare a [op] [b] pos) (wOp f wa wb) := by
  obtain ⟨rr, ho, go⟩ := hc
  obtain ⟨ta, pa, ga⟩ := ha
  obtain ⟨tb, pb, gb⟩ := hb
  exact ⟨_, pe_cmpR ho pa pb hm, goodOp go ga gb⟩
def kBl (k : Bool → Sto → Prop) : D → Sto → Prop := fun (x0 : HG (D)) x1 => match x0, x1 with
  | .bl b, S => k b S
  | _, _ => False
def wTest (w : WE) : WT := fun (xc : HG XE) s S k => w xc s S (kBl k)
theorem goodTest {t : TE} (gg : GoodE X g W t we) : GoodT X g W (tTest t) (wTest we) := by
  intro H0 r S H s sv Q k xc si rs h ce cx
  refine gg H0 r S H s sv _ _ xc si rs h (fun d v H1 r1 S1 H1' f1 s1 rl h1 => ?_) cx
  unfold kBl at h1
  split at h1
  · exact ⟨_, rel_bl rl, ce _ _ _ _ _ f1 s1 h1⟩
  · exact h1.elim
theorem st_cmp {op : CmpOp} {f : OW} (hc : GoodC X g op f) (ha : SE X g W a wa) (hb : SE X g W b wb) (hm : behindInMarks op b = false := by first | exact nomark _ | rfl) : STt X g W (.Compare a [op] [b] pos) (wTest (wOp f wa wb)) := by
  obtain ⟨rr, ho, go⟩ := hc
  obtain ⟨ta, pa, ga⟩ := ha
  obtain ⟨tb, pb, gb⟩ := hb
  exact ⟨_, pt_cmpR ho pa pb hm, goodTest (goodOp go ga gb)⟩
theorem st_val (ha : SE X g W a wa) (he : ∀ whole, isTrue a X.env whole = (do let v ← whole; standAt a.pos; holding [v] (truthy v)) := by intro _; rfl) : STt X g W a (wTest wa) := by
  obtain ⟨ta, pa, ga⟩ := ha
  exact ⟨_, pt_val pa he, goodTest ga⟩
def wChain (f f' : OW) (wa wb wc : WE) : WE := fun (xc : HG XE) s S k => wa xc s S fun x S1 => wb xc s S1 fun y S2 => f x y S2 (kBl fun b S3 => if b = true then wc xc s S3 fun u S4 => f' y u S4 k else k (.bl false) S3)
def wAnd (wt wu : WT) : WT := fun (xc : HG XE) s S k => wt xc s S fun b S1 => if b = true then wu xc s S1 k else k false S1
def wOr (wt wu : WT) : WT := fun (xc : HG XE) s S k => wt xc s S fun b S1 => if b = true then k true S1 else wu xc s S1 k
def wNot (wt : WT) : WT := fun (xc : HG XE) s S k => wt xc s S fun b S1 => k (!b) S1
theorem goodAnd {t u : TT} (ga : GoodT X g W t wt) (gb : GoodT X g W u wu) : GoodT X g W (tAnd t u) (wAnd wt wu) := by
  intro H0 r S H s sv Q k xc si rs h ce cx
  refine ga H0 r S H s sv _ _ xc si rs h (fun b H1 r1 S1 H1' f1 s1 h1 => ?_) cx
  cases b with
  | true =>
    rw [if_pos rfl] at h1 ⊢
    exact gb H1 r1 S1 H1' s sv _ _ xc s1 (rs.fut f1) h1 (fun b2 H2 r2 S2 H2' f2 s2 h2 => ce _ _ _ _ _ (f1.tr s1 f2) s2 h2) (cx.fut f1 s1)
  | false =>
    rw [if_neg Bool.false_ne_true] at h1 ⊢
    exact ce _ _ _ _ _ f1 s1 h1
theorem goodOr {t u : TT} (ga : GoodT X g W t wt) (gb : GoodT X g W u wu) : GoodT X g W (tOr t u) (wOr wt wu) := by
  intro H0 r S H s sv Q k xc si rs h ce cx
  refine ga H0 r S H s sv _ _ xc si rs h (fun b H1 r1 S1 H1' f1 s1 h1 => ?_) cx
  cases b with
  | false =>
    rw [if_neg Bool.false_ne_true] at h1 ⊢
    exact gb H1 r1 S1 H1' s sv _ _ xc s1 (rs.fut f1) h1 (fun b2 H2 r2 S2 H2' f2 s2 h2 => ce _ _ _ _ _ (f1.tr s1 f2) s2 h2) (cx.fut f1 s1)
  | true =>
    rw [if_pos rfl] at h1 ⊢
    exact ce _ _ _ _ _ f1 s1 h1
theorem sw_one {op : BoolOp} (ha : STt X g W a wt) : SPw X g W (.BoolOp op [a] pos) wt := by
  obtain ⟨ta, pa, ga⟩ := ha
  cases op with
  | And => exact ⟨_, pw_and1 pa, ga⟩
  | Or => exact ⟨_, pw_or1 pa, ga⟩
theorem sw_and {rest : List Expr} (ha : STt X g W a wt) (hb : SPw X g W (.BoolOp .And (b :: rest) pos) wu) : SPw X g W (.BoolOp .And (a :: b :: rest) pos) (wAnd wt wu) := by
  obtain ⟨ta, pa, ga⟩ := ha
  obtain ⟨tb, pb, gb⟩ := hb
  exact ⟨_, pw_and pa pb, goodAnd ga gb⟩
theorem sw_or {rest : List Expr} (ha : STt X g W a wt) (hb : SPw X g W (.BoolOp .Or (b :: rest) pos) wu) : SPw X g W (.BoolOp .Or (a :: b :: rest) pos) (wOr wt wu) := by
  obtain ⟨ta, pa, ga⟩ := ha
  obtain ⟨tb, pb, gb⟩ := hb
  exact ⟨_, pw_or pa pb, goodOr ga gb⟩
theorem SPw.st (h : SPw X g W a wt) : STt X g W a wt := by
  obtain ⟨ta, pa, ga⟩ := h
  exact ⟨_, pa.pt, ga⟩
theorem st_not (ha : STt X g W a wt) : STt X g W (.UnaryOp .Not a pos) (wNot wt) := by
  obtain ⟨ta, pa, ga⟩ := ha
  refine ⟨_, pt_not pa, fun H0 r S H s sv Q k xc si rs h ce cx => ?_⟩
  exact ga H0 r S H s sv _ _ xc si rs h (fun b H1 r1 S1 H1' f1 s1 h1 => ce _ _ _ _ _ f1 s1 h1) cx
def wAndV (wa wb : WE) : WE := fun (xc : HG XE) s S k => wa xc s S (kBl fun b S1 => if b = true then wb xc s S1 k else k (.bl false) S1)
def wOrV (wa wb : WE) : WE := fun (xc : HG XE) s S k => wa xc s S (kBl fun b S1 => if b = true then k (.bl true) S1 else wb xc s S1 k)
def wNotV (wa : WE) : WE := fun (xc : HG XE) s S k => wa xc s S (kNot k)
theorem se_one {op : BoolOp} (ha : SE X g W a wa) : SE X g W (.BoolOp op [a] pos) wa := by
  obtain ⟨ta, pa, ga⟩ := ha
  exact ⟨_, pe_one pa, ga⟩
theorem se_and {rest : List Expr} (ha : SE X g W a wa) (hb : SE X g W (.BoolOp .And (b :: rest) pos) wb) : SE X g W (.BoolOp .And (a :: b :: rest) pos) (wAndV wa wb) := by
  obtain ⟨ta, pa, ga⟩ := ha
  obtain ⟨tb, pb, gb⟩ := hb
  refine ⟨_, pe_and pa pb, fun H0 r S H s sv Q k xc si rs h ce cx => ?_⟩
  refine ga H0 r S H s sv _ _ xc si rs h (fun d v H1 r1 S1 H1' f1 s1 rl h1 => ?_) cx
  unfold kBl at h1
  split at h1
  · rename_i _ b
    refine ⟨b, rel_bl rl, ?_⟩
    cases b with
    | true =>
      rw [if_pos rfl] at h1 ⊢
      exact gb H1 r1 S1 H1' s sv _ _ xc s1 (rs.fut f1) h1 (ce.fut f1 s1) (cx.fut f1 s1)
    | false =>
      rw [if_neg Bool.false_ne_true] at h1 ⊢
      exact ce _ _ _ _ _ _ f1 s1 rel_bl' h1
  · exact h1.elim
theorem se_not (ha : SE X g W a wa) : SE X g W (.UnaryOp .Not a pos) (wNotV wa) := by
  obtain ⟨ta, pa, ga⟩ := ha
  refine ⟨_, pe_not pa, fun H0 r S H s sv Q k xc si rs h ce cx => ?_⟩
  refine ga H0 r S H s sv _ _ xc si rs h (fun d v H1 r1 S1 H1' f1 s1 rl h1 => ?_) cx
  unfold kNot at h1
  split at h1
  · exact ⟨_, rel_bl rl, ce _ _ _ _ _ _ f1 s1 rel_bl' h1⟩
  · exact h1.elim
def wIfE (wt : WT) (wa wb : WE) : WE := fun (xc : HG XE) s S k => wt xc s S fun b S1 => if b = true then wa xc s S1 k else wb xc s S1 k
theorem se_ifE (hc : STt X g W c wt) (ha : SE X g W a wa) (hb : SE X g W b wb) : SE X g W (.IfExp c a b pos) (wIfE wt wa wb) := by
  obtain ⟨tc, pc, gc⟩ := hc
  obtain ⟨ta, pa, ga⟩ := ha
  obtain ⟨tb, pb, gb⟩ := hb
  refine ⟨_, pe_ifExp pc pa pb, fun H0 r S H s sv Q k xc si rs h ce cx => ?_⟩
  refine gc H0 r S H s sv _ _ xc si rs h (fun b H1 r1 S1 H1' f1 s1 h1 => ?_) cx
  cases b with
  | true =>
    rw [if_pos rfl] at h1 ⊢
    exact ga H1 r1 S1 H1' s sv _ _ xc s1 (rs.fut f1) h1 (ce.fut f1 s1) (cx.fut f1 s1)
  | false =>
    rw [if_neg Bool.false_ne_true] at h1 ⊢
    exact gb H1 r1 S1 H1' s sv _ _ xc s1 (rs.fut f1) h1 (ce.fut f1 s1) (cx.fut f1 s1)
end
end Ab

namespace Ab
open PySem PySem.Spec PyProof.Rows L2

section
variable {X : Cx} {g : Gi} {W : WX} {a b c e : Expr} {es : List Expr} {pos : Pos} {wa wb wc we : WE} {wt wu : WT} {ws : WA}
variable {K : PySem.W.Frag} {H0 H : Hp} {r : List Addr} {S : Sto} {d : D} {v : V} {ds : List D}

def ixD (S : Sto) : D → Int → Option D
  | .str z, i => if z.length ≤ sizeLine then (atI z.cps.toList i).map fun c => .str ⟨#[c]⟩ else none
  | x, i => (sview S x).bind fun xs => atI xs i
def ixW : D → D → Sto → KD → Prop
  | x, .int i, S, k => ∃ d, ixD S x i = some d ∧ k d S
  | _, _, _, _ => False
theorem rels_at {ds : List D} {vs : List V} {i : Int} {d : D} (h : Rels K H0 r ds vs) (e : atI ds i = some d) : ∃ v, atI vs i = some v ∧ Rel K H0 r d v := by
  unfold atI at e ⊢
  rw [h.length]
  cases q : ixN ds.length i with
  | none => rw [q] at e; cases e
  | some j =>
    rw [q] at e
    exact h.get e
theorem good_ix : GoodO K g (rIx K) ixW := by
  intro H0 r S H d e x y k Q si h1 h2 hw ce
  unfold ixW at hw
  split at hw
  · rename_i i
    obtain ⟨d', e1, hk⟩ := hw
    rw [rel_int h2]
    unfold ixD at e1
    split at e1
    · rename_i z
      rw [rel_str h1]
      split at e1
      · rename_i hz
        cases q : atI z.cps.toList i with
        | none => rw [q] at e1; cases e1
        | some c =>
          rw [q] at e1
          cases e1
          exact .inr (.inr ⟨z, i, c, rfl, rfl, hz, q, ce _ _ _ _ _ _ .refl si rel_str' hk⟩)
      · cases e1
    · cases q : sview S d with
      | none => rw [q] at e1; cases e1
      | some xs =>
        rw [q] at e1
        have e1 : atI xs i = some d' := e1
        obtain ⟨p, ys, rfl, q1, q2⟩ := sview_rel si h1 q
        obtain ⟨v', e2, r2⟩ := rels_at q2 e1
        rcases q1 with q1 | q1
        · exact .inl ⟨p, ys, i, v', rfl, rfl, q1, e2, ce _ _ _ _ _ _ .refl si r2 hk⟩
        · exact .inr (.inl ⟨p, ys, i, v', rfl, rfl, q1, e2, ce _ _ _ _ _ _ .refl si r2 hk⟩)
  · exact hw.elim
theorem se_ix (ha : SE X g W a wa) (hb : SE X g W b wb) (hs : PlainIx b := by intro _ _; rfl) : SE X g W (.Subscript a b pos) (wOp ixW wa wb) := by
  obtain ⟨ta, pa, ga⟩ := ha
  obtain ⟨tb, pb, gb⟩ := hb
  exact ⟨_, pe_ix ix_seq pa pb hs, goodOp good_ix ga gb⟩

abbrev WO := XE → Env → Sto → (Option Int → Sto → Prop) → Prop
def GoodPO (X : Cx) (g : Gi) (W : WX) (te : TO) (w : WO) : Prop :=
  ∀ H0 r S H s sv (Q : Option Int → Hp → Prop) (k : Option Int → Sto → Prop) xc, Sim X.K g H0 r S H → RelSt X.K H0 r s sv → w xc s S k →
    (∀ b H0' r' S' H', Fut H0 r H H0' r' H' → Sim X.K g H0' r' S' H' → k b S' → Q b H') → CtX X.K g H0 r H s sv xc W → te sv H Q
def SO (X : Cx) (g : Gi) (W : WX) (e : Option Expr) (w : WO) : Prop := ∃ te, PO X e te ∧ GoodPO X g W te w
def wNoP : WO := fun (_ : HG XE) _ S k => k none S
def kSoP (k : Option Int → Sto → Prop) : D → Sto → Prop := fun (x0 : HG (D)) x1 => match x0, x1 with
  | .int i, S => k (some i) S
  | _, _ => False
def wSoP (w : WE) : WO := fun (xc : HG XE) s S k => w xc s S (kSoP k)
theorem so_none : SO X g W none wNoP := ⟨_, po_none, fun _ _ _ _ _ _ _ _ _ si _ h ce _ => ce _ _ _ _ _ .refl si h⟩
theorem so_some (ha : SE X g W a wa) : SO X g W (some a) (wSoP wa) := by
  obtain ⟨ta, pa, ga⟩ := ha
  refine ⟨_, po_some pa, fun H0 r S H s sv Q k xc si rs h ce cx => ?_⟩
  refine ga H0 r S H s sv _ _ xc si rs h (fun d v H1 r1 S1 H1' f1 s1 rl h1 => ?_) cx
  unfold kSoP at h1
  split at h1
  · exact ⟨_, rel_int rl, ce _ _ _ _ _ f1 s1 h1⟩
  · exact h1.elim
def cutD (xs : List D) (lo hi : Option Int) : List D := (xs.drop (HT.sIx xs.length 0 lo)).take (HT.sIx xs.length xs.length hi - HT.sIx xs.length 0 lo)
theorem rels_cut {ds : List D} {vs : List V} {lo hi : Option Int} (h : Rels K H0 r ds vs) : Rels K H0 r (cutD ds lo hi) (cutV vs lo hi) := by
  unfold cutD cutV
  rw [h.length]
  exact (h.drop _).take _
def slW : D → Option Int → Option Int → Sto → KD → Prop
  | .tup xs, lo, hi, S, k => ¬ (HT.sIx xs.length 0 lo = 0 ∧ HT.sIx xs.length xs.length hi = xs.length) ∧ k (.tup (cutD xs lo hi)) S
  | x, lo, hi, S, k => ∃ xs, lview S x = some xs ∧ k (.lst (cutD xs lo hi)) S
def wSl (wa : WE) (wl wh : WO) : WE := fun (xc : HG XE) s S k => wa xc s S fun x S1 => wl xc s S1 fun l S2 => wh xc s S2 fun u S3 => slW x l u S3 k
theorem se_slice {lo hi : Option Expr} {wl wh : WO} {p2 : Pos} (ha : SE X g W a wa) (hl : SO X g W lo wl) (hh : SO X g W hi wh) : SE X g W (.Subscript a (.Slice lo hi none p2) pos) (wSl wa wl wh) := by
  obtain ⟨ta, pa, ga⟩ := ha
  obtain ⟨tl, pl, gl⟩ := hl
  obtain ⟨th, ph, gh⟩ := hh
  refine ⟨_, pe_slice (sl_list.or sl_tup) pa pl ph, fun H0 r S H s sv Q k xc si rs h ce cx => ?_⟩
  refine ga H0 r S H s sv _ _ xc si rs h (fun d v H1 r1 S1 H1' f1 s1 rl h1 => ?_) cx
  refine gl H1 r1 S1 H1' s sv _ _ xc s1 (rs.fut f1) h1 (fun l H2 r2 S2 H2' f2 s2 h2 => ?_) (cx.fut f1 s1)
  have f12 := f1.tr s1 f2
  refine gh H2 r2 S2 H2' s sv _ _ xc s2 (rs.fut f12) h2 (fun u H3 r3 S3 H3' f3 s3 h3 => ?_) (cx.fut f12 s2)
  have f13 := f12.tr s2 f3
  have rl3 := (rl.fut f2).fut f3
  unfold slW at h3
  split at h3
  · obtain ⟨nw, hk⟩ := h3
    obtain ⟨p, ys, rfl, q1, q2⟩ := tview_rel s3 rl3 rfl
    refine .inr ⟨p, ys, rfl, q1, by rw [q2.length]; exact nw, fun q hq => ?_⟩
    obtain ⟨s4, f4, rl4⟩ := s3.tup hq (rels_cut q2)
    exact ce _ _ _ _ _ _ (f13.tr s3 f4) s4 rl4 hk
  · obtain ⟨xs, e1, hk⟩ := h3
    obtain ⟨p, ys, rfl, q1, q2⟩ := lview_rel s3 rl3 e1
    refine .inl ⟨p, ys, rfl, q1, fun q hq => ?_⟩
    obtain ⟨s4, f4, rl4⟩ := s3.lst hq (rels_cut q2)
    exact ce _ _ _ _ _ _ (f13.tr s3 f4) s4 rl4 hk

def wNil : WA := fun (_ : HG XE) _ S k => k [] S
def wCons (wa : WE) (ws : WA) : WA := fun (xc : HG XE) s S k => wa xc s S fun d S1 => ws xc s S1 fun ds S2 => k (d :: ds) S2
theorem sa_nil : SA X g W [] wNil := ⟨_, pa_nil, fun _ _ _ _ _ _ _ _ _ si _ h ce _ => ce _ _ _ _ _ _ .refl si .nil h⟩
theorem sa_cons (ha : SE X g W a wa) (hs : SA X g W es ws) (hst : starEach (a :: es) X.env = (false, eval a X.env) :: starEach es X.env := by rfl) : SA X g W (a :: es) (wCons wa ws) := by
  obtain ⟨ta, pa, ga⟩ := ha
  obtain ⟨tb, pb, gb⟩ := hs
  refine ⟨_, pa_cons pa pb hst, fun H0 r S H s sv Q k xc si rs h ce cx => ?_⟩
  refine ga H0 r S H s sv _ _ xc si rs h (fun d v H1 r1 S1 H1' f1 s1 rl h1 => ?_) cx
  refine gb H1 r1 S1 H1' s sv _ _ xc s1 (rs.fut f1) h1 (fun ds vs H2 r2 S2 H2' f2 s2 rl2 h2 => ?_) (cx.fut f1 s1)
  exact ce _ _ _ _ _ _ (f1.tr s1 f2) s2 (.cons (rl.fut f2) rl2) h2
def wTup (ws : WA) : WE := fun (xc : HG XE) s S k => ws xc s S fun ds S1 => ds.length ≤ sizeLine ∧ k (.tup ds) S1
def wLst (ws : WA) : WE := fun (xc : HG XE) s S k => ws xc s S fun ds S1 => ds.length ≤ sizeLine ∧ k (.lst ds) S1
def wLstC (ws : WA) : WE := fun (xc : HG XE) s S k => ws xc s S fun ds S1 => ds.length ≤ sizeLine ∧ k (.cell S1.length) (S1 ++ [.lst ds])
theorem se_tup {x1} (hs : SA X g W es ws) : SE X g W (.Tuple es x1 pos) (wTup ws) := by
  obtain ⟨ta, pa, ga⟩ := hs
  refine ⟨_, pe_tup pa, fun H0 r S H s sv Q k xc si rs h ce cx => ?_⟩
  refine ga H0 r S H s sv _ _ xc si rs h (fun ds vs H1 r1 S1 H1' f1 s1 rl h1 => ?_) cx
  refine ⟨by rw [rl.length]; exact h1.1, fun p hp => ?_⟩
  obtain ⟨s4, f4, rl4⟩ := s1.tup hp rl
  exact ce _ _ _ _ _ _ (f1.tr s1 f4) s4 rl4 h1.2
theorem se_lst (hs : SA X g W es ws) : SE X g W (.List es pos) (wLst ws) := by
  obtain ⟨ta, pa, ga⟩ := hs
  refine ⟨_, pe_lst pa, fun H0 r S H s sv Q k xc si rs h ce cx => ?_⟩
  refine ga H0 r S H s sv _ _ xc si rs h (fun ds vs H1 r1 S1 H1' f1 s1 rl h1 => ?_) cx
  refine ⟨by rw [rl.length]; exact h1.1, fun p hp => ?_⟩
  obtain ⟨s4, f4, rl4⟩ := s1.lst hp rl
  exact ce _ _ _ _ _ _ (f1.tr s1 f4) s4 rl4 h1.2
theorem Sim.newLst {xs : List V} {p : Addr} (si : Sim K g H0 r S H) (hp : H p = none) (h : Rels K H0 r ds xs) :
    Sim K g H0 (r ++ [p]) (S ++ [.lst ds]) (upd H p (.lst xs)) ∧ Fut H0 r H H0 (r ++ [p]) (upd H p (.lst xs)) ∧ Rel K H0 (r ++ [p]) (.cell S.length) (.ref p) := by
  obtain ⟨h1, h2⟩ := si.new (o := .lst xs) (c := .lst ds) hp fun H' e => ⟨si.ex.none hp, xs, e, h⟩
  refine ⟨h1, h2, ?_⟩
  unfold Rel
  exact ⟨p, rfl, by rw [← si.len, List.getElem?_append_right (Nat.le_refl _), Nat.sub_self]; rfl⟩
theorem se_lstC (hs : SA X g W es ws) : SE X g W (.List es pos) (wLstC ws) := by
  obtain ⟨ta, pa, ga⟩ := hs
  refine ⟨_, pe_lst pa, fun H0 r S H s sv Q k xc si rs h ce cx => ?_⟩
  refine ga H0 r S H s sv _ _ xc si rs h (fun ds vs H1 r1 S1 H1' f1 s1 rl h1 => ?_) cx
  refine ⟨by rw [rl.length]; exact h1.1, fun p hp => ?_⟩
  obtain ⟨s4, f4, rl4⟩ := s1.newLst hp rl
  exact ce _ _ _ _ _ _ (f1.tr s1 f4) s4 rl4 h1.2

def frzC : Option Cel → Nat → Sto → KD → Prop
  | some (.lst xs), n, S, k => k (.lst xs) (S.set n .dead)
  | _, _, _, _ => False
def frzW : D → Sto → KD → Prop
  | .cell n, S, k => frzC S[n]? n S k
  | d, S, k => k d S
def wFrz (w : WE) : WE := fun (xc : HG XE) s S k => w xc s S fun d S1 => frzW d S1 k
theorem frz_good {H0 : Hp} {r : List Addr} {S : Sto} {H : Hp} {k : KD} {Q : VK} (si : Sim K g H0 r S H) (rl : Rel K H0 r d v) (h : frzW d S k) (ce : CtE K g H0 r H k Q) : Q v H := by
  unfold frzW at h
  split at h
  · rename_i n _ _
    unfold frzC at h
    split at h
    · rename_i xs _ _ _ hS
      unfold Rel at rl
      obtain ⟨p, rfl, hr⟩ := rl
      obtain ⟨ys, hp, s2, f2, rx⟩ := si.freeze hr hS
      refine ce _ _ _ _ _ _ f2 s2 ?_ h
      unfold Rel
      exact ⟨p, ys, rfl, .inl upd_same, rx.fut f2⟩
    · exact h.elim
  · exact ce _ _ _ _ _ _ .refl si rl h
theorem se_frz (ha : SE X g W a wa) : SE X g W a (wFrz wa) := by
  obtain ⟨ta, pa, ga⟩ := ha
  refine ⟨_, pa, fun H0 r S H s sv Q k xc si rs h ce cx => ?_⟩
  exact ga H0 r S H s sv _ _ xc si rs h (fun d v H1 r1 S1 H1' f1 s1 rl h1 => frz_good s1 rl h1 (ce.fut f1 s1)) cx

abbrev CW := List D → Sto → KD → Prop
def GoodCl (K : PySem.W.Frag) (g : Gi) (rr : List V → Hp → VK → Prop) (f : CW) : Prop :=
  ∀ H0 r S H ds vs k Q, Sim K g H0 r S H → Rels K H0 r ds vs → f ds S k → CtE K g H0 r H k Q → rr vs H Q
def wB (f : CW) (ws : WA) : WE := fun (xc : HG XE) s S k => ws xc s S fun ds S1 => f ds S1 k
theorem goodCl {rr : List V → Hp → VK → Prop} {f : CW} {t : TA} (gc : GoodCl X.K g rr f) (ga : GoodA X g W t ws) : GoodE X g W (tCB rr t) (wB f ws) := by
  intro H0 r S H s sv Q k xc si rs h ce cx
  exact ga H0 r S H s sv _ _ xc si rs h (fun ds vs H1 r1 S1 H1' f1 s1 rl h1 => gc H1 r1 S1 H1' ds vs k Q s1 rl h1 (ce.fut f1 s1)) cx
theorem se_callB {x : Str} {p : Pos} {id : String} {rr : List V → Hp → VK → Prop} {f : CW} (hc : CallR X (.builtin id) rr) (gc : GoodCl X.K g rr f) (hg : Gl X x) (hm : X.mg x = none) (hv : bootBuiltins x = some (.builtin id))
    (ha : SA X g W (e :: es) ws) (hn : x ≠ "__name__" := by decide) (hdb : (x == ("__debug__" : Str)) = false := by decide)
    (he : starEach (e :: es) X.env = (false, eval e X.env) :: starEach es X.env := by rfl) (hpl : (backTo pos (starEach es X.env)).any (·.1) = false := by rfl) : SE X g W (.Call (.Name x p) (e :: es) [] pos) (wB f ws) := by
  obtain ⟨ta, pa, ga⟩ := ha
  exact ⟨_, pe_callB hc hg hm hv pa hn hdb he hpl, goodCl gc ga⟩
theorem se_callTy {x : Str} {p : Pos} {T : String} {rr : List V → Hp → VK → Prop} {f : CW} (hc : CallR X (.type T) rr) (gc : GoodCl X.K g rr f) (hg : Gl X x) (hm : X.mg x = none) (hv : bootBuiltins x = some (.type T))
    (ha : SA X g W (e :: es) ws) (hn : x ≠ "__name__" := by decide) (hdb : (x == ("__debug__" : Str)) = false := by decide)
    (he : starEach (e :: es) X.env = (false, eval e X.env) :: starEach es X.env := by rfl) (hpl : (backTo pos (starEach es X.env)).any (·.1) = false := by rfl) : SE X g W (.Call (.Name x p) (e :: es) [] pos) (wB f ws) := by
  obtain ⟨ta, pa, ga⟩ := ha
  exact ⟨_, pe_callTy hc hg hm hv pa hn hdb he hpl, goodCl gc ga⟩
def lenF : List D → Sto → KD → Prop
  | [.str z], S, k => z.length ≤ sizeLine ∧ k (.int z.length) S
  | [x], S, k => ∃ xs, sview S x = some xs ∧ k (.int xs.length) S
  | _, _, _ => False
def rLenU (K : PySem.W.Frag) : List V → Hp → VK → Prop := fun xs H Q => (∃ p ys, xs = [.ref p] ∧ (SqL K H p ys ∨ SqT K H p ys) ∧ Q (.int ys.length) H) ∨ ∃ z, xs = [.str z] ∧ z.length ≤ sizeLine ∧ Q (.int z.length) H
theorem rels1 (h : Rels K H0 r [d] ds') : ∃ v, ds' = [v] ∧ Rel K H0 r d v := by
  obtain ⟨v, ys, rfl, h1, h2⟩ := h.uncons
  rw [h2.unnil]
  exact ⟨v, rfl, h1⟩
theorem rels2 {d2 : D} {vs : List V} (h : Rels K H0 r [d, d2] vs) : ∃ v v2, vs = [v, v2] ∧ Rel K H0 r d v ∧ Rel K H0 r d2 v2 := by
  obtain ⟨v, ys, rfl, h1, h2⟩ := h.uncons
  obtain ⟨v2, rfl, h3⟩ := rels1 h2
  exact ⟨v, v2, rfl, h1, h3⟩
theorem good_len : GoodCl K g (rLenU K) lenF := by
  intro H0 r S H ds vs k Q si rl h ce
  unfold lenF at h
  split at h
  · obtain ⟨v, rfl, h1⟩ := rels1 rl
    rw [rel_str h1]
    exact .inr ⟨_, rfl, h.1, ce _ _ _ _ _ _ .refl si rel_int' h.2⟩
  · obtain ⟨v, rfl, h1⟩ := rels1 rl
    obtain ⟨xs, e, hk⟩ := h
    obtain ⟨p, ys, rfl, q1, q2⟩ := sview_rel si h1 e
    refine .inl ⟨p, ys, rfl, q1, ?_⟩
    rw [q2.length]
    exact ce _ _ _ _ _ _ .refl si rel_int' hk
  · exact h.elim
theorem se_len {p : Pos} (hg : Gl X "len") (hm : X.mg "len" = none) (ha : SA X g W [e] ws) (he : starEach [e] X.env = (false, eval e X.env) :: starEach [] X.env := by rfl) (hpl : (backTo pos (starEach [] X.env)).any (·.1) = false := by rfl) :
    SE X g W (.Call (.Name "len" p) [e] [] pos) (wB lenF ws) := se_callB (call_len_seq.or call_len_str) good_len hg hm PySem.boot_len ha (by decide) (by decide) he hpl
def absF : List D → Sto → KD → Prop
  | [.int i], S, k => k (.int (if i < 0 then -i else i)) S
  | _, _, _ => False
def isInts (S : Sto) (x : D) (ns : List Int) : Prop := lview S x = some (ns.map .int)
def maxF : List D → Sto → KD → Prop
  | [.int i, .int j], S, k => k (.int (if j > i then j else i)) S
  | [x], S, k => ∃ ns : List Int, isInts S x ns ∧ 0 < ns.length ∧ ∀ m, m ∈ ns → (∀ y, y ∈ ns → y ≤ m) → k (.int m) S
  | _, _, _ => False
def minF : List D → Sto → KD → Prop
  | [.int i, .int j], S, k => k (.int (if j < i then j else i)) S
  | [x], S, k => ∃ ns : List Int, isInts S x ns ∧ 0 < ns.length ∧ ∀ m, m ∈ ns → (∀ y, y ∈ ns → m ≤ y) → k (.int m) S
  | _, _, _ => False
theorem good_max : GoodCl K g (fun xs H Q => (∃ i j, xs = [.int i, .int j] ∧ Q (.int (if j > i then j else i)) H) ∨ rMax K xs H Q) maxF := by
  intro H0 r S H ds vs k Q si rl h ce
  unfold maxF at h
  split at h
  · obtain ⟨v, v2, rfl, h1, h2⟩ := rels2 rl
    rw [rel_int h1, rel_int h2]
    exact .inl ⟨_, _, rfl, ce _ _ _ _ _ _ .refl si rel_int' h⟩
  · obtain ⟨v, rfl, h1⟩ := rels1 rl
    obtain ⟨ns, e, hn, hk⟩ := h
    obtain ⟨p, ys, rfl, q1, q2⟩ := lview_rel si h1 e
    rw [Rels.ints] at q2
    subst q2
    exact .inr ⟨p, ns, rfl, q1, hn, fun m m1 m2 => ce _ _ _ _ _ _ .refl si rel_int' (hk m m1 m2)⟩
  · exact h.elim
theorem good_min : GoodCl K g (fun xs H Q => (∃ i j, xs = [.int i, .int j] ∧ Q (.int (if j < i then j else i)) H) ∨ rMin K xs H Q) minF := by
  intro H0 r S H ds vs k Q si rl h ce
  unfold minF at h
  split at h
  · obtain ⟨v, v2, rfl, h1, h2⟩ := rels2 rl
    rw [rel_int h1, rel_int h2]
    exact .inl ⟨_, _, rfl, ce _ _ _ _ _ _ .refl si rel_int' h⟩
  · obtain ⟨v, rfl, h1⟩ := rels1 rl
    obtain ⟨ns, e, hn, hk⟩ := h
    obtain ⟨p, ys, rfl, q1, q2⟩ := lview_rel si h1 e
    rw [Rels.ints] at q2
    subst q2
    exact .inr ⟨p, ns, rfl, q1, hn, fun m m1 m2 => ce _ _ _ _ _ _ .refl si rel_int' (hk m m1 m2)⟩
  · exact h.elim
theorem se_max {p : Pos} (hc : X.calm = true) (hg : Gl X "max") (hm : X.mg "max" = none) (ha : SA X g W (e :: es) ws) (he : starEach (e :: es) X.env = (false, eval e X.env) :: starEach es X.env := by rfl) (hpl : (backTo pos (starEach es X.env)).any (·.1) = false := by rfl) :
    SE X g W (.Call (.Name "max" p) (e :: es) [] pos) (wB maxF ws) := se_callB ((call_max2 hc).or (cr_max hc)) good_max hg hm (by decide +kernel) ha (by decide) (by decide) he hpl
theorem se_min {p : Pos} (hc : X.calm = true) (hg : Gl X "min") (hm : X.mg "min" = none) (ha : SA X g W (e :: es) ws) (he : starEach (e :: es) X.env = (false, eval e X.env) :: starEach es X.env := by rfl) (hpl : (backTo pos (starEach es X.env)).any (·.1) = false := by rfl) :
    SE X g W (.Call (.Name "min" p) (e :: es) [] pos) (wB minF ws) := se_callB ((call_min2 hc).or (cr_min hc)) good_min hg hm (by decide +kernel) ha (by decide) (by decide) he hpl
def sumF : List D → Sto → KD → Prop
  | [x], S, k => ∃ ns : List Int, isInts S x ns ∧ k (.int ns.sum) S
  | _, _, _ => False
theorem good_sum : GoodCl K g (rSum K) sumF := by
  intro H0 r S H ds vs k Q si rl h ce
  unfold sumF at h
  split at h
  · obtain ⟨v, rfl, h1⟩ := rels1 rl
    obtain ⟨ns, e, hk⟩ := h
    obtain ⟨p, ys, rfl, q1, q2⟩ := lview_rel si h1 e
    rw [Rels.ints] at q2
    subst q2
    exact ⟨p, ns, rfl, q1, ce _ _ _ _ _ _ .refl si rel_int' hk⟩
  · exact h.elim
theorem se_sum {p : Pos} (hc : X.calm = true) (hg : Gl X "sum") (hm : X.mg "sum" = none) (ha : SA X g W (e :: es) ws) (he : starEach (e :: es) X.env = (false, eval e X.env) :: starEach es X.env := by rfl) (hpl : (backTo pos (starEach es X.env)).any (·.1) = false := by rfl) :
    SE X g W (.Call (.Name "sum" p) (e :: es) [] pos) (wB sumF ws) := se_callB (cr_sum hc) good_sum hg hm (by decide +kernel) ha (by decide) (by decide) he hpl
def allF : List D → Sto → KD → Prop
  | [x], S, k => ∃ bs : List Bool, lview S x = some (bs.map .bl) ∧ k (.bl (bs.all id)) S
  | _, _, _ => False
def listF : List D → Sto → KD → Prop
  | [x], S, k => ∃ xs, sview S x = some xs ∧ k (.lst xs) S
  | _, _, _ => False
def listFC : List D → Sto → KD → Prop
  | [x], S, k => ∃ xs, sview S x = some xs ∧ k (.cell S.length) (S ++ [.lst xs])
  | _, _, _ => False
def rListU (K : PySem.W.Frag) : List V → Hp → VK → Prop := fun xs H Q => ∃ p ys, xs = [.ref p] ∧ (SqL K H p ys ∨ SqT K H p ys) ∧ ∀ l, H l = none → Q (.ref l) (upd H l (.lst ys))
theorem good_list : GoodCl K g (rListU K) listF := by
  intro H0 r S H ds vs k Q si rl h ce
  unfold listF at h
  split at h
  · obtain ⟨v, rfl, h1⟩ := rels1 rl
    obtain ⟨xs, e, hk⟩ := h
    obtain ⟨p, ys, rfl, q1, q2⟩ := sview_rel si h1 e
    refine ⟨p, ys, rfl, q1, fun l hl => ?_⟩
    obtain ⟨s4, f4, rl4⟩ := si.lst hl q2
    exact ce _ _ _ _ _ _ f4 s4 rl4 hk
  · exact h.elim
theorem se_list {p : Pos} (hg : Gl X "list") (hm : X.mg "list" = none) (ha : SA X g W [e] ws) (he : starEach [e] X.env = (false, eval e X.env) :: starEach [] X.env := by rfl) (hpl : (backTo pos (starEach [] X.env)).any (·.1) = false := by rfl) :
    SE X g W (.Call (.Name "list" p) [e] [] pos) (wB listF ws) := se_callTy call_list_of good_list hg hm (by decide +kernel) ha (by decide) (by decide) he hpl
def tupleF : List D → Sto → KD → Prop
  | [x], S, k => ∃ xs, sview S x = some xs ∧ k (.tup xs) S
  | _, _, _ => False
def rTupU (K : PySem.W.Frag) : List V → Hp → VK → Prop := fun xs H Q => ∃ p ys, xs = [.ref p] ∧ ((SqL K H p ys ∧ ∀ l, H l = none → Q (.ref l) (upd H l (.tup ys))) ∨ (SqT K H p ys ∧ Q (.ref p) H))
def intF : List D → Sto → KD → Prop
  | [.int i], S, k => k (.int i) S
  | [.bl b], S, k => k (.int (if b then 1 else 0)) S
  | _, _, _ => False
def sortedF : List D → Sto → KD → Prop
  | [x], S, k => ∃ ns : List Int, isInts S x ns ∧ ∀ ms : List Int, ms.Perm ns → ms.Pairwise (· ≤ ·) → k (.lst (ms.map .int)) S
  | _, _, _ => False
inductive Ty where | int | bool | list | tuple | str
  deriving DecidableEq
def Ty.nm : Ty → String
  | .int => "int" | .bool => "bool" | .list => "list" | .tuple => "tuple" | .str => "str"
def isiB : String → Ty → Bool
  | "int", .int => true
  | "bool", .int => true
  | "bool", .bool => true
  | "list", .list => true
  | "tuple", .tuple => true
  | "str", .str => true
  | _, _ => false
def tyD (S : Sto) : D → Option String
  | .non => some "NoneType"
  | .bl _ => some "bool"
  | .int _ => some "int"
  | .str _ => some "str"
  | .tup _ => some "tuple"
  | .lst _ => some "list"
  | .scr _ => some "list"
  | .cell n => match S[n]? with
    | some (.lst _) => some "list"
    | some (.dk _) => some "dict"
    | _ => none
  | .exn .. => none
theorem tyD_rel (si : Sim K g H0 r S H) (h : Rel K H0 r d v) {t : String} (e : tyD S d = some t) : TyX K H v (.type t) := by
  cases d with
  | non => cases e; rw [rel_non h]; exact .base .non
  | bl b => cases e; rw [rel_bl h]; exact .base (.bl b)
  | int i => cases e; rw [rel_int h]; exact .base (.int i)
  | str s => cases e; rw [rel_str h]; exact .base (.str s)
  | tup xs =>
    cases e
    obtain ⟨p, ys, rfl, q1, q2⟩ := tview_rel (d := .tup xs) si h rfl
    rcases q1 with (q1 | ⟨o, q1⟩) | ⟨o, its, n, q1, q2, _⟩
    · exact .base (.tup q1)
    · exact .fTuple q1
    · exact .kTuple q1 q2
  | lst xs =>
    cases e
    obtain ⟨p, ys, rfl, q1, q2⟩ := rview_rel (d := .lst xs) si h rfl
    rcases q1 with q1 | ⟨o, q1⟩
    · exact .base (.lst q1)
    · exact .base (.frz q1)
  | scr xs =>
    cases e
    obtain ⟨p, ys, rfl, q1, q2⟩ := lview_rel (d := .scr xs) si h rfl
    rcases q1 with (q1 | ⟨o, q1⟩) | ⟨o, its, n, q1, q2, _⟩
    · exact .base (.lst q1)
    · exact .base (.frz q1)
    · exact .kList q1 q2
  | cell n =>
    unfold Rel at h
    obtain ⟨a, rfl, hr⟩ := h
    have e : (match S[n]? with
      | some (.lst _) => some "list"
      | some (.dk _) => some "dict"
      | _ => none) = some t := e
    split at e
    · rename_i xs hS
      cases e
      obtain ⟨_, ys, q1, _⟩ := si.cel n a _ hr hS
      exact .base (.lst q1)
    · rename_i xs hS
      cases e
      obtain ⟨_, ys, q1, _⟩ := si.cel n a _ hr hS
      exact .base (.dK q1)
    · cases e
  | exn _ _ => cases e
theorem tyD_some {t : String} (e : tyD S d = some t) : t = "NoneType" ∨ t = "bool" ∨ t = "int" ∨ t = "str" ∨ t = "tuple" ∨ t = "list" ∨ t = "dict" := by
  cases d with
  | cell n =>
    have e : (match S[n]? with
      | some (.lst _) => some "list"
      | some (.dk _) => some "dict"
      | _ => none) = some t := e
    split at e
    · cases e; simp
    · cases e; simp
    · cases e
  | exn _ _ => cases e
  | _ => cases e; simp
theorem kit_isi {t : String} {n : Ty} (h : t = "NoneType" ∨ t = "bool" ∨ t = "int" ∨ t = "str" ∨ t = "tuple" ∨ t = "list" ∨ t = "dict") : kitB t n.nm = some (isiB t n) := by
  rcases h with rfl | rfl | rfl | rfl | rfl | rfl | rfl <;> cases n <;> decide +kernel
def isiD (S : Sto) (n : Ty) : D → Option Bool
  | .non => some false
  | .bl _ => some (decide (n = .int) || decide (n = .bool))
  | .int _ => some (decide (n = .int))
  | .str _ => some (decide (n = .str))
  | .tup _ => some (decide (n = .tuple))
  | .lst _ => some (decide (n = .list))
  | .scr _ => some (decide (n = .list))
  | .cell m => match S[m]? with
    | some (.lst _) => some (decide (n = .list))
    | some (.dk _) => some false
    | _ => none
  | .exn .. => none
theorem isiD_ty {n : Ty} {b : Bool} (e : isiD S n d = some b) : ∃ t, tyD S d = some t ∧ isiB t n = b := by
  cases d with
  | cell m =>
    have e : (match S[m]? with
      | some (.lst _) => some (decide (n = .list))
      | some (.dk _) => some false
      | _ => none) = some b := e
    show ∃ t, (match S[m]? with
      | some (.lst _) => some "list"
      | some (.dk _) => some "dict"
      | _ => none) = some t ∧ isiB t n = b
    split at e
    · cases e
      exact ⟨_, rfl, by cases n <;> rfl⟩
    · cases e
      exact ⟨_, rfl, by cases n <;> rfl⟩
    · cases e
  | exn _ _ => cases e
  | _ => cases e; exact ⟨_, rfl, by cases n <;> rfl⟩
def wIsi (n : Ty) (wa : WE) : WE := fun (xc : HG XE) s S k => wa xc s S fun d S1 => ∃ b, isiD S1 n d = some b ∧ k (.bl b) S1
theorem se_isi {x : Str} {p p2 : Pos} (n : Ty) (hg : Gl X "isinstance") (hm : X.mg "isinstance" = none) (ha : SE X g W e wa) (hg2 : Gl X x) (hm2 : X.mg x = none) (hx : bootBuiltins x = some (.type n.nm) := by decide +kernel)
    (hn2 : x ≠ "__name__" := by decide) (hd2 : (x == ("__debug__" : Str)) = false := by decide)
    (hst : starEach [e, .Name x p2] X.env = (false, eval e X.env) :: starEach [.Name x p2] X.env := by rfl) (hst2 : starEach [.Name x p2] X.env = (false, eval (.Name x p2) X.env) :: starEach [] X.env := by rfl) (hpl : (backTo pos (starEach [.Name x p2] X.env)).any (·.1) = false := by rfl) :
    SE X g W (.Call (.Name "isinstance" p) [e, .Name x p2] [] pos) (wIsi n wa) := by
  obtain ⟨ta, pa, ga⟩ := ha
  refine ⟨_, pe_callB call_isi hg hm (by decide +kernel) (pa_cons pa (pa_cons (pe_bltn (v := .ty n.nm) hg2 hm2 hx rfl hn2 hd2) pa_nil hst2) hst) (by decide) (by decide) hst hpl, fun H0 r S H s sv Q k xc si rs h ce cx => ?_⟩
  refine ga H0 r S H s sv _ _ xc si rs h (fun d v H1 r1 S1 H1' f1 s1 rl h1 => ?_) cx
  obtain ⟨b, e1, hk⟩ := h1
  obtain ⟨t, e2, e3⟩ := isiD_ty e1
  refine ⟨v, .ty n.nm, .type t, .type n.nm, b, rfl, .ty _, tyD_rel s1 rl e2, ?_, ce _ _ _ _ _ _ f1 s1 rel_bl' hk⟩
  rw [← e3]
  exact kit_ty (kit_isi (tyD_some e2))
end
end Ab

namespace Ab
open PySem PySem.Spec PyProof.Rows L2

section
variable {X : Cx} {g : Gi} {W : WX} {a b c e o : Expr} {es : List Expr} {pos cpos apos : Pos} {wa wb wc we wo : WE} {wt wu : WT} {ws : WA}
variable {K : PySem.W.Frag} {H0 H : Hp} {r : List Addr} {S : Sto} {d : D} {v : V} {ds : List D}

abbrev MW := D → List D → Sto → KD → Prop
def GoodM (K : PySem.W.Frag) (g : Gi) (rr : V → List V → Hp → VK → Prop) (f : MW) : Prop :=
  ∀ H0 r S H d ds x vs k Q, Sim K g H0 r S H → Rel K H0 r d x → Rels K H0 r ds vs → f d ds S k → CtE K g H0 r H k Q → rr x vs H Q
def wM (f : MW) (wo : WE) (ws : WA) : WE := fun (xc : HG XE) s S k => wo xc s S fun o S1 => (∃ xs, lview S1 o = some xs) ∧ ws xc s S1 fun ds S2 => f o ds S2 k
def wM0 (f : MW) (wo : WE) : WE := fun (xc : HG XE) s S k => wo xc s S fun o S1 => (∃ xs, lview S1 o = some xs) ∧ f o [] S1 k
theorem tyV_list (si : Sim K g H0 r S H) (h : Rel K H0 r d v) (e : ∃ xs, lview S d = some xs) : tyV K "list" v H := by
  obtain ⟨xs, e⟩ := e
  obtain ⟨p, ys, rfl, q1, q2⟩ := lview_rel si h e
  exact .inl ⟨rfl, ys, q1⟩
theorem se_m {name : Str} {id : String} {rr : V → List V → Hp → VK → Prop} {f : MW} (slot : Slot "list" name id) (hty : typeOf (.builtin id) = pure (.type "method_descriptor")) (hm : MtR X id rr) (gm : GoodM X.K g rr f) (ho : SE X g W o wo) (ha : SA X g W (e :: es) ws)
    (hbase : attributeBase o name X.env (eval o X.env) = eval o X.env := by rfl)
    (hfew : ((backTo cpos (starEach (e :: es) X.env)).all (fun x => !x.1) && (backToKw cpos (keywordEach [] X.env)).all (fun x => x.1.isSome)
      && decide ((e :: es).length + ([] : List Keyword).length + (if ([] : List Keyword).isEmpty then 0 else 1) < 30)) = true := by rfl)
    (hline : (apos.endLine == cpos.line) = true := by rfl) (hs : starEach (e :: es) X.env = (false, eval e X.env) :: starEach es X.env := by rfl) (hplain : (backTo cpos (starEach es X.env)).any (·.1) = false := by rfl) :
    SE X g W (.Call (.Attribute o name apos) (e :: es) [] cpos) (wM f wo ws) := by
  obtain ⟨to, po, go⟩ := ho
  obtain ⟨ta, pa, ga⟩ := ha
  refine ⟨_, pe_bm PySem.F.plainAttrs_list slot hty hm po pa hbase hfew hline hs hplain, fun H0 r S H s sv Q k xc si rs h ce cx => ?_⟩
  refine go H0 r S H s sv _ _ xc si rs h (fun d v H1 r1 S1 H1' f1 s1 rl h1 => ?_) cx
  refine ⟨tyV_list s1 rl h1.1, ?_⟩
  refine ga H1 r1 S1 H1' s sv _ _ xc s1 (rs.fut f1) h1.2 (fun ds vs H2 r2 S2 H2' f2 s2 rl2 h2 => ?_) (cx.fut f1 s1)
  exact gm H2 r2 S2 H2' d ds v vs k Q s2 (rl.fut f2) rl2 h2 (ce.fut (f1.tr s1 f2) s2)
theorem cel_lst {n : Nat} {xs : List D} (si : Sim K g H0 r S H) (h : Rel K H0 r (.cell n) v) (e : S[n]? = some (.lst xs)) :
    ∃ p ys, v = .ref p ∧ r[n]? = some p ∧ H0 p = none ∧ H p = some (.lst ys) ∧ Rels K H0 r xs ys := by
  unfold Rel at h
  obtain ⟨p, rfl, hr⟩ := h
  obtain ⟨h0, ys, h1, h2⟩ := si.cel n p _ hr e
  exact ⟨p, ys, rfl, hr, h0, h1, h2⟩
theorem Sim.wrLst {n : Nat} {p : Addr} {xs : List D} {ys : List V} {c : Cel} (si : Sim K g H0 r S H) (hr : r[n]? = some p) (e : S[n]? = some c) (h0 : H0 p = none) (h : Rels K H0 r xs ys) :
    Sim K g H0 r (S.set n (.lst xs)) (upd H p (.lst ys)) ∧ Fut H0 r H H0 r (upd H p (.lst ys)) := si.write hr e h0 fun H' e' => ⟨h0, ys, e', h⟩
def appF : D → List D → Sto → KD → Prop
  | .cell n, [d], S, k => ∃ xs, S[n]? = some (.lst xs) ∧ xs.length < sizeLine ∧ k .non (S.set n (.lst (xs ++ [d])))
  | _, _, _, _ => False
theorem good_app : GoodM K g rAppend appF := by
  intro H0 r S H d ds x vs k Q si h1 h2 h ce
  unfold appF at h
  split at h
  · obtain ⟨y, rfl, h3⟩ := rels1 h2
    obtain ⟨xs, e, hl, hk⟩ := h
    obtain ⟨p, ys, rfl, hr, h0, hp, hx⟩ := cel_lst si h1 e
    obtain ⟨s2, f2⟩ := si.wrLst hr e h0 (hx.append (.cons h3 .nil))
    exact ⟨p, ys, y, rfl, rfl, hp, by rw [hx.length]; exact hl, ce _ _ _ _ _ _ f2 s2 rel_non' hk⟩
  · exact h.elim
theorem se_app (ho : SE X g W o wo) (ha : SA X g W [e] ws)
    (hbase : attributeBase o "append" X.env (eval o X.env) = eval o X.env := by rfl)
    (hfew : ((backTo cpos (starEach [e] X.env)).all (fun x => !x.1) && (backToKw cpos (keywordEach [] X.env)).all (fun x => x.1.isSome)
      && decide (([e] : List Expr).length + ([] : List Keyword).length + (if ([] : List Keyword).isEmpty then 0 else 1) < 30)) = true := by rfl)
    (hline : (apos.endLine == cpos.line) = true := by rfl) (hs : starEach [e] X.env = (false, eval e X.env) :: starEach [] X.env := by rfl) (hplain : (backTo cpos (starEach [] X.env)).any (·.1) = false := by rfl) :
    SE X g W (.Call (.Attribute o "append" apos) [e] [] cpos) (wM appF wo ws) := se_m PySem.F.slot_list_append PySem.F.type_list_append mt_append good_app ho ha hbase hfew hline hs hplain
def popF : D → List D → Sto → KD → Prop
  | .cell n, [], S, k => ∃ xs y, S[n]? = some (.lst xs) ∧ xs[xs.length - 1]? = some y ∧ k y (S.set n (.lst xs.dropLast))
  | _, _, _, _ => False
def idxF : D → List D → Sto → KD → Prop
  | o, [y], S, k => ∃ xs j z, lview S o = some xs ∧ y.flat = true ∧ xs.all D.flat = true ∧ xs[j]? = some z ∧ eqF z y = true ∧ (∀ m z', m < j → xs[m]? = some z' → eqF z' y = false) ∧ k (.int (j : Nat)) S
  | _, _, _, _ => False
theorem good_idx : GoodM K g (rIndex K) idxF := by
  intro H0 r S H d ds x vs k Q si h1 h2 h ce
  unfold idxF at h
  split at h
  · obtain ⟨y, rfl, h3⟩ := rels1 h2
    obtain ⟨xs, j, z, e, f1, f2, ej, ez, en, hk⟩ := h
    obtain ⟨p, ys, rfl, q1, q2⟩ := lview_rel si h1 e
    obtain ⟨v, e1, e2⟩ := q2.get ej
    have fz : z.flat = true := List.all_eq_true.mp f2 z (List.mem_of_getElem? ej)
    refine ⟨p, ys, y, j, v, rfl, rfl, q1, flat_rel f1 h3, flats_rel f2 q2, e1, by rw [eqF_rel fz f1 e2 h3]; exact ez, fun m v' hm hv => ?_, ce _ _ _ _ _ _ .refl si rel_int' hk⟩
    obtain ⟨d', g1, g2⟩ := q2.get' hv
    rw [eqF_rel (List.all_eq_true.mp f2 d' (List.mem_of_getElem? g1)) f1 g2 h3]
    exact en m d' hm g1
  · exact h.elim
theorem se_idx (ho : SE X g W o wo) (ha : SA X g W [e] ws)
    (hbase : attributeBase o "index" X.env (eval o X.env) = eval o X.env := by rfl)
    (hfew : ((backTo cpos (starEach [e] X.env)).all (fun x => !x.1) && (backToKw cpos (keywordEach [] X.env)).all (fun x => x.1.isSome)
      && decide (([e] : List Expr).length + ([] : List Keyword).length + (if ([] : List Keyword).isEmpty then 0 else 1) < 30)) = true := by rfl)
    (hline : (apos.endLine == cpos.line) = true := by rfl) (hs : starEach [e] X.env = (false, eval e X.env) :: starEach [] X.env := by rfl) (hplain : (backTo cpos (starEach [] X.env)).any (·.1) = false := by rfl) :
    SE X g W (.Call (.Attribute o "index" apos) [e] [] cpos) (wM idxF wo ws) := se_m PySem.F.slot_list_index PySem.F.type_list_index mt_index good_idx ho ha hbase hfew hline hs hplain
def rmF : D → List D → Sto → KD → Prop
  | .cell n, [.int i], S, k => ∃ ns : List Int, S[n]? = some (.lst (ns.map .int)) ∧ i ∈ ns ∧ k .non (S.set n (.lst ((ns.erase i).map .int)))
  | _, _, _, _ => False
def spW (K : PySem.W.Frag) (g : Gi) (np : Nat) (wf : WF) : Sp := fun vs H Q E => vs.length = np ∧ ∃ H0 r S ds k xk, Sim K g H0 r S H ∧ Rels K H0 r ds vs ∧ wf ds S k xk ∧ CtE K g H0 r H k Q ∧
  ∀ c H0' r' S' H', Fut H0 r H H0' r' H' → Sim K g H0' r' S' H' → xk c S' → E (.ref (g.cl c)) none H'
def wCall (wf : WF) (ws : WA) : WE := fun (xc : HG XE) s S k => ws xc s S fun ds S1 => wf ds S1 k fun c S2 => xc c s S2
theorem se_call {x : Str} {p : Pos} {f : Addr} {fd : FuncData} {ps : List Str} {np k : Nat} {wf : WF} (F : FnOk X.prog X.w X.K X.mg X.base (L2.CX X.prog X.w) k f fd ps (spW X.K g np wf)) (hl : ∀ ds S kk xk, wf ds S kk xk → ds.length = np)
    (hr : Room k X.A) (hg : Gl X x) (hm : X.mg x = some (.ref f)) (hk : PySem.W.keepIn X.K (.ref f) = true) (hb : Binds X.K fd ps []) (tk : Takes X W)
    (ha : SA X g W (e :: es) ws) (hdb : (x == ("__debug__" : Str)) = false := by decide) (he : starEach (e :: es) X.env = (false, eval e X.env) :: starEach es X.env := by rfl) (hpl : (backTo pos (starEach es X.env)).any (·.1) = false := by rfl) :
    SE X g W (.Call (.Name x p) (e :: es) [] pos) (wCall wf ws) := by
  obtain ⟨ta, pa, ga⟩ := ha
  refine ⟨_, pe_callS F hr hg hm hk hb (fun σ => passAt tk σ) pa hdb he hpl, fun H0 r S H s sv Q k xc si rs h ce cx => ?_⟩
  refine ga H0 r S H s sv _ _ xc si rs h (fun ds vs H1 r1 S1 H1' f1 s1 rl h1 => ?_) cx
  refine ⟨by rw [rl.length]; exact hl _ _ _ _ h1, H1, r1, S1, ds, _, _, s1, rl, h1, ce.fut f1 s1, fun c H2 r2 S2 H2' f2 s2 q => ?_⟩
  exact cx _ _ _ _ _ (f1.tr s1 f2) s2 q

abbrev WI := XE → Env → Sto → (List D → (Sto → Prop) → Sto → Prop) → Prop
structure ItOk (K : PySem.W.Frag) (g : Gi) (J : It) (ds : List D) (gd : Sto → Prop) (H0 : Hp) (r : List Addr) (H : Hp) : Prop where
  go : ∀ i H0' r' S' H', Fut H0 r H H0' r' H' → Sim K g H0' r' S' H' → gd S' → i < ds.length → J.go i H' ∧ ∀ x H'', J.yld i H' x H'' → ∃ H0'' d, Fut H0' r' H' H0'' r' H'' ∧ Sim K g H0'' r' S' H'' ∧ ds[i]? = some d ∧ Rel K H0'' r' d x
  stop : ∀ H0' r' S' H', Fut H0 r H H0' r' H' → Sim K g H0' r' S' H' → gd S' → J.stop ds.length H'
def GoodI (X : Cx) (g : Gi) (W : WX) (wi : TI) (w : WI) : Prop :=
  ∀ H0 r S H s sv R k xc, Sim X.K g H0 r S H → RelSt X.K H0 r s sv → w xc s S k →
    (∀ J ds gd H0' r' S' H', Fut H0 r H H0' r' H' → Sim X.K g H0' r' S' H' → ItOk X.K g J ds gd H0' r' H' → k ds gd S' → R J H') → CtX X.K g H0 r H s sv xc W → wi sv H R
def SI (X : Cx) (g : Gi) (W : WX) (tg iter : Expr) (w : WI) : Prop := ∃ wi, PI X tg iter wi ∧ GoodI X g W wi w
def iSeq (K : PySem.W.Frag) (tl : TE) : TI := fun σ H R => tl σ H fun x H1 => ∃ a, x = .ref a ∧ (((∃ xs, SqL K H1 a xs) ∧ R (Itl K a) H1) ∨ ((∃ xs, SqT K H1 a xs) ∧ R (Itt K a) H1))
theorem pi_seq {tg l : Expr} {tl : TE} (hl : PE X l tl) : PI X tg l (iSeq X.K tl) := by
  refine ⟨fun pins s σ H R I h => ?_⟩
  refine thn (hl.run pins s σ H _ I h) fun v s1 ⟨x, H1, I1, r1, q1⟩ => ?_
  obtain ⟨a, e, q⟩ := q1
  subst e
  cases r1
  rcases q with ⟨⟨xs, hq⟩, q⟩ | ⟨⟨xs, hq⟩, q⟩
  · obtain ⟨its, rv, p, hz⟩ := I1.list hq
    refine wpAny_pyIter_list p.isList ?_
    refine ⟨s1.heap.objs.size, [s1.heap.objs.size], _, _, H1, rfl, I1.kept (t' := s1.toks) fun b o e => Heap.get?_push_of_some _ e, turn_list a _, ⟨_, Heap.get?_push_size _ rfl, rfl, rfl⟩, fun b hb => ?_, q⟩
    have e : b = s1.heap.objs.size := by simpa using hb
    subst e
    exact I1.fpOk (Nat.le_refl _) (I1.hok.fresh (Nat.le_refl _))
  · obtain ⟨its, rv, p, hz⟩ := I1.tuple hq
    refine wpAny_pyIter_tuple (show s1.heap.IsTuple a its.toArray from p) ?_
    refine ⟨s1.heap.objs.size, [s1.heap.objs.size], _, _, H1, rfl, I1.kept (t' := s1.toks) fun b o e => Heap.get?_push_of_some _ e, turn_tuple a _, ⟨_, Heap.get?_push_size _ rfl, rfl, rfl⟩, fun b hb => ?_, q⟩
    have e : b = s1.heap.objs.size := by simpa using hb
    subst e
    exact I1.fpOk (Nat.le_refl _) (I1.hok.fresh (Nat.le_refl _))
def gdOf (S : Sto) : D → Sto → Prop
  | .cell n => fun S' => S'[n]? = S[n]?
  | _ => fun _ => True
def wSeqI (wa : WE) : WI := fun (xc : HG XE) s S k => wa xc s S fun x S1 => ∃ xs, sview S1 x = some xs ∧ k xs (gdOf S1 x) S1
theorem it_list {p : Addr} {ys : List V} (hl : ∀ H0' r' S' H', Fut H0 r H H0' r' H' → Sim K g H0' r' S' H' → gdOf S d S' → ∃ ys, SqL K H' p ys ∧ Rels K H0' r' ds ys) : ItOk K g (Itl K p) ds (gdOf S d) H0 r H := by
  refine ⟨fun i H0' r' S' H' f s gd hi => ?_, fun H0' r' S' H' f s gd => ?_⟩
  · obtain ⟨ys, h1, h2⟩ := hl H0' r' S' H' f s gd
    obtain ⟨v, e1, e2⟩ := h2.get (List.getElem?_eq_getElem hi)
    refine ⟨⟨ys, v, h1, e1⟩, fun x H'' hy => ?_⟩
    obtain ⟨rfl, hx⟩ := hy
    have := hx ys h1
    rw [e1] at this
    cases this
    exact ⟨H0', _, .refl, s, List.getElem?_eq_getElem hi, e2⟩
  · obtain ⟨ys, h1, h2⟩ := hl H0' r' S' H' f s gd
    exact ⟨ys, h1, by rw [h2.length]; exact Nat.le_refl _⟩
theorem it_tup {p : Addr} {ys : List V} (hl : ∀ H0' r' S' H', Fut H0 r H H0' r' H' → Sim K g H0' r' S' H' → gdOf S d S' → ∃ ys, SqT K H' p ys ∧ Rels K H0' r' ds ys) : ItOk K g (Itt K p) ds (gdOf S d) H0 r H := by
  refine ⟨fun i H0' r' S' H' f s gd hi => ?_, fun H0' r' S' H' f s gd => ?_⟩
  · obtain ⟨ys, h1, h2⟩ := hl H0' r' S' H' f s gd
    obtain ⟨v, e1, e2⟩ := h2.get (List.getElem?_eq_getElem hi)
    refine ⟨⟨ys, v, h1, e1⟩, fun x H'' hy => ?_⟩
    obtain ⟨rfl, hx⟩ := hy
    have := hx ys h1
    rw [e1] at this
    cases this
    exact ⟨H0', _, .refl, s, List.getElem?_eq_getElem hi, e2⟩
  · obtain ⟨ys, h1, h2⟩ := hl H0' r' S' H' f s gd
    exact ⟨ys, h1, by rw [h2.length]; exact Nat.le_refl _⟩
theorem si_seq {tg : Expr} (ha : SE X g W a wa) : SI X g W tg a (wSeqI wa) := by
  obtain ⟨ta, pa, ga⟩ := ha
  refine ⟨_, pi_seq pa, fun H0 r S H s sv R k xc si rs h ce cx => ?_⟩
  refine ga H0 r S H s sv _ _ xc si rs h (fun d v H1 r1 S1 H1' f1 s1 rl h1 => ?_) cx
  obtain ⟨xs, e, hk⟩ := h1
  cases d with
  | tup ys =>
    cases e
    obtain ⟨p, vs, rfl, q1, q2⟩ := tview_rel (d := .tup xs) s1 rl rfl
    refine ⟨p, rfl, .inr ⟨⟨vs, q1⟩, ce _ _ _ _ _ _ _ f1 s1 (it_tup (ys := vs) fun H0' r' S' H' f s _ => ?_) hk⟩⟩
    obtain ⟨p', vs', e', q1', q2'⟩ := tview_rel (d := .tup xs) s (rl.fut f) rfl
    cases e'
    exact ⟨vs', q1', q2'⟩
  | lst ys =>
    cases e
    obtain ⟨p, vs, rfl, q1, q2⟩ := lview_rel (d := .lst xs) s1 rl rfl
    refine ⟨p, rfl, .inl ⟨⟨vs, q1⟩, ce _ _ _ _ _ _ _ f1 s1 (it_list (ys := vs) fun H0' r' S' H' f s _ => ?_) hk⟩⟩
    obtain ⟨p', vs', e', q1', q2'⟩ := lview_rel (d := .lst xs) s (rl.fut f) rfl
    cases e'
    exact ⟨vs', q1', q2'⟩
  | scr ys =>
    cases e
    obtain ⟨p, vs, rfl, q1, q2⟩ := lview_rel (d := .scr xs) s1 rl rfl
    refine ⟨p, rfl, .inl ⟨⟨vs, q1⟩, ce _ _ _ _ _ _ _ f1 s1 (it_list (ys := vs) fun H0' r' S' H' f s _ => ?_) hk⟩⟩
    obtain ⟨p', vs', e', q1', q2'⟩ := lview_rel (d := .scr xs) s (rl.fut f) rfl
    cases e'
    exact ⟨vs', q1', q2'⟩
  | cell n =>
    obtain ⟨p, vs, rfl, q1, q2⟩ := lview_rel (d := .cell n) s1 rl e
    refine ⟨p, rfl, .inl ⟨⟨vs, q1⟩, ce _ _ _ _ _ _ _ f1 s1 (it_list (ys := vs) fun H0' r' S' H' f s gd => ?_) hk⟩⟩
    have e2 : lview S' (.cell n) = some xs := by
      have gd : S'[n]? = S1[n]? := gd
      show (match S'[n]? with | some (.lst xs) => some xs | _ => none) = some xs
      rw [gd]
      exact e
    obtain ⟨p', vs', e', q1', q2'⟩ := lview_rel (d := .cell n) s (rl.fut f) e2
    cases e'
    exact ⟨vs', q1', q2'⟩
  | _ => cases e
def rngD (lo : Int) (n : Nat) : List D := (List.range n).map fun (k : Nat) => D.int (lo + (k : Int))
theorem it_rng {lo : Int} {n : Nat} : ItOk K g (Itr lo n) (rngD lo n) (fun _ => True) H0 r H := by
  have hl : (rngD lo n).length = n := by unfold rngD; rw [List.length_map, List.length_range]
  refine ⟨fun i H0' r' S' H' f s gd hi => ?_, fun H0' r' S' H' f s gd => by rw [hl]; exact Nat.le_refl _⟩
  rw [hl] at hi
  refine ⟨hi, fun x H'' hy => ?_⟩
  obtain ⟨rfl, rfl⟩ := hy
  refine ⟨H0', .int (lo + i), .refl, s, ?_, rel_int'⟩
  unfold rngD
  rw [List.getElem?_map, List.getElem?_range hi]
  rfl
def kRng1 (k : List D → (Sto → Prop) → Sto → Prop) : List D → Sto → Prop := fun (x0 : HG (List D)) x1 => match x0, x1 with
  | [.int j], S => -(2 ^ 62) ≤ j ∧ j < 2 ^ 62 ∧ k (rngD 0 j.toNat) (fun _ => True) S
  | _, _ => False
def kRng2 (k : List D → (Sto → Prop) → Sto → Prop) : List D → Sto → Prop := fun (x0 : HG (List D)) x1 => match x0, x1 with
  | [.int i, .int j], S => (-(2 ^ 62) ≤ i ∧ i < 2 ^ 62 ∧ -(2 ^ 62) ≤ j ∧ j < 2 ^ 62) ∧ k (rngD i (j - i).toNat) (fun _ => True) S
  | _, _ => False
def wRng1 (ws : WA) : WI := fun (xc : HG XE) s S k => ws xc s S (kRng1 k)
def wRng2 (ws : WA) : WI := fun (xc : HG XE) s S k => ws xc s S (kRng2 k)
theorem si_rng1 {tg : Expr} {p : Pos} (hg : Gl X "range") (hm : X.mg "range" = none) (ha : SA X g W [a] ws) (hs : starEach [a] X.env = [(false, eval a X.env)] := by rfl) : SI X g W tg (.Call (.Name "range" p) [a] [] pos) (wRng1 ws) := by
  obtain ⟨ta, pa, ga⟩ := ha
  refine ⟨_, pi_range1 hg hm pa hs, fun H0 r S H s sv R k xc si rs h ce cx => ?_⟩
  refine ga H0 r S H s sv _ _ xc si rs h (fun ds vs H1 r1 S1 H1' f1 s1 rl h1 => ?_) cx
  unfold kRng1 at h1
  split at h1
  · obtain ⟨v, rfl, h2⟩ := rels1 rl
    rw [rel_int h2]
    exact ⟨_, rfl, h1.1, h1.2.1, ce _ _ _ _ _ _ _ f1 s1 it_rng h1.2.2⟩
  · exact h1.elim
def wipeD (s : Env) : List Nat → Env
  | [] => s
  | v :: vs => (wipeD s vs).set v none
theorem relSt_wipe {s : Env} {sv : L2.St} (h : RelSt K H0 r s sv) : ∀ vs : List Nat, RelSt K H0 r (wipeD s vs) (wipe sv vs)
  | [] => h
  | v :: vs => (relSt_wipe h vs).unset v
def noXC : XE := fun _ _ _ => False
def wYes : WT := fun (_ : HG XE) _ S k => k true S
def STs (X : Cx) (g : Gi) (W : WX) (e : List Expr) (w : WT) : Prop := ∃ te, PTs X e te ∧ GoodT X g W te w
theorem sts_nil : STs X g W [] wYes := ⟨_, pts_nil, fun _ _ _ _ _ _ _ _ _ si _ h ce _ => ce _ _ _ _ _ .refl si h⟩
theorem sts_one (h : STt X g W c wt) : STs X g W [c] wt := by
  obtain ⟨ta, pa, ga⟩ := h
  exact ⟨_, pts_one pa, ga⟩
def WFls : WX := fun _ _ _ _ => False
def lcW (i : Nat) (vs : List Nat) (wt : WT) (we : WE) (ds : List D) (gd : Sto → Prop) (s : Env) (S : Sto) (fin : List D → Sto → Prop) : Prop := ds.length < sizeLine ∧ ∃ P : Nat → List D → Sto → Prop, P 0 [] S ∧
  (∀ n x acc S2, ds[n]? = some x → acc.length ≤ n → P n acc S2 → gd S2 ∧ wt noXC ((wipeD s vs).set i (some x)) S2 fun b S3 => if b = true then we noXC ((wipeD s vs).set i (some x)) S3 fun d S4 => P (n + 1) (acc ++ [d]) S4 else P (n + 1) acc S3) ∧
  ∀ acc S2, acc.length ≤ ds.length → P ds.length acc S2 → gd S2 ∧ fin acc S2
def wLc (i : Nat) (vs : List Nat) (wi : WI) (wt : WT) (we : WE) : WE := fun (xc : HG XE) s S k => wi xc s S fun ds gd S1 => lcW i vs wt we ds gd s S1 fun acc S2 => k (.lst acc) S2
def wLcC (i : Nat) (vs : List Nat) (wi : WI) (wt : WT) (we : WE) : WE := fun (xc : HG XE) s S k => wi xc s S fun ds gd S1 => lcW i vs wt we ds gd s S1 fun acc S2 => k (.cell S2.length) (S2 ++ [.lst acc])
theorem wipe_set {sv : L2.St} {vs : List Nat} {i : Nat} (hi : i ∈ vs) (v : Option V) : wipe ((wipe sv vs).set i v) vs = wipe sv vs := by
  have hw : ∀ (ws : List Nat) (s : L2.St) (n : Nat), (wipe s ws)[n]? = if n ∈ ws ∧ n < s.length then some none else s[n]? := by
    intro ws
    induction ws with
    | nil => intro s n; simp [wipe]
    | cons w ws ih =>
      intro s n
      unfold wipe
      by_cases hn : w = n
      · subst hn
        by_cases hl : w < s.length
        · rw [List.getElem?_set_self (by rw [wipe_length]; exact hl)]
          simp [hl]
        · rw [List.getElem?_eq_none (by rw [List.length_set, wipe_length]; omega)]
          simp [hl]
      · rw [List.getElem?_set_ne hn, ih]
        have : n ≠ w := Ne.symm hn
        simp [this]
  apply List.ext_getElem?
  intro n
  rw [hw, hw]
  have hl : ((wipe sv vs).set i v).length = sv.length := by rw [List.length_set, wipe_length]
  rw [hl]
  by_cases hn : n ∈ vs ∧ n < sv.length
  · rw [if_pos hn, if_pos hn]
  · rw [if_neg hn, if_neg hn]
    by_cases hin : i = n
    · subst hin
      have : ¬ i < sv.length := fun z => hn ⟨hi, z⟩
      rw [List.getElem?_eq_none (by rw [List.length_set, wipe_length]; omega), List.getElem?_eq_none (by omega)]
    · rw [List.getElem?_set_ne hin, hw, if_neg hn]
theorem lc_good {wi : TI} {w : WI} {i : Nat} {vs : List Nat} {tt : TT} {te : TE} (hi : i ∈ vs) (gi : GoodI X g W wi w)
    (gt : GoodT X g WFls tt wt) (ge : GoodE X g WFls te we) : GoodE X g W (tLc wi (gName i) tt te vs) (wLc i vs w wt we) := by
  intro H0 r S H s sv Q k xc si rs h ce cx
  refine gi H0 r S H s sv _ _ xc si rs h (fun J ds gd H1 r1 S1 H1' f1 s1 it h1 => ?_) cx
  obtain ⟨hlen, P, h0, hstep, hend⟩ := h1
  intro p hp
  have np : p ∉ r1 := fun z => s1.there p z hp
  have h0p : H1 p = none := s1.ex.none hp
  have rs1 := rs.fut f1
  -- the state at a turn: a future of (H1, r1, H1'), the made list at p, which is neither frozen nor a cell
  refine ⟨fun n m Hn => m = ds.length - n ∧ n ≤ ds.length ∧ ∃ H0n rn Sn acc ys, Fut H1 r1 H1' H0n rn Hn ∧ Sim X.K g H0n rn Sn Hn ∧ H0n p = none ∧ p ∉ rn ∧ Hn p = some (.lst ys) ∧ Rels X.K H0n rn acc ys ∧ acc.length ≤ n ∧ P n acc Sn,
    ⟨ds.length, by simp, Nat.zero_le _, ?_⟩, ?_⟩
  · obtain ⟨s2, f2⟩ := s1.junk (o := .lst []) hp
    exact ⟨H1, r1, S1, [], [], f2, s2, h0p, np, upd_same, .nil, Nat.le_refl _, h0⟩
  · rintro n m Hn ⟨rfl, hn, H0n, rn, Sn, acc, ys, fn, sn, hp0, hpr, hpn, hacc, hal, hP⟩
    by_cases hlt : n < ds.length
    · obtain ⟨x, hx⟩ : ∃ x, ds[n]? = some x := ⟨ds[n], List.getElem?_eq_getElem hlt⟩
      obtain ⟨hgd, hbody⟩ := hstep n x acc Sn hx hal hP
      obtain ⟨hgo, hy⟩ := it.go n H0n rn Sn Hn fn sn hgd hlt
      refine .inr ⟨hgo, fun H' => ∃ H0n rn Sn acc ys, Fut H1 r1 H1' H0n rn H' ∧ Sim X.K g H0n rn Sn H' ∧ H0n p = none ∧ p ∉ rn ∧ H' p = some (.lst ys) ∧ Rels X.K H0n rn acc ys ∧ acc.length ≤ n + 1 ∧ P (n + 1) acc Sn,
        fun H' hq => ⟨ds.length - (n + 1), by omega, rfl, hlt, hq⟩, fun v H'' hyl => ?_⟩
      obtain ⟨H0y, d, fy, sy, hd, rly⟩ := hy v H'' hyl
      rw [hx] at hd
      cases hd
      have hpy : H'' p = some (.lst ys) := fy.keep p _ hpn hpr
      have hp0y : H0y p = none := by
        cases q : H0y p with
        | none => rfl
        | some o =>
          rcases fy.newF p o q hp0 with z | z
          · rw [hpn] at z; cases z
          · exact absurd z hpr
      have fny := fn.tr sn fy
      have accy := hacc.fut fy
      have rsy : RelSt X.K H0y rn ((wipeD s vs).set i (some x)) ((wipe sv vs).set i (some v)) := (relSt_wipe (rs1.fut fny) vs).set i rly
      refine ⟨wipe_set hi _, ?_⟩
      refine gt H0y rn Sn H'' _ _ _ _ noXC sy rsy hbody (fun b H2 r2 S2 H2' f2 s2 h2 => ?_) (fun _ _ _ _ _ _ _ z => z)
      have fn2 := fny.tr sy f2
      have hp2 : H2' p = some (.lst ys) := f2.keep p _ hpy hpr
      have hr2 : p ∉ r2 := fun z => by
        have := f2.newC p z hpr
        rw [hpy] at this; cases this
      have h02 : H2 p = none := by
        cases q : H2 p with
        | none => rfl
        | some o =>
          rcases f2.newF p o q hp0y with z | z
          · rw [hpy] at z; cases z
          · exact absurd z hpr
      cases b with
      | false =>
        rw [if_neg Bool.false_ne_true] at h2 ⊢
        exact ⟨H2, r2, S2, acc, ys, fn2, s2, h02, hr2, hp2, accy.fut f2, by omega, h2⟩
      | true =>
        rw [if_pos rfl] at h2 ⊢
        refine ge H2 r2 S2 H2' _ _ _ _ noXC s2 (rsy.fut f2) h2 (fun d v2 H3 r3 S3 H3' f3 s3 rl3 h3 => ?_) (fun _ _ _ _ _ _ _ z => z)
        have fn3 := fn2.tr s2 f3
        have hp3 : H3' p = some (.lst ys) := f3.keep p _ hp2 hr2
        have hr3 : p ∉ r3 := fun z => by
          have := f3.newC p z hr2
          rw [hp2] at this; cases this
        have h03 : H3 p = none := by
          cases q : H3 p with
          | none => rfl
          | some o =>
            rcases f3.newF p o q h02 with z | z
            · rw [hp2] at z; cases z
            · exact absurd z hr2
        have acc3 := (accy.fut f2).fut f3
        refine ⟨ys, hp3, by rw [acc3.length]; omega, ?_⟩
        -- p is written
        have s4 : Sim X.K g H3 r3 S3 (upd H3' p (.lst (ys ++ [v2]))) := by
          refine ⟨fun a o e => ?_, s3.len, s3.nd, fun a ha => ?_, fun n' a c e1 e2 => ?_⟩
          · have : a ≠ p := fun z => by rw [z, h03] at e; cases e
            rw [upd_ne this]; exact s3.ex a o e
          · have : a ≠ p := fun z => hr3 (z ▸ ha)
            rw [upd_ne this]; exact s3.there a ha
          · have : a ≠ p := fun z => hr3 (z ▸ List.mem_of_getElem? e1)
            exact (s3.cel n' a c e1 e2).mono (Ex.refl _) (List.prefix_refl _) (fun q => q) (upd_ne this)
        have f4 : Fut H1 r1 H1' H3 r3 (upd H3' p (.lst (ys ++ [v2]))) := by
          refine ⟨fn3.ext, fn3.pre, fun a o e na => ?_, fn3.newC, fn3.newF⟩
          have : a ≠ p := fun z => by rw [z, hp] at e; cases e
          rw [upd_ne this]
          exact fn3.keep a o e na
        exact ⟨H3, r3, S3, acc ++ [d], ys ++ [v2], f4, s4, h03, hr3, upd_same, acc3.append (.cons rl3 .nil), by rw [List.length_append, List.length_singleton]; omega, h3⟩
    · have e : n = ds.length := by omega
      subst e
      obtain ⟨hgd, hk⟩ := hend acc Sn hal hP
      refine .inl ⟨it.stop H0n rn Sn Hn fn sn hgd, ?_⟩
      -- the list is frozen now
      refine ce (.lst acc) (.ref p) (upd H0n p (.lst ys)) rn Sn Hn (f1.tr s1 ?_) ?_ ?_ hk
      · refine ⟨fn.ext.trans (Ex.new hp0), fn.pre, fn.keep, fn.newC, fun a u e en => ?_⟩
        by_cases ha : a = p
        · subst ha
          exact .inl hp
        · rw [upd_ne ha] at e
          exact fn.newF a u e en
      · refine ⟨fun a o e => ?_, sn.len, sn.nd, sn.there, fun n' a c e1 e2 => ?_⟩
        · by_cases ha : a = p
          · subst ha; rw [upd_same] at e; cases e; exact hpn
          · rw [upd_ne ha] at e; exact sn.ex a o e
        · have : a ≠ p := fun z => hpr (z ▸ List.mem_of_getElem? e1)
          exact (sn.cel n' a c e1 e2).mono (Ex.new hp0) (List.prefix_refl _) (fun q => by rw [upd_ne this]; exact q) rfl
      · unfold Rel
        exact ⟨p, ys, rfl, .inl upd_same, hacc.mono (Ex.new hp0) (List.prefix_refl _)⟩
end
end Ab

namespace Ab
open PySem PySem.Spec PyProof.Rows L2

section
variable {X : Cx} {g : Gi} {W : WX} {a b c e o : Expr} {es : List Expr} {pos cpos apos : Pos} {wa wb wc we wo : WE} {wt wu : WT} {ws : WA}
variable {K : PySem.W.Frag} {H0 H : Hp} {r : List Addr} {S : Sto} {d : D} {v : V} {ds : List D}

def canE (K : PySem.W.Frag) (g : Gi) (W : WX) (w : WE) : TE := fun sv H Q => ∃ H0 r S s k xc, Sim K g H0 r S H ∧ RelSt K H0 r s sv ∧ w xc s S k ∧ CtE K g H0 r H k Q ∧ CtX K g H0 r H s sv xc W
def canT (K : PySem.W.Frag) (g : Gi) (W : WX) (w : WT) : TT := fun sv H Q => ∃ H0 r S s k xc, Sim K g H0 r S H ∧ RelSt K H0 r s sv ∧ w xc s S k ∧
  (∀ b H0' r' S' H', Fut H0 r H H0' r' H' → Sim K g H0' r' S' H' → k b S' → Q b H') ∧ CtX K g H0 r H s sv xc W
theorem SE.pe (h : SE X g W e we) : PE X e (canE X.K g W we) := by
  obtain ⟨te, pe, ge⟩ := h
  exact ⟨fun pins s σ H Q I ⟨H0, r, S, sd, k, xc, si, rs, hw, ce, cx⟩ => pe.run pins s σ H Q I (ge H0 r S H sd σ Q k xc si rs hw ce cx)⟩
theorem STs.pt {ifs : List Expr} (h : STs X g W ifs wt) : PTs X ifs (canT X.K g W wt) := by
  obtain ⟨te, pe, ge⟩ := h
  exact ⟨fun pins s σ H Q I ⟨H0, r, S, sd, k, xc, si, rs, hw, ce, cx⟩ => pe.run pins s σ H Q I (ge H0 r S H sd σ Q k xc si rs hw ce cx)⟩
theorem canE_good : GoodE X g W (canE X.K g W we) we := fun H0 r S H s sv Q k xc si rs h ce cx => ⟨H0, r, S, s, k, xc, si, rs, h, ce, cx⟩
theorem canT_good : GoodT X g W (canT X.K g W wt) wt := fun H0 r S H s sv Q k xc si rs h ce cx => ⟨H0, r, S, s, k, xc, si, rs, h, ce, cx⟩

theorem se_lc {elt iter : Expr} {ifs : List Expr} {scope : Scope} {own : List (Str × Nat)} {i : Nat} {x : Str} {wi : WI} {p : Pos} (hc : X.calm = true) (hN : X.N.Nodup) (hi : SI X g W (.Name x p) iter wi) (ok : BlkOk X.N X.env.scope scope own) (hin : i ∈ own.map (·.2))
    (hg : ∀ (s : Shared) (H : Hp) (C : Addr) (cl : List (Str × Addr)) (fp : List Addr), PG (X.blk s H scope (compEnvC scope cl C X.env) fp) (.Name x p) (gName i))
    (ht : ∀ (s : Shared) (H : Hp) (C : Addr) (cl : List (Str × Addr)) (fp : List Addr), STs (X.blk s H scope (compEnvC scope cl C X.env) fp) g WFls ifs wt)
    (he : ∀ (s : Shared) (H : Hp) (C : Addr) (cl : List (Str × Addr)) (fp : List Addr), SE (X.blk s H scope (compEnvC scope cl C X.env) fp) g WFls elt we) (hs : ∀ x, foldedSetIterable iter X.env x = pure x := by intro _; rfl) :
    SE X g W (.ListComp elt [⟨.Name x p, iter, ifs, 0⟩] scope pos) (wLc i (own.map (·.2)) wi wt we) := by
  obtain ⟨ti, pi, gi⟩ := hi
  refine ⟨_, pe_lc (te := canE X.K g WFls we) (tt := canT X.K g WFls wt) hc hN pi ok hg (fun s H C cl fp => (ht s H C cl fp).pt) (fun s H C cl fp => (he s H C cl fp).pe) hs, fun H0 r S H s sv Q k xc si rs h ce cx => ?_⟩
  exact lc_good hin gi canT_good canE_good H0 r S H s sv Q k xc si rs h ce cx

def CtS (K : PySem.W.Frag) (g : Gi) (H0 : Hp) (r : List Addr) (H : Hp) (W : WX) (Dk : Kd) (Dv : Ends) : Prop :=
  (∀ s sv H0' r' S' H', Fut H0 r H H0' r' H' → Sim K g H0' r' S' H' → RelSt K H0' r' s sv → Dk.nx s S' → Dv.nx sv H') ∧
  CtE K g H0 r H Dk.rt Dv.rt ∧
  (∀ c s sv H0' r' S' H', Fut H0 r H H0' r' H' → Sim K g H0' r' S' H' → RelSt K H0' r' s sv → Dk.xc c s S' → W (.ref (g.cl c)) none sv H')
theorem CtS.fut {H0' : Hp} {r' : List Addr} {S' : Sto} {H' : Hp} {Dk : Kd} {Dv : Ends} (c : CtS K g H0 r H W Dk Dv) (f : Fut H0 r H H0' r' H') (si : Sim K g H0' r' S' H') : CtS K g H0' r' H' W Dk Dv :=
  ⟨fun s sv H1 r1 S1 H1' f1 s1 rs h => c.1 s sv H1 r1 S1 H1' (f.tr si f1) s1 rs h, c.2.1.fut f si, fun x s sv H1 r1 S1 H1' f1 s1 rs h => c.2.2 x s sv H1 r1 S1 H1' (f.tr si f1) s1 rs h⟩
theorem CtS.x {s : Env} {sv : L2.St} {Dk : Kd} {Dv : Ends} (c : CtS K g H0 r H W Dk Dv) (rs : RelSt K H0 r s sv) : CtX K g H0 r H s sv Dk.xc W :=
  fun x H1 r1 S1 H1' f1 s1 h => c.2.2 x s sv H1 r1 S1 H1' f1 s1 (rs.fut f1) h
theorem CtS.next {Dk : Kd} {Dv : Ends} {nx : Env → Sto → Prop} {nxv : L2.St → Hp → Prop} (c : CtS K g H0 r H W Dk Dv)
    (h : ∀ s sv H0' r' S' H', Fut H0 r H H0' r' H' → Sim K g H0' r' S' H' → RelSt K H0' r' s sv → nx s S' → nxv sv H') : CtS K g H0 r H W { Dk with nx := nx } { Dv with nx := nxv } := ⟨h, c.2.1, c.2.2⟩
def GoodS (X : Cx) (g : Gi) (W : WX) (t : TS) (w : WS) : Prop :=
  ∀ H0 r S H s sv (Dk : Kd) (Dv : Ends), Sim X.K g H0 r S H → RelSt X.K H0 r s sv → w Dk s S → CtS X.K g H0 r H W Dk Dv → t Dv sv H
def SS (X : Cx) (g : Gi) (W : WX) (st : Stmt) (w : WS) : Prop := ∃ t, PS X st t ∧ GoodS X g W t w
def SSs (X : Cx) (g : Gi) (W : WX) (st : List Stmt) (w : WS) : Prop := ∃ t, PSs X st t ∧ GoodS X g W t w
def wNx : WS := fun (D : HG Kd) s S => D.nx s S
def wSeq (a b : WS) : WS := fun (D : HG Kd) s S => a { D with nx := b D } s S
variable {st : Stmt} {rest body : List Stmt} {w w2 : WS}
theorem ss_nil : SSs X g W [] wNx := ⟨_, pss_nil, fun _ _ _ _ _ _ _ _ si rs h ct => ct.1 _ _ _ _ _ _ .refl si rs h⟩
theorem ss_cons (h1 : SS X g W st w) (h2 : SSs X g W rest w2) : SSs X g W (st :: rest) (wSeq w w2) := by
  obtain ⟨t, p, gg⟩ := h1
  obtain ⟨t2, p2, g2⟩ := h2
  refine ⟨_, pss_cons p p2, fun H0 r S H s sv Dk Dv si rs h ct => ?_⟩
  refine gg H0 r S H s sv _ _ si rs h (ct.next fun s1 sv1 H1 r1 S1 H1' f1 s1' rs1 h1 => ?_)
  exact g2 H1 r1 S1 H1' s1 sv1 Dk Dv s1' rs1 h1 (ct.fut f1 s1')
theorem ss_one (h1 : SS X g W st w) : SSs X g W [st] w := by
  obtain ⟨t, p, gg⟩ := h1
  exact ⟨_, pss_one p, gg⟩
def wNever : WS := fun (_ : HG Kd) _ _ => False
def wDrop (we : WE) : WS := fun (D : HG Kd) s S => we D.xc s S fun _ S1 => D.nx s S1
theorem ss_expr (he : SE X g W e we) (hs : swapsWith e none pos.line X.env = pure false := by rfl) : SS X g W (.Expr e pos) (wDrop we) := by
  obtain ⟨t, p, gg⟩ := he
  refine ⟨_, ps_expr p hs, fun H0 r S H s sv Dk Dv si rs h ct => ?_⟩
  exact gg H0 r S H s sv _ _ _ si rs h (fun d v H1 r1 S1 H1' f1 s1 rl h1 => ct.1 _ _ _ _ _ _ f1 s1 (rs.fut f1) h1) (ct.x rs)
def wRet (we : WE) : WS := fun (D : HG Kd) s S => we D.xc s S D.rt
theorem ss_ret (he : SE X g W e we) : SS X g W (.Return (some e) pos) (wRet we) := by
  obtain ⟨t, p, gg⟩ := he
  exact ⟨_, ps_ret p, fun H0 r S H s sv Dk Dv si rs h ct => gg H0 r S H s sv _ _ _ si rs h ct.2.1 (ct.x rs)⟩
def wRetN : WS := fun (D : HG Kd) _ S => D.rt .non S
def wIf (wt : WT) (w w2 : WS) : WS := fun (D : HG Kd) s S => wt D.xc s S fun b S1 => if b = true then w D s S1 else w2 D s S1
theorem ss_if {orelse : List Stmt} (hc : STt X g W c wt) (ha : SSs X g W body w) (hb : SSs X g W orelse w2) : SS X g W (.If c body orelse pos) (wIf wt w w2) := by
  obtain ⟨tc, pc, gc⟩ := hc
  obtain ⟨ta, pa, ga⟩ := ha
  obtain ⟨tb, pb, gb⟩ := hb
  refine ⟨_, ps_if pc pa pb, fun H0 r S H s sv Dk Dv si rs h ct => ?_⟩
  refine gc H0 r S H s sv _ _ _ si rs h (fun b H1 r1 S1 H1' f1 s1 h1 => ?_) (ct.x rs)
  cases b with
  | true =>
    rw [if_pos rfl] at h1 ⊢
    exact ga H1 r1 S1 H1' s sv Dk Dv s1 (rs.fut f1) h1 (ct.fut f1 s1)
  | false =>
    rw [if_neg Bool.false_ne_true] at h1 ⊢
    exact gb H1 r1 S1 H1' s sv Dk Dv s1 (rs.fut f1) h1 (ct.fut f1 s1)
def wSet (i : Nat) (we : WE) : WS := fun (D : HG Kd) s S => we D.xc s S fun d S1 => D.nx (s.set i (some d)) S1
theorem goodSet {i : Nat} {te : TE} (gg : GoodE X g W te we) : GoodS X g W (tAsg te (gName i)) (wSet i we) := by
  intro H0 r S H s sv Dk Dv si rs h ct
  exact gg H0 r S H s sv _ _ _ si rs h (fun d v H1 r1 S1 H1' f1 s1 rl h1 => ct.1 _ _ _ _ _ _ f1 s1 ((rs.fut f1).set i rl) h1) (ct.x rs)
theorem ss_set (i : Nat) {x : Str} {p : Pos} (hN : X.N.Nodup) (he : SE X g W e we) (hi : X.N[i]? = some x := by rfl) (hx : Loc X.env.scope x := by first | exact Or.inl rfl | exact Or.inr rfl) (hs : swapsWith e (some (.Name x p)) pos.line X.env = pure false := by rfl)
    (hf : X.fn x = true ∨ X.env.scope.names.lookup x = some .local := by first | exact .inl rfl | exact .inr rfl) : SS X g W (.Assign [.Name x p] e pos) (wSet i we) := by
  obtain ⟨t, pe, gg⟩ := he
  exact ⟨_, ps_set hN hi hx pe hs hf, goodSet gg⟩
theorem ss_setLc {j i : Nat} {y x : Str} {py p spos : Pos} {elt iter : Expr} {ifs : List Expr} {scope : Scope} {own : List (Str × Nat)} {wi : WI} (hc : X.calm = true) (hN : X.N.Nodup) (hy : X.N[j]? = some y) (hyl : X.env.scope.names.lookup y = some .local)
    (hsw : swapsWith (.ListComp elt [⟨.Name x p, iter, ifs, 0⟩] scope pos) (some (.Name y py)) spos.line X.env = pure true) (hi : SI X g W (.Name x p) iter wi) (ok : BlkOk X.N X.env.scope scope own) (hin : i ∈ own.map (·.2))
    (hg : ∀ (s : Shared) (H : Hp) (C : Addr) (cl : List (Str × Addr)) (fp : List Addr), PG (X.blk s H scope (compEnvC scope cl C X.env) fp) (.Name x p) (gName i))
    (ht : ∀ (s : Shared) (H : Hp) (C : Addr) (cl : List (Str × Addr)) (fp : List Addr), STs (X.blk s H scope (compEnvC scope cl C X.env) fp) g WFls ifs wt)
    (he : ∀ (s : Shared) (H : Hp) (C : Addr) (cl : List (Str × Addr)) (fp : List Addr), SE (X.blk s H scope (compEnvC scope cl C X.env) fp) g WFls elt we) (hs : ∀ x, foldedSetIterable iter X.env x = pure x := by intro _; rfl) :
    SS X g W (.Assign [.Name y py] (.ListComp elt [⟨.Name x p, iter, ifs, 0⟩] scope pos) spos) (wSet j (wLc i (own.map (·.2)) wi wt we)) := by
  obtain ⟨ti, pi, gi⟩ := hi
  refine ⟨_, ps_setLc (te := canE X.K g WFls we) (tt := canT X.K g WFls wt) hc hN hy hyl hsw pi ok hg (fun s H C cl fp => (ht s H C cl fp).pt) (fun s H C cl fp => (he s H C cl fp).pe) hs, goodSet fun H0 r S H s sv Q k xc si rs h ce cx => ?_⟩
  exact lc_good hin gi canT_good canE_good H0 r S H s sv Q k xc si rs h ce cx
def kSto (d : Ab.D) (nx : Sto → Prop) : Ab.D → Ab.D → Sto → Prop := fun (x0 : HG (Ab.D)) x1 x2 => match x0, x1, x2 with
  | .cell n, .int i, S => ∃ xs j, S[n]? = some (.lst xs) ∧ ixN xs.length i = some j ∧ nx (S.set n (.lst (xs.set j d)))
  | _, _, _ => False
def wSto (we wo wa : WE) : WS := fun (D : HG Kd) s S => we D.xc s S fun d S1 => wo D.xc s S1 fun o S2 => wa D.xc s S2 fun y S3 => kSto d (D.nx s) o y S3
theorem ss_sto {p : Pos} (he : SE X g W e we) (ho : SE X g W o wo) (ha : SE X g W a wa)
    (hst : ∀ v, assign (.Subscript o a p) X.env v = (do
      let ov ← holding [v] (eval o X.env)
      let iv ← holding [v, ov] (eval a X.env)
      standAt p
      holding [v, ov, iv] (setItem ov iv v)
      release [v, ov, iv] []) := by intro _; rfl)
    (hs : swapsWithSole [.Subscript o a p] e pos.line X.env = pure false := by rfl) (hw : swappedStores [.Subscript o a p] e X.env = pure none := by rfl)
    (h1 : (assignEach [.Subscript o a p] X.env).map (·.2) = [assign (.Subscript o a p) X.env] := by rfl) : SS X g W (.Assign [.Subscript o a p] e pos) (wSto we wo wa) := by
  obtain ⟨te, pe, ge⟩ := he
  obtain ⟨to, po, go⟩ := ho
  obtain ⟨ta, pa, ga⟩ := ha
  refine ⟨_, ps_asg pe (pg_sub po pa set_list hst) hs hw h1, fun H0 r S H s sv Dk Dv si rs h ct => ?_⟩
  refine ge H0 r S H s sv _ _ _ si rs h (fun d v H1 r1 S1 H1' f1 s1 rl h1 => ?_) (ct.x rs)
  refine go H1 r1 S1 H1' s sv _ _ _ s1 (rs.fut f1) h1 (fun d2 v2 H2 r2 S2 H2' f2 s2 rl2 h2 => ?_) ((ct.fut f1 s1).x (rs.fut f1))
  have f12 := f1.tr s1 f2
  refine ga H2 r2 S2 H2' s sv _ _ _ s2 (rs.fut f12) h2 (fun d3 v3 H3 r3 S3 H3' f3 s3 rl3 h3 => ?_) ((ct.fut f12 s2).x (rs.fut f12))
  have f13 := f12.tr s2 f3
  unfold kSto at h3
  split at h3
  · obtain ⟨xs, j, e1, e2, hk⟩ := h3
    obtain ⟨q, ys, rfl, hr, h0, hp, hx⟩ := cel_lst s3 (rl2.fut f3) e1
    rw [rel_int rl3]
    obtain ⟨s4, f4⟩ := s3.wrLst hr e1 h0 (hx.set j ((rl.fut f2).fut f3))
    exact ⟨q, ys, _, j, rfl, rfl, hp, by rw [hx.length]; exact e2, ct.1 _ _ _ _ _ _ (f13.tr s3 f4) s4 ((rs.fut f13).fut f4) hk⟩
  · exact h3.elim
def forW (i : Nat) (w : WS) (D : Kd) (ds : List Ab.D) (gd : Sto → Prop) (s : Env) (S : Sto) : Prop := ∃ P : Nat → Env → Sto → Prop, P 0 s S ∧
  (∀ n x s' S', ds[n]? = some x → P n s' S' → gd S' ∧ w { D with nx := P (n + 1) } (s'.set i (some x)) S') ∧ ∀ s' S', P ds.length s' S' → gd S' ∧ D.nx s' S'
def wFor (i : Nat) (wi : WI) (w : WS) : WS := fun (D : HG Kd) s S => wi D.xc s S fun ds gd S1 => forW i w D ds gd s S1
theorem ss_for (i : Nat) {x : Str} {p : Pos} {iter : Expr} {wi : WI} (hp : PassesOwn (model X.prog X.w) X.A X.env X.xe) (hc : X.calm = true) (hN : X.N.Nodup) (hi : SI X g W (.Name x p) iter wi) (hb : SSs X g W body w)
    (hx : X.N[i]? = some x := by rfl) (hl : Loc X.env.scope x := by first | exact Or.inl rfl | exact Or.inr rfl) (hs : ∀ x, foldedSetIterable iter X.env x = pure x := by intro _; rfl)
    (hf : X.fn x = true ∨ X.env.scope.names.lookup x = some .local := by first | exact .inl rfl | exact .inr rfl) : SS X g W (.For (.Name x p) iter body [] pos) (wFor i wi w) := by
  obtain ⟨ti, pi, gi⟩ := hi
  obtain ⟨tb, pb, gb⟩ := hb
  refine ⟨_, ps_for hp hc pi (pg_name hN hx hl hf) pb hs, fun H0 r S H s sv Dk Dv si rs h ct => ?_⟩
  refine gi H0 r S H s sv _ _ _ si rs h (fun J ds gd H1 r1 S1 H1' f1 s1 it h1 => ?_) (ct.x rs)
  obtain ⟨P, h0, hstep, hend⟩ := h1
  refine ⟨fun n m svn Hn => m = ds.length - n ∧ n ≤ ds.length ∧ ∃ H0n rn Sn sn, Fut H1 r1 H1' H0n rn Hn ∧ Sim X.K g H0n rn Sn Hn ∧ RelSt X.K H0n rn sn svn ∧ P n sn Sn, ⟨ds.length, by simp, Nat.zero_le _, H1, r1, S1, s, .refl, s1, rs.fut f1, h0⟩, ?_⟩
  rintro n m svn Hn ⟨rfl, hn, H0n, rn, Sn, sn, fn, simn, rsn, hP⟩
  have f1n := f1.tr s1 fn
  by_cases hlt : n < ds.length
  · obtain ⟨x, hx⟩ : ∃ x, ds[n]? = some x := ⟨ds[n], List.getElem?_eq_getElem hlt⟩
    obtain ⟨hgd, hbody⟩ := hstep n x sn Sn hx hP
    obtain ⟨hgo, hy⟩ := it.go n H0n rn Sn Hn fn simn hgd hlt
    refine .inr ⟨hgo, fun sv' H' => ∃ H0n rn Sn sn, Fut H1 r1 H1' H0n rn H' ∧ Sim X.K g H0n rn Sn H' ∧ RelSt X.K H0n rn sn sv' ∧ P (n + 1) sn Sn, fun sv' H' hq => ⟨ds.length - (n + 1), by omega, rfl, hlt, hq⟩, fun v H'' hyl => ?_⟩
    obtain ⟨H0y, d, fy, sy, hd, rly⟩ := hy v H'' hyl
    rw [hx] at hd
    cases hd
    have fny := fn.tr simn fy
    refine gb H0y rn Sn H'' _ _ { Dk with nx := P (n + 1) } { nx := _, rt := Dv.rt, bk := Dv.nx, ct := _ } sy ((rsn.fut fy).set i rly) hbody ⟨fun s' sv' H0' r' S' H' f' si' rs' hq => ?_, ((ct.fut f1 s1).fut fny sy).2.1, ((ct.fut f1 s1).fut fny sy).2.2⟩
    exact ⟨H0', r', S', s', fny.tr sy f', si', rs', hq⟩
  · have e : n = ds.length := by omega
    subst e
    obtain ⟨hgd, hk⟩ := hend sn Sn hP
    exact .inl ⟨it.stop H0n rn Sn Hn fn simn hgd, ct.1 _ _ _ _ _ _ f1n simn rsn hk⟩
def wWhile (wt : WT) (w : WS) : WS := fun (D : HG Kd) s S => ∃ P : Nat → Env → Sto → Prop, (∃ m, P m s S) ∧ ∀ m s' S', P m s' S' →
  wt D.xc s' S' fun b S1 => if b = true then w { D with nx := fun s2 S2 => ∃ m', m' < m ∧ P m' s2 S2 } s' S1 else D.nx s' S1
theorem ss_while (hp : PassesOwn (model X.prog X.w) X.A X.env X.xe) (hc : STt X g W c wt) (hb : SSs X g W body w) : SS X g W (.While c body [] pos) (wWhile wt w) := by
  obtain ⟨tc, pc, gc⟩ := hc
  obtain ⟨tb, pb, gb⟩ := hb
  refine ⟨_, ps_while hp pc pb, fun H0 r S H s sv Dk Dv si rs h ct => ?_⟩
  obtain ⟨P, ⟨m0, h0⟩, hstep⟩ := h
  refine ⟨fun m svn Hn => ∃ H0n rn Sn sn, Fut H0 r H H0n rn Hn ∧ Sim X.K g H0n rn Sn Hn ∧ RelSt X.K H0n rn sn svn ∧ P m sn Sn, ⟨m0, H0, r, S, s, .refl, si, rs, h0⟩, ?_⟩
  rintro m svn Hn ⟨H0n, rn, Sn, sn, fn, simn, rsn, hP⟩
  refine gc H0n rn Sn Hn sn svn _ _ _ simn rsn (hstep m sn Sn hP) (fun b H1 r1 S1 H1' f1 s1 h1 => ?_) ((ct.fut fn simn).x rsn)
  have fn1 := fn.tr simn f1
  cases b with
  | true =>
    rw [if_pos rfl] at h1 ⊢
    refine ⟨fun sv' H' => ∃ m', m' < m ∧ ∃ H0n rn Sn sn, Fut H0 r H H0n rn H' ∧ Sim X.K g H0n rn Sn H' ∧ RelSt X.K H0n rn sn sv' ∧ P m' sn Sn, fun sv' H' hq => hq, ?_⟩
    refine gb H1 r1 S1 H1' sn svn { Dk with nx := _ } { nx := _, rt := Dv.rt, bk := Dv.nx, ct := _ } s1 (rsn.fut f1) h1 ⟨fun s' sv' H0' r' S' H' f' si' rs' hq => ?_, (ct.fut fn1 s1).2.1, (ct.fut fn1 s1).2.2⟩
    obtain ⟨m', hm, hq⟩ := hq
    exact ⟨m', hm, H0', r', S', s', fn1.tr s1 f', si', rs', hq⟩
  | false =>
    rw [if_neg Bool.false_ne_true] at h1 ⊢
    exact ct.1 _ _ _ _ _ _ fn1 s1 (rsn.fut f1) h1
def wRaise (x : Str) : WS := fun (D : HG Kd) s S => D.xc x s S
def wDef (np n : Nat) (w : WS) : WF := fun (ds : HG (List D)) S k xk => ds.length = np ∧ w ⟨fun _ S' => k .non S', k, fun c _ S' => xk c S'⟩ (ds.map some ++ List.replicate (n - ds.length) none) S
theorem relSt_start {N : List Str} (h : Rels K H0 r ds vs) : RelSt K H0 r (ds.map some ++ List.replicate (N.length - ds.length) none) (L2.start N vs) := by
  unfold L2.start
  refine ⟨by simp [h.length], fun i d e => ?_⟩
  by_cases hi : i < ds.length
  · rw [List.getElem?_append_left (by simpa using hi), List.getElem?_map] at e
    cases q : ds[i]? with
    | none => rw [q] at e; cases e
    | some d' =>
      rw [q] at e
      cases e
      obtain ⟨v, e1, e2⟩ := h.get q
      exact ⟨v, by rw [List.getElem?_append_left (by rw [List.length_map, h.length]; exact hi), List.getElem?_map, e1]; rfl, e2⟩
  · rw [List.getElem?_append_right (by simpa using hi), List.getElem?_replicate] at e
    split at e <;> cases e
theorem fn_ok {P : Program} {w0 : World} {mg : Str → Option Value} {base : Heap} {x qual : Str} {st : Stmt} {f : Addr} {fd : FuncData} {N ps : List Str} {k : Nat} {w : WS} (F : Fun K x qual st f fd) (Sc : FnScope N ps (defScope st))
    (hb : ∀ (cdv : Value) (A : Around) (outer : List PySem.Env) (s : Shared) (H : Hp) (E : XK), Room k (A.deeper (envOfC qual (defScope st) s.heap.objs.size f cdv)) →
      SSs (cxOf (L2.CX P w0) P w0 K mg base N qual (defScope st) f cdv A outer s H E) g (fun cls d _ H => E cls d H) (defBody st) w) :
    FnOk P w0 K mg base (L2.CX P w0) (k + 1) f fd ps (spW K g ps.length (wDef ps.length N.length w)) := by
  refine F.okX Sc (fun vs H Q E h => h.1) fun cdv A outer s H vs Q E hr h => ?_
  obtain ⟨hv, H0, r, S, ds, kk, xk, si, rl, hw, ce, cx⟩ := h
  obtain ⟨t, p, gg⟩ := hb cdv A outer s H E hr
  refine ⟨t, p, ?_⟩
  have hw := hw.2
  refine gg H0 r S H _ _ _ _ si (relSt_start rl) hw ⟨fun s' sv' H0' r' S' H' f' si' rs' h' => ce _ _ _ _ _ _ f' si' rel_non' h', ce, fun c s' sv' H0' r' S' H' f' si' rs' h' => cx _ _ _ _ _ f' si' h'⟩
end
end Ab

namespace Ab
open PySem PySem.Spec PyProof.Rows L2

section
variable {X : Cx} {g : Gi} {W : WX} {a b c e o : Expr} {es : List Expr} {pos cpos apos : Pos} {wa wb wc we wo : WE} {wt wu : WT} {ws : WA}
variable {K : PySem.W.Frag} {H0 H : Hp} {r : List Addr} {S : Sto} {d : D} {v : V} {ds : List D}

theorem lc_goodC {wi : TI} {w : WI} {i : Nat} {vs : List Nat} {tt : TT} {te : TE} (hi : i ∈ vs) (gi : GoodI X g W wi w)
    (gt : GoodT X g WFls tt wt) (ge : GoodE X g WFls te we) : GoodE X g W (tLc wi (gName i) tt te vs) (wLcC i vs w wt we) := by
  intro H0 r S H s sv Q k xc si rs h ce cx
  refine gi H0 r S H s sv _ _ xc si rs h (fun J ds gd H1 r1 S1 H1' f1 s1 it h1 => ?_) cx
  obtain ⟨hlen, P, h0, hstep, hend⟩ := h1
  intro p hp
  have np : p ∉ r1 := fun z => s1.there p z hp
  have h0p : H1 p = none := s1.ex.none hp
  have rs1 := rs.fut f1
  -- the state at a turn: a future of (H1, r1, H1'), the made list at p, which is neither frozen nor a cell
  refine ⟨fun n m Hn => m = ds.length - n ∧ n ≤ ds.length ∧ ∃ H0n rn Sn acc ys, Fut H1 r1 H1' H0n rn Hn ∧ Sim X.K g H0n rn Sn Hn ∧ H0n p = none ∧ p ∉ rn ∧ Hn p = some (.lst ys) ∧ Rels X.K H0n rn acc ys ∧ acc.length ≤ n ∧ P n acc Sn,
    ⟨ds.length, by simp, Nat.zero_le _, ?_⟩, ?_⟩
  · obtain ⟨s2, f2⟩ := s1.junk (o := .lst []) hp
    exact ⟨H1, r1, S1, [], [], f2, s2, h0p, np, upd_same, .nil, Nat.le_refl _, h0⟩
  · rintro n m Hn ⟨rfl, hn, H0n, rn, Sn, acc, ys, fn, sn, hp0, hpr, hpn, hacc, hal, hP⟩
    by_cases hlt : n < ds.length
    · obtain ⟨x, hx⟩ : ∃ x, ds[n]? = some x := ⟨ds[n], List.getElem?_eq_getElem hlt⟩
      obtain ⟨hgd, hbody⟩ := hstep n x acc Sn hx hal hP
      obtain ⟨hgo, hy⟩ := it.go n H0n rn Sn Hn fn sn hgd hlt
      refine .inr ⟨hgo, fun H' => ∃ H0n rn Sn acc ys, Fut H1 r1 H1' H0n rn H' ∧ Sim X.K g H0n rn Sn H' ∧ H0n p = none ∧ p ∉ rn ∧ H' p = some (.lst ys) ∧ Rels X.K H0n rn acc ys ∧ acc.length ≤ n + 1 ∧ P (n + 1) acc Sn,
        fun H' hq => ⟨ds.length - (n + 1), by omega, rfl, hlt, hq⟩, fun v H'' hyl => ?_⟩
      obtain ⟨H0y, d, fy, sy, hd, rly⟩ := hy v H'' hyl
      rw [hx] at hd
      cases hd
      have hpy : H'' p = some (.lst ys) := fy.keep p _ hpn hpr
      have hp0y : H0y p = none := by
        cases q : H0y p with
        | none => rfl
        | some o =>
          rcases fy.newF p o q hp0 with z | z
          · rw [hpn] at z; cases z
          · exact absurd z hpr
      have fny := fn.tr sn fy
      have accy := hacc.fut fy
      have rsy : RelSt X.K H0y rn ((wipeD s vs).set i (some x)) ((wipe sv vs).set i (some v)) := (relSt_wipe (rs1.fut fny) vs).set i rly
      refine ⟨wipe_set hi _, ?_⟩
      refine gt H0y rn Sn H'' _ _ _ _ noXC sy rsy hbody (fun b H2 r2 S2 H2' f2 s2 h2 => ?_) (fun _ _ _ _ _ _ _ z => z)
      have fn2 := fny.tr sy f2
      have hp2 : H2' p = some (.lst ys) := f2.keep p _ hpy hpr
      have hr2 : p ∉ r2 := fun z => by
        have := f2.newC p z hpr
        rw [hpy] at this; cases this
      have h02 : H2 p = none := by
        cases q : H2 p with
        | none => rfl
        | some o =>
          rcases f2.newF p o q hp0y with z | z
          · rw [hpy] at z; cases z
          · exact absurd z hpr
      cases b with
      | false =>
        rw [if_neg Bool.false_ne_true] at h2 ⊢
        exact ⟨H2, r2, S2, acc, ys, fn2, s2, h02, hr2, hp2, accy.fut f2, by omega, h2⟩
      | true =>
        rw [if_pos rfl] at h2 ⊢
        refine ge H2 r2 S2 H2' _ _ _ _ noXC s2 (rsy.fut f2) h2 (fun d v2 H3 r3 S3 H3' f3 s3 rl3 h3 => ?_) (fun _ _ _ _ _ _ _ z => z)
        have fn3 := fn2.tr s2 f3
        have hp3 : H3' p = some (.lst ys) := f3.keep p _ hp2 hr2
        have hr3 : p ∉ r3 := fun z => by
          have := f3.newC p z hr2
          rw [hp2] at this; cases this
        have h03 : H3 p = none := by
          cases q : H3 p with
          | none => rfl
          | some o =>
            rcases f3.newF p o q h02 with z | z
            · rw [hp2] at z; cases z
            · exact absurd z hr2
        have acc3 := (accy.fut f2).fut f3
        refine ⟨ys, hp3, by rw [acc3.length]; omega, ?_⟩
        -- p is written
        have s4 : Sim X.K g H3 r3 S3 (upd H3' p (.lst (ys ++ [v2]))) := by
          refine ⟨fun a o e => ?_, s3.len, s3.nd, fun a ha => ?_, fun n' a c e1 e2 => ?_⟩
          · have : a ≠ p := fun z => by rw [z, h03] at e; cases e
            rw [upd_ne this]; exact s3.ex a o e
          · have : a ≠ p := fun z => hr3 (z ▸ ha)
            rw [upd_ne this]; exact s3.there a ha
          · have : a ≠ p := fun z => hr3 (z ▸ List.mem_of_getElem? e1)
            exact (s3.cel n' a c e1 e2).mono (Ex.refl _) (List.prefix_refl _) (fun q => q) (upd_ne this)
        have f4 : Fut H1 r1 H1' H3 r3 (upd H3' p (.lst (ys ++ [v2]))) := by
          refine ⟨fn3.ext, fn3.pre, fun a o e na => ?_, fn3.newC, fn3.newF⟩
          have : a ≠ p := fun z => by rw [z, hp] at e; cases e
          rw [upd_ne this]
          exact fn3.keep a o e na
        exact ⟨H3, r3, S3, acc ++ [d], ys ++ [v2], f4, s4, h03, hr3, upd_same, acc3.append (.cons rl3 .nil), by rw [List.length_append, List.length_singleton]; omega, h3⟩
    · have e : n = ds.length := by omega
      subst e
      obtain ⟨hgd, hk⟩ := hend acc Sn hal hP
      refine .inl ⟨it.stop H0n rn Sn Hn fn sn hgd, ?_⟩
      -- the list is frozen now
      refine ce (.cell Sn.length) (.ref p) H0n (rn ++ [p]) (Sn ++ [.lst acc]) Hn (f1.tr s1 ?_) ?_ ?_ hk
      · refine ⟨fn.ext, fn.pre.trans (List.prefix_append _ _), fn.keep, fun a h1 h2 => ?_, fn.newF⟩
        rcases List.mem_append.mp h1 with h1 | h1
        · exact fn.newC a h1 h2
        · rw [List.mem_singleton] at h1
          subst h1
          exact hp
      · refine ⟨sn.ex, by rw [List.length_append, List.length_append, sn.len]; rfl, ?_, fun a ha => ?_, fun n' a c e1 e2 => ?_⟩
        · refine List.nodup_append.mpr ⟨sn.nd, by simp, fun a ha b hb => ?_⟩
          rw [List.mem_singleton] at hb
          subst hb
          exact fun z => hpr (z ▸ ha)
        · rcases List.mem_append.mp ha with ha | ha
          · exact sn.there a ha
          · rw [List.mem_singleton] at ha
            subst ha
            rw [hpn]; intro z; cases z
        · by_cases hn' : n' < rn.length
          · rw [List.getElem?_append_left hn'] at e1
            rw [List.getElem?_append_left (by rw [← sn.len]; exact hn')] at e2
            exact (sn.cel n' a c e1 e2).mono (Ex.refl _) (List.prefix_append _ _) (fun q => q) rfl
          · have hn2 : n' = rn.length := by
              have := (List.getElem?_eq_some_iff.mp e1).1
              rw [List.length_append, List.length_singleton] at this
              omega
            subst hn2
            rw [List.getElem?_append_right (Nat.le_refl _), Nat.sub_self] at e1
            rw [sn.len, List.getElem?_append_right (Nat.le_refl _), Nat.sub_self] at e2
            cases e1
            cases e2
            exact ⟨hp0, ys, hpn, hacc.mono (Ex.refl _) (List.prefix_append _ _)⟩
      · unfold Rel
        exact ⟨p, rfl, by rw [← sn.len, List.getElem?_append_right (Nat.le_refl _), Nat.sub_self]; rfl⟩
theorem se_lcC {elt iter : Expr} {ifs : List Expr} {scope : Scope} {own : List (Str × Nat)} {i : Nat} {x : Str} {wi : WI} {p : Pos} (hc : X.calm = true) (hN : X.N.Nodup) (hi : SI X g W (.Name x p) iter wi) (ok : BlkOk X.N X.env.scope scope own) (hin : i ∈ own.map (·.2))
    (hg : ∀ (s : Shared) (H : Hp) (C : Addr) (cl : List (Str × Addr)) (fp : List Addr), PG (X.blk s H scope (compEnvC scope cl C X.env) fp) (.Name x p) (gName i))
    (ht : ∀ (s : Shared) (H : Hp) (C : Addr) (cl : List (Str × Addr)) (fp : List Addr), STs (X.blk s H scope (compEnvC scope cl C X.env) fp) g WFls ifs wt)
    (he : ∀ (s : Shared) (H : Hp) (C : Addr) (cl : List (Str × Addr)) (fp : List Addr), SE (X.blk s H scope (compEnvC scope cl C X.env) fp) g WFls elt we) (hs : ∀ x, foldedSetIterable iter X.env x = pure x := by intro _; rfl) :
    SE X g W (.ListComp elt [⟨.Name x p, iter, ifs, 0⟩] scope pos) (wLcC i (own.map (·.2)) wi wt we) := by
  obtain ⟨ti, pi, gi⟩ := hi
  refine ⟨_, pe_lc (te := canE X.K g WFls we) (tt := canT X.K g WFls wt) hc hN pi ok hg (fun s H C cl fp => (ht s H C cl fp).pt) (fun s H C cl fp => (he s H C cl fp).pe) hs, fun H0 r S H s sv Q k xc si rs h ce cx => ?_⟩
  exact lc_goodC hin gi canT_good canE_good H0 r S H s sv Q k xc si rs h ce cx

theorem ss_setLcC {j i : Nat} {y x : Str} {py p spos : Pos} {elt iter : Expr} {ifs : List Expr} {scope : Scope} {own : List (Str × Nat)} {wi : WI} (hc : X.calm = true) (hN : X.N.Nodup) (hy : X.N[j]? = some y) (hyl : X.env.scope.names.lookup y = some .local)
    (hsw : swapsWith (.ListComp elt [⟨.Name x p, iter, ifs, 0⟩] scope pos) (some (.Name y py)) spos.line X.env = pure true) (hi : SI X g W (.Name x p) iter wi) (ok : BlkOk X.N X.env.scope scope own) (hin : i ∈ own.map (·.2))
    (hg : ∀ (s : Shared) (H : Hp) (C : Addr) (cl : List (Str × Addr)) (fp : List Addr), PG (X.blk s H scope (compEnvC scope cl C X.env) fp) (.Name x p) (gName i))
    (ht : ∀ (s : Shared) (H : Hp) (C : Addr) (cl : List (Str × Addr)) (fp : List Addr), STs (X.blk s H scope (compEnvC scope cl C X.env) fp) g WFls ifs wt)
    (he : ∀ (s : Shared) (H : Hp) (C : Addr) (cl : List (Str × Addr)) (fp : List Addr), SE (X.blk s H scope (compEnvC scope cl C X.env) fp) g WFls elt we) (hs : ∀ x, foldedSetIterable iter X.env x = pure x := by intro _; rfl) :
    SS X g W (.Assign [.Name y py] (.ListComp elt [⟨.Name x p, iter, ifs, 0⟩] scope pos) spos) (wSet j (wLcC i (own.map (·.2)) wi wt we)) := by
  obtain ⟨ti, pi, gi⟩ := hi
  refine ⟨_, ps_setLc (te := canE X.K g WFls we) (tt := canT X.K g WFls wt) hc hN hy hyl hsw pi ok hg (fun s H C cl fp => (ht s H C cl fp).pt) (fun s H C cl fp => (he s H C cl fp).pe) hs, goodSet fun H0 r S H s sv Q k xc si rs h ce cx => ?_⟩
  exact lc_goodC hin gi canT_good canE_good H0 r S H s sv Q k xc si rs h ce cx

mutual
theorem Rel.back {H1 : Hp} {r' : List Addr} (p : r <+: r') : ∀ {d : D} {v u : V}, Rel K H0 r d v → Rel K H1 r' d u → Rel K H1 r d u
  | .non, _, _, _, h => by unfold Rel at h ⊢; exact h
  | .bl _, _, _, _, h => by unfold Rel at h ⊢; exact h
  | .int _, _, _, _, h => by unfold Rel at h ⊢; exact h
  | .str _, _, _, _, h => by unfold Rel at h ⊢; exact h
  | .tup ds, _, _, q, h => by
    unfold Rel at q h ⊢
    obtain ⟨a, xs, rfl, h1, h2⟩ := h
    obtain ⟨b, ys, rfl, q1, q2⟩ := q
    exact ⟨a, xs, rfl, h1, Rels.back p q2 h2⟩
  | .lst ds, _, _, q, h => by
    unfold Rel at q h ⊢
    obtain ⟨a, xs, rfl, h1, h2⟩ := h
    obtain ⟨b, ys, rfl, q1, q2⟩ := q
    exact ⟨a, xs, rfl, h1, Rels.back p q2 h2⟩
  | .scr ds, _, _, q, h => by
    unfold Rel at q h ⊢
    obtain ⟨a, xs, rfl, h1, h2⟩ := h
    obtain ⟨b, ys, rfl, q1, q2⟩ := q
    exact ⟨a, xs, rfl, h1, Rels.back p q2 h2⟩
  | .cell n, _, _, q, h => by
    unfold Rel at q h ⊢
    obtain ⟨a, rfl, h1⟩ := h
    obtain ⟨b, rfl, q1⟩ := q
    have := pre_get p q1
    rw [h1] at this
    cases this
    exact ⟨a, rfl, q1⟩
  | .exn ..,  _, _, _, h => by unfold Rel at h ⊢; exact h
theorem Rels.back {H1 : Hp} {r' : List Addr} (p : r <+: r') : ∀ {ds : List D} {vs us : List V}, Rels K H0 r ds vs → Rels K H1 r' ds us → Rels K H1 r ds us
  | [], _, _, _, h => by rw [h.unnil]; exact Rels.nil
  | d :: ds, _, _, q, h => by
    obtain ⟨y, ys, rfl, h1, h2⟩ := h.uncons
    obtain ⟨z, zs, rfl, q1, q2⟩ := q.uncons
    exact Rels.cons (Rel.back p q1 h1) (Rels.back p q2 h2)
end
theorem RelF.back {H1 : Hp} {r' : List Addr} (p : r <+: r') : ∀ {ds : List (Str × D)} {vs us : List (Str × V)}, RelF K H0 r ds vs → RelF K H1 r' ds us → RelF K H1 r ds us
  | [], _, _, _, h => h
  | (f, d) :: ds, _, _, q, h => by
    obtain ⟨y, ys, rfl, h1, h2⟩ := h
    obtain ⟨z, zs, rfl, q1, q2⟩ := q
    exact ⟨y, ys, rfl, Rel.back p q1 h1, RelF.back p q2 h2⟩
theorem RelK.back {κ : Type} {H1 : Hp} {r' : List Addr} (p : r <+: r') : ∀ {ds : List (κ × D)} {vs us : List (κ × V)}, RelK K H0 r ds vs → RelK K H1 r' ds us → RelK K H1 r ds us
  | [], _, _, _, h => h
  | (f, d) :: ds, _, _, q, h => by
    obtain ⟨y, ys, rfl, h1, h2⟩ := h
    obtain ⟨z, zs, rfl, q1, q2⟩ := q
    exact ⟨y, ys, rfl, Rel.back p q1 h1, RelK.back p q2 h2⟩
theorem CelOk.back {H1 H' : Hp} {r' : List Addr} {p p' : Addr} {c : Cel} (pr : r <+: r') (h : CelOk K g H0 r H p c) (h2 : CelOk K g H1 r' H' p' c) : CelOk K g H1 r H' p' c := by
  cases c with
  | lst ds =>
    obtain ⟨q, xs, h1, h3⟩ := h
    obtain ⟨q2, ys, h4, h5⟩ := h2
    exact ⟨q2, ys, h4, Rels.back pr h3 h5⟩
  | obj C fs =>
    obtain ⟨q, dx, xs, h1, h3⟩ := h
    obtain ⟨q2, dy, ys, h4, h5⟩ := h2
    exact ⟨q2, dy, ys, h4, RelF.back pr h3 h5⟩
  | dk kvs =>
    obtain ⟨q, xs, h1, h3⟩ := h
    obtain ⟨q2, ys, h4, h5⟩ := h2
    exact ⟨q2, ys, h4, RelK.back pr h3 h5⟩
  | dt kvs =>
    obtain ⟨q, xs, h1, h3⟩ := h
    obtain ⟨q2, ys, h4, h5⟩ := h2
    exact ⟨q2, ys, h4, RelK.back pr h3 h5⟩
  | dkf o xs kvs =>
    obtain ⟨q, h1, h3⟩ := h
    obtain ⟨q2, h4, h5⟩ := h2
    exact ⟨q2, h4, RelK.back pr h3 h5⟩
  | dtf o xs kvs =>
    obtain ⟨q, h1, h3⟩ := h
    obtain ⟨q2, h4, h5⟩ := h2
    exact ⟨q2, h4, RelK.back pr h3 h5⟩
  | tab P q => exact h2
  | dead => trivial
theorem take_get {α : Type} {l l' : List α} (h : l'.take l.length = l) {n : Nat} (hn : n < l.length) : l'[n]? = l[n]? := by
  rw [← h, List.getElem?_take_of_lt hn]
theorem pre_back {α : Type} {l l' : List α} (h : l <+: l') {n : Nat} (hn : n < l.length) : l'[n]? = l[n]? := by
  obtain ⟨t, rfl⟩ := h
  exact List.getElem?_append_left hn
theorem Sim.trim {H0' H' : Hp} {r' : List Addr} {S' : Sto} (si : Sim K g H0 r S H) (f : Fut H0 r H H0' r' H') (s : Sim K g H0' r' S' H') (hS : S'.take S.length = S) : Sim K g H0' r S H' ∧ Fut H0 r H H0' r H' := by
  refine ⟨⟨s.ex, si.len, si.nd, s.therePre f.pre, fun n a c e1 e2 => ?_⟩, ⟨f.ext, List.prefix_refl _, f.keep, fun a h1 h2 => absurd h1 h2, f.newF⟩⟩
  have hn : n < r.length := (List.getElem?_eq_some_iff.mp e1).1
  exact CelOk.back f.pre (si.cel n a c e1 e2) (s.cel n a c ((pre_back f.pre hn).trans e1) ((take_get hS (by rw [← si.len]; exact hn)).trans e2))
theorem Sim.trimC {H0' H' : Hp} {r' : List Addr} {S' : Sto} {m : Nat} {xs : List D} {v : V} (si : Sim K g H0 r S H) (f : Fut H0 r H H0' r' H') (s : Sim K g H0' r' S' H') (hS : S'.take S.length = S) (hm : S.length ≤ m) (e : S'[m]? = some (.lst xs)) (px : pureAll xs = true) (rl : Rel K H0' r' (.cell m) v) :
    ∃ p, Sim K g H0' (r ++ [p]) (S ++ [.lst xs]) H' ∧ Fut H0 r H H0' (r ++ [p]) H' ∧ Rel K H0' (r ++ [p]) (.cell S.length) v := by
  unfold Rel at rl
  obtain ⟨p, rfl, hr⟩ := rl
  obtain ⟨s2, f2⟩ := si.trim f s hS
  obtain ⟨h0, ys, hp, hx⟩ := s.cel m p _ hr e
  have pn : p ∉ r := fun z => by
    obtain ⟨i, hi⟩ := List.mem_iff_getElem?.mp z
    have hi' : i < r.length := (List.getElem?_eq_some_iff.mp hi).1
    have := nd_ix s.nd ((pre_back f.pre hi').trans hi) hr
    rw [si.len] at hi'
    omega
  refine ⟨p, ⟨s2.ex, by rw [List.length_append, List.length_append, si.len]; rfl, ?_, fun a ha => ?_, fun n a c e1 e2 => ?_⟩, ⟨f.ext, List.prefix_append _ _, f.keep, fun a h1 h2 => ?_, f.newF⟩, ?_⟩
  · refine List.nodup_append.mpr ⟨si.nd, by simp, fun a ha b hb => ?_⟩
    rw [List.mem_singleton] at hb
    subst hb
    exact fun z => pn (z ▸ ha)
  · rcases List.mem_append.mp ha with ha | ha
    · exact s2.there a ha
    · rw [List.mem_singleton] at ha
      subst ha
      rw [hp]; intro z; cases z
  · by_cases hn : n < r.length
    · rw [List.getElem?_append_left hn] at e1
      rw [List.getElem?_append_left (by rw [← si.len]; exact hn)] at e2
      exact (s2.cel n a c e1 e2).mono (Ex.refl _) (List.prefix_append _ _) (fun q => q) rfl
    · have hn2 : n = r.length := by
        have := (List.getElem?_eq_some_iff.mp e1).1
        rw [List.length_append, List.length_singleton] at this
        omega
      subst hn2
      rw [List.getElem?_append_right (Nat.le_refl _), Nat.sub_self] at e1
      rw [si.len, List.getElem?_append_right (Nat.le_refl _), Nat.sub_self] at e2
      cases e1
      cases e2
      exact ⟨h0, ys, hp, Rels.of_pure px hx⟩
  · rcases List.mem_append.mp h1 with h1 | h1
    · exact absurd h1 h2
    · rw [List.mem_singleton] at h1
      subst h1
      exact f.newC a (List.mem_of_getElem? hr) pn
  · unfold Rel
    exact ⟨p, rfl, by rw [← si.len, List.getElem?_append_right (Nat.le_refl _), Nat.sub_self]; rfl⟩
def wTrim (wf : WF) : WF := fun (ds : HG (List D)) S k xk => wf ds S (fun d S' => d.pure = true ∧ S'.take S.length = S ∧ k d S) (fun c S' => S'.take S.length = S ∧ xk c S)
def wTrimC (wf : WF) : WF := fun (ds : HG (List D)) S k xk => wf ds S (fun d S' => ∃ m xs, d = .cell m ∧ S.length ≤ m ∧ S'[m]? = some (.lst xs) ∧ pureAll xs = true ∧ S'.take S.length = S ∧ k (.cell S.length) (S ++ [.lst xs])) (fun c S' => S'.take S.length = S ∧ xk c S)
theorem fn_trim {P : Program} {w0 : World} {mg : Str → Option Value} {base : Heap} {CX : CXT} {k np : Nat} {f : Addr} {fd : FuncData} {ps : List Str} {wf : WF} (F : FnOk P w0 K mg base CX k f fd ps (spW K g np wf)) : FnOk P w0 K mg base CX k f fd ps (spW K g np (wTrim wf)) :=
  F.imp fun vs H Q E ⟨hv, H0, r, S, ds, kk, xk, si, rl, hw, ce, cx⟩ => ⟨hv, H0, r, S, ds, _, _, si, rl, hw, fun d v H0' r' S' H' f s rv ⟨hp, hS, hk⟩ =>
    let ⟨s2, f2⟩ := si.trim f s hS
    ce d v H0' r S H' f2 s2 (Rel.of_pure hp rv) hk, fun c H0' r' S' H' f s ⟨hS, hk⟩ =>
    let ⟨s2, f2⟩ := si.trim f s hS
    cx c H0' r S H' f2 s2 hk⟩
theorem fn_trimC {P : Program} {w0 : World} {mg : Str → Option Value} {base : Heap} {CX : CXT} {k np : Nat} {f : Addr} {fd : FuncData} {ps : List Str} {wf : WF} (F : FnOk P w0 K mg base CX k f fd ps (spW K g np wf)) : FnOk P w0 K mg base CX k f fd ps (spW K g np (wTrimC wf)) :=
  F.imp fun vs H Q E ⟨hv, H0, r, S, ds, kk, xk, si, rl, hw, ce, cx⟩ => ⟨hv, H0, r, S, ds, _, _, si, rl, hw, fun d v H0' r' S' H' f s rv ⟨m, xs, ed, hm, em, px, hS, hk⟩ => by
    subst ed
    obtain ⟨p, s2, f2, rl2⟩ := si.trimC f s hS hm em px rv
    exact ce _ v H0' _ _ H' f2 s2 rl2 hk, fun c H0' r' S' H' f s ⟨hS, hk⟩ =>
    let ⟨s2, f2⟩ := si.trim f s hS
    cx c H0' r S H' f2 s2 hk⟩

theorem law_cx {P : Program} {w0 : World} (H : Hp) (s : Shared) (e : Value) (s' : Shared) (h : L2.CX P w0 [] H s (fun _ _ _ => False) e s') : False := by
  obtain ⟨_, _, _, _, _, _, _, _, _, _, _, _, z⟩ := h
  exact z
end
end Ab

namespace Ab
open PySem PySem.Spec PyProof.Rows L2
def spLaw (K : PySem.W.Frag) : Sp := fun vs H Q _ => ∃ (p : Addr) (ns : List Int), vs = [.ref p] ∧ SqL K H p (ns.map V.int) ∧ ns.length ≤ 63 ∧ (∀ z ∈ ns, Builtin.Int.intBits z ≤ 1048576) ∧ ∀ H', Q (.bl true) H'
theorem law_imp {P : Program} {w0 : World} {K : PySem.W.Frag} {g : Gi} {mg : Str → Option Value} {base : Heap} {CX : CXT} {k : Nat} {f : Addr} {fd : FuncData} {ps : List Str} {wf : WF} (F : FnOk P w0 K mg base CX k f fd ps (spW K g 1 wf))
    (h : ∀ ns : List Int, ns.length ≤ 63 → (∀ z ∈ ns, Builtin.Int.intBits z ≤ 1048576) → wf [.scr (ns.map .int)] [] (fun d _ => d = .bl true) fun _ _ => False) : FnOk P w0 K mg base CX k f fd ps (spLaw K) :=
  F.imp fun vs H Q E ⟨p, ns, ev, hS, hl, hb, q⟩ => by
    subst ev
    refine ⟨rfl, H, [], [], _, _, _, ⟨Ex.refl _, rfl, .nil, (fun _ z => nomatch z), (fun n a c e _ => by simp at e)⟩, .cons ?_ .nil, h ns hl hb, fun d v H0' r' S' H' _ _ rl e => ?_, fun _ _ _ _ _ _ _ z => z.elim⟩
    · unfold Rel
      exact ⟨p, _, rfl, hS, Rels.ints.mpr rfl⟩
    · subst e
      rw [rel_bl rl]
      exact q H'
theorem law_walk {l : PySem.W.OpenLaw} {k : Nat} {q : Program} {loose : List Str} {XP : (Str → Option Value) → Heap → Prop} {YP : World → Heap → Prop} {d : DefRec} {K : Params → PySem.W.Frag} {wf : WF}
    (hn : l.most = some 63) (hdf : d.params.defaults = []) (hr : Room k callerA) (hY : ∀ (w : World) (h : Heap), YP w h → (K w.params).In h)
    (F : ∀ (w : World) (mg : Str → Option Value) (fa : Addr) (h : Heap), (K w.params).In h → h.Ns mainGlobals mg → mg d.name = some (.ref fa) →
      ∃ (fd : FuncData) (g : Gi), (∀ (s : Shared) (u : Value), BindsTo s fd ⟨[u], []⟩ [("script", u)]) ∧
        ∀ base : Heap, (K w.params).In base → base.Ns mainGlobals mg → FnOk l.prog w (K w.params) mg base (L2.CX l.prog w) k fa fd ["script"] (spW (K w.params) g 1 wf))
    (h : ∀ ns : List Int, ns.length ≤ 63 → (∀ z ∈ ns, Builtin.Int.intBits z ≤ 1048576) → wf [.scr (ns.map .int)] [] (fun d _ => d = .bl true) fun _ _ => False) :
    PySem.W.WalkO q loose XP YP l.row.toRowW d [] (fun f vs => PySem.call f vs) :=
  walk_ofB (K := K) (n := 63) (k := k) (x := "script") (CX := fun w => L2.CX l.prog w) (sp := fun w => spLaw (K w.params)) hn (by decide) hdf hr hY
    (fun w mg fa h' KX G hm => by
      obtain ⟨fd, g, hb, hF⟩ := F w mg fa h' KX G hm
      exact ⟨fd, hb, fun base kb nb => law_imp (hF base kb nb) h⟩)
    (fun w H a ns hl hb _ hS => ⟨a, ns, rfl, hS, hl, hb, fun _ => rfl⟩) (fun w H s e s' h => law_cx H s e s' h)
end Ab

namespace Ab
open PySem
theorem while_inv {wt : WT} {w : WS} {Dk : Kd} {s : Env} {S : Sto} (P : Nat → Env → Sto → Prop) (m0 : Nat) (h0 : P m0 s S)
    (hs : ∀ m s' S', P m s' S' → ∀ nx : Env → Sto → Prop, (∀ m' s2 S2, m' < m → P m' s2 S2 → nx s2 S2) → wt Dk.xc s' S' fun b S1 => if b = true then w { Dk with nx := nx } s' S1 else Dk.nx s' S1) : wWhile wt w Dk s S :=
  ⟨P, ⟨m0, h0⟩, fun m s' S' h => hs m s' S' h _ fun m' s2 S2 hm hp => ⟨m', hm, hp⟩⟩
theorem for_inv {i : Nat} {w : WS} {Dk : Kd} {ds : List D} {gd : Sto → Prop} {s : Env} {S : Sto} (P : Nat → Env → Sto → Prop) (h0 : P 0 s S)
    (hs : ∀ n x s' S', ds[n]? = some x → P n s' S' → gd S' ∧ ∀ nx : Env → Sto → Prop, (∀ s2 S2, P (n + 1) s2 S2 → nx s2 S2) → w { Dk with nx := nx } (s'.set i (some x)) S')
    (hd : ∀ s' S', P ds.length s' S' → gd S' ∧ Dk.nx s' S') : forW i w Dk ds gd s S :=
  ⟨P, h0, fun n x s' S' hx hp => ⟨(hs n x s' S' hx hp).1, (hs n x s' S' hx hp).2 _ fun _ _ h => h⟩, hd⟩
theorem lc_filter {i : Nat} {vs : List Nat} {wt : WT} {we : WE} {ds : List D} {gd : Sto → Prop} {s : Env} {S : Sto} {fin : List D → Sto → Prop} (p : D → Bool) (f : D → D) (hl : ds.length < sizeLine) (hg : gd S)
    (ht : ∀ x ∈ ds, ∀ k : Bool → Sto → Prop, k (p x) S → wt noXC ((wipeD s vs).set i (some x)) S k)
    (he : ∀ x ∈ ds, p x = true → ∀ k : KD, k (f x) S → we noXC ((wipeD s vs).set i (some x)) S k) (hf : fin ((ds.filter p).map f) S) : lcW i vs wt we ds gd s S fin := by
  refine ⟨hl, fun n acc S2 => S2 = S ∧ acc = ((ds.take n).filter p).map f, ⟨rfl, by simp⟩, ?_, ?_⟩
  · rintro n x acc S2 hx - ⟨rfl, rfl⟩
    have hm := List.mem_of_getElem? hx
    refine ⟨hg, ht x hm _ ?_⟩
    cases hp : p x with
    | true =>
      rw [if_pos rfl]
      refine he x hm hp _ ⟨rfl, ?_⟩
      simp [List.take_add_one, hx, List.filter_append, hp]
    | false =>
      rw [if_neg Bool.false_ne_true]
      refine ⟨rfl, ?_⟩
      simp [List.take_add_one, hx, List.filter_append, hp]
  · rintro acc S2 - ⟨rfl, rfl⟩
    rw [List.take_length]
    exact ⟨hg, hf⟩
theorem lc_map {i : Nat} {vs : List Nat} {we : WE} {ds : List D} {gd : Sto → Prop} {s : Env} {S : Sto} {fin : List D → Sto → Prop} (f : D → D) (hl : ds.length < sizeLine) (hg : gd S)
    (he : ∀ x ∈ ds, ∀ k : KD, k (f x) S → we noXC ((wipeD s vs).set i (some x)) S k) (hf : fin (ds.map f) S) : lcW i vs wYes we ds gd s S fin :=
  lc_filter (fun _ => true) f hl hg (fun _ _ _ h => h) (fun x hx _ => he x hx) (by
    have : ds.filter (fun _ => true) = ds := by simp
    rw [this]; exact hf)
end Ab

namespace Ab
open PySem
theorem seq_e {a b : WS} {Dk : Kd} {s : Env} {S : Sto} (h : a { Dk with nx := b Dk } s S) : wSeq a b Dk s S := h
theorem seq_cut {a b : WS} {Dk : Kd} {s : Env} {S : Sto} (M : Env → Sto → Prop) (h1 : ∀ R : Env → Sto → Prop, (∀ s' S', M s' S' → R s' S') → a { Dk with nx := R } s S) (h2 : ∀ s' S', M s' S' → b Dk s' S') : wSeq a b Dk s S := h1 _ h2
section
variable {S : Sto} {k : KD} {a b : Int} {x y : Str} {p q : Bool} {xs ys : List D} {n : Nat} {d e : D}
theorem addW_ii : addW (.int a) (.int b) S k = k (.int (a + b)) S := id rfl
theorem addW_ss : addW (.str x) (.str y) S k = (x.length + y.length ≤ sizeLine ∧ k (.str (x ++ y)) S) := id rfl
theorem addW_tt : addW (.tup xs) (.tup ys) S k = (xs ≠ [] ∧ xs.length + ys.length ≤ sizeLine ∧ k (.tup (xs ++ ys)) S) := id rfl
theorem addW_ll : addW (.lst xs) (.lst ys) S k = (xs.length + ys.length ≤ sizeLine ∧ k (.lst (xs ++ ys)) S) := by
  show (∃ a b, some xs = some a ∧ some ys = some b ∧ a.length + b.length ≤ sizeLine ∧ k (.lst (a ++ b)) S) = _
  simp
theorem addW_cl : addW (.cell n) (.lst ys) S k = ∃ xs, rview S (.cell n) = some xs ∧ xs.length + ys.length ≤ sizeLine ∧ k (.lst (xs ++ ys)) S := by
  show (∃ a b, rview S (.cell n) = some a ∧ some ys = some b ∧ a.length + b.length ≤ sizeLine ∧ k (.lst (a ++ b)) S) = _
  simp
theorem addW_lc : addW (.lst xs) (.cell n) S k = ∃ ys, rview S (.cell n) = some ys ∧ xs.length + ys.length ≤ sizeLine ∧ k (.lst (xs ++ ys)) S := by
  show (∃ a b, some xs = some a ∧ rview S (.cell n) = some b ∧ a.length + b.length ≤ sizeLine ∧ k (.lst (a ++ b)) S) = _
  simp
theorem iiW_ii {C : Int → Int → Prop} {f : Int → Int → D} : iiW C f (.int a) (.int b) S k = (C a b ∧ k (f a b) S) := id rfl
theorem ii0_ii {f : Int → Int → D} : ii0 f (.int a) (.int b) S k = k (f a b) S := id rfl
theorem kNeg_i : kNeg k (.int a) S = k (.int (-a)) S := id rfl
theorem eqW_ii : eqW (.int a) (.int b) S k = k (.bl (decide (a = b))) S := id rfl
theorem eqW_bb : eqW (.bl p) (.bl q) S k = k (.bl (decide (p = q))) S := id rfl
theorem eqW_ss : eqW (.str x) (.str y) S k = k (.bl (decide (x = y))) S := id rfl
theorem eqW_nn : eqW .non .non S k = k (.bl true) S := id rfl
theorem eqW_ni : eqW .non (.int a) S k = k (.bl false) S := id rfl
theorem eqW_in : eqW (.int a) .non S k = k (.bl false) S := id rfl
theorem kNot_b : kNot k (.bl p) S = k (.bl (!p)) S := id rfl
theorem kBl_b {k : Bool → Sto → Prop} : kBl k (.bl p) S = k p S := id rfl
theorem kOpt_s : kOpt (some d) S k = k d S := id rfl
theorem ixW_i : ixW d (.int a) S k = ∃ e, ixD S d a = some e ∧ k e S := by
  cases d <;> rfl
theorem ixD_t {i : Int} : ixD S (.tup xs) i = L2.atI xs i := id rfl
theorem ixD_l {i : Int} : ixD S (.lst xs) i = L2.atI xs i := id rfl
theorem ixD_r {i : Int} : ixD S (.scr xs) i = L2.atI xs i := id rfl
theorem ixD_c {i : Int} : ixD S (.cell n) i = (lview S (.cell n)).bind fun xs => L2.atI xs i := id rfl
theorem isNW_nn {g : Bool} : isNW g .non .non S k = k (.bl (!g)) S := id rfl
theorem isNW_i {g : Bool} : isNW g (.int a) .non S k = k (.bl g) S := id rfl
theorem isNW_t {g : Bool} : isNW g (.tup xs) .non S k = k (.bl g) S := id rfl
theorem isNW_l {g : Bool} : isNW g (.lst xs) .non S k = k (.bl g) S := id rfl
theorem kSoP_i {k : Option Int → Sto → Prop} : kSoP k (.int a) S = k (some a) S := id rfl
theorem slW_t {lo hi : Option Int} : slW (.tup xs) lo hi S k = (¬ (HT.sIx xs.length 0 lo = 0 ∧ HT.sIx xs.length xs.length hi = xs.length) ∧ k (.tup (cutD xs lo hi)) S) := id rfl
theorem slW_l {lo hi : Option Int} : slW (.lst xs) lo hi S k = k (.lst (cutD xs lo hi)) S := by
  show (∃ zs, some xs = some zs ∧ k (.lst (cutD zs lo hi)) S) = _
  simp
theorem slW_r {lo hi : Option Int} : slW (.scr xs) lo hi S k = k (.lst (cutD xs lo hi)) S := by
  show (∃ zs, some xs = some zs ∧ k (.lst (cutD zs lo hi)) S) = _
  simp
theorem slW_c {lo hi : Option Int} : slW (.cell n) lo hi S k = ∃ zs, lview S (.cell n) = some zs ∧ k (.lst (cutD zs lo hi)) S := id rfl
theorem frzW_c : frzW (.cell n) S k = frzC S[n]? n S k := id rfl
theorem frzW_i : frzW (.int a) S k = k (.int a) S := id rfl
theorem frzW_b : frzW (.bl p) S k = k (.bl p) S := id rfl
theorem frzW_n : frzW .non S k = k .non S := id rfl
theorem frzW_s : frzW (.str x) S k = k (.str x) S := id rfl
theorem frzW_t : frzW (.tup xs) S k = k (.tup xs) S := id rfl
theorem frzW_l : frzW (.lst xs) S k = k (.lst xs) S := id rfl
theorem frzC_s : frzC (some (.lst xs)) n S k = k (.lst xs) (S.set n .dead) := id rfl
theorem lenF_s : lenF [.str x] S k = (x.length ≤ sizeLine ∧ k (.int x.length) S) := id rfl
theorem lenF_l : lenF [.lst xs] S k = k (.int xs.length) S := by
  show (∃ zs, some xs = some zs ∧ k (.int zs.length) S) = _
  simp
theorem lenF_r : lenF [.scr xs] S k = k (.int xs.length) S := by
  show (∃ zs, some xs = some zs ∧ k (.int zs.length) S) = _
  simp
theorem lenF_t : lenF [.tup xs] S k = k (.int xs.length) S := by
  show (∃ zs, some xs = some zs ∧ k (.int zs.length) S) = _
  simp
theorem lenF_c : lenF [.cell n] S k = ∃ zs, lview S (.cell n) = some zs ∧ k (.int zs.length) S := id rfl
theorem absF_i : absF [.int a] S k = k (.int (if a < 0 then -a else a)) S := id rfl
theorem maxF_ii : maxF [.int a, .int b] S k = k (.int (if b > a then b else a)) S := id rfl
theorem minF_ii : minF [.int a, .int b] S k = k (.int (if b < a then b else a)) S := id rfl
theorem maxF_1 : maxF [d] S k = ∃ ns : List Int, isInts S d ns ∧ 0 < ns.length ∧ ∀ m, m ∈ ns → (∀ y, y ∈ ns → y ≤ m) → k (.int m) S := by
  cases d <;> rfl
theorem minF_1 : minF [d] S k = ∃ ns : List Int, isInts S d ns ∧ 0 < ns.length ∧ ∀ m, m ∈ ns → (∀ y, y ∈ ns → m ≤ y) → k (.int m) S := by
  cases d <;> rfl
theorem sumF_1 : sumF [d] S k = ∃ ns : List Int, isInts S d ns ∧ k (.int ns.sum) S := id rfl
theorem allF_1 : allF [d] S k = ∃ bs : List Bool, lview S d = some (bs.map .bl) ∧ k (.bl (bs.all id)) S := id rfl
theorem sortedF_1 : sortedF [d] S k = ∃ ns : List Int, isInts S d ns ∧ ∀ ms : List Int, ms.Perm ns → ms.Pairwise (· ≤ ·) → k (.lst (ms.map .int)) S := id rfl
theorem listF_1 : listF [d] S k = ∃ xs, sview S d = some xs ∧ k (.lst xs) S := id rfl
theorem listFC_1 : listFC [d] S k = ∃ xs, sview S d = some xs ∧ k (.cell S.length) (S ++ [.lst xs]) := id rfl
theorem tupleF_1 : tupleF [d] S k = ∃ xs, sview S d = some xs ∧ k (.tup xs) S := id rfl
theorem intF_i : intF [.int a] S k = k (.int a) S := id rfl
theorem intF_b : intF [.bl p] S k = k (.int (if p then 1 else 0)) S := id rfl
theorem appF_c : appF (.cell n) [d] S k = ∃ xs, S[n]? = some (.lst xs) ∧ xs.length < sizeLine ∧ k .non (S.set n (.lst (xs ++ [d]))) := id rfl
theorem popF_c : popF (.cell n) [] S k = ∃ xs y, S[n]? = some (.lst xs) ∧ xs[xs.length - 1]? = some y ∧ k y (S.set n (.lst xs.dropLast)) := id rfl
theorem kSto_c {nx : Sto → Prop} : kSto d nx (.cell n) (.int a) S = ∃ xs j, S[n]? = some (.lst xs) ∧ L2.ixN xs.length a = some j ∧ nx (S.set n (.lst (xs.set j d))) := id rfl
theorem kRng1_i {k : List D → (Sto → Prop) → Sto → Prop} : kRng1 k [.int a] S = (-(2 ^ 62) ≤ a ∧ a < 2 ^ 62 ∧ k (rngD 0 a.toNat) (fun _ => True) S) := id rfl
theorem kRng2_i {k : List D → (Sto → Prop) → Sto → Prop} : kRng2 k [.int a, .int b] S = ((-(2 ^ 62) ≤ a ∧ a < 2 ^ 62 ∧ -(2 ^ 62) ≤ b ∧ b < 2 ^ 62) ∧ k (rngD a (b - a).toNat) (fun _ => True) S) := id rfl
theorem lview_l : lview S (.lst xs) = some xs := id rfl
theorem lview_r : lview S (.scr xs) = some xs := id rfl
theorem lview_c (h : S[n]? = some (.lst xs)) : lview S (.cell n) = some xs := by
  show (match S[n]? with | some (.lst xs) => some xs | _ => none) = some xs
  rw [h]
theorem rview_c (h : S[n]? = some (.lst xs)) : rview S (.cell n) = some xs := by
  show (match S[n]? with | some (.lst xs) => some xs | _ => none) = some xs
  rw [h]
theorem sview_c : sview S (.cell n) = lview S (.cell n) := id rfl
theorem sview_l : sview S (.lst xs) = some xs := id rfl
theorem sview_r : sview S (.scr xs) = some xs := id rfl
theorem sview_t : sview S (.tup xs) = some xs := id rfl
theorem tview_t : tview (.tup xs) = some xs := id rfl
theorem gdOf_l : gdOf S (.lst xs) = fun _ => True := id rfl
theorem gdOf_r : gdOf S (.scr xs) = fun _ => True := id rfl
theorem gdOf_t : gdOf S (.tup xs) = fun _ => True := id rfl
theorem gdOf_c : gdOf S (.cell n) = fun S' => S'[n]? = S[n]? := id rfl
theorem isiD_i {t : Ty} : isiD S t (.int a) = some (decide (t = .int)) := id rfl
theorem isiD_b {t : Ty} : isiD S t (.bl p) = some (decide (t = .int) || decide (t = .bool)) := id rfl
theorem isiD_n {t : Ty} : isiD S t .non = some false := id rfl
theorem isiD_s {t : Ty} : isiD S t (.str x) = some (decide (t = .str)) := id rfl
theorem isiD_t {t : Ty} : isiD S t (.tup xs) = some (decide (t = .tuple)) := id rfl
theorem isiD_l {t : Ty} : isiD S t (.lst xs) = some (decide (t = .list)) := id rfl
end
theorem fmod_pos {a b : Int} (h : 0 < b) : a.fmod b = a % b := Int.fmod_eq_emod_of_nonneg a (by omega)
theorem fdiv_pos {a b : Int} (h : 0 < b) : a.fdiv b = a / b := Int.fdiv_eq_ediv_of_nonneg a (by omega)
theorem log2_mono {a b : Nat} (h : a ≤ b) : a.log2 ≤ b.log2 := by
  rcases Nat.eq_zero_or_pos a with h0 | h0
  · subst h0; exact Nat.zero_le _
  · refine (Nat.le_log2 (by omega)).mpr (Nat.le_trans ?_ h)
    exact Nat.log2_self_le (by omega)
theorem bits_le {a : Int} {n : Nat} (h : a.natAbs ≤ n) : Builtin.Int.intBits a ≤ n.log2 + 1 := by
  unfold Builtin.Int.intBits
  split
  · omega
  · have := log2_mono h
    omega
theorem mul_l {a b : Int} (h1 : -18446744073709551616 < a) (h2 : a < 18446744073709551616) : IntMulOk a b := .of_left (intBits_le_64 h1 h2)
theorem mul_r {a b : Int} (h1 : -18446744073709551616 < b) (h2 : b < 18446744073709551616) : IntMulOk a b := .of_right (intBits_le_64 h1 h2)
theorem div_bd {a b : Int} (h0 : b ≠ 0) (h : b.natAbs.log2 < 9000) : CDivX a b := ⟨h0, PyProof.noPylong_of_log2 h⟩
theorem div_bdn (n : Nat) {a b : Int} (h0 : b ≠ 0) (h : b.natAbs ≤ n) (hn : n.log2 < 9000) : CDivX a b := div_bd h0 (Nat.lt_of_le_of_lt (log2_mono h) hn)
theorem div_lit {a b : Int} (h0 : 0 < b) (h : b < 1000000000000000000000000000000000000000000000000000000000000000000) : CDivX a b ↔ True :=
  ⟨fun _ => trivial, fun _ => div_bdn 1000000000000000000000000000000000000000000000000000000000000000000 (by omega) (by omega) (by decide +kernel)⟩
theorem mul_litr {a b : Int} (h1 : -18446744073709551616 < b) (h2 : b < 18446744073709551616) : IntMulOk a b ↔ True := ⟨fun _ => trivial, fun _ => mul_r h1 h2⟩
theorem mul_litl {a b : Int} (h1 : -18446744073709551616 < a) (h2 : a < 18446744073709551616) : IntMulOk a b ↔ True := ⟨fun _ => trivial, fun _ => mul_l h1 h2⟩
section
variable {S : Sto} {k : KD}
theorem pw_of {i j r : Int} (h0 : 0 ≤ j) (h1 : j ≤ 1000000) (h2 : -1000000000000000000 ≤ i) (h3 : i ≤ 10000000000000000000) (h : i ^ j.toNat = r) : powW (.int i) (.int j) S k = k (.int r) S := by
  unfold powW
  rw [iiW_ii, h]
  exact propext ⟨fun h => h.2, fun h => ⟨⟨h0, h1, by omega⟩, h⟩⟩
theorem pw_10_6 : powW (.int 10) (.int 6) S k = k (.int 1000000) S := pw_of (by decide) (by decide) (by decide) (by decide) (by decide +kernel)
theorem pw_10_7 : powW (.int 10) (.int 7) S k = k (.int 10000000) S := pw_of (by decide) (by decide) (by decide) (by decide) (by decide +kernel)
theorem pw_10_8 : powW (.int 10) (.int 8) S k = k (.int 100000000) S := pw_of (by decide) (by decide) (by decide) (by decide) (by decide +kernel)
theorem pw_10_9 : powW (.int 10) (.int 9) S k = k (.int 1000000000) S := pw_of (by decide) (by decide) (by decide) (by decide) (by decide +kernel)
theorem pw_10_11 : powW (.int 10) (.int 11) S k = k (.int 100000000000) S := pw_of (by decide) (by decide) (by decide) (by decide) (by decide +kernel)
theorem pw_10_12 : powW (.int 10) (.int 12) S k = k (.int 1000000000000) S := pw_of (by decide) (by decide) (by decide) (by decide) (by decide +kernel)
theorem pw_10_14 : powW (.int 10) (.int 14) S k = k (.int 100000000000000) S := pw_of (by decide) (by decide) (by decide) (by decide) (by decide +kernel)
theorem pw_10_15 : powW (.int 10) (.int 15) S k = k (.int 1000000000000000) S := pw_of (by decide) (by decide) (by decide) (by decide) (by decide +kernel)
theorem pw_10_18 : powW (.int 10) (.int 18) S k = k (.int 1000000000000000000) S := pw_of (by decide) (by decide) (by decide) (by decide) (by decide +kernel)
theorem pw_10_20 : powW (.int 10) (.int 20) S k = k (.int 100000000000000000000) S := pw_of (by decide) (by decide) (by decide) (by decide) (by decide +kernel)
theorem pw_10_29 : powW (.int 10) (.int 29) S k = k (.int 100000000000000000000000000000) S := pw_of (by decide) (by decide) (by decide) (by decide) (by decide +kernel)
theorem pw_10_30 : powW (.int 10) (.int 30) S k = k (.int 1000000000000000000000000000000) S := pw_of (by decide) (by decide) (by decide) (by decide) (by decide +kernel)
theorem pw_10_50 : powW (.int 10) (.int 50) S k = k (.int 100000000000000000000000000000000000000000000000000) S := pw_of (by decide) (by decide) (by decide) (by decide) (by decide +kernel)
theorem pw_10_58 : powW (.int 10) (.int 58) S k = k (.int 10000000000000000000000000000000000000000000000000000000000) S := pw_of (by decide) (by decide) (by decide) (by decide) (by decide +kernel)
theorem pw_10_59 : powW (.int 10) (.int 59) S k = k (.int 100000000000000000000000000000000000000000000000000000000000) S := pw_of (by decide) (by decide) (by decide) (by decide) (by decide +kernel)
theorem pw_10_60 : powW (.int 10) (.int 60) S k = k (.int 1000000000000000000000000000000000000000000000000000000000000) S := pw_of (by decide) (by decide) (by decide) (by decide) (by decide +kernel)
theorem pw_m61_4 : powW (.int 2305843009213693951) (.int 4) S k = k (.int 28269553036454149224292902704178252817674109380037990394614044720680140801) S := pw_of (by decide) (by decide) (by decide) (by decide) (by decide +kernel)
end
def cellv (ns : List Int) (k : Int) : Int := if k < (ns.length : Int) then ns.getD k.toNat 0 else 0
theorem at_ints {ns : List Int} {k : Int} (h0 : 0 ≤ k) (h1 : k < (ns.length : Int)) : L2.atI (ns.map D.int) k = some (.int (ns.getD k.toNat 0)) := by
  obtain ⟨j, rfl⟩ : ∃ j : Nat, k = (j : Int) := ⟨k.toNat, by omega⟩
  have hj : j < ns.length := by omega
  refine L2.atI_nat ?_
  rw [List.getElem?_map, List.getElem?_eq_getElem hj]
  simp [List.getD_eq_getElem?_getD, hj]
end Ab

namespace Ab
open PySem
def Sz (n : Nat) (a : Int) : Prop := a.natAbs < 2 ^ n
theorem Sz.mono {n m : Nat} {a : Int} (h : Sz n a) (l : n ≤ m) : Sz m a := Nat.lt_of_lt_of_le h (Nat.pow_le_pow_right (by decide) l)
theorem Sz.mul {n m : Nat} {a b : Int} (h : Sz n a) (l : Sz m b) : Sz (n + m) (a * b) := by
  unfold Sz at *
  rw [Int.natAbs_mul, Nat.pow_add]
  exact Nat.mul_lt_mul'' h l
theorem Sz.add {n : Nat} {a b : Int} (h : Sz n a) (l : Sz n b) : Sz (n + 1) (a + b) := by
  unfold Sz at *
  have := Int.natAbs_add_le a b
  rw [Nat.pow_succ]
  omega
theorem Sz.neg {n : Nat} {a : Int} (h : Sz n a) : Sz n (-a) := by unfold Sz at *; omega
theorem Sz.sub {n : Nat} {a b : Int} (h : Sz n a) (l : Sz n b) : Sz (n + 1) (a - b) := Sz.add h l.neg
theorem Sz.of_abs {n : Nat} {a b : Int} (h : Sz n a) (l : b.natAbs ≤ a.natAbs) : Sz n b := Nat.lt_of_le_of_lt l h
theorem Sz.log2 {n : Nat} {a : Int} (h : Sz n a) (hn : 0 < n) : a.natAbs.log2 < n := by
  rcases Nat.eq_zero_or_pos a.natAbs with e | e
  · rw [e]; exact hn
  · exact (Nat.log2_lt (by omega)).mpr h
theorem Sz.bits {n : Nat} {a : Int} (h : Sz n a) (hn : 0 < n) : Builtin.Int.intBits a ≤ n := by
  have := bits_le (Nat.le_refl a.natAbs)
  have := h.log2 hn
  omega
theorem Sz.okr {n : Nat} {a b : Int} (h : Sz n b) (hn : 0 < n) (hs : n ≤ 64) : IntMulOk a b := .of_right (Nat.le_trans (h.bits hn) hs)
theorem Sz.okl {n : Nat} {a b : Int} (h : Sz n a) (hn : 0 < n) (hs : n ≤ 64) : IntMulOk a b := .of_left (Nat.le_trans (h.bits hn) hs)
theorem sz_le {n : Nat} {a : Int} (m : Nat) (h : a.natAbs ≤ m) (hm : m < 2 ^ n) : Sz n a := Nat.lt_of_le_of_lt h hm
def pR (q : Rat) : D := .tup [.int q.num, .int (q.den : Int)]
theorem den_pos (q : Rat) : 0 < (q.den : Int) := by have := q.den_pos; omega
theorem num_le (t b : Int) : (Rat.divInt t b).num.natAbs ≤ t.natAbs := by
  rw [Rat.num_divInt]
  by_cases h : b = 0
  · simp [h]
  · rw [Int.natAbs_ediv_of_dvd]
    · refine Nat.le_trans (Nat.div_le_self _ _) ?_
      rw [Int.natAbs_mul, Int.natAbs_sign_of_ne_zero h]
      omega
    · exact Int.dvd_mul_of_dvd_right (Int.gcd_dvd_right _ _)
theorem den_le {t b : Int} (h : b ≠ 0) : (Rat.divInt t b).den ≤ b.natAbs := by
  rw [Rat.den_divInt, if_neg h]
  exact Nat.div_le_self _ _
def SzR (n : Nat) (q : Rat) : Prop := Sz n q.num ∧ Sz n (q.den : Int)
theorem SzR.mono {n m : Nat} {q : Rat} (h : SzR n q) (l : n ≤ m) : SzR m q := ⟨h.1.mono l, h.2.mono l⟩
theorem SzR.div {n : Nat} {t b : Int} (h0 : b ≠ 0) (h1 : Sz n t) (h2 : Sz n b) : SzR n (Rat.divInt t b) :=
  ⟨h1.of_abs (num_le t b), h2.of_abs (by rw [Int.natAbs_natCast]; exact den_le h0)⟩
theorem plus_eq (x y : Rat) : Rat.divInt (x.num * y.den + y.num * x.den) (x.den * y.den) = x + y := by
  have := Rat.divInt_add_divInt x.num y.num (d₁ := x.den) (d₂ := y.den) (by have := den_pos x; omega) (by have := den_pos y; omega)
  rw [Rat.num_divInt_den, Rat.num_divInt_den] at this
  rw [this]
theorem minus_eq (x y : Rat) : Rat.divInt (x.num * y.den - y.num * x.den) (x.den * y.den) = x - y := by
  have := Rat.divInt_sub_divInt x.num y.num (d₁ := x.den) (d₂ := y.den) (by have := den_pos x; omega) (by have := den_pos y; omega)
  rw [Rat.num_divInt_den, Rat.num_divInt_den] at this
  rw [this]
theorem times_eq (x y : Rat) : Rat.divInt (x.num * y.num) (x.den * y.den) = x * y := by
  have := Rat.divInt_mul_divInt x.num y.num (d₁ := x.den) (d₂ := y.den)
  rw [Rat.num_divInt_den, Rat.num_divInt_den] at this
  rw [this]
theorem mul_den_ne (x y : Rat) : (x.den : Int) * y.den ≠ 0 := by
  have h1 := den_pos x
  have h2 := den_pos y
  exact Int.mul_ne_zero (by omega) (by omega)
theorem SzR.add {n m : Nat} {x y : Rat} (h1 : SzR n x) (h2 : SzR m y) : SzR (n + m + 1) (x + y) := by
  rw [← plus_eq]
  exact SzR.div (mul_den_ne x y) ((h1.1.mul h2.2).add (((h2.1.mul h1.2)).mono (by omega))) ((h1.2.mul h2.2).mono (by omega))
theorem SzR.sub {n m : Nat} {x y : Rat} (h1 : SzR n x) (h2 : SzR m y) : SzR (n + m + 1) (x - y) := by
  rw [← minus_eq]
  exact SzR.div (mul_den_ne x y) ((h1.1.mul h2.2).sub (((h2.1.mul h1.2)).mono (by omega))) ((h1.2.mul h2.2).mono (by omega))
theorem SzR.mul {n m : Nat} {x y : Rat} (h1 : SzR n x) (h2 : SzR m y) : SzR (n + m) (x * y) := by
  rw [← times_eq]
  exact SzR.div (mul_den_ne x y) (h1.1.mul h2.1) (h1.2.mul h2.2)
theorem size_ok {n : Nat} (h : n ≤ 1000000) : n ≤ sizeLine ↔ True := ⟨fun _ => trivial, fun _ => Nat.le_trans h (by decide +kernel)⟩
theorem size_ok2 {n : Nat} (h : n ≤ 1000000) : n < sizeLine ↔ True := ⟨fun _ => trivial, fun _ => Nat.lt_of_le_of_lt h (by decide +kernel)⟩
section
variable {x0 x1 x2 x3 x4 x5 x6 : D} {r : List D} {S : Sto} {k : KD} {q : Rat} {t : Ty}
theorem atI_0 : L2.atI (x0 :: r) 0 = some x0 := @L2.atI_nat D (x0 :: r) 0 x0 rfl
theorem atI_1 : L2.atI (x0 :: x1 :: r) 1 = some x1 := @L2.atI_nat D (x0 :: x1 :: r) 1 x1 rfl
theorem atI_2 : L2.atI (x0 :: x1 :: x2 :: r) 2 = some x2 := @L2.atI_nat D (x0 :: x1 :: x2 :: r) 2 x2 rfl
theorem atI_3 : L2.atI (x0 :: x1 :: x2 :: x3 :: r) 3 = some x3 := @L2.atI_nat D (x0 :: x1 :: x2 :: x3 :: r) 3 x3 rfl
theorem atI_4 : L2.atI (x0 :: x1 :: x2 :: x3 :: x4 :: r) 4 = some x4 := @L2.atI_nat D (x0 :: x1 :: x2 :: x3 :: x4 :: r) 4 x4 rfl
theorem atI_5 : L2.atI (x0 :: x1 :: x2 :: x3 :: x4 :: x5 :: r) 5 = some x5 := @L2.atI_nat D (x0 :: x1 :: x2 :: x3 :: x4 :: x5 :: r) 5 x5 rfl
theorem atI_6 : L2.atI (x0 :: x1 :: x2 :: x3 :: x4 :: x5 :: x6 :: r) 6 = some x6 := @L2.atI_nat D (x0 :: x1 :: x2 :: x3 :: x4 :: x5 :: x6 :: r) 6 x6 rfl
theorem ix_pR0 : ixD S (pR q) 0 = some (.int q.num) := by
  show L2.atI [D.int q.num, D.int q.den] 0 = _
  exact atI_0
theorem ix_pR1 : ixD S (pR q) 1 = some (.int q.den) := by
  show L2.atI [D.int q.num, D.int q.den] 1 = _
  exact atI_1
theorem len_pR : lenF [pR q] S k = k (.int 2) S := by
  unfold pR; rw [lenF_t]; rfl
theorem isi_pR : isiD S t (pR q) = some (decide (t = .tuple)) := id rfl
end
mutual
/-- whole numbers, texts, None, and lists and tuples of them -/
def D.plain : D → Bool
  | .non => true
  | .int _ => true
  | .str _ => true
  | .tup xs => plainAll xs
  | .lst xs => plainAll xs
  | _ => false
def plainAll : List D → Bool
  | [] => true
  | x :: xs => x.plain && plainAll xs
end
theorem plainAll_iff : ∀ {xs : List D}, plainAll xs = true ↔ ∀ x ∈ xs, x.plain = true
  | [] => by simp [plainAll]
  | x :: xs => by
    unfold plainAll
    rw [Bool.and_eq_true, plainAll_iff (xs := xs)]
    simp
theorem pureAll_iff : ∀ {xs : List D}, pureAll xs = true ↔ ∀ x ∈ xs, x.pure = true
  | [] => by simp [pureAll]
  | x :: xs => by
    unfold pureAll
    rw [Bool.and_eq_true, pureAll_iff (xs := xs)]
    simp
mutual
theorem plain_pure : ∀ x : D, x.plain = true → x.pure = true
  | .non, _ => by unfold D.pure; rfl
  | .int _, _ => by unfold D.pure; rfl
  | .str _, _ => by unfold D.pure; rfl
  | .tup xs, h => by unfold D.pure; unfold D.plain at h; exact plainAll_pure xs h
  | .lst xs, h => by unfold D.pure; unfold D.plain at h; exact plainAll_pure xs h
  | .bl _, h => by unfold D.plain at h; cases h
  | .scr _, h => by unfold D.plain at h; cases h
  | .cell _, h => by unfold D.plain at h; cases h
  | .exn .., h => by unfold D.plain at h; cases h
theorem plainAll_pure : ∀ xs : List D, plainAll xs = true → pureAll xs = true
  | [], _ => by unfold pureAll; rfl
  | x :: xs, h => by
    unfold plainAll at h
    rw [Bool.and_eq_true] at h
    unfold pureAll
    rw [plain_pure x h.1, plainAll_pure xs h.2]; rfl
end
mutual
theorem eqv_iff : ∀ x y : D, x.plain = true → y.plain = true → (PyData.eqv x.py y.py = true ↔ x = y)
  | .non, y, _, hy => by cases y <;> simp [D.py, PyData.eqv, D.plain] at hy ⊢
  | .int a, y, _, hy => by cases y <;> simp [D.py, PyData.eqv, D.plain] at hy ⊢
  | .str a, y, _, hy => by cases y <;> simp [D.py, PyData.eqv, D.plain] at hy ⊢
  | .tup xs, y, hx, hy => by
    cases y <;> simp [D.py, PyData.eqv, D.plain] at hx hy ⊢
    exact eqvAll_iff xs _ hx hy
  | .lst xs, y, hx, hy => by
    cases y <;> simp [D.py, PyData.eqv, D.plain] at hx hy ⊢
    exact eqvAll_iff xs _ hx hy
  | .bl _, _, h, _ => by unfold D.plain at h; cases h
  | .scr _, _, h, _ => by unfold D.plain at h; cases h
  | .cell _, _, h, _ => by unfold D.plain at h; cases h
  | .exn .., _, h, _ => by unfold D.plain at h; cases h
theorem eqvAll_iff : ∀ xs ys : List D, plainAll xs = true → plainAll ys = true → (PyData.eqvAll (pyAll xs) (pyAll ys) = true ↔ xs = ys)
  | [], [], _, _ => by simp [pyAll, PyData.eqvAll]
  | [], _ :: _, _, _ => by simp [pyAll, PyData.eqvAll]
  | _ :: _, [], _, _ => by simp [pyAll, PyData.eqvAll]
  | x :: xs, y :: ys, hx, hy => by
    unfold plainAll at hx hy
    rw [Bool.and_eq_true] at hx hy
    simp only [pyAll, PyData.eqvAll, Bool.and_eq_true, List.cons.injEq]
    rw [eqv_iff x y hx.1 hy.1, eqvAll_iff xs ys hx.2 hy.2]
end
end Ab

namespace Ab
open PySem
section
variable {S : Sto} {c d : Cel} {xs : List D}
theorem stl_get : (S ++ [c])[S.length]? = some c := by simp
theorem stl_set : (S ++ [c]).set S.length d = S ++ [d] := by simp
theorem stl_take : (S ++ [c]).take S.length = S := by simp
theorem lview_top : lview (S ++ [.lst xs]) (.cell S.length) = some xs := lview_c stl_get
theorem rview_top : rview (S ++ [.lst xs]) (.cell S.length) = some xs := rview_c stl_get
end
theorem lc_rel {i : Nat} {vs : List Nat} {we : WE} {ds : List D} {gd : Sto → Prop} {s : Env} {S : Sto} {fin : List D → Sto → Prop} (Q : Nat → D → D → Prop) (hl : ds.length < sizeLine) (hg : gd S)
    (he : ∀ n x, ds[n]? = some x → ∀ k : KD, (∀ y, Q n x y → k y S) → we noXC ((wipeD s vs).set i (some x)) S k)
    (hf : ∀ ys : List D, ys.length = ds.length → (∀ (n : Nat) (x y : D), ds[n]? = some x → ys[n]? = some y → Q n x y) → fin ys S) : lcW i vs wYes we ds gd s S fin := by
  refine ⟨hl, fun n acc S2 => S2 = S ∧ (n ≤ ds.length → acc.length = n) ∧ ∀ (m : Nat) (x y : D), ds[m]? = some x → acc[m]? = some y → Q m x y, ⟨rfl, by simp, by simp⟩, ?_, ?_⟩
  · rintro n x acc S2 hx hle ⟨rfl, h1, h2⟩
    refine ⟨hg, ?_⟩
    simp only [wYes, if_true]
    refine he n x hx _ fun y hy => ⟨rfl, ?_, ?_⟩
    · intro hn
      rw [List.length_append, h1 (by omega)]; rfl
    · intro m x' y' e1 e2
      have hn : n < ds.length := by
        rcases Nat.lt_or_ge n ds.length with h | h
        · exact h
        · rw [List.getElem?_eq_none h] at hx; cases hx
      have hal := h1 (by omega)
      by_cases hm : m < n
      · rw [List.getElem?_append_left (by omega)] at e2
        exact h2 m x' y' e1 e2
      · by_cases hmn : m = n
        · subst hmn
          rw [hx] at e1
          cases e1
          rw [List.getElem?_append_right (by omega), hal, Nat.sub_self] at e2
          cases e2
          exact hy
        · rw [List.getElem?_eq_none (by rw [List.length_append]; simp; omega)] at e2
          cases e2
  · rintro acc S2 - ⟨rfl, h1, h2⟩
    exact ⟨hg, hf acc (h1 (Nat.le_refl _)) h2⟩
theorem rngD_get {a : Int} {m n : Nat} {x : D} (h : (rngD a m)[n]? = some x) : n < m ∧ x = .int (a + n) := by
  unfold rngD at h
  rw [List.getElem?_map] at h
  have : n < m := by
    rcases Nat.lt_or_ge n m with l | l
    · exact l
    · rw [List.getElem?_eq_none (by simpa using l)] at h; cases h
  rw [List.getElem?_range this] at h
  cases h
  exact ⟨this, rfl⟩
theorem rngD_len {a : Int} {m : Nat} : (rngD a m).length = m := by unfold rngD; simp
theorem lift_map {α : Type} (f : α → D) (P : Nat → α → Prop) : ∀ (ys : List D), (∀ (n : Nat) (y : D), ys[n]? = some y → ∃ a, y = f a ∧ P n a) → ∃ as : List α, ys = as.map f ∧ ∀ (n : Nat) (a : α), as[n]? = some a → P n a
  | [], _ => ⟨[], rfl, by simp⟩
  | y :: ys, h => by
    obtain ⟨a, rfl, ha⟩ := h 0 y rfl
    obtain ⟨as, rfl, has⟩ := lift_map f (fun n => P (n + 1)) ys fun n y e => h (n + 1) y e
    refine ⟨a :: as, rfl, fun n b e => ?_⟩
    cases n with
    | zero => cases e; exact ha
    | succ n => exact has n b e
def vI (v : List Int) : List D := v.map .int
theorem vI_len {v : List Int} : (vI v).length = v.length := by unfold vI; simp
theorem vI_get {v : List Int} {i : Nat} {x : D} (h : (vI v)[i]? = some x) : ∃ z, v[i]? = some z ∧ x = .int z := by
  unfold vI at h
  rw [List.getElem?_map] at h
  cases e : v[i]? with
  | none => rw [e] at h; cases h
  | some z => rw [e] at h; cases h; exact ⟨z, rfl, rfl⟩
theorem vI_plain (v : List Int) : plainAll (vI v) = true := plainAll_iff.mpr fun x hx => by
  unfold vI at hx
  obtain ⟨z, _, rfl⟩ := List.mem_map.mp hx
  unfold D.plain; rfl
theorem vI_pure (v : List Int) : pureAll (vI v) = true := plainAll_pure _ (vI_plain v)
theorem lst_pure {xs : List D} (h : pureAll xs = true) : (D.lst xs).pure = true := by unfold D.pure; exact h
def gI (v : List Int) (i : Int) : Int := v.getD i.toNat 0
theorem at_vI {v : List Int} {k : Int} (h0 : 0 ≤ k) (h1 : k < (v.length : Int)) : L2.atI (vI v) k = some (.int (gI v k)) := at_ints h0 h1
theorem ixN_in {n : Nat} {k : Int} (h0 : 0 ≤ k) (h1 : k < (n : Int)) : L2.ixN n k = some k.toNat := by
  unfold L2.ixN
  rw [if_pos h0, if_pos h1]
theorem vI_set {v : List Int} {n : Nat} {a : Int} : (vI v).set n (.int a) = vI (v.set n a) := by
  unfold vI
  rw [List.map_set]
theorem sto_vI {S : Sto} {n : Nat} {v : List Int} {i a : Int} {nx : Sto → Prop} (hS : S[n]? = some (.lst (vI v))) (h0 : 0 ≤ i) (h1 : i < (v.length : Int)) (h : nx (S.set n (.lst (vI (v.set i.toNat a))))) : kSto (.int a) nx (.cell n) (.int i) S := by
  rw [kSto_c]
  exact ⟨_, _, hS, ixN_in h0 (by rw [vI_len]; exact h1), by rw [vI_set]; exact h⟩
def bump (v : List Int) (i c : Int) : List Int := v.set i.toNat (gI v i + c)
theorem bump_len {v : List Int} {i c : Int} : (bump v i c).length = v.length := by unfold bump; simp
theorem bump_get {v : List Int} {i c j : Int} (h0 : 0 ≤ i) (h1 : i < (v.length : Int)) (j0 : 0 ≤ j) : gI (bump v i c) j = gI v j + if i = j then c else 0 := by
  unfold bump gI
  by_cases e : i = j
  · subst e
    rw [if_pos rfl, List.getD_eq_getElem?_getD, List.getElem?_set_self (by omega)]
    rfl
  · rw [if_neg e, List.getD_eq_getElem?_getD, List.getElem?_set_ne (by omega), ← List.getD_eq_getElem?_getD]
    omega
def bumps {α : Type} (f c : α → Int) (v : List Int) (xs : List α) : List Int := xs.foldl (fun v x => bump v (f x) (c x)) v
theorem bumps_len {α : Type} {f c : α → Int} : ∀ {xs : List α} {v : List Int}, (bumps f c v xs).length = v.length
  | [], _ => rfl
  | x :: xs, v => by
    show (bumps f c (bump v (f x) (c x)) xs).length = _
    rw [bumps_len, bump_len]
theorem bumps_get {α : Type} {f c : α → Int} {j : Int} (j0 : 0 ≤ j) : ∀ {xs : List α} {v : List Int}, (∀ x ∈ xs, 0 ≤ f x ∧ f x < (v.length : Int)) → gI (bumps f c v xs) j = gI v j + (xs.map fun x => if f x = j then c x else 0).sum
  | [], v, _ => by simp [bumps]
  | x :: xs, v, h => by
    show gI (bumps f c (bump v (f x) (c x)) xs) j = _
    have hx := h x (by simp)
    rw [bumps_get j0 (fun y hy => by rw [bump_len]; exact h y (by simp [hy])), bump_get hx.1 hx.2 j0]
    simp only [List.map_cons, List.sum_cons]
    omega
theorem bumps_snoc {α : Type} {f c : α → Int} {v : List Int} {xs : List α} {x : α} : bumps f c v (xs ++ [x]) = bump (bumps f c v xs) (f x) (c x) := by
  unfold bumps
  rw [List.foldl_append]
  rfl
theorem take_succ_of {α : Type} {xs : List α} {n : Nat} {x : α} (h : xs[n]? = some x) : xs.take (n + 1) = xs.take n ++ [x] := by
  rw [List.take_add_one, h]; rfl
theorem ext_gI {v w : List Int} (hl : v.length = w.length) (h : ∀ j : Int, 0 ≤ j → j < (v.length : Int) → gI v j = gI w j) : v = w := by
  refine List.ext_getElem hl fun i h1 h2 => ?_
  have := h (i : Int) (by omega) (by omega)
  unfold gI at this
  rw [List.getD_eq_getElem?_getD, List.getD_eq_getElem?_getD] at this
  simpa [h1, h2] using this
def zeros (m : Nat) : List Int := List.replicate m 0
theorem zeros_len {m : Nat} : (zeros m).length = m := by simp [zeros]
theorem zeros_get {m : Nat} {j : Int} : gI (zeros m) j = 0 := by
  unfold gI zeros
  rw [List.getD_eq_getElem?_getD, List.getElem?_replicate]
  split <;> rfl
structure Dd where
  a : Int
  b : Int
  r : Int
  c : Int
def Dd.d (x : Dd) : D := .tup [.int x.a, .int x.b, .int x.r, .int x.c]
def Dd.Ok (m : Int) (x : Dd) : Prop := 0 ≤ x.a ∧ x.a < m ∧ 0 ≤ x.b ∧ x.b < m ∧ x.a ≠ x.b ∧ 0 ≤ x.r ∧ x.r < 3 ∧ 0 ≤ x.c ∧ x.c ≤ 1000000000000
theorem Dd.d_plain (x : Dd) : x.d.plain = true := by
  unfold Dd.d D.plain plainAll D.plain plainAll D.plain plainAll D.plain plainAll D.plain plainAll; rfl
def dueL (xs : List Dd) : List D := xs.map Dd.d
theorem dueL_len {xs : List Dd} : (dueL xs).length = xs.length := by unfold dueL; simp
theorem dueL_plain (xs : List Dd) : plainAll (dueL xs) = true := plainAll_iff.mpr fun x hx => by
  unfold dueL at hx
  obtain ⟨z, _, rfl⟩ := List.mem_map.mp hx
  exact z.d_plain
theorem dueL_pure (xs : List Dd) : pureAll (dueL xs) = true := plainAll_pure _ (dueL_plain xs)
theorem dueL_get {xs : List Dd} {i : Nat} {x : D} (h : (dueL xs)[i]? = some x) : ∃ z, xs[i]? = some z ∧ x = z.d := by
  unfold dueL at h
  rw [List.getElem?_map] at h
  cases e : xs[i]? with
  | none => rw [e] at h; cases h
  | some z => rw [e] at h; cases h; exact ⟨z, rfl, rfl⟩
section
variable {S : Sto} {x : Dd} {k : KD} {t : Ty}
theorem ix_due0 : ixD S x.d 0 = some (.int x.a) := by
  show L2.atI [D.int x.a, D.int x.b, D.int x.r, D.int x.c] 0 = _
  exact atI_0
theorem ix_due1 : ixD S x.d 1 = some (.int x.b) := by
  show L2.atI [D.int x.a, D.int x.b, D.int x.r, D.int x.c] 1 = _
  exact atI_1
theorem ix_due2 : ixD S x.d 2 = some (.int x.r) := by
  show L2.atI [D.int x.a, D.int x.b, D.int x.r, D.int x.c] 2 = _
  exact atI_2
theorem ix_due3 : ixD S x.d 3 = some (.int x.c) := by
  show L2.atI [D.int x.a, D.int x.b, D.int x.r, D.int x.c] 3 = _
  exact atI_3
theorem len_due : lenF [x.d] S k = k (.int 4) S := by
  unfold Dd.d; rw [lenF_t]; rfl
theorem isi_due : isiD S t x.d = some (decide (t = .tuple)) := id rfl
end
theorem ring_ne {p r m : Int} (h0 : 0 ≤ p) (h1 : p < m) (h2 : 0 ≤ r) (h3 : r < m - 1) : 0 ≤ (p + 1 + r) % m ∧ (p + 1 + r) % m < m ∧ p ≠ (p + 1 + r) % m := by
  refine ⟨Int.emod_nonneg _ (by omega), Int.emod_lt_of_pos _ (by omega), ?_⟩
  by_cases c : p + 1 + r < m
  · rw [Int.emod_eq_of_lt (by omega) c]; omega
  · have : (p + 1 + r) % m = p + 1 + r - m := by
      rw [← Int.sub_emod_right, Int.emod_eq_of_lt (by omega) (by omega)]
    omega
theorem emod_lo {a b : Int} (h : 0 < b) : 0 ≤ a % b := Int.emod_nonneg _ (by omega)
theorem emod_hi {a b : Int} (h : 0 < b) : a % b < b := Int.emod_lt_of_pos _ h
theorem cutD_le {xs : List D} {a t : Int} (h0 : 0 ≤ a) (h1 : 0 ≤ t) : ((cutD xs (some a) (some (a + t))).length : Int) ≤ t := by
  unfold cutD
  rw [List.length_take, List.length_drop]
  unfold HT.sIx
  dsimp only
  rw [if_neg (by omega), if_neg (by omega)]
  omega
theorem Dd.Ok.mono {m n : Int} {x : Dd} (h : x.Ok m) (l : m ≤ n) : x.Ok n := by
  obtain ⟨h1, h2, h3, h4, h5⟩ := h
  exact ⟨h1, by omega, h3, by omega, h5⟩
theorem lift_dues {m : Int} (ys : List D) (h : ∀ y ∈ ys, ∃ x : Dd, y = x.d ∧ x.Ok m) : ∃ sh : List Dd, ys = dueL sh ∧ ∀ x ∈ sh, x.Ok m := by
  obtain ⟨as, e, ha⟩ := lift_map Dd.d (fun _ x => x.Ok m) ys fun n y e => h y (List.mem_of_getElem? e)
  refine ⟨as, e, fun x hx => ?_⟩
  obtain ⟨n, hn⟩ := List.mem_iff_getElem?.mp hx
  exact ha n x hn
theorem zerosD {a : Int} {n : Nat} : (rngD a n).map (fun _ => D.int 0) = vI (zeros n) := by
  rw [List.map_const', rngD_len]
  unfold vI zeros
  rw [List.map_replicate]
section
variable {xs : List D} {c0 c1 c2 c3 c4 : Cel} {r : Sto}
theorem lview_0 : lview (.lst xs :: r) (.cell 0) = some xs := id rfl
theorem lview_1 : lview (c0 :: .lst xs :: r) (.cell 1) = some xs := id rfl
theorem lview_2 : lview (c0 :: c1 :: .lst xs :: r) (.cell 2) = some xs := id rfl
theorem lview_3 : lview (c0 :: c1 :: c2 :: .lst xs :: r) (.cell 3) = some xs := id rfl
theorem lview_4 : lview (c0 :: c1 :: c2 :: c3 :: .lst xs :: r) (.cell 4) = some xs := id rfl
theorem lview_5 : lview (c0 :: c1 :: c2 :: c3 :: c4 :: .lst xs :: r) (.cell 5) = some xs := id rfl
end
def owesI (m : Int) (sh : List Dd) : List Int := bumps Dd.a Dd.c (zeros m.toNat) sh
def claimsI (m : Int) (sh : List Dd) : List Int := bumps Dd.b Dd.c (zeros m.toNat) sh
def netsI (m : Int) (sh : List Dd) : List Int := bumps Dd.a (fun x => -x.c) (claimsI m sh) sh
theorem owesI_len {m : Int} {sh : List Dd} : (owesI m sh).length = m.toNat := by unfold owesI; rw [bumps_len, zeros_len]
theorem claimsI_len {m : Int} {sh : List Dd} : (claimsI m sh).length = m.toNat := by unfold claimsI; rw [bumps_len, zeros_len]
theorem netsI_len {m : Int} {sh : List Dd} : (netsI m sh).length = m.toNat := by unfold netsI; rw [bumps_len, claimsI_len]
section
variable {S : Sto} {n m : Nat} {xs ys : List D} {k : KD}
end
end Ab

namespace Ab
open PySem PySem.Spec PyProof.Rows L2
def canS (K : PySem.W.Frag) (g : Gi) (W : WX) (w : WS) : TS := fun Dv sv H => ∃ H0 r S s Dk, Sim K g H0 r S H ∧ RelSt K H0 r s sv ∧ w Dk s S ∧ CtS K g H0 r H W Dk Dv
section
variable {X : Cx} {g : Gi} {W : WX} {w : WS} {st : List Stmt}
theorem SSs.ps (h : SSs X g W st w) : PSs X st (canS X.K g W w) := by
  obtain ⟨t, p, gg⟩ := h
  exact ⟨fun pins s σ H D I ⟨H0, r, S, sd, Dk, si, rs, hw, ct⟩ => p.run pins s σ H D I (gg H0 r S H sd σ Dk D si rs hw ct)⟩
def wTry (i : Nat) (rl : List Str) (cat : Str → Bool) (w : WS) (ws : Addr → Str → WS) : WS := fun (D : HG Kd) s S =>
  w { nx := D.nx, rt := D.rt, xc := fun c s1 S1 => rl.contains c = true ∧ if cat c = true then ∀ a : Addr, ws a c { nx := fun s2 S2 => D.nx (s2.set i none) S2, rt := D.rt, xc := fun _ _ _ => False } (s1.set i (some (.exn a c))) S1 else D.xc c s1 S1 } s S
theorem RelSt.clear {K : PySem.W.Frag} {H0 : Hp} {r : List Addr} {s : Env} {sv : L2.St} (h : RelSt K H0 r s sv) (i : Nat) : RelSt K H0 r (s.set i none) (sv.set i none) := by
  refine ⟨by simp [h.1], fun j d e => ?_⟩
  by_cases hij : i = j
  · subst hij
    by_cases hl : i < s.length
    · rw [List.getElem?_set_self hl] at e; cases e
    · rw [List.getElem?_eq_none (by simp; omega)] at e; cases e
  · rw [List.getElem?_set_ne hij] at e ⊢
    exact h.2 j d e
def eSub (c y : Str) : Bool := decide (c = y) || decide (y = "QuitsError") || decide (y = "ValueError")
def wIsE (a : Addr) (c : Str) (b : Bool) (wa : WE) : WE := fun (xc : HG XE) s S k => wa xc s S fun d S1 => d = .exn a c ∧ k (.bl b) S1
end
def ratL (qs : List Rat) : List D := qs.map pR
theorem ratL_len {qs : List Rat} : (ratL qs).length = qs.length := by unfold ratL; simp
def sumR (qs : List Rat) : Rat := qs.foldl (· + ·) 0
theorem dueL_app (a b : List Dd) : dueL a ++ dueL b = dueL (a ++ b) := by unfold dueL; rw [List.map_append]
def netB (v : List Int) (x : Dd) : List Int := bump (bump v x.a (-x.c)) x.b x.c
theorem netB_len {v : List Int} {x : Dd} : (netB v x).length = v.length := by unfold netB; rw [bump_len, bump_len]
theorem netBs_len : ∀ {sh : List Dd} {v : List Int}, (sh.foldl netB v).length = v.length
  | [], _ => rfl
  | x :: sh, v => by
    show (sh.foldl netB (netB v x)).length = _
    rw [netBs_len, netB_len]
def houseP (m : Int) (v : List Int) (i : Nat) : List Dd := if gI v i < 0 then [⟨i, m, 0, -(gI v i)⟩] else if gI v i > 0 then [⟨m, i, 0, gI v i⟩] else []
def houseL (m : Int) (v : List Int) : Nat → List Dd
  | 0 => []
  | n + 1 => houseL m v n ++ houseP m v n
theorem at_dueL {sh : List Dd} {k : Nat} {x : Dd} (h : sh[k]? = some x) : L2.atI (dueL sh) (k : Int) = some x.d := L2.atI_nat (by unfold dueL; rw [List.getElem?_map, h]; rfl)
section
variable {S : Sto} {d : D} {xs : List D} {k : KD} {i : Int} {t : Ty}
theorem lv_ix (h : lview S d = some xs) : ixD S d i = L2.atI xs i := by
  cases d with
  | lst ys => cases h; rfl
  | scr ys => cases h; rfl
  | cell n => rw [ixD_c, h]; rfl
  | _ => cases h
theorem lv_len (h : lview S d = some xs) : lenF [d] S k = k (.int xs.length) S := by
  cases d with
  | lst ys => cases h; rw [lenF_l]
  | scr ys => cases h; rw [lenF_r]
  | cell n =>
    rw [lenF_c, h]
    exact propext ⟨fun ⟨zs, e, q⟩ => by cases e; exact q, fun q => ⟨_, rfl, q⟩⟩
  | _ => cases h
end
def matL (m : List (List Int)) : List D := m.map fun v => .lst (vI v)
theorem matL_len {m : List (List Int)} : (matL m).length = m.length := by unfold matL; simp
theorem vI_map {α : Type} {as : List α} {ys : List D} (g : α → Int) (hl : ys.length = as.length) (h : ∀ (n : Nat) (a : α) (y : D), as[n]? = some a → ys[n]? = some y → y = .int (g a)) : ys = vI (as.map g) := by
  refine List.ext_getElem? fun i => ?_
  unfold vI
  rw [List.getElem?_map, List.getElem?_map]
  by_cases hi : i < ys.length
  · have e := h i as[i] ys[i] (List.getElem?_eq_getElem (by omega)) (List.getElem?_eq_getElem hi)
    rw [List.getElem?_eq_getElem hi, List.getElem?_eq_getElem (by omega), e]
    rfl
  · rw [List.getElem?_eq_none (by omega), List.getElem?_eq_none (by omega)]
    rfl
theorem lv_app {S T : Sto} {d : D} {xs : List D} (h : lview S d = some xs) : lview (S ++ T) d = some xs := by
  cases d with
  | lst ys => exact h
  | scr ys => exact h
  | cell n =>
    have e : (match S[n]? with | some (.lst xs) => some xs | _ => none) = some xs := h
    split at e
    · rename_i ys hS
      refine (lview_c (xs := ys) ?_).trans e
      rw [List.getElem?_append_left (List.getElem?_eq_some_iff.mp hS).1]
      exact hS
    · cases e
  | _ => cases h
theorem lv_sview {S : Sto} {d : D} {xs : List D} (h : lview S d = some xs) : sview S d = some xs := by
  cases d with
  | tup ys => cases h
  | _ => exact h
theorem gd_self {S : Sto} {d : D} : gdOf S d S := by
  unfold gdOf
  split
  · rfl
  · trivial
theorem sum_nonneg {v : List Int} (h : ∀ z ∈ v, 0 ≤ z) : 0 ≤ v.sum := by
  induction v with
  | nil => decide
  | cons a v ih =>
    rw [List.sum_cons]
    have := h a (by simp)
    have := ih fun z hz => h z (by simp [hz])
    omega
theorem gI_mem {v : List Int} {k : Nat} (h : k < v.length) : gI v k ∈ v := by
  unfold gI
  rw [List.getD_eq_getElem?_getD]
  simp [h]
end Ab

namespace Ab
open PySem
theorem gI_succ {a : Int} {v : List Int} {n : Nat} : gI (a :: v) ((n + 1 : Nat) : Int) = gI v n := by
  unfold gI
  rw [Int.toNat_natCast, Int.toNat_natCast]
  rfl
theorem gI_nat {v : List Int} {n : Nat} (h : n < v.length) : gI v n = v[n] := by
  unfold gI
  rw [List.getD_eq_getElem?_getD, Int.toNat_natCast]
  simp [h]
theorem sum_set : ∀ {v : List Int} {n : Nat} {a : Int}, n < v.length → (v.set n a).sum = v.sum - gI v n + a
  | [], n, a, h => by cases h
  | x :: v, 0, a, _ => by
    rw [List.set_cons_zero, List.sum_cons, List.sum_cons]
    have : gI (x :: v) ((0 : Nat) : Int) = x := rfl
    omega
  | x :: v, n + 1, a, h => by
    rw [List.set_cons_succ, List.sum_cons, List.sum_cons, sum_set (by simpa using h), gI_succ]
    omega
theorem gI_set {v : List Int} {n k : Nat} {a : Int} (h : n < v.length) : gI (v.set n a) k = if k = n then a else gI v k := by
  unfold gI
  rw [List.getD_eq_getElem?_getD, List.getD_eq_getElem?_getD, Int.toNat_natCast]
  by_cases e : k = n
  · subst e
    rw [if_pos rfl, List.getElem?_set_self h]
    rfl
  · rw [if_neg e, List.getElem?_set_ne (Ne.symm e)]
def qS (c w : Int) (b : List Int) : List Int := b.map fun x => c * x / w
def rS (c w : Int) (b : List Int) : List Int := b.map fun x => c * x % w
def ovS (c w : Int) (b : List Int) : Nat → Int
  | 0 => c - (qS c w b).sum
  | n + 1 => if 0 < ovS c w b n ∧ gI (rS c w b) n ≠ 0 then ovS c w b n - 1 else ovS c w b n
def liS (c w : Int) (b : List Int) : Nat → List Int
  | 0 => qS c w b
  | n + 1 => if 0 < ovS c w b n ∧ gI (rS c w b) n ≠ 0 then (liS c w b n).set n (gI (liS c w b n) n + 1) else liS c w b n
section
variable {c w : Int} {b : List Int}
end
def shareL (c : Int) (b : List Int) : List Int := if b.sum = 0 then b.map fun _ => 0 else liS c b.sum b b.length
def sumA (sh : List Dd) (j : Int) : Int := (sh.map fun x => if x.a = j then x.c else 0).sum
def sumB (sh : List Dd) (j : Int) : Int := (sh.map fun x => if x.b = j then x.c else 0).sum
def pickA (j : Int) : D → Bool
  | .tup (.int a :: _) => decide (a = j)
  | _ => false
def pickB (j : Int) : D → Bool
  | .tup (_ :: .int a :: _) => decide (a = j)
  | _ => false
def pickC : D → D
  | .tup (_ :: _ :: _ :: c :: _) => c
  | d => d
theorem cut_drop {xs : List D} {h : Int} (h0 : 0 ≤ h) : cutD xs (some h) none = xs.drop h.toNat := by
  unfold cutD HT.sIx
  dsimp only
  rw [if_neg (by omega)]
  by_cases c : h.toNat ≤ xs.length
  · rw [Nat.min_eq_left c, List.take_of_length_le (by rw [List.length_drop]; omega)]
  · rw [Nat.min_eq_right (by omega), List.drop_length, List.drop_of_length_le (by omega)]
    simp
def gapsI (v p : List Int) : List Int := (List.range p.length).map fun (k : Nat) => if 0 - gI v k - gI p k > 0 then 0 - gI v k - gI p k else 0
end Ab

namespace Ab
open PySem
def ovG (f : Nat → Bool) (o : Int) : Nat → Int
  | 0 => o
  | n + 1 => if 0 < ovG f o n ∧ f n = true then ovG f o n - 1 else ovG f o n
def liG (f : Nat → Bool) (o : Int) (q : List Int) : Nat → List Int
  | 0 => q
  | n + 1 => if 0 < ovG f o n ∧ f n = true then (liG f o q n).set n (gI (liG f o q n) n + 1) else liG f o q n
section
variable {f : Nat → Bool} {o : Int} {q : List Int}
def cntG (f : Nat → Bool) : Nat → Nat
  | 0 => 0
  | n + 1 => cntG f n + if f n = true then 1 else 0
end
def levelR : Int → Int → List Int → Int
  | l, _, [] => l
  | l, r, x :: xs => if r < (x - l) * ((xs.length : Int) + 1) then l + r / ((xs.length : Int) + 1) else levelR x (r - (x - l) * ((xs.length : Int) + 1)) xs
def minS (l : Int) (xs : List Int) : Int := (xs.map fun x => if l < x then l else x).sum
def above (l : Int) (xs : List Int) : Nat := (xs.filter fun x => decide (l < x)).length
theorem perm_sum {a b : List Int} (h : a.Perm b) : a.sum = b.sum := by
  induction h with
  | nil => rfl
  | cons x _ ih => rw [List.sum_cons, List.sum_cons, ih]
  | swap x y l => rw [List.sum_cons, List.sum_cons, List.sum_cons, List.sum_cons]; omega
  | trans _ _ h1 h2 => exact h1.trans h2
def rankI (b : List Int) : List Int := b.mergeSort fun x y => decide (x ≤ y)
def levelI (c : Int) (b : List Int) : Int := levelR 0 c (rankI b)
def aboveF (l : Int) (b : List Int) (k : Nat) : Bool := decide (l < gI b k)
def minL (l : Int) (b : List Int) : List Int := b.map fun x => if l < x then l else x
def levelL (c : Int) (b : List Int) : List Int := liG (aboveF (levelI c b) b) (c - minS (levelI c b) b) (minL (levelI c b) b) b.length
end Ab

namespace Ab
open PySem PySem.Spec PyProof.Rows L2
def FzR (S : Sto) (d a : D) (S' : Sto) : Prop := ∀ (K : PySem.W.Frag) (g : Gi) (H0 : Hp) (r : List Addr) (H : Hp) (v : V), Sim K g H0 r S H → Rel K H0 r d v →
  ∃ H0', Sim K g H0' r S' H ∧ Fut H0 r H H0' r H ∧ Rel K H0' r a v
def FzsR (S : Sto) (ds as : List D) (S' : Sto) : Prop := ∀ (K : PySem.W.Frag) (g : Gi) (H0 : Hp) (r : List Addr) (H : Hp) (vs : List V), Sim K g H0 r S H → Rels K H0 r ds vs →
  ∃ H0', Sim K g H0' r S' H ∧ Fut H0 r H H0' r H ∧ Rels K H0' r as vs
theorem FzR.same {S : Sto} {d : D} : FzR S d d S := fun _ _ H0 _ _ _ si rl => ⟨H0, si, .refl, rl⟩
theorem FzsR.nil {S : Sto} : FzsR S [] [] S := fun _ _ H0 _ _ _ si rl => ⟨H0, si, .refl, rl⟩
theorem FzsR.same {S : Sto} {ds : List D} : FzsR S ds ds S := fun _ _ H0 _ _ _ si rl => ⟨H0, si, .refl, rl⟩
theorem FzsR.cons {S S1 S2 : Sto} {d a : D} {ds as : List D} (h : FzR S d a S1) (h2 : FzsR S1 ds as S2) : FzsR S (d :: ds) (a :: as) S2 := by
  intro K g H0 r H vs si rl
  obtain ⟨y, ys, rfl, r1, r2⟩ := rl.uncons
  obtain ⟨H1, s1, f1, q1⟩ := h K g H0 r H y si r1
  obtain ⟨H2, s2, f2, q2⟩ := h2 K g H1 r H ys s1 (r2.fut f1)
  exact ⟨H2, s2, f1.tr s1 f2, Rels.cons (q1.fut f2) q2⟩
theorem FzR.cell {S S' : Sto} {n : Nat} {xs ys : List D} (e : S[n]? = some (.lst xs)) (h : FzsR S xs ys S') (e2 : S'[n]? = some (.lst xs)) : FzR S (.cell n) (.lst ys) (S'.set n .dead) := by
  intro K g H0 r H v si rl
  unfold Rel at rl
  obtain ⟨p, rfl, hr⟩ := rl
  obtain ⟨_, zs, hp, hz⟩ := si.cel n p _ hr e
  obtain ⟨H1, s1, f1, q1⟩ := h K g H0 r H zs si hz
  obtain ⟨ws, hp2, s2, f2, _⟩ := s1.freeze hr e2
  rw [hp] at hp2
  cases hp2
  refine ⟨_, s2, f1.tr s1 f2, ?_⟩
  unfold Rel
  exact ⟨p, zs, rfl, .inl upd_same, q1.fut f2⟩
theorem FzR.tup {S S' : Sto} {xs ys : List D} (h : FzsR S xs ys S') : FzR S (.tup xs) (.tup ys) S' := by
  intro K g H0 r H v si rl
  unfold Rel at rl
  obtain ⟨a, zs, rfl, h1, h2⟩ := rl
  obtain ⟨H1, s1, f1, q1⟩ := h K g H0 r H zs si h2
  refine ⟨H1, s1, f1, ?_⟩
  unfold Rel
  exact ⟨a, zs, rfl, f1.ext.sqt h1, q1⟩
theorem FzR.lst {S S' : Sto} {xs ys : List D} (h : FzsR S xs ys S') : FzR S (.lst xs) (.lst ys) S' := by
  intro K g H0 r H v si rl
  unfold Rel at rl
  obtain ⟨a, zs, rfl, h1, h2⟩ := rl
  obtain ⟨H1, s1, f1, q1⟩ := h K g H0 r H zs si h2
  refine ⟨H1, s1, f1, ?_⟩
  unfold Rel
  exact ⟨a, zs, rfl, f1.ext.rd h1, q1⟩
theorem FzR.cellP {S : Sto} {n : Nat} {xs : List D} (e : S[n]? = some (.lst xs)) : FzR S (.cell n) (.lst xs) (S.set n .dead) := FzR.cell e .same e
def frzDW (d : D) (S : Sto) (k : KD) : Prop := ∃ a S', FzR S d a S' ∧ k a S'
def wFrzD (w : WE) : WE := fun (xc : HG XE) s S k => w xc s S fun d S1 => frzDW d S1 k
section
variable {X : Cx} {g : Gi} {W : WX} {a b c e o : Expr} {pos : Pos} {wa wb wc we wo : WE}
theorem se_frzD (ha : SE X g W a wa) : SE X g W a (wFrzD wa) := by
  obtain ⟨ta, pa, ga⟩ := ha
  refine ⟨_, pa, fun H0 r S H s sv Q k xc si rs h ce cx => ?_⟩
  refine ga H0 r S H s sv _ _ xc si rs h (fun d v H1 r1 S1 H1' f1 s1 rl h1 => ?_) cx
  obtain ⟨a', S2, hf, hk⟩ := h1
  obtain ⟨H2, s2, f2, q2⟩ := hf _ _ _ _ _ v s1 rl
  exact ce _ _ _ _ _ _ (f1.tr s1 f2) s2 q2 hk
end
def cellsD (n m : Nat) : List D := (List.range m).map fun i => .cell (n + i)
end Ab

namespace Ab
open PySem
theorem szlt {n : Nat} (h : n ≤ 1000000) : n < sizeLine := Nat.lt_of_le_of_lt h (by decide +kernel)
section
variable {S : Sto} {k : KD} {xs ys : List D} {n m : Nat}
end
end Ab

namespace Ab
open PySem PySem.Spec PyProof.Rows L2
section
variable {prog : Program} {w : World} {A : Around} {E : Value → Shared → Prop} {s : Shared}
theorem list_init_rev {R : Result → Shared → Prop} {it l : Addr} {items : Array Value} (hh : A.handled = none) (hit : s.heap.IsRevIter it l ((items.size : Int) - 1)) (hl : s.heap.IsList l items) (hne : l ≠ it) (hn : items.size ≤ sizeLine) (S : Addr) (hS : s.heap.get? S = some { cls := .type "list", data := .seq #[] }) (hSi : S ≠ it) (hSl : S ≠ l)
    (hR : ∀ h' tk acc' c', (∀ b o, b ≠ S → b ≠ it → s.heap.get? b = some o → h'.get? b = some o) → h'.get? S = some { cls := .type "list", dict := none, data := .seq acc' c', slots := #[] } →
      ItemsOf (fun i v => items[items.size - 1 - i]? = some v) acc' items.size → R (.ok (.ret .none)) { s with heap := h', toks := tk }) :
    wpAny (model prog w) A.in1 (Builtin.«list.__init__» ⟨[.ref S, .ref it], []⟩)
      (fun fin s' => match fin with | .done f => R (.ok f) s' | .again c' => c'.quiet = true ∧ codeAny (model prog w) A c' R s') (fun e s' => R (.error e) s') s := by
  show wpAny _ _ (do let old ← Builtin.List.listItems (.ref S); Builtin.List.listUpdate (.ref S) (fun _ => #[]); letGo old.toList.reverse; Builtin.List.listExtendWith (.ref S) (.ref it) .none) _ _ s
  refine wpAny_bind ?_
  unfold Builtin.List.listItems
  refine wpAny_bind (wpAny_seqItems hS rfl (wpAny_pure ?_))
  show wpAny _ _ (updateSeq S (fun _ => #[]) >>= fun _ => letGo (#[] : Array Value).toList.reverse >>= fun _ => Builtin.List.listExtendWith (.ref S) (.ref it) .none) _ _ s
  refine wpAny_bind (wpAny_updateSeq hS rfl ?_)
  have hS₂ := Heap.get?_update_self (Obj.mapSeq (fun _ => (#[] : Array Value))) hS rfl
  have oth : ∀ b o, b ≠ S → s.heap.get? b = some o → (s.heap.update S (Obj.mapSeq (fun _ => (#[] : Array Value)))).get? b = some o :=
    fun b o hb e => (Heap.get?_update_other _ _ (Ne.symm hb)).trans e
  refine wpAny_bind (wpAny_letGo ?_)
  have hit1 : (s.heap.update S (Obj.mapSeq (fun _ => (#[] : Array Value)))).IsRevIter it l ((items.size : Int) - 1) := hit.at fun o e => oth it o (Ne.symm hSi) e
  have hl1 : (s.heap.update S (Obj.mapSeq (fun _ => (#[] : Array Value)))).IsList l items := by
    obtain ⟨o, ho, hc⟩ := hl
    exact ⟨o, oth l o (Ne.symm hSl) ho, hc⟩
  have W := (Walks.listRev (prog := prog) (w := w) (A := A.in1) hh it l hne items).toS
  have hSf : S ∉ [it, l] := by simp only [List.mem_cons, List.not_mem_nil, or_false, not_or]; exact ⟨hSi, hSl⟩
  generalize hhp : s.heap.update S (Obj.mapSeq (fun _ => (#[] : Array Value))) = hp at hit1 hl1 hS₂ oth
  have hT : ({ s with heap := hp } : Shared).TypeIs (.ref it) "list_reverseiterator" := Heap.IsRevIter.typeIs (s := { s with heap := hp }) hit1
  have h1 : Builtin.List.listSameRef (.ref S) (.ref it) = false := by simp [Builtin.List.listSameRef, hSi]
  unfold Builtin.List.listExtendWith
  refine wpAny_bind (wpAny_typeOf hT ?_)
  rw [if_neg (by rw [h1]; decide)]
  refine wpAny_bind (wpAny_pyIter_revIter (s := { s with heap := hp }) hit1 ?_)
  refine wpAny_bind (wpAny_holding ?_)
  unfold Builtin.List.listLengthHint
  refine wpAny_bind (wpAny_specialOf hT RT.nolen_lri ?_)
  show wpAny _ A.in1 (specialOf (Value.ref it) (Str.ofString "__length_hint__") >>= _) _ _ _
  refine wpAny_bind (wpAny_specialOf hT RT.hint_lri ?_)
  generalize hid : ("list_reverseiterator.__length_hint__" : String) = id0
  wp_delta
  rw [show splitId id0 = some ("list_reverseiterator", "__length_hint__") from by subst hid; decide +kernel]
  subst hid
  refine wpAny_bind (wpAny_isInstance (b := true) hT (by rw [isSubtype_type]; kernel_rfl) ?_)
  refine wpAny_pure ?_
  rw [if_neg (by decide)]
  have e0 : ((items.size : Nat) : Int) - 1 - ((0 : Nat) : Int) = (items.size : Int) - 1 := by omega
  refine wpAny_pure ⟨plainId_quiet F.plain_extend_loop _, codeAny_extend_loopS W hn _ hSf _ items.size 0 _ _ _ rfl (Nat.zero_le _) ⟨Nat.zero_le _, by rw [e0]; exact hit1, hl1⟩ hS₂ (ItemsOf.nil _) fun s' acc' c' hm hS' hacc => ?_⟩
  rw [Moved.eq_with hm]
  refine hR s'.heap s'.toks acc' c' (fun b o hb hb2 e => hm.heap b o (fun hmem => ?_) (oth b o hb e)) hS' hacc
  rcases List.mem_cons.mp hmem with e' | hmem
  · exact hb e'
  · exact hb2 (List.mem_singleton.mp hmem)
theorem call_list_rev {it l : Addr} {items : Array Value} {Q : Value → Shared → Prop} (hh : A.handled = none) (hit : s.heap.IsRevIter it l ((items.size : Int) - 1)) (hl : s.heap.IsList l items) (hne : l ≠ it) (hn : items.size ≤ sizeLine)
    (hQ : ∀ (h' : Heap) (tk : Nat) (acc : Array Value) (c' : Nat), (∀ b o, b ≠ it → s.heap.get? b = some o → h'.get? b = some o) → h'.get? s.heap.objs.size = some { cls := .type "list", dict := none, data := .seq acc c', slots := #[] } → ItemsOf (fun i v => items[items.size - 1 - i]? = some v) acc items.size →
      Q (.ref s.heap.objs.size) { s with heap := h', toks := tk }) :
    wpAny (model prog w) A (call (.type "list") [.ref it]) Q E s := by
  obtain ⟨oi, hoi, _⟩ := id hit
  obtain ⟨ol, hol, _⟩ := id hl
  have hSi : s.heap.objs.size ≠ it := Nat.ne_of_gt (Heap.lt_size hoi)
  have hSl : s.heap.objs.size ≠ l := Nat.ne_of_gt (Heap.lt_size hol)
  refine callType_codes (Q₁ := fun obj s₁ => obj = .ref s.heap.objs.size ∧ s₁ = { s with heap := s.heap.push { cls := .type "list", data := .seq #[] } }) F.called_list (F.typeCall_list_1 _) F.entry_list_init
    (code_list_new _ ⟨rfl, rfl⟩) fun obj s₁ h₁ => ?_
  obtain ⟨rfl, rfl⟩ := h₁
  have hS : (s.heap.push { cls := .type "list", data := .seq #[] }).get? s.heap.objs.size = some { cls := .type "list", data := .seq #[] } := Heap.get?_push_size _ rfl
  refine ⟨⟨_, hS, rfl⟩, F.args_list_init_2 _ _, list_init_rev (s := { s with heap := s.heap.push { cls := .type "list", data := .seq #[] } }) (A := A.in1) hh (hit.at fun o e => Heap.get?_push_of_some _ e) (hl.push _) hne hn _ hS hSi hSl fun h' tk acc' c' hk hS' hacc => ?_⟩
  exact ⟨rfl, hQ h' tk acc' c' (fun b o hb e => hk b o (Nat.ne_of_lt (Heap.lt_size e)) hb (Heap.get?_push_of_some _ e)) hS' hacc⟩
end
def tLstRev (K : PySem.W.Frag) (te : TE) : TE := fun σ H Q => te σ H fun v H1 => ∃ (a : Addr) (xs : List V), v = .ref a ∧ SqL K H1 a xs ∧ ∀ q, H1 q = none → Q (.ref q) (upd H1 q (.lst xs.reverse))
section
variable {X : Cx}
theorem pe_lstRev {e : Expr} {te : TE} {p p2 pos pos2 : Pos} (hc : X.calm = true) (hg : Gl X "list") (hm : X.mg "list" = none) (hg2 : Gl X "reversed") (hm2 : X.mg "reversed" = none) (he : PE X e te)
    (hs : starEach [e] X.env = (false, eval e X.env) :: starEach [] X.env := by rfl)
    (hs2 : starEach [.Call (.Name "reversed" p2) [e] [] pos2] X.env = (false, eval (.Call (.Name "reversed" p2) [e] [] pos2) X.env) :: starEach [] X.env := by rfl) :
    PE X (.Call (.Name "list" p) [.Call (.Name "reversed" p2) [e] [] pos2] [] pos) (tLstRev X.K te) := by
  refine ⟨fun pins s σ H Q I h => ?_⟩
  refine Call_ (ld_blt I hg hm boot_list (PyProof.Rows.callWith_type1 (args_cons (Call_ (ld_blt I hg2 hm2 PyProof.Rows.boot_reversed (PyProof.Rows.callWith_type1 (args_cons (thn (he.run pins s σ H _ I h) fun u s1 ⟨v, H1, I1, r1, q1⟩ => args_nil ?_) hs) hs rfl))) hs2) hs2 rfl))
  obtain ⟨a, xs, ev, hq, q⟩ := q1
  subst ev
  obtain rfl : u = Value.ref a := r1
  obtain ⟨its, rv, p', hz⟩ := I1.list hq
  refine call_reversed_list p'.isList (args_nil ?_)
  have k0 : ∀ b o, s1.heap.get? b = some o → (s1.heap.push (revObj a ((its.toArray.size : Int) - 1))).get? b = some o := fun b o e => Heap.get?_push_of_some _ e
  have I2 : Inv X pins σ H1 { s1 with heap := s1.heap.push (revObj a ((its.toArray.size : Int) - 1)) } := I1.kept (t' := s1.toks) k0
  obtain ⟨f0, f1, f2, f3, f4, f5⟩ := I1.fpOk (H' := H1) (b := s1.heap.objs.size) (Nat.le_refl _) (I1.hok.fresh (Nat.le_refl _))
  have hl := p'.isList
  obtain ⟨ol, hol, _⟩ := id hl
  have hne : a ≠ s1.heap.objs.size := Nat.ne_of_lt (Heap.lt_size hol)
  have hn : its.toArray.size ≤ sizeLine := by rw [List.size_toArray, ← rv.length]; exact hz
  refine call_list_rev (s := { s1 with heap := s1.heap.push (revObj a ((its.toArray.size : Int) - 1)) }) (I1.ok.hd hc) ⟨_, Heap.get?_push_size _ rfl, rfl, rfl⟩ (hl.push _) hne hn fun h' tk acc c' hk hS hi => ?_
  have hp0 : (s1.heap.push (revObj a ((its.toArray.size : Int) - 1))).get? s1.heap.objs.size = some (revObj a ((its.toArray.size : Int) - 1)) := Heap.get?_push_size _ rfl
  have hle : s1.heap.objs.size ≤ (s1.heap.push (revObj a ((its.toArray.size : Int) - 1))).objs.size := Nat.le_of_lt (Heap.lt_size hp0)
  refine ⟨.ref _, upd H1 _ (.lst xs.reverse), I1.laid (t' := tk) (h' := h') (fun b o e => hk b o (Nat.ne_of_lt (Heap.lt_size e)) (Heap.get?_push_of_some _ e)) hle (show ObjOk X.prog X.w _ _ _ (.lst xs.reverse) from ⟨by rw [List.length_reverse]; exact hz, acc.toList, c', RT.vals_rev rv hi, ?_⟩), rfl, q _ (I1.hok.fresh hle)⟩
  rw [Array.toArray_toList]
  exact hS
end
section
variable {X : Cx} {g : Gi} {W : WX} {a b c e o : Expr} {es : List Expr} {pos cpos apos : Pos} {wa wb wc we wo : WE} {wt wu : WT} {ws : WA}
variable {K : PySem.W.Frag} {H0 H : Hp} {r : List Addr} {S : Sto} {d : D} {v : V} {ds : List D}
def kLstRev (k : KD) (d : D) (S : Sto) : Prop := ∃ xs, lview S d = some xs ∧ k (.lst xs.reverse) S
def kLstRevC (k : KD) (d : D) (S : Sto) : Prop := ∃ xs, lview S d = some xs ∧ k (.cell S.length) (S ++ [.lst xs.reverse])
def wLstRev (we : WE) : WE := fun (xc : HG XE) s S k => we xc s S (kLstRev k)
def wLstRevC (we : WE) : WE := fun (xc : HG XE) s S k => we xc s S (kLstRevC k)
theorem se_lstRev {p p2 pos2 : Pos} (hc : X.calm = true) (hg : Gl X "list") (hm : X.mg "list" = none) (hg2 : Gl X "reversed") (hm2 : X.mg "reversed" = none) (he : SE X g W e we)
    (hs : starEach [e] X.env = (false, eval e X.env) :: starEach [] X.env := by rfl)
    (hs2 : starEach [.Call (.Name "reversed" p2) [e] [] pos2] X.env = (false, eval (.Call (.Name "reversed" p2) [e] [] pos2) X.env) :: starEach [] X.env := by rfl) :
    SE X g W (.Call (.Name "list" p) [.Call (.Name "reversed" p2) [e] [] pos2] [] pos) (wLstRev we) := by
  obtain ⟨ta, pa, ga⟩ := he
  refine ⟨_, pe_lstRev hc hg hm hg2 hm2 pa hs hs2, fun H0 r S H s sv Q k xc si rs h ce cx => ?_⟩
  refine ga H0 r S H s sv _ _ xc si rs h (fun d v H1 r1 S1 H1' f1 s1 rl h1 => ?_) cx
  obtain ⟨xs, e1, hk⟩ := h1
  obtain ⟨a, ys, rfl, h2, h3⟩ := lview_rel s1 rl e1
  refine ⟨a, ys, rfl, h2, fun q hq => ?_⟩
  obtain ⟨s4, f4, rl4⟩ := s1.lst hq h3.reverse
  exact ce _ _ _ _ _ _ (f1.tr s1 f4) s4 rl4 hk
def kLstRg (k : KD) : D → Sto → Prop
  | .int n, S => 0 ≤ n ∧ n ≤ 16777216 ∧ k (.lst (rngD 0 n.toNat)) S
  | _, _ => False
def kLstRgC (k : KD) : D → Sto → Prop
  | .int n, S => 0 ≤ n ∧ n ≤ 16777216 ∧ k (.cell S.length) (S ++ [.lst (rngD 0 n.toNat)])
  | _, _ => False
def wLstRg (we : WE) : WE := fun (xc : HG XE) s S k => we xc s S (kLstRg k)
def wLstRgC (we : WE) : WE := fun (xc : HG XE) s S k => we xc s S (kLstRgC k)
theorem rgV_rel {n : Int} (h : 0 ≤ n) : Rels K H0 r (rngD 0 n.toNat) (rgV 0 n) := by
  have e1 : rngD 0 n.toNat = ((List.range n.toNat).map fun (k : Nat) => (0 : Int) + (k : Int)).map D.int := by unfold rngD; rw [List.map_map]; rfl
  have e2 : rgV 0 n = ((List.range n.toNat).map fun (k : Nat) => (0 : Int) + (k : Int)).map V.int := by unfold rgV; rw [List.map_map, Int.sub_zero]; rfl
  rw [e1, e2]
  exact Rels.ints.mpr rfl
theorem se_lstRg {p p2 pos2 : Pos} (hc : X.calm = true) (hg : Gl X "list") (hm : X.mg "list" = none) (hg2 : Gl X "range") (hm2 : X.mg "range" = none) (he : SE X g W e we)
    (hs : starEach [e] X.env = (false, eval e X.env) :: starEach [] X.env := by rfl)
    (hs2 : starEach [.Call (.Name "range" p2) [e] [] pos2] X.env = (false, eval (.Call (.Name "range" p2) [e] [] pos2) X.env) :: starEach [] X.env := by rfl) :
    SE X g W (.Call (.Name "list" p) [.Call (.Name "range" p2) [e] [] pos2] [] pos) (wLstRg we) := by
  obtain ⟨ta, pa, ga⟩ := he
  refine ⟨_, pe_listRg hc hg hm (prg_1 hg2 hm2 pa hs) hs2, fun H0 r S H s sv Q k xc si rs h ce cx => ?_⟩
  refine ga H0 r S H s sv _ _ xc si rs h (fun d v H1 r1 S1 H1' f1 s1 rl h1 => ?_) cx
  unfold kLstRg at h1
  split at h1
  · rename_i n
    rw [rel_int rl]
    refine ⟨n, rfl, .of_le (by omega) (by omega) (by omega) (by omega), fun q hq => ?_⟩
    obtain ⟨s4, f4, rl4⟩ := s1.lst hq (rgV_rel h1.1)
    exact ce _ _ _ _ _ _ (f1.tr s1 f4) s4 rl4 h1.2.2
  · exact h1.elim
theorem se_lstRgC {p p2 pos2 : Pos} (hc : X.calm = true) (hg : Gl X "list") (hm : X.mg "list" = none) (hg2 : Gl X "range") (hm2 : X.mg "range" = none) (he : SE X g W e we)
    (hs : starEach [e] X.env = (false, eval e X.env) :: starEach [] X.env := by rfl)
    (hs2 : starEach [.Call (.Name "range" p2) [e] [] pos2] X.env = (false, eval (.Call (.Name "range" p2) [e] [] pos2) X.env) :: starEach [] X.env := by rfl) :
    SE X g W (.Call (.Name "list" p) [.Call (.Name "range" p2) [e] [] pos2] [] pos) (wLstRgC we) := by
  obtain ⟨ta, pa, ga⟩ := he
  refine ⟨_, pe_listRg hc hg hm (prg_1 hg2 hm2 pa hs) hs2, fun H0 r S H s sv Q k xc si rs h ce cx => ?_⟩
  refine ga H0 r S H s sv _ _ xc si rs h (fun d v H1 r1 S1 H1' f1 s1 rl h1 => ?_) cx
  unfold kLstRgC at h1
  split at h1
  · rename_i n
    rw [rel_int rl]
    refine ⟨n, rfl, .of_le (by omega) (by omega) (by omega) (by omega), fun q hq => ?_⟩
    obtain ⟨s4, f4, rl4⟩ := s1.newLst hq (rgV_rel h1.1)
    exact ce _ _ _ _ _ _ (f1.tr s1 f4) s4 rl4 h1.2.2
  · exact h1.elim
def dwnD (hi : Int) (n : Nat) : List D := (List.range n).map fun (k : Nat) => D.int (hi - (k : Int))
def kRng3 (k : List D → (Sto → Prop) → Sto → Prop) : List D → Sto → Prop
  | [.int i, .int j, .int c], S => (c = -1 ∧ -(2 ^ 62) ≤ i ∧ i < 2 ^ 62 ∧ -(2 ^ 62) ≤ j ∧ j < 2 ^ 62) ∧ k (dwnD i (i - j).toNat) (fun _ => True) S
  | _, _ => False
def wRng3 (ws : WA) : WI := fun (xc : HG XE) s S k => ws xc s S (kRng3 k)
def kRem (k : KD) (o : D) : D → Sto → Prop
  | .int z, S => ∃ (n : Nat) (ns : List Int), o = .cell n ∧ S[n]? = some (.lst (ns.map D.int)) ∧ z ∈ ns ∧ k .non (S.set n (.lst ((ns.erase z).map D.int)))
  | _, _ => False
def wRem (wo we : WE) : WE := fun (xc : HG XE) s S k => wo xc s S fun o S1 => (∃ xs, lview S1 o = some xs) ∧ we xc s S1 (kRem k o)
theorem se_rem (hc : X.calm = true) (tk : Takes X W) (ho : SE X g W o wo) (he : SE X g W e we) (hbase : attributeBase o "remove" X.env (eval o X.env) = eval o X.env := by rfl)
    (hfew : ((backTo cpos (starEach [e] X.env)).all (fun x => !x.1) && (backToKw cpos (keywordEach [] X.env)).all (fun x => x.1.isSome)
      && decide (([e] : List Expr).length + ([] : List Keyword).length + (if ([] : List Keyword).isEmpty then 0 else 1) < 30)) = true := by rfl)
    (hline : (apos.endLine == cpos.line) = true := by rfl) (hs : starEach [e] X.env = (false, eval e X.env) :: starEach [] X.env := by rfl) (hplain : (backTo cpos (starEach [] X.env)).any (·.1) = false := by rfl) :
    SE X g W (.Call (.Attribute o "remove" apos) [e] [] cpos) (wRem wo we) := by
  obtain ⟨to, po, go⟩ := ho
  obtain ⟨te, pe, ge⟩ := he
  refine ⟨_, pe_remX hc tk po pe hbase hfew hline hs hplain, fun H0 r S H s sv Q k xc si rs h ce cx => ?_⟩
  refine go H0 r S H s sv _ _ xc si rs h (fun d v H1 r1 S1 H1' f1 s1 rl h1 => ?_) cx
  refine ⟨tyV_list s1 rl h1.1, ?_⟩
  refine ge H1 r1 S1 H1' s sv _ _ xc s1 (rs.fut f1) h1.2 (fun d2 v2 H2 r2 S2 H2' f2 s2 rl2 h2 => ?_) (cx.fut f1 s1)
  unfold kRem at h2
  split at h2
  · rename_i z
    obtain ⟨n, ns, rfl, e1, hz, hk⟩ := h2
    obtain ⟨p, ys, rfl, hr, h0, hp, hx⟩ := cel_lst s2 (rl.fut f2) e1
    obtain rfl := Rels.ints.mp hx
    refine ⟨p, ns, z, rfl, rel_int rl2, hp, fun _ => ?_, fun hn => absurd hz hn⟩
    obtain ⟨s4, f4⟩ := s2.wrLst hr e1 h0 (Rels.ints (ns := ns.erase z).mpr rfl)
    exact ce _ _ _ _ _ _ ((f1.tr s1 f2).tr s2 f4) s4 rel_non' hk
  · exact h2.elim
def popAtF : D → List D → Sto → KD → Prop
  | .cell n, [.int i], S, k => -(2 ^ 62) ≤ i ∧ i < 2 ^ 62 ∧ ∃ xs j y, S[n]? = some (.lst xs) ∧ ixN xs.length i = some j ∧ xs[j]? = some y ∧ k y (S.set n (.lst (xs.eraseIdx j)))
  | _, _, _, _ => False
def clrF : D → List D → Sto → KD → Prop
  | .cell n, [], S, k => ∃ xs, S[n]? = some (.lst xs) ∧ k .non (S.set n (.lst []))
  | _, _, _, _ => False
theorem kRng3_i {k : List D → (Sto → Prop) → Sto → Prop} {S : Sto} {a b c : Int} : kRng3 k [.int a, .int b, .int c] S = ((c = -1 ∧ -(2 ^ 62) ≤ a ∧ a < 2 ^ 62 ∧ -(2 ^ 62) ≤ b ∧ b < 2 ^ 62) ∧ k (dwnD a (a - b).toNat) (fun _ => True) S) := id rfl
theorem kLstRg_i {k : KD} {S : Sto} {n : Int} : kLstRg k (.int n) S = (0 ≤ n ∧ n ≤ 16777216 ∧ k (.lst (rngD 0 n.toNat)) S) := id rfl
theorem kLstRgC_i {k : KD} {S : Sto} {n : Int} : kLstRgC k (.int n) S = (0 ≤ n ∧ n ≤ 16777216 ∧ k (.cell S.length) (S ++ [.lst (rngD 0 n.toNat)])) := id rfl
theorem popAtF_i {k : KD} {S : Sto} {n : Nat} {i : Int} : popAtF (.cell n) [.int i] S k = (-(2 ^ 62) ≤ i ∧ i < 2 ^ 62 ∧ ∃ xs j y, S[n]? = some (.lst xs) ∧ ixN xs.length i = some j ∧ xs[j]? = some y ∧ k y (S.set n (.lst (xs.eraseIdx j)))) := id rfl
theorem clrF_i {k : KD} {S : Sto} {n : Nat} : clrF (.cell n) [] S k = ∃ xs, S[n]? = some (.lst xs) ∧ k .non (S.set n (.lst [])) := id rfl
end
end Ab

namespace Ab
open PySem PySem.Spec PyProof.Rows L2
theorem sld_ex {α : Type} (a : α) : ∃ b : α, b = a := ⟨a, rfl⟩
noncomputable def sld {α : Type} (a : α) : α := Classical.choose (sld_ex a)
theorem sld_eq {α : Type} (a : α) : sld a = a := Classical.choose_spec (sld_ex a)
noncomputable def vVar : (Nat) → (WE) := sld wVar
theorem vVar_s : vVar = wVar := sld_eq _
theorem vVar_q (i : Nat) (y0 : _) (s : _) (S : _) (k : _) : vVar i y0 s S k = (kOpt (slot s i) S k) := by rw [vVar_s]; rfl
noncomputable def vC : (D) → (WE) := sld wC
theorem vC_s : vC = wC := sld_eq _
theorem vC_q (d : D) (y0 : _) (y1 : _) (S : _) (k : _) : vC d y0 y1 S k = (k d S) := by rw [vC_s]; rfl
noncomputable def vOp : (OW) → (WE) → (WE) → (WE) := sld wOp
theorem vOp_s : vOp = wOp := sld_eq _
theorem vOp_q (f : OW) (wa wb : WE) (xc : _) (s : _) (S : _) (k : _) : vOp f wa wb xc s S k = (wa xc s S fun x S1 => wb xc s S1 fun y S2 => f x y S2 k) := by rw [vOp_s]; rfl
noncomputable def vNeg : (WE) → (WE) := sld wNeg
theorem vNeg_s : vNeg = wNeg := sld_eq _
theorem vNeg_q (wa : WE) (xc : _) (s : _) (S : _) (k : _) : vNeg wa xc s S k = (wa xc s S (kNeg k)) := by rw [vNeg_s]; rfl
noncomputable def vTest : (WE) → (WT) := sld wTest
theorem vTest_s : vTest = wTest := sld_eq _
theorem vTest_q (w : WE) (xc : _) (s : _) (S : _) (k : _) : vTest w xc s S k = (w xc s S (kBl k)) := by rw [vTest_s]; rfl
noncomputable def vChain : (OW) → (OW) → (WE) → (WE) → (WE) → (WE) := sld wChain
theorem vChain_s : vChain = wChain := sld_eq _
theorem vChain_q (f f' : OW) (wa wb wc : WE) (xc : _) (s : _) (S : _) (k : _) : vChain f f' wa wb wc xc s S k = (wa xc s S fun x S1 => wb xc s S1 fun y S2 => f x y S2 (kBl fun b S3 => if b = true then wc xc s S3 fun u S4 => f' y u S4 k else k (.bl false) S3)) := by rw [vChain_s]; rfl
noncomputable def vAnd : (WT) → (WT) → (WT) := sld wAnd
theorem vAnd_s : vAnd = wAnd := sld_eq _
theorem vAnd_q (wt wu : WT) (xc : _) (s : _) (S : _) (k : _) : vAnd wt wu xc s S k = (wt xc s S fun b S1 => if b = true then wu xc s S1 k else k false S1) := by rw [vAnd_s]; rfl
noncomputable def vOr : (WT) → (WT) → (WT) := sld wOr
theorem vOr_s : vOr = wOr := sld_eq _
theorem vOr_q (wt wu : WT) (xc : _) (s : _) (S : _) (k : _) : vOr wt wu xc s S k = (wt xc s S fun b S1 => if b = true then k true S1 else wu xc s S1 k) := by rw [vOr_s]; rfl
noncomputable def vNot : (WT) → (WT) := sld wNot
theorem vNot_s : vNot = wNot := sld_eq _
theorem vNot_q (wt : WT) (xc : _) (s : _) (S : _) (k : _) : vNot wt xc s S k = (wt xc s S fun b S1 => k (!b) S1) := by rw [vNot_s]; rfl
noncomputable def vAndV : (WE) → (WE) → (WE) := sld wAndV
theorem vAndV_s : vAndV = wAndV := sld_eq _
theorem vAndV_q (wa wb : WE) (xc : _) (s : _) (S : _) (k : _) : vAndV wa wb xc s S k = (wa xc s S (kBl fun b S1 => if b = true then wb xc s S1 k else k (.bl false) S1)) := by rw [vAndV_s]; rfl
noncomputable def vOrV : (WE) → (WE) → (WE) := sld wOrV
theorem vOrV_s : vOrV = wOrV := sld_eq _
theorem vOrV_q (wa wb : WE) (xc : _) (s : _) (S : _) (k : _) : vOrV wa wb xc s S k = (wa xc s S (kBl fun b S1 => if b = true then k (.bl true) S1 else wb xc s S1 k)) := by rw [vOrV_s]; rfl
noncomputable def vNotV : (WE) → (WE) := sld wNotV
theorem vNotV_s : vNotV = wNotV := sld_eq _
theorem vNotV_q (wa : WE) (xc : _) (s : _) (S : _) (k : _) : vNotV wa xc s S k = (wa xc s S (kNot k)) := by rw [vNotV_s]; rfl
noncomputable def vIfE : (WT) → (WE) → (WE) → (WE) := sld wIfE
theorem vIfE_s : vIfE = wIfE := sld_eq _
theorem vIfE_q (wt : WT) (wa wb : WE) (xc : _) (s : _) (S : _) (k : _) : vIfE wt wa wb xc s S k = (wt xc s S fun b S1 => if b = true then wa xc s S1 k else wb xc s S1 k) := by rw [vIfE_s]; rfl
noncomputable def vNoP : (WO) := sld wNoP
theorem vNoP_s : vNoP = wNoP := sld_eq _
theorem vNoP_q (y0 : _) (y1 : _) (S : _) (k : _) : vNoP  y0 y1 S k = (k none S) := by rw [vNoP_s]; rfl
noncomputable def vSoP : (WE) → (WO) := sld wSoP
theorem vSoP_s : vSoP = wSoP := sld_eq _
theorem vSoP_q (w : WE) (xc : _) (s : _) (S : _) (k : _) : vSoP w xc s S k = (w xc s S (kSoP k)) := by rw [vSoP_s]; rfl
noncomputable def vSl : (WE) → (WO) → (WO) → (WE) := sld wSl
theorem vSl_s : vSl = wSl := sld_eq _
theorem vSl_q (wa : WE) (wl wh : WO) (xc : _) (s : _) (S : _) (k : _) : vSl wa wl wh xc s S k = (wa xc s S fun x S1 => wl xc s S1 fun l S2 => wh xc s S2 fun u S3 => slW x l u S3 k) := by rw [vSl_s]; rfl
noncomputable def vNil : (WA) := sld wNil
theorem vNil_s : vNil = wNil := sld_eq _
theorem vNil_q (y0 : _) (y1 : _) (S : _) (k : _) : vNil  y0 y1 S k = (k [] S) := by rw [vNil_s]; rfl
noncomputable def vCons : (WE) → (WA) → (WA) := sld wCons
theorem vCons_s : vCons = wCons := sld_eq _
theorem vCons_q (wa : WE) (ws : WA) (xc : _) (s : _) (S : _) (k : _) : vCons wa ws xc s S k = (wa xc s S fun d S1 => ws xc s S1 fun ds S2 => k (d :: ds) S2) := by rw [vCons_s]; rfl
noncomputable def vTup : (WA) → (WE) := sld wTup
theorem vTup_s : vTup = wTup := sld_eq _
theorem vTup_q (ws : WA) (xc : _) (s : _) (S : _) (k : _) : vTup ws xc s S k = (ws xc s S fun ds S1 => ds.length ≤ sizeLine ∧ k (.tup ds) S1) := by rw [vTup_s]; rfl
noncomputable def vLst : (WA) → (WE) := sld wLst
theorem vLst_s : vLst = wLst := sld_eq _
theorem vLst_q (ws : WA) (xc : _) (s : _) (S : _) (k : _) : vLst ws xc s S k = (ws xc s S fun ds S1 => ds.length ≤ sizeLine ∧ k (.lst ds) S1) := by rw [vLst_s]; rfl
noncomputable def vLstC : (WA) → (WE) := sld wLstC
theorem vLstC_s : vLstC = wLstC := sld_eq _
theorem vLstC_q (ws : WA) (xc : _) (s : _) (S : _) (k : _) : vLstC ws xc s S k = (ws xc s S fun ds S1 => ds.length ≤ sizeLine ∧ k (.cell S1.length) (S1 ++ [.lst ds])) := by rw [vLstC_s]; rfl
noncomputable def vFrz : (WE) → (WE) := sld wFrz
theorem vFrz_s : vFrz = wFrz := sld_eq _
theorem vFrz_q (w : WE) (xc : _) (s : _) (S : _) (k : _) : vFrz w xc s S k = (w xc s S fun d S1 => frzW d S1 k) := by rw [vFrz_s]; rfl
noncomputable def vB : (CW) → (WA) → (WE) := sld wB
theorem vB_s : vB = wB := sld_eq _
theorem vB_q (f : CW) (ws : WA) (xc : _) (s : _) (S : _) (k : _) : vB f ws xc s S k = (ws xc s S fun ds S1 => f ds S1 k) := by rw [vB_s]; rfl
noncomputable def vIsi : (Ty) → (WE) → (WE) := sld wIsi
theorem vIsi_s : vIsi = wIsi := sld_eq _
theorem vIsi_q (n : Ty) (wa : WE) (xc : _) (s : _) (S : _) (k : _) : vIsi n wa xc s S k = (wa xc s S fun d S1 => ∃ b, isiD S1 n d = some b ∧ k (.bl b) S1) := by rw [vIsi_s]; rfl
noncomputable def vM : (MW) → (WE) → (WA) → (WE) := sld wM
theorem vM_s : vM = wM := sld_eq _
theorem vM_q (f : MW) (wo : WE) (ws : WA) (xc : _) (s : _) (S : _) (k : _) : vM f wo ws xc s S k = (wo xc s S fun o S1 => (∃ xs, lview S1 o = some xs) ∧ ws xc s S1 fun ds S2 => f o ds S2 k) := by rw [vM_s]; rfl
noncomputable def vM0 : (MW) → (WE) → (WE) := sld wM0
theorem vM0_s : vM0 = wM0 := sld_eq _
theorem vM0_q (f : MW) (wo : WE) (xc : _) (s : _) (S : _) (k : _) : vM0 f wo xc s S k = (wo xc s S fun o S1 => (∃ xs, lview S1 o = some xs) ∧ f o [] S1 k) := by rw [vM0_s]; rfl
noncomputable def vCall : (WF) → (WA) → (WE) := sld wCall
theorem vCall_s : vCall = wCall := sld_eq _
theorem vCall_q (wf : WF) (ws : WA) (xc : _) (s : _) (S : _) (k : _) : vCall wf ws xc s S k = (ws xc s S fun ds S1 => wf ds S1 k fun c S2 => xc c s S2) := by rw [vCall_s]; rfl
noncomputable def vSeqI : (WE) → (WI) := sld wSeqI
theorem vSeqI_s : vSeqI = wSeqI := sld_eq _
theorem vSeqI_q (wa : WE) (xc : _) (s : _) (S : _) (k : _) : vSeqI wa xc s S k = (wa xc s S fun x S1 => ∃ xs, sview S1 x = some xs ∧ k xs (gdOf S1 x) S1) := by rw [vSeqI_s]; rfl
noncomputable def vRng1 : (WA) → (WI) := sld wRng1
theorem vRng1_s : vRng1 = wRng1 := sld_eq _
theorem vRng1_q (ws : WA) (xc : _) (s : _) (S : _) (k : _) : vRng1 ws xc s S k = (ws xc s S (kRng1 k)) := by rw [vRng1_s]; rfl
noncomputable def vRng2 : (WA) → (WI) := sld wRng2
theorem vRng2_s : vRng2 = wRng2 := sld_eq _
theorem vRng2_q (ws : WA) (xc : _) (s : _) (S : _) (k : _) : vRng2 ws xc s S k = (ws xc s S (kRng2 k)) := by rw [vRng2_s]; rfl
noncomputable def vYes : (WT) := sld wYes
theorem vYes_s : vYes = wYes := sld_eq _
theorem vYes_q (y0 : _) (y1 : _) (S : _) (k : _) : vYes  y0 y1 S k = (k true S) := by rw [vYes_s]; rfl
noncomputable def vLc : (Nat) → (List Nat) → (WI) → (WT) → (WE) → (WE) := sld wLc
theorem vLc_s : vLc = wLc := sld_eq _
theorem vLc_q (i : Nat) (vs : List Nat) (wi : WI) (wt : WT) (we : WE) (xc : _) (s : _) (S : _) (k : _) : vLc i vs wi wt we xc s S k = (wi xc s S fun ds gd S1 => lcW i vs wt we ds gd s S1 fun acc S2 => k (.lst acc) S2) := by rw [vLc_s]; rfl
noncomputable def vLcC : (Nat) → (List Nat) → (WI) → (WT) → (WE) → (WE) := sld wLcC
theorem vLcC_s : vLcC = wLcC := sld_eq _
theorem vLcC_q (i : Nat) (vs : List Nat) (wi : WI) (wt : WT) (we : WE) (xc : _) (s : _) (S : _) (k : _) : vLcC i vs wi wt we xc s S k = (wi xc s S fun ds gd S1 => lcW i vs wt we ds gd s S1 fun acc S2 => k (.cell S2.length) (S2 ++ [.lst acc])) := by rw [vLcC_s]; rfl
noncomputable def vNx : (WS) := sld wNx
theorem vNx_s : vNx = wNx := sld_eq _
theorem vNx_q (D : _) (s : _) (S : _) : vNx  D s S = (D.nx s S) := by rw [vNx_s]; rfl
noncomputable def vSeq : (WS) → (WS) → (WS) := sld wSeq
theorem vSeq_s : vSeq = wSeq := sld_eq _
theorem vSeq_q (a b : WS) (D : _) (s : _) (S : _) : vSeq a b D s S = (a { D with nx := b D } s S) := by rw [vSeq_s]; rfl
noncomputable def vNever : (WS) := sld wNever
theorem vNever_s : vNever = wNever := sld_eq _
noncomputable def vDrop : (WE) → (WS) := sld wDrop
theorem vDrop_s : vDrop = wDrop := sld_eq _
theorem vDrop_q (we : WE) (D : _) (s : _) (S : _) : vDrop we D s S = (we D.xc s S fun _ S1 => D.nx s S1) := by rw [vDrop_s]; rfl
noncomputable def vRet : (WE) → (WS) := sld wRet
theorem vRet_s : vRet = wRet := sld_eq _
theorem vRet_q (we : WE) (D : _) (s : _) (S : _) : vRet we D s S = (we D.xc s S D.rt) := by rw [vRet_s]; rfl
noncomputable def vRetN : (WS) := sld wRetN
theorem vRetN_s : vRetN = wRetN := sld_eq _
theorem vRetN_q (D : _) (y1 : _) (S : _) : vRetN  D y1 S = (D.rt .non S) := by rw [vRetN_s]; rfl
noncomputable def vIf : (WT) → (WS) → (WS) → (WS) := sld wIf
theorem vIf_s : vIf = wIf := sld_eq _
theorem vIf_q (wt : WT) (w w2 : WS) (D : _) (s : _) (S : _) : vIf wt w w2 D s S = (wt D.xc s S fun b S1 => if b = true then w D s S1 else w2 D s S1) := by rw [vIf_s]; rfl
noncomputable def vSet : (Nat) → (WE) → (WS) := sld wSet
theorem vSet_s : vSet = wSet := sld_eq _
theorem vSet_q (i : Nat) (we : WE) (D : _) (s : _) (S : _) : vSet i we D s S = (we D.xc s S fun d S1 => D.nx (s.set i (some d)) S1) := by rw [vSet_s]; rfl
noncomputable def vSto : (WE) → (WE) → (WE) → (WS) := sld wSto
theorem vSto_s : vSto = wSto := sld_eq _
theorem vSto_q (we wo wa : WE) (D : _) (s : _) (S : _) : vSto we wo wa D s S = (we D.xc s S fun d S1 => wo D.xc s S1 fun o S2 => wa D.xc s S2 fun y S3 => kSto d (D.nx s) o y S3) := by rw [vSto_s]; rfl
noncomputable def vFor : (Nat) → (WI) → (WS) → (WS) := sld wFor
theorem vFor_s : vFor = wFor := sld_eq _
theorem vFor_q (i : Nat) (wi : WI) (w : WS) (D : _) (s : _) (S : _) : vFor i wi w D s S = (wi D.xc s S fun ds gd S1 => forW i w D ds gd s S1) := by rw [vFor_s]; rfl
noncomputable def vWhile : (WT) → (WS) → (WS) := sld wWhile
theorem vWhile_s : vWhile = wWhile := sld_eq _
noncomputable def vRaise : (Str) → (WS) := sld wRaise
theorem vRaise_s : vRaise = wRaise := sld_eq _
theorem vRaise_q (x : Str) (D : _) (s : _) (S : _) : vRaise x D s S = (D.xc x s S) := by rw [vRaise_s]; rfl
noncomputable def vDef : (Nat) → (Nat) → (WS) → (WF) := sld wDef
theorem vDef_s : vDef = wDef := sld_eq _
theorem vDef_q (np n : Nat) (w : WS) (ds : _) (S : _) (k : _) (xk : _) : vDef np n w ds S k xk = (ds.length = np ∧ w ⟨fun _ S' => k .non S', k, fun c _ S' => xk c S'⟩ (ds.map some ++ List.replicate (n - ds.length) none) S) := by rw [vDef_s]; rfl
noncomputable def vTrim : (WF) → (WF) := sld wTrim
theorem vTrim_s : vTrim = wTrim := sld_eq _
theorem vTrim_q (wf : WF) (ds : _) (S : _) (k : _) (xk : _) : vTrim wf ds S k xk = (wf ds S (fun d S' => d.pure = true ∧ S'.take S.length = S ∧ k d S) (fun c S' => S'.take S.length = S ∧ xk c S)) := by rw [vTrim_s]; rfl
noncomputable def vTrimC : (WF) → (WF) := sld wTrimC
theorem vTrimC_s : vTrimC = wTrimC := sld_eq _
theorem vTrimC_q (wf : WF) (ds : _) (S : _) (k : _) (xk : _) : vTrimC wf ds S k xk = (wf ds S (fun d S' => ∃ m xs, d = .cell m ∧ S.length ≤ m ∧ S'[m]? = some (.lst xs) ∧ pureAll xs = true ∧ S'.take S.length = S ∧ k (.cell S.length) (S ++ [.lst xs])) (fun c S' => S'.take S.length = S ∧ xk c S)) := by rw [vTrimC_s]; rfl
noncomputable def vTry : (Nat) → (List Str) → (Str → Bool) → (WS) → (Addr → Str → WS) → (WS) := sld wTry
theorem vTry_s : vTry = wTry := sld_eq _
theorem vTry_q (i : Nat) (rl : List Str) (cat : Str → Bool) (w : WS) (ws : Addr → Str → WS) (D : _) (s : _) (S : _) : vTry i rl cat w ws D s S = ( w { nx := D.nx, rt := D.rt, xc := fun c s1 S1 => rl.contains c = true ∧ if cat c = true then ∀ a : Addr, ws a c { nx := fun s2 S2 => D.nx (s2.set i none) S2, rt := D.rt, xc := fun _ _ _ => False } (s1.set i (some (.exn a c))) S1 else D.xc c s1 S1 } s S) := by rw [vTry_s]; rfl
noncomputable def vIsE : (Addr) → (Str) → (Bool) → (WE) → (WE) := sld wIsE
theorem vIsE_s : vIsE = wIsE := sld_eq _
theorem vIsE_q (a : Addr) (c : Str) (b : Bool) (wa : WE) (xc : _) (s : _) (S : _) (k : _) : vIsE a c b wa xc s S k = (wa xc s S fun d S1 => d = .exn a c ∧ k (.bl b) S1) := by rw [vIsE_s]; rfl
noncomputable def vFrzD : (WE) → (WE) := sld wFrzD
theorem vFrzD_s : vFrzD = wFrzD := sld_eq _
theorem vFrzD_q (w : WE) (xc : _) (s : _) (S : _) (k : _) : vFrzD w xc s S k = (w xc s S fun d S1 => frzDW d S1 k) := by rw [vFrzD_s]; rfl
noncomputable def vLstRev : (WE) → (WE) := sld wLstRev
theorem vLstRev_s : vLstRev = wLstRev := sld_eq _
theorem vLstRev_q (we : WE) (xc : _) (s : _) (S : _) (k : _) : vLstRev we xc s S k = (we xc s S (kLstRev k)) := by rw [vLstRev_s]; rfl
noncomputable def vLstRevC : (WE) → (WE) := sld wLstRevC
theorem vLstRevC_s : vLstRevC = wLstRevC := sld_eq _
theorem vLstRevC_q (we : WE) (xc : _) (s : _) (S : _) (k : _) : vLstRevC we xc s S k = (we xc s S (kLstRevC k)) := by rw [vLstRevC_s]; rfl
noncomputable def vLstRg : (WE) → (WE) := sld wLstRg
theorem vLstRg_s : vLstRg = wLstRg := sld_eq _
theorem vLstRg_q (we : WE) (xc : _) (s : _) (S : _) (k : _) : vLstRg we xc s S k = (we xc s S (kLstRg k)) := by rw [vLstRg_s]; rfl
noncomputable def vLstRgC : (WE) → (WE) := sld wLstRgC
theorem vLstRgC_s : vLstRgC = wLstRgC := sld_eq _
theorem vLstRgC_q (we : WE) (xc : _) (s : _) (S : _) (k : _) : vLstRgC we xc s S k = (we xc s S (kLstRgC k)) := by rw [vLstRgC_s]; rfl
noncomputable def vRng3 : (WA) → (WI) := sld wRng3
theorem vRng3_s : vRng3 = wRng3 := sld_eq _
theorem vRng3_q (ws : WA) (xc : _) (s : _) (S : _) (k : _) : vRng3 ws xc s S k = (ws xc s S (kRng3 k)) := by rw [vRng3_s]; rfl
noncomputable def vRem : (WE) → (WE) → (WE) := sld wRem
theorem vRem_s : vRem = wRem := sld_eq _
theorem vRem_q (wo we : WE) (xc : _) (s : _) (S : _) (k : _) : vRem wo we xc s S k = (wo xc s S fun o S1 => (∃ xs, lview S1 o = some xs) ∧ we xc s S1 (kRem k o)) := by rw [vRem_s]; rfl
theorem vDef_i {np n : Nat} {w : WS} {ds : List D} {S : Sto} {k : KD} {xk : XD} (h1 : ds.length = np) (h : w ⟨fun _ S' => k .non S', k, fun c _ S' => xk c S'⟩ (ds.map some ++ List.replicate (n - ds.length) none) S) : vDef np n w ds S k xk := by
  rw [vDef_q]; exact ⟨h1, h⟩
theorem vTrim_i {np n : Nat} {w : WS} {ds : List D} {S : Sto} {k : KD} {xk : XD} (h1 : ds.length = np) (h : w ⟨fun _ S' => D.pure .non = true ∧ S'.take S.length = S ∧ k .non S, fun d S' => d.pure = true ∧ S'.take S.length = S ∧ k d S, fun c _ S' => S'.take S.length = S ∧ xk c S⟩ (ds.map some ++ List.replicate (n - ds.length) none) S) : vTrim (vDef np n w) ds S k xk := by
  rw [vTrim_q]; exact vDef_i h1 h
theorem vTrimC_i {np n : Nat} {w : WS} {ds : List D} {S : Sto} {k : KD} {xk : XD} (h1 : ds.length = np) (h : w ⟨fun _ S' => ∃ m xs, D.non = .cell m ∧ S.length ≤ m ∧ S'[m]? = some (.lst xs) ∧ pureAll xs = true ∧ S'.take S.length = S ∧ k (.cell S.length) (S ++ [.lst xs]), fun d S' => ∃ m xs, d = .cell m ∧ S.length ≤ m ∧ S'[m]? = some (.lst xs) ∧ pureAll xs = true ∧ S'.take S.length = S ∧ k (.cell S.length) (S ++ [.lst xs]), fun c _ S' => S'.take S.length = S ∧ xk c S⟩ (ds.map some ++ List.replicate (n - ds.length) none) S) : vTrimC (vDef np n w) ds S k xk := by
  rw [vTrimC_q]; exact vDef_i h1 h
theorem vseq_e {a b : WS} {Dk : Kd} {s : Env} {S : Sto} (h : a { Dk with nx := b Dk } s S) : vSeq a b Dk s S := by
  rw [vSeq_q]; exact h
theorem vseq_cut {a b : WS} {Dk : Kd} {s : Env} {S : Sto} (M : Env → Sto → Prop) (h1 : ∀ R : Env → Sto → Prop, (∀ s' S', M s' S' → R s' S') → a { Dk with nx := R } s S) (h2 : ∀ s' S', M s' S' → b Dk s' S') : vSeq a b Dk s S := vseq_e (h1 _ h2)
theorem vwhile_inv {wt : WT} {w : WS} {Dk : Kd} {s : Env} {S : Sto} (P : Nat → Env → Sto → Prop) (m0 : Nat) (h0 : P m0 s S)
    (hs : ∀ m s' S', P m s' S' → ∀ nx : Env → Sto → Prop, (∀ m' s2 S2, m' < m → P m' s2 S2 → nx s2 S2) → wt Dk.xc s' S' fun b S1 => if b = true then w { Dk with nx := nx } s' S1 else Dk.nx s' S1) : vWhile wt w Dk s S := by
  rw [vWhile_s]; exact while_inv P m0 h0 hs
theorem vlc_map {i : Nat} {vs : List Nat} {we : WE} {ds : List D} {gd : Sto → Prop} {s : Env} {S : Sto} {fin : List D → Sto → Prop} (f : D → D) (hl : ds.length < sizeLine) (hg : gd S)
    (he : ∀ x ∈ ds, ∀ k : KD, k (f x) S → we noXC ((wipeD s vs).set i (some x)) S k) (hf : fin (ds.map f) S) : lcW i vs vYes we ds gd s S fin := by
  rw [vYes_s]; exact lc_map f hl hg he hf
theorem vlc_rel {i : Nat} {vs : List Nat} {we : WE} {ds : List D} {gd : Sto → Prop} {s : Env} {S : Sto} {fin : List D → Sto → Prop} (Q : Nat → D → D → Prop) (hl : ds.length < sizeLine) (hg : gd S)
    (he : ∀ n x, ds[n]? = some x → ∀ k : KD, (∀ y, Q n x y → k y S) → we noXC ((wipeD s vs).set i (some x)) S k)
    (hf : ∀ ys : List D, ys.length = ds.length → (∀ (n : Nat) (x y : D), ds[n]? = some x → ys[n]? = some y → Q n x y) → fin ys S) : lcW i vs vYes we ds gd s S fin := by
  rw [vYes_s]; exact lc_rel Q hl hg he hf
theorem neW_q (x y : D) (S : Sto) (k : KD) : neW x y S k = eqW x y S (kNot k) := id rfl
theorem setq_0 {α : Type} (x y : α) (xs : List α) : (x :: xs).set 0 y = y :: xs := id rfl
theorem setq_s {α : Type} (x y : α) (n : Nat) (xs : List α) : (x :: xs).set (n + 1) y = x :: xs.set n y := id rfl
end Ab

namespace Ab
open PySem
theorem kLstRev_i {k : KD} {S : Sto} {d : D} : kLstRev k d S = ∃ xs, lview S d = some xs ∧ k (.lst xs.reverse) S := id rfl
theorem kLstRevC_i {k : KD} {S : Sto} {d : D} : kLstRevC k d S = ∃ xs, lview S d = some xs ∧ k (.cell S.length) (S ++ [.lst xs.reverse]) := id rfl
def rowC (rows : List (List Int)) : Sto := rows.map fun r => .lst (vI r)
def rkI (sh : List Dd) (j r : Int) : Int := (sh.map fun x => if x.a = j ∧ x.r = r then x.c else 0).sum
theorem rkI_nonneg {m : Int} {sh : List Dd} (h : ∀ x ∈ sh, x.Ok m) {j r : Int} : 0 ≤ rkI sh j r := by
  unfold rkI
  refine sum_nonneg fun z hz => ?_
  obtain ⟨x, hx, rfl⟩ := List.mem_map.mp hz
  have := h x hx
  unfold Dd.Ok at this
  split <;> omega
def rkRow (sh : List Dd) (j : Int) : List Int := [rkI sh j 0, rkI sh j 1, rkI sh j 2]
def rkM (m : Int) (sh : List Dd) : List (List Int) := (List.range m.toNat).map fun j => rkRow sh (j : Nat)
theorem rng_int {m n : Nat} {x : D} (h : (rngD 0 m)[n]? = some x) : n < m ∧ x = .int (n : Int) := by
  obtain ⟨h1, h2⟩ := rngD_get h
  refine ⟨h1, ?_⟩
  rw [h2]
  congr 1
  omega
section
variable {α β : Type} {i : Nat} {vs : List Nat} {we : WE} {gd : Sto → Prop} {s : Env} {S : Sto} {fin : List D → Sto → Prop}
theorem vlc_rng (f : α → D) (m : Nat) (Q : Nat → α → Prop) (hl : m ≤ 1000000) (hg : gd S)
    (he : ∀ n : Nat, n < m → ∀ k : KD, (∀ a, Q n a → k (f a) S) → we noXC ((wipeD s vs).set i (some (.int (n : Int)))) S k)
    (hf : ∀ as : List α, as.length = m → (∀ (n : Nat) (a : α), as[n]? = some a → Q n a) → fin (as.map f) S) : lcW i vs vYes we (rngD 0 m) gd s S fin := by
  refine vlc_rel (fun n _ y => ∃ a, y = f a ∧ Q n a) (by rw [rngD_len]; exact szlt hl) hg (fun n x hx k hk => ?_) fun ys h1 h2 => ?_
  · obtain ⟨hn, rfl⟩ := rng_int hx
    exact he n hn k fun a ha => hk _ ⟨a, rfl, ha⟩
  · rw [rngD_len] at h1
    obtain ⟨as, rfl, ha⟩ := lift_map f Q ys fun n y hy => by
      have hn : n < ys.length := (List.getElem?_eq_some_iff.mp hy).1
      exact h2 n _ y (List.getElem?_eq_getElem (by rw [rngD_len]; omega)) hy
    exact hf as (by simpa using h1) ha
theorem vlc_list (f : α → D) (g : β → D) (bs : List β) (Q : Nat → β → α → Prop) (hl : bs.length ≤ 1000000) (hg : gd S)
    (he : ∀ (n : Nat) (b : β), bs[n]? = some b → ∀ k : KD, (∀ a, Q n b a → k (f a) S) → we noXC ((wipeD s vs).set i (some (g b))) S k)
    (hf : ∀ as : List α, as.length = bs.length → (∀ (n : Nat) (b : β) (a : α), bs[n]? = some b → as[n]? = some a → Q n b a) → fin (as.map f) S) : lcW i vs vYes we (bs.map g) gd s S fin := by
  refine vlc_rel (fun n _ y => ∃ a, y = f a ∧ ∀ b, bs[n]? = some b → Q n b a) (by rw [List.length_map]; exact szlt hl) hg (fun n x hx k hk => ?_) fun ys h1 h2 => ?_
  · rw [List.getElem?_map] at hx
    cases e : bs[n]? with
    | none => rw [e] at hx; cases hx
    | some b =>
      rw [e] at hx
      cases hx
      refine he n b e k fun a ha => hk _ ⟨a, rfl, fun b' hb' => ?_⟩
      rw [e] at hb'
      cases hb'
      exact ha
  · rw [List.length_map] at h1
    obtain ⟨as, rfl, ha⟩ := lift_map f (fun n a => ∀ b, bs[n]? = some b → Q n b a) ys fun n y hy => by
      have hn : n < ys.length := (List.getElem?_eq_some_iff.mp hy).1
      exact h2 n _ y (List.getElem?_eq_getElem (by rw [List.length_map]; omega)) hy
    exact hf as (by simpa using h1) fun n b a hb h => ha n a h b hb
variable {w : WS} {Dk : Kd}
theorem for_rng {m : Nat} (P : Nat → Env → Sto → Prop) (h0 : P 0 s S)
    (hs : ∀ n : Nat, n < m → ∀ s' S', P n s' S' → ∀ nx : Env → Sto → Prop, (∀ s2 S2, P (n + 1) s2 S2 → nx s2 S2) → w { Dk with nx := nx } (s'.set i (some (.int (n : Int)))) S')
    (hd : ∀ s' S', P m s' S' → Dk.nx s' S') : forW i w Dk (rngD 0 m) (fun _ => True) s S := by
  refine for_inv P h0 (fun n x s' S' hx hp => ⟨trivial, fun nx hnx => ?_⟩) fun s' S' hp => ⟨trivial, ?_⟩
  · obtain ⟨hn, rfl⟩ := rng_int hx
    exact hs n hn s' S' hp nx hnx
  · rw [rngD_len] at hp
    exact hd s' S' hp
theorem for_list (g : β → D) (bs : List β) (P : Nat → Env → Sto → Prop) (h0 : P 0 s S) (hg : ∀ n s' S', P n s' S' → gd S')
    (hs : ∀ (n : Nat) (b : β), bs[n]? = some b → ∀ s' S', P n s' S' → ∀ nx : Env → Sto → Prop, (∀ s2 S2, P (n + 1) s2 S2 → nx s2 S2) → w { Dk with nx := nx } (s'.set i (some (g b))) S')
    (hd : ∀ s' S', P bs.length s' S' → Dk.nx s' S') : forW i w Dk (bs.map g) gd s S := by
  refine for_inv P h0 (fun n x s' S' hx hp => ⟨hg n s' S' hp, fun nx hnx => ?_⟩) fun s' S' hp => ⟨hg _ s' S' hp, ?_⟩
  · rw [List.getElem?_map] at hx
    cases e : bs[n]? with
    | none => rw [e] at hx; cases hx
    | some b =>
      rw [e] at hx
      cases hx
      exact hs n b e s' S' hp nx hnx
  · rw [List.length_map] at hp
    exact hd s' S' hp
end
def withA (sh : List Dd) (as : List Int) : List Dd := List.zipWith (fun x c => ⟨x.a, x.b, x.r, c⟩) sh as
theorem withA_len {sh : List Dd} {as : List Int} (h : as.length = sh.length) : (withA sh as).length = sh.length := by unfold withA; simp [h]
theorem withA_get {sh : List Dd} {as : List Int} {n : Nat} {x : Dd} (h : sh[n]? = some x) (hl : n < as.length) : (withA sh as)[n]? = some ⟨x.a, x.b, x.r, gI as n⟩ := by
  unfold withA
  rw [List.getElem?_zipWith, h, List.getElem?_eq_getElem hl, gI_nat hl]
theorem withA_ok {m : Int} {sh : List Dd} {as : List Int} (hs : ∀ x ∈ sh, x.Ok m) (ha : ∀ c ∈ as, 0 ≤ c ∧ c ≤ 1000000000000) : ∀ x ∈ withA sh as, x.Ok m := fun x hx => by
  obtain ⟨n, hn⟩ := List.mem_iff_getElem?.mp hx
  unfold withA at hn
  rw [List.getElem?_zipWith] at hn
  cases e : sh[n]? with
  | none => rw [e] at hn; cases hn
  | some z =>
    cases e2 : as[n]? with
    | none => rw [e, e2] at hn; cases hn
    | some c =>
      rw [e, e2] at hn
      cases hn
      have h1 := hs z (List.mem_of_getElem? e)
      have h2 := ha c (List.mem_of_getElem? e2)
      unfold Dd.Ok at *
      exact ⟨h1.1, h1.2.1, h1.2.2.1, h1.2.2.2.1, h1.2.2.2.2.1, h1.2.2.2.2.2.1, h1.2.2.2.2.2.2.1, h2.1, h2.2⟩
theorem list_eq {α : Type} {a b : List α} (hl : a.length = b.length) (h : ∀ (n : Nat) (x y : α), a[n]? = some x → b[n]? = some y → x = y) : a = b := by
  apply List.ext_getElem?
  intro n
  by_cases hn : n < a.length
  · rw [List.getElem?_eq_getElem hn, List.getElem?_eq_getElem (by omega)]
    rw [h n _ _ (List.getElem?_eq_getElem hn) (List.getElem?_eq_getElem (by omega))]
  · rw [List.getElem?_eq_none (by omega), List.getElem?_eq_none (by omega)]
section
variable {S : Sto} {a b c : Cel}
theorem app_get0 {T : Sto} : (S ++ a :: T)[S.length]? = some a := by simp
theorem app_get1 {T : Sto} : (S ++ a :: b :: T)[S.length + 1]? = some b := by
  rw [List.getElem?_append_right (by omega), Nat.add_sub_cancel_left]
  rfl
theorem app_set0 {T : Sto} : (S ++ a :: T).set S.length c = S ++ c :: T := by
  rw [List.set_append_right _ _ (Nat.le_refl _), Nat.sub_self]
  rfl
theorem app_set1 {T : Sto} : (S ++ a :: b :: T).set (S.length + 1) c = S ++ a :: c :: T := by
  rw [List.set_append_right _ _ (by omega), Nat.add_sub_cancel_left]
  rfl
end
end Ab

namespace Ab
open PySem
theorem SzR.int {n : Nat} {a : Int} (h : Sz n a) (hn : 0 < n) : SzR n (a : Rat) := by
  refine ⟨by rw [Rat.num_intCast]; exact h, ?_⟩
  rw [Rat.den_intCast]
  exact Nat.one_lt_two_pow (by omega)
theorem SzR.zero {n : Nat} (hn : 0 < n) : SzR n 0 := SzR.int (a := 0) (by unfold Sz; exact Nat.two_pow_pos n) hn
theorem num_nonneg_iff {q : Rat} : 0 ≤ q ↔ 0 ≤ q.num := Rat.num_nonneg.symm
def minR (x : Rat) (a : Rat) : Rat := if a < x then a else x
def laidR : Rat → List Int → List Rat
  | _, [] => []
  | q, a :: as => minR q a :: laidR (q - minR q a) as
def gR (v : List Rat) (i : Int) : Rat := v.getD i.toNat 0
theorem gR_nat {v : List Rat} {n : Nat} (h : n < v.length) : gR v n = v[n] := by
  unfold gR
  rw [List.getD_eq_getElem?_getD]
  simp [h]
def laidA (qs : List Rat) (sh : List Dd) (j : Int) : List Rat := laidR (gR qs j) (rkRow sh j)
def payR (qs : List Rat) (sh : List Dd) (x : Dd) : Rat := if rkI sh x.a x.r = 0 then 0 else gR (laidA qs sh x.a) x.r * Rat.divInt x.c (rkI sh x.a x.r)
def paidL (qs : List Rat) (sh : List Dd) : List Rat := sh.map (payR qs sh)
def rkT (sh : List Dd) (j : Int) : Int := rkI sh j 0 + rkI sh j 1 + rkI sh j 2
theorem rkI_mem {m : Int} {sh : List Dd} (h : ∀ x ∈ sh, x.Ok m) {x : Dd} (hx : x ∈ sh) : x.c ≤ rkI sh x.a x.r := by
  induction sh with
  | nil => simp at hx
  | cons y sh ih =>
    have e : rkI (y :: sh) x.a x.r = (if y.a = x.a ∧ y.r = x.r then y.c else 0) + rkI sh x.a x.r := by
      unfold rkI; rw [List.map_cons, List.sum_cons]
    have h0 := @rkI_nonneg m sh (fun z hz => h z (by simp [hz])) x.a x.r
    have hy := h y (by simp)
    unfold Dd.Ok at hy
    rw [e]
    rcases List.mem_cons.mp hx with rfl | hx
    · rw [if_pos ⟨rfl, rfl⟩]; omega
    · have := ih (fun z hz => h z (by simp [hz])) hx
      split <;> omega
theorem divInt_eq (a b : Int) : Rat.divInt a b = (a : Rat) / (b : Rat) := Rat.divInt_eq_div a b
theorem num_eq (q : Rat) : (q.num : Rat) = q * (q.den : Int) := by
  have hd : ((q.den : Int) : Rat) ≠ 0 := by
    have := den_pos q
    exact_mod_cast (show (q.den : Int) ≠ 0 by omega)
  have h' : (q.num : Rat) / ((q.den : Int) : Rat) = q := by
    rw [← Rat.divInt_eq_div]
    exact Rat.num_divInt_den q
  grind
theorem rdiv_le {a b c : Rat} (h2 : 0 < b) (h : a ≤ c * b) : a / b ≤ c := Rat.not_lt.mp fun h' => by
  have := (Rat.lt_div_iff h2).mp h'
  grind
theorem den_ratpos (q : Rat) : (0 : Rat) < ((q.den : Int) : Rat) := by
  have := den_pos q
  exact_mod_cast this
def shareF (qs : List Rat) (sh : List Dd) (j r : Int) : Rat := if rkI sh j r = 0 then 0 else gR (laidA qs sh j) r / (rkI sh j r : Int)
theorem pay_split {sh : List Dd} {m j : Int} (hs : ∀ x ∈ sh, x.Ok m) (f : Int → Rat) : (sh.map fun x => if x.a = j then f x.r * (x.c : Int) else 0).sum = f 0 * (rkI sh j 0 : Int) + f 1 * (rkI sh j 1 : Int) + f 2 * (rkI sh j 2 : Int) := by
  induction sh with
  | nil =>
    have e : ∀ r, rkI [] j r = 0 := fun _ => rfl
    rw [e, e, e]
    have e0 : ((0 : Int) : Rat) = 0 := rfl
    rw [e0, List.map_nil, List.sum_nil]
    grind
  | cons y sh ih =>
    have e : ∀ r, rkI (y :: sh) j r = (if y.a = j ∧ y.r = r then y.c else 0) + rkI sh j r := fun r => by
      unfold rkI; rw [List.map_cons, List.sum_cons]
    have hy := hs y (by simp)
    unfold Dd.Ok at hy
    have h3 : y.r = 0 ∨ y.r = 1 ∨ y.r = 2 := by omega
    rw [List.map_cons, List.sum_cons, ih fun z hz => hs z (by simp [hz]), e, e, e]
    by_cases hj : y.a = j
    · rcases h3 with h | h | h <;> simp [hj, h] <;> grind
    · simp [hj]
      grind
structure Laid (qs : List Rat) (sh : List Dd) (j : Int) : Prop where
  lo : ∀ r, 0 ≤ r → r < 3 → 0 ≤ gR (laidA qs sh j) r ∧ gR (laidA qs sh j) r ≤ (rkI sh j r : Int)
  all : gR (laidA qs sh j) 0 + gR (laidA qs sh j) 1 + gR (laidA qs sh j) 2 = gR qs j
  ord : ∀ r t, 0 ≤ r → r < t → t < 3 → 0 < gR (laidA qs sh j) t → gR (laidA qs sh j) r = (rkI sh j r : Int)
end Ab
namespace Ab
open PySem
def matR (m : List (List Rat)) : List D := m.map fun v => .lst (ratL v)
end Ab

namespace Ab
open PySem
def gotP (qs : List Rat) (sh pre : List Dd) (j : Int) : Rat := (pre.map fun x => if x.b = j then payR qs sh x else 0).sum
def gotM (m : Nat) (qs : List Rat) (sh pre : List Dd) : List Rat := (List.range m).map fun j => gotP qs sh pre (j : Nat)
def frD (t : Int × Int) : D := .tup [.int t.1, .int t.2]
def frL (v : List (Int × Int)) : List D := v.map frD
theorem frL_len {v : List (Int × Int)} : (frL v).length = v.length := by unfold frL; simp
section
variable {S : Sto} {k : KD} {t : Int × Int}
theorem ix_fr0 : ixD S (frD t) 0 = some (.int t.1) := by
  show L2.atI [D.int t.1, D.int t.2] 0 = _
  exact atI_0
theorem ix_fr1 : ixD S (frD t) 1 = some (.int t.2) := by
  show L2.atI [D.int t.1, D.int t.2] 1 = _
  exact atI_1
theorem len_fr : lenF [frD t] S k = k (.int 2) S := by
  unfold frD; rw [lenF_t]; rfl
theorem isi_fr {t : Int × Int} {ty : Ty} : isiD S ty (frD t) = some (decide (ty = .tuple)) := rfl
end
def valF (t : Int × Int) : Rat := (t.1 : Rat) / (t.2 : Rat)
def clampR (q ahead most : Rat) : Rat := if (if q - ahead < 0 then 0 else q - ahead) < most then (if q - ahead < 0 then 0 else q - ahead) else most
theorem laid_clamp {qs : List Rat} {sh : List Dd} {m j r : Int} (hs : ∀ x ∈ sh, x.Ok m) (hq : 0 ≤ gR qs j) (h0 : 0 ≤ r) (h1 : r < 3) : gR (laidA qs sh j) r = clampR (gR qs j) (((rkRow sh j).take r.toNat).sum : Int) (rkI sh j r : Int) := by
  have a0 : (0 : Rat) ≤ (rkI sh j 0 : Int) := by exact_mod_cast rkI_nonneg hs
  have b0 : (0 : Rat) ≤ (rkI sh j 1 : Int) := by exact_mod_cast rkI_nonneg hs
  have c0 : (0 : Rat) ≤ (rkI sh j 2 : Int) := by exact_mod_cast rkI_nonneg hs
  have : r = 0 ∨ r = 1 ∨ r = 2 := by omega
  rcases this with rfl | rfl | rfl
  · show minR (gR qs j) (rkI sh j 0 : Int) = clampR (gR qs j) (((0 : Int)) : Rat) _
    have e0 : ((0 : Int) : Rat) = 0 := rfl
    rw [e0]
    unfold minR clampR
    grind
  · show minR (gR qs j - minR (gR qs j) (rkI sh j 0 : Int)) (rkI sh j 1 : Int) = clampR (gR qs j) (((rkI sh j 0 + 0 : Int)) : Rat) _
    rw [Int.add_zero]
    unfold minR clampR
    grind
  · show minR (gR qs j - minR (gR qs j) (rkI sh j 0 : Int) - minR (gR qs j - minR (gR qs j) (rkI sh j 0 : Int)) (rkI sh j 1 : Int)) (rkI sh j 2 : Int) = clampR (gR qs j) (((rkI sh j 0 + (rkI sh j 1 + 0) : Int)) : Rat) _
    rw [Int.add_zero, Rat.intCast_add]
    unfold minR clampR
    grind
end Ab

namespace Ab
open PySem
def optD : Option Int → D
  | none => .non
  | some z => .int z
def optL (v : List (Option Int)) : List D := v.map optD
theorem optL_pure (v : List (Option Int)) : pureAll (optL v) = true := pureAll_iff.mpr fun x hx => by
  unfold optL at hx
  obtain ⟨z, _, rfl⟩ := List.mem_map.mp hx
  cases z <;> rfl
def stopF (q : Rat) : Int → Int → List Int → Option Int
  | _, _, [] => none
  | ahead, r, a :: as => if q < ((ahead + a : Int) : Rat) then some r else stopF q (ahead + a) (r + 1) as
def stop3 (q : Rat) (row : List Int) : Option Int := stopF q 0 0 row
def stopsL (qs : List Rat) (sh : List Dd) : List (Option Int) := (List.range qs.length).map fun j => stop3 (gR qs (j : Nat)) (rkRow sh (j : Nat))
def standN (q : Rat) (row : List Int) : Nat → Option Int
  | 0 => none
  | n + 1 => if q < (((row.take (3 - n)).sum : Int) : Rat) then some (2 - (n : Int)) else standN q row n
end Ab

namespace Ab
open PySem
theorem inF_vI {z : Int} : ∀ {v : List Int}, inF (.int z) (vI v) = decide (z ∈ v)
  | [] => by simp [inF, vI]
  | a :: v => by
    have ih := inF_vI (z := z) (v := v)
    have e : inF (.int z) (vI (a :: v)) = (eqF (.int a) (.int z) || inF (.int z) (vI v)) := rfl
    have e2 : eqF (.int a) (.int z) = decide (a = z) := by unfold eqF; first | rfl | simp
    rw [e, ih, e2]
    by_cases h : a = z
    · subst h; simp
    · by_cases h2 : z ∈ v
      · simp [h2]
      · simp [h, h2, Ne.symm h]
theorem flat_vI {v : List Int} : (vI v).all D.flat = true := by
  rw [List.all_eq_true]
  intro x hx
  unfold vI at hx
  obtain ⟨z, _, rfl⟩ := List.mem_map.mp hx
  rfl
theorem inW_vI {neg : Bool} {z : Int} {d : D} {v : List Int} {S : Sto} {k : KD} (hd : lview S d = some (vI v)) (h : k (.bl (if neg then !decide (z ∈ v) else decide (z ∈ v))) S) : inW neg (.int z) d S k :=
  ⟨vI v, lv_sview hd, rfl, flat_vI, by rw [inF_vI]; exact h⟩
def intsL (m : Int) : List Int := (List.range m.toNat).map fun (k : Nat) => (k : Int)
theorem rngD_vI {m : Int} : rngD 0 m.toNat = vI (intsL m) := by
  unfold rngD vI intsL
  rw [List.map_map]
  apply List.map_congr_left
  intro k _
  show D.int (0 + (k : Int)) = D.int (k : Int)
  congr 1
  omega
theorem intsL_len {m : Int} : (intsL m).length = m.toNat := by unfold intsL; simp
theorem intsL_mem {m z : Int} : z ∈ intsL m ↔ 0 ≤ z ∧ z < m := by
  unfold intsL
  rw [List.mem_map]
  constructor
  · rintro ⟨k, hk, rfl⟩
    rw [List.mem_range] at hk
    omega
  · rintro ⟨h0, h1⟩
    exact ⟨z.toNat, by rw [List.mem_range]; omega, by omega⟩
theorem intsL_nodup {m : Int} : (intsL m).Nodup := by
  unfold intsL
  exact List.Pairwise.map _ (fun a b h e => h (Int.ofNat.inj e)) List.nodup_range
def PdP (b : Int) (R : List Int) (x : Dd) : Prop := 0 < x.c ∧ x.b = b ∧ x.a ∈ R
instance {b : Int} {R : List Int} {x : Dd} : Decidable (PdP b R x) := by unfold PdP; infer_instance
structure Peel (m : Int) (sh : List Dd) (L R : List Int) : Prop where
  perm : (L ++ R).Perm (intsL m)
  order : ∀ (i : Nat) (b : Int), L[i]? = some b → ∀ x ∈ sh, 0 < x.c → x.b = b → x.a ∈ L.take i
theorem Peel.start {m : Int} {sh : List Dd} : Peel m sh [] (intsL m) := ⟨List.Perm.refl _, fun i b h => by simp at h⟩
theorem Peel.nodup {m : Int} {sh : List Dd} {L R : List Int} (h : Peel m sh L R) : (L ++ R).Nodup := h.perm.nodup_iff.mpr intsL_nodup
theorem Peel.mem {m : Int} {sh : List Dd} {L R : List Int} (h : Peel m sh L R) {z : Int} : (z ∈ L ∨ z ∈ R) ↔ 0 ≤ z ∧ z < m := by
  rw [← intsL_mem, ← h.perm.mem_iff, List.mem_append]
theorem Peel.next {m : Int} {sh : List Dd} {L R : List Int} {b : Int} (h : Peel m sh L R) (hs : ∀ x ∈ sh, x.Ok m) (hb : b ∈ R) (hu : ∀ x ∈ sh, ¬ PdP b R x) : Peel m sh (L ++ [b]) (R.erase b) := by
  refine ⟨?_, fun i c hc x hx hp hxb => ?_⟩
  · refine List.Perm.trans ?_ h.perm
    rw [List.append_assoc]
    refine List.Perm.append_left _ ?_
    exact (List.perm_cons_erase hb).symm
  · by_cases hi : i < L.length
    · rw [List.getElem?_append_left hi] at hc
      rw [List.take_append_of_le_length (by omega)]
      exact h.order i c hc x hx hp hxb
    · have hi2 : i = L.length := by
        have := (List.getElem?_eq_some_iff.mp hc).1
        rw [List.length_append, List.length_singleton] at this
        omega
      subst hi2
      rw [List.getElem?_append_right (Nat.le_refl _), Nat.sub_self] at hc
      cases hc
      rw [List.take_left' rfl]
      have hxo := hs x hx
      unfold Dd.Ok at hxo
      rcases h.mem.mpr ⟨hxo.1, hxo.2.1⟩ with h1 | h1
      · exact h1
      · exact absurd ⟨hp, hxb, h1⟩ (hu x hx)
def Stuck (sh : List Dd) (R : List Int) : Prop := ∀ b ∈ R, ∃ x ∈ sh, PdP b R x
def nthD (sh : List Dd) (n : Int) : Dd := sh.getD n.toNat ⟨0, 0, 0, 0⟩
theorem nthD_some {sh : List Dd} {n : Nat} {x : Dd} (h : sh[n]? = some x) : nthD sh n = x := by
  unfold nthD
  rw [List.getD_eq_getElem?_getD, Int.toNat_natCast, h]
  rfl
structure IsRing (sh : List Dd) (rg : List Int) : Prop where
  ne : rg ≠ []
  rng : ∀ n ∈ rg, 0 ≤ n ∧ n < (sh.length : Int) ∧ 0 < (nthD sh n).c
  once : (rg.map fun n => (nthD sh n).a).Nodup
  round : ∀ k : Nat, k < rg.length → (nthD sh (gI rg k)).b = (nthD sh (gI rg ((k + 1) % rg.length : Nat))).a
structure Back (sh : List Dd) (came back : List Int) (mem : Int) : Prop where
  len : came.length = back.length
  nodup : came.Nodup
  rng : ∀ n ∈ back, 0 ≤ n ∧ n < (sh.length : Int) ∧ 0 < (nthD sh n).c
  pay : ∀ k : Nat, k < back.length → (nthD sh (gI back k)).b = gI came k ∧ (nthD sh (gI back k)).a = gI (came ++ [mem]) (k + 1 : Nat)
theorem gI_app {v : List Int} {z : Int} {k : Nat} (h : k < v.length) : gI (v ++ [z]) k = gI v k := by
  rw [gI_nat (by rw [List.length_append]; omega), gI_nat h, List.getElem_append_left h]
theorem gI_app_last {v : List Int} {z : Int} : gI (v ++ [z]) (v.length : Nat) = z := by
  rw [gI_nat (by rw [List.length_append]; simp), List.getElem_append_right (Nat.le_refl _)]
  simp
theorem Back.start {sh : List Dd} {m : Int} : Back sh [] [] m := ⟨rfl, List.nodup_nil, fun n h => by simp at h, fun k h => by simp at h⟩
theorem Back.next {sh : List Dd} {came back : List Int} {mem : Int} {i : Nat} {x : Dd} (h : Back sh came back mem) (hm : mem ∉ came) (hi : sh[i]? = some x) (hc : 0 < x.c) (hb : x.b = mem) : Back sh (came ++ [mem]) (back ++ [(i : Int)]) x.a := by
  have hx := nthD_some hi
  have hlt := (List.getElem?_eq_some_iff.mp hi).1
  refine ⟨by simp [h.len], ?_, fun n hn => ?_, fun k hk => ?_⟩
  · refine List.nodup_append.mpr ⟨h.nodup, by simp, fun a ha b hb' => ?_⟩
    rw [List.mem_singleton] at hb'
    subst hb'
    exact fun e => hm (e ▸ ha)
  · rcases List.mem_append.mp hn with hn | hn
    · exact h.rng n hn
    · rw [List.mem_singleton] at hn
      subst hn
      rw [hx]
      exact ⟨by omega, by omega, hc⟩
  · by_cases hk2 : k < back.length
    · have := h.pay k hk2
      rw [gI_app hk2, gI_app (by rw [h.len]; exact hk2), gI_app (by rw [List.length_append, h.len, List.length_singleton]; omega)]
      exact this
    · have hk3 : k = back.length := by rw [List.length_append, List.length_singleton] at hk; omega
      subst hk3
      rw [gI_app_last, hx, ← h.len, gI_app_last]
      refine ⟨hb, ?_⟩
      have := @gI_app_last (came ++ [mem]) x.a
      rw [List.length_append, List.length_singleton] at this
      exact this.symm
theorem gI_drop {v : List Int} {i k : Nat} (h : i + k < v.length) : gI (v.drop i) k = gI v (i + k : Nat) := by
  rw [gI_nat (by rw [List.length_drop]; omega), gI_nat h, List.getElem_drop]
theorem gI_rev {v : List Int} {k : Nat} (h : k < v.length) : gI v.reverse k = gI v (v.length - 1 - k : Nat) := by
  rw [gI_nat (by rw [List.length_reverse]; exact h), gI_nat (by omega), List.getElem_reverse]
theorem Back.ring {sh : List Dd} {came back : List Int} {mem : Int} {j : Nat} (h : Back sh came back mem) (hj : came[j]? = some mem) : IsRing sh (back.drop j).reverse := by
  have hjl := (List.getElem?_eq_some_iff.mp hj).1
  have hjb : j < back.length := by rw [← h.len]; exact hjl
  have hl : (back.drop j).reverse.length = back.length - j := by rw [List.length_reverse, List.length_drop]
  have hgj : gI came j = mem := by rw [gI_nat hjl]; exact (List.getElem?_eq_some_iff.mp hj).2
  -- the k-th of the ring
  have hk : ∀ k : Nat, k < back.length - j → gI (back.drop j).reverse k = gI back (back.length - 1 - k : Nat) := fun k hk => by
    rw [gI_rev (by rw [List.length_drop]; omega), List.length_drop, gI_drop (by omega)]
    congr 2
    omega
  -- its payer, its payee
  have hp : ∀ k : Nat, k < back.length - j → (nthD sh (gI (back.drop j).reverse k)).a = if k = 0 then mem else gI came (back.length - k : Nat) := fun k hk' => by
    rw [hk k hk', (h.pay _ (by omega)).2]
    by_cases e : k = 0
    · subst e
      rw [if_pos rfl, show back.length - 1 - 0 + 1 = came.length by rw [h.len]; omega, gI_app_last]
    · rw [if_neg e, show back.length - 1 - k + 1 = back.length - k by omega, gI_app (by rw [h.len]; omega)]
  refine ⟨fun e => ?_, fun n hn => h.rng n (List.mem_of_mem_drop (List.mem_reverse.mp hn)), ?_, fun k hk' => ?_⟩
  · rw [e] at hl
    simp at hl
    omega
  · refine List.pairwise_iff_getElem.mpr fun a b ha hb hab => ?_
    rw [List.length_map, hl] at ha hb
    have gg : ∀ k : Nat, k < back.length - j → ((back.drop j).reverse.map fun n => (nthD sh n).a)[k]? = some (if k = 0 then mem else gI came (back.length - k : Nat)) := fun k hk' => by
      rw [List.getElem?_map, List.getElem?_eq_getElem (by rw [hl]; exact hk'), ← hp k hk', gI_nat (by rw [hl]; exact hk')]
      rfl
    have nd := h.nodup
    have ga := gg a ha
    have gb := gg b hb
    rw [List.getElem?_eq_getElem (by rw [List.length_map, hl]; omega)] at ga gb
    have inj : ∀ p q : Nat, p < came.length → q < came.length → gI came p = gI came q → p = q := fun p q hp' hq' e => by
      rw [gI_nat hp', gI_nat hq'] at e
      exact (List.getElem_inj nd).mp e
    intro e
    rw [Option.some.inj ga, Option.some.inj gb, if_neg (show b ≠ 0 by omega)] at e
    by_cases ea : a = 0
    · rw [if_pos ea, ← hgj] at e
      have := inj _ _ hjl (by rw [h.len]; omega) e
      omega
    · rw [if_neg ea] at e
      have := inj _ _ (by rw [h.len]; omega) (by rw [h.len]; omega) e
      omega
  · rw [hl] at hk' ⊢
    rw [hk k hk', (h.pay _ (by omega)).1]
    by_cases e : k + 1 = back.length - j
    · rw [e, Nat.mod_self, hp 0 (by omega), if_pos rfl, ← hgj]
      congr 2
      omega
    · rw [Nat.mod_eq_of_lt (by omega), hp (k + 1) (by omega), if_neg (by omega)]
      congr 2
      omega
theorem len_le_of_subset : ∀ {a b : List Int}, a.Nodup → (∀ z ∈ a, z ∈ b) → a.length ≤ b.length
  | [], _, _, _ => Nat.zero_le _
  | x :: a, b, hn, hs => by
    have hn' := List.nodup_cons.mp hn
    have hx := hs x (by simp)
    have := len_le_of_subset (a := a) (b := b.erase x) hn'.2 fun z hz => by
      have hzx : z ≠ x := fun e => hn'.1 (e ▸ hz)
      exact (List.mem_erase_of_ne hzx).mpr (hs z (by simp [hz]))
    rw [List.length_erase_of_mem hx] at this
    have := List.length_pos_of_mem hx
    rw [List.length_cons]
    omega
theorem nthD_withA {sh : List Dd} {as : List Int} {n : Int} (hl : as.length = sh.length) (h0 : 0 ≤ n) (h1 : n < (sh.length : Int)) : nthD (withA sh as) n = ⟨(nthD sh n).a, (nthD sh n).b, (nthD sh n).r, gI as n⟩ := by
  obtain ⟨j, rfl⟩ : ∃ j : Nat, n = (j : Int) := ⟨n.toNat, by omega⟩
  have hj : j < sh.length := by omega
  rw [nthD_some (withA_get (List.getElem?_eq_getElem hj) (by omega)), nthD_some (List.getElem?_eq_getElem hj)]
theorem withA_self {sh : List Dd} : withA sh (sh.map Dd.c) = sh := by
  refine list_eq (withA_len (by simp)) fun n x y h1 h2 => ?_
  have hn := (List.getElem?_eq_some_iff.mp h2).1
  rw [withA_get h2 (by simpa using hn)] at h1
  cases h1
  have : gI (sh.map Dd.c) n = y.c := by
    rw [gI_nat (by simpa using hn), List.getElem_map, (List.getElem?_eq_some_iff.mp h2).2]
  rw [this]
def pb (sh : List Dd) (R : List Int) (b : Int) : Bool := sh.any fun x => decide (PdP b R x)
theorem pb_iff {sh : List Dd} {R : List Int} {b : Int} : pb sh R b = true ↔ ∃ x ∈ sh, PdP b R x := by
  unfold pb
  rw [List.any_eq_true]
  simp
def filN (sh : List Dd) (R0 : List Int) : Nat → List Int
  | 0 => R0
  | n + 1 => (filN sh R0 n).filter (pb sh (filN sh R0 n))
theorem filN_len {sh : List Dd} {R0 : List Int} : ∀ n, (filN sh R0 n).length ≤ R0.length
  | 0 => Nat.le_refl _
  | n + 1 => Nat.le_trans (List.length_filter_le _ _) (filN_len n)
end Ab

namespace Ab
open PySem
def Dd.In (m : Int) (x : Dd) : Prop := 0 ≤ x.a ∧ x.a < m ∧ 0 ≤ x.b ∧ x.b < m ∧ x.a ≠ x.b ∧ 0 ≤ x.r ∧ x.r < 3 ∧ 0 ≤ x.c
theorem Dd.Ok.inn {m : Int} {x : Dd} (h : x.Ok m) : x.In m := by
  unfold Dd.Ok at h
  exact ⟨h.1, h.2.1, h.2.2.1, h.2.2.2.1, h.2.2.2.2.1, h.2.2.2.2.2.1, h.2.2.2.2.2.2.1, h.2.2.2.2.2.2.2.1⟩
theorem Peel.step {m : Int} {sh : List Dd} {L R : List Int} {b : Int} (h : Peel m sh L R) (hs : ∀ x ∈ sh, x.In m) (hb : b ∈ R) (hu : ∀ x ∈ sh, ¬ PdP b R x) : Peel m sh (L ++ [b]) (R.erase b) := by
  refine ⟨?_, fun i c hc x hx hp hxb => ?_⟩
  · refine List.Perm.trans ?_ h.perm
    rw [List.append_assoc]
    refine List.Perm.append_left _ ?_
    exact (List.perm_cons_erase hb).symm
  · by_cases hi : i < L.length
    · rw [List.getElem?_append_left hi] at hc
      rw [List.take_append_of_le_length (by omega)]
      exact h.order i c hc x hx hp hxb
    · have hi2 : i = L.length := by
        have := (List.getElem?_eq_some_iff.mp hc).1
        rw [List.length_append, List.length_singleton] at this
        omega
      subst hi2
      rw [List.getElem?_append_right (Nat.le_refl _), Nat.sub_self] at hc
      cases hc
      rw [List.take_left' rfl]
      have hxo := hs x hx
      unfold Dd.In at hxo
      rcases h.mem.mpr ⟨hxo.1, hxo.2.1⟩ with h1 | h1
      · exact h1
      · exact absurd ⟨hp, hxb, h1⟩ (hu x hx)
theorem withA_in {m : Int} {sh : List Dd} {as : List Int} (hs : ∀ x ∈ sh, x.In m) (ha : ∀ c ∈ as, 0 ≤ c) : ∀ x ∈ withA sh as, x.In m := fun x hx => by
  obtain ⟨n, hn⟩ := List.mem_iff_getElem?.mp hx
  unfold withA at hn
  rw [List.getElem?_zipWith] at hn
  cases e : sh[n]? with
  | none => rw [e] at hn; cases hn
  | some y =>
    rw [e] at hn
    cases e2 : as[n]? with
    | none => rw [e2] at hn; cases hn
    | some c =>
      rw [e2] at hn
      cases hn
      have hy := hs y (List.mem_of_getElem? e)
      unfold Dd.In at *
      exact ⟨hy.1, hy.2.1, hy.2.2.1, hy.2.2.2.1, hy.2.2.2.2.1, hy.2.2.2.2.2.1, hy.2.2.2.2.2.2.1, ha c (List.mem_of_getElem? e2)⟩
def subR (c : Int) (l rg : List Int) : List Int := rg.foldl (fun l n => l.set n.toNat (gI l n - c)) l
theorem subR_app {c : Int} {l a b : List Int} : subR c l (a ++ b) = subR c (subR c l a) b := by
  unfold subR
  exact List.foldl_append
theorem subR_one {c n : Int} {l a : List Int} : subR c l (a ++ [n]) = (subR c l a).set n.toNat (gI (subR c l a) n - c) := by
  rw [subR_app]
  rfl
theorem subR_len {c : Int} : ∀ {rg l : List Int}, (subR c l rg).length = l.length
  | [], _ => rfl
  | n :: ns, l => by
    show (subR c (l.set n.toNat (gI l n - c)) ns).length = l.length
    rw [subR_len, List.length_set]
theorem gI_setK {l : List Int} {i k : Nat} {v : Int} (hk : k < l.length) : gI (l.set i v) k = if i = k then v else gI l k := by
  unfold gI
  rw [Int.toNat_natCast, List.getD_eq_getElem?_getD, List.getD_eq_getElem?_getD, List.getElem?_set]
  split
  · rename_i e
    subst e
    rw [if_pos hk]
    rfl
  · rfl
theorem subR_get {c : Int} : ∀ {rg l : List Int}, rg.Nodup → (∀ n ∈ rg, 0 ≤ n ∧ n < (l.length : Int)) → ∀ k : Nat, k < l.length → gI (subR c l rg) k = if (k : Int) ∈ rg then gI l k - c else gI l k
  | [], l, _, _, k, hk => by simp [subR]
  | n :: ns, l, hn, hr, k, hk => by
    show gI (subR c (l.set n.toNat (gI l n - c)) ns) k = _
    have hn2 := List.nodup_cons.mp hn
    rw [subR_get hn2.2 (fun x hx => by rw [List.length_set]; exact hr x (List.mem_cons_of_mem _ hx)) k (by rw [List.length_set]; exact hk), gI_setK hk]
    have h0 := hr n (by simp)
    by_cases e : n.toNat = k
    · have e2 : n = (k : Int) := by omega
      subst e2
      rw [if_pos e, if_neg hn2.1, if_pos (by simp)]
    · rw [if_neg e]
      have e2 : (k : Int) ≠ n := by omega
      simp [e2]
theorem gI_at {l : List Int} {k : Nat} {z : Int} (h : l[k]? = some z) : gI l k = z := by
  unfold gI
  rw [Int.toNat_natCast, List.getD_eq_getElem?_getD, h]
  rfl
def pos (l : List Int) : Nat := l.countP fun z => decide (0 < z)
theorem pos_le : ∀ {l l' : List Int}, l'.length = l.length → (∀ (k : Nat) (x y : Int), l[k]? = some x → l'[k]? = some y → 0 < y → 0 < x) → pos l' ≤ pos l
  | [], [], _, _ => Nat.le_refl _
  | x :: xs, y :: ys, hl, h => by
    have ih := pos_le (l := xs) (l' := ys) (by simpa using hl) fun k a b ha hb => h (k + 1) a b (by simpa using ha) (by simpa using hb)
    have h0 := h 0 x y rfl rfl
    unfold pos at *
    rw [List.countP_cons, List.countP_cons]
    by_cases c : 0 < y
    · simp [c, h0 c, ih]
    · simp [c]
      omega
theorem pos_lt : ∀ {l l' : List Int}, l'.length = l.length → (∀ (k : Nat) (x y : Int), l[k]? = some x → l'[k]? = some y → 0 < y → 0 < x) → (∃ (k : Nat) (x y : Int), l[k]? = some x ∧ l'[k]? = some y ∧ 0 < x ∧ ¬ 0 < y) → pos l' < pos l
  | [], [], _, _, ⟨k, x, y, e, _⟩ => by simp at e
  | x :: xs, y :: ys, hl, h, ⟨k, a, b, e1, e2, e3, e4⟩ => by
    have hl2 : ys.length = xs.length := by simpa using hl
    have hh : ∀ (k : Nat) (x y : Int), xs[k]? = some x → ys[k]? = some y → 0 < y → 0 < x := fun k a b ha hb => h (k + 1) a b (by simpa using ha) (by simpa using hb)
    have h0 := h 0 x y rfl rfl
    cases k with
    | zero =>
      have ih := pos_le hl2 hh
      cases e1
      cases e2
      unfold pos at *
      rw [List.countP_cons, List.countP_cons]
      simp [e3, e4]
      omega
    | succ k =>
      have ih := pos_lt hl2 hh ⟨k, a, b, by simpa using e1, by simpa using e2, e3, e4⟩
      unfold pos at *
      rw [List.countP_cons, List.countP_cons]
      by_cases c : 0 < y
      · simp [c, h0 c, ih]
      · simp [c]
        omega
def runC (l : List Int) (cs : List (List Int × Int)) : List Int := cs.foldl (fun l p => subR p.2 l p.1) l
theorem runC_one {l : List Int} {cs : List (List Int × Int)} {p : List Int × Int} : runC l (cs ++ [p]) = subR p.2 (runC l cs) p.1 := by
  unfold runC
  rw [List.foldl_append]
  rfl
structure CutAt (sh : List Dd) (l : List Int) (p : List Int × Int) : Prop where
  ring : IsRing (withA sh l) p.1
  len : p.1.length ≤ 1000
  min : p.2 ∈ p.1.map (gI l)
  le : ∀ z ∈ p.1.map (gI l), p.2 ≤ z
def CutsOk (sh : List Dd) (l : List Int) (cs : List (List Int × Int)) : Prop := ∀ (i : Nat) (p : List Int × Int), cs[i]? = some p → CutAt sh (runC l (cs.take i)) p
theorem CutsOk.nil {sh : List Dd} {l : List Int} : CutsOk sh l [] := fun i p h => by simp at h
theorem CutsOk.one {sh : List Dd} {l : List Int} {cs : List (List Int × Int)} {p : List Int × Int} (h : CutsOk sh l cs) (hp : CutAt sh (runC l cs) p) : CutsOk sh l (cs ++ [p]) := fun i q hq => by
  by_cases hi : i < cs.length
  · rw [List.getElem?_append_left hi] at hq
    rw [List.take_append_of_le_length (by omega)]
    exact h i q hq
  · have hi2 : i = cs.length := by
      have := (List.getElem?_eq_some_iff.mp hq).1
      rw [List.length_append, List.length_singleton] at this
      omega
    subst hi2
    rw [List.getElem?_append_right (Nat.le_refl _), Nat.sub_self] at hq
    cases hq
    rw [List.take_left' rfl]
    exact hp
structure CutOk (l l' : List Int) (p : List Int × Int) : Prop where
  len : l'.length = l.length
  nn : ∀ z ∈ l', 0 ≤ z
  pos : pos l' < pos l
  coins : 0 < p.2
  get : ∀ k : Nat, k < l.length → gI l' k = if (k : Int) ∈ p.1 then gI l k - p.2 else gI l k
  nodup : p.1.Nodup
  rng : ∀ n ∈ p.1, 0 ≤ n ∧ n < (l.length : Int) ∧ p.2 ≤ gI l n
theorem CutAt.ok {sh : List Dd} {l : List Int} {p : List Int × Int} (h : CutAt sh l p) (hl : l.length = sh.length) (hn : ∀ z ∈ l, 0 ≤ z) : CutOk l (subR p.2 l p.1) p := by
  have nd : p.1.Nodup := List.Pairwise.of_map _ (fun a b h e => h (by rw [e])) h.ring.once
  have rg : ∀ n ∈ p.1, 0 ≤ n ∧ n < (l.length : Int) ∧ 0 < gI l n := fun n hn => by
    have := h.ring.rng n hn
    rw [withA_len hl] at this
    rw [nthD_withA hl this.1 this.2.1] at this
    exact ⟨this.1, by omega, this.2.2⟩
  have gt := subR_get (c := p.2) nd (fun n hn => ⟨(rg n hn).1, (rg n hn).2.1⟩)
  have cp : 0 < p.2 := by
    obtain ⟨n, hn, e⟩ := List.mem_map.mp h.min
    rw [← e]
    exact (rg n hn).2.2
  have nn : ∀ z ∈ subR p.2 l p.1, 0 ≤ z := fun z hz => by
    obtain ⟨k, hk⟩ := List.mem_iff_getElem?.mp hz
    have hkl := (List.getElem?_eq_some_iff.mp hk).1
    rw [subR_len] at hkl
    rw [← gI_at hk, gt k hkl]
    split
    · rename_i hm
      have := h.le _ (List.mem_map.mpr ⟨_, hm, rfl⟩)
      omega
    · rw [gI_nat hkl]
      exact hn _ (List.getElem_mem hkl)
  refine ⟨subR_len, nn, pos_lt subR_len (fun k x y hx hy c => ?_) ?_, cp, gt, nd, fun n hn => ⟨(rg n hn).1, (rg n hn).2.1, h.le _ (List.mem_map.mpr ⟨_, hn, rfl⟩)⟩⟩
  · have hkl := (List.getElem?_eq_some_iff.mp hx).1
    have := gt k hkl
    rw [gI_at hx, gI_at hy] at this
    split at this <;> omega
  · obtain ⟨n, hn, e⟩ := List.mem_map.mp h.min
    have hr := rg n hn
    have hkl : n.toNat < l.length := by omega
    have en : n = (n.toNat : Int) := by omega
    have g2 := gt n.toNat hkl
    rw [← en, if_pos hn, e] at g2
    refine ⟨n.toNat, l[n.toNat], (subR p.2 l p.1)[n.toNat]'(by rw [subR_len]; exact hkl), List.getElem?_eq_getElem hkl, List.getElem?_eq_getElem _, ?_, ?_⟩
    · rw [← gI_nat hkl, ← en]
      exact hr.2.2
    · rw [← gI_nat, ← en, g2]
      omega
theorem CutsOk.ok {sh : List Dd} {l : List Int} : ∀ {cs : List (List Int × Int)}, CutsOk sh l cs → l.length = sh.length → (∀ z ∈ l, 0 ≤ z) → ∀ i : Nat, (runC l (cs.take i)).length = sh.length ∧ ∀ z ∈ runC l (cs.take i), 0 ≤ z := fun {cs} h hl hn i => by
  induction i with
  | zero => exact ⟨hl, hn⟩
  | succ i ih =>
    cases e : cs[i]? with
    | none =>
      have : cs.length ≤ i := List.getElem?_eq_none_iff.mp e
      rw [List.take_of_length_le (by omega)]
      rwa [List.take_of_length_le this] at ih
    | some p =>
      have o := (h i p e).ok ih.1 ih.2
      rw [take_succ_of e, runC_one]
      exact ⟨by rw [subR_len]; exact ih.1, o.nn⟩
def cutsD (cs : List (List Int × Int)) : List D := cs.map fun p => .tup [.lst (vI p.1), .int p.2]
theorem cutsD_pure (cs : List (List Int × Int)) : pureAll (cutsD cs) = true := by
  unfold cutsD
  induction cs with
  | nil => rfl
  | cons p ps ih =>
    rw [List.map_cons]
    have h1 : (D.tup [.lst (vI p.1), .int p.2]).pure = true := by
      unfold D.pure pureAll
      rw [lst_pure (vI_pure _)]
      rfl
    unfold pureAll
    rw [h1, ih]
    rfl
end Ab

namespace Ab
open PySem
theorem sum_setI : ∀ {v : List Int} {i : Nat} {a : Int}, i < v.length → (v.set i a).sum = v.sum - gI v i + a
  | x :: xs, 0, a, _ => by
    simp [gI]
    omega
  | x :: xs, i + 1, a, h => by
    have ih := sum_setI (v := xs) (i := i) (a := a) (by simpa using h)
    have e : gI (x :: xs) ((i + 1 : Nat) : Int) = gI xs (i : Nat) := by
      unfold gI
      rw [Int.toNat_natCast, Int.toNat_natCast]
      rfl
    rw [e]
    simp only [List.set_cons_succ, List.sum_cons, ih]
    omega
theorem withA_set {sh : List Dd} {l : List Int} {i : Nat} {v : Int} {x : Dd} (hl : l.length = sh.length) (hi : sh[i]? = some x) : withA sh (l.set i v) = (withA sh l).set i ⟨x.a, x.b, x.r, v⟩ := by
  refine List.ext_getElem? fun k => ?_
  unfold withA
  rw [List.getElem?_zipWith, List.getElem?_set, List.getElem?_set, List.getElem?_zipWith, List.length_zipWith]
  have hil := (List.getElem?_eq_some_iff.mp hi).1
  by_cases e : i = k
  · subst e
    rw [if_pos rfl, if_pos rfl, if_pos (by omega), if_pos (by omega), hi]
  · rw [if_neg e, if_neg e]
def flow (j : Int) (x : Dd) : Int := (if x.b = j then x.c else 0) - (if x.a = j then x.c else 0)
def flows (sh : List Dd) (l : List Int) (j : Int) : Int := ((withA sh l).map (flow j)).sum
theorem flows_set {sh : List Dd} {l : List Int} {j c n : Int} (hl : l.length = sh.length) (h0 : 0 ≤ n) (h1 : n < (sh.length : Int)) : flows sh (l.set n.toNat (gI l n - c)) j = flows sh l j - flow j ⟨(nthD sh n).a, (nthD sh n).b, (nthD sh n).r, c⟩ := by
  obtain ⟨i, rfl⟩ : ∃ i : Nat, n = (i : Int) := ⟨n.toNat, by omega⟩
  have hi : i < sh.length := by omega
  have ex : sh[i]? = some sh[i] := List.getElem?_eq_getElem hi
  rw [nthD_some ex, Int.toNat_natCast]
  have ew := withA_get (as := l) ex (by omega)
  unfold flows
  rw [withA_set hl ex, List.map_set, sum_setI (by rw [List.length_map, withA_len hl]; exact hi)]
  have eg : gI ((withA sh l).map (flow j)) i = flow j ⟨sh[i].a, sh[i].b, sh[i].r, gI l i⟩ := gI_at (by rw [List.getElem?_map, ew]; rfl)
  rw [eg]
  unfold flow
  dsimp only
  split <;> split <;> omega
theorem flows_sub {sh : List Dd} {j c : Int} : ∀ {rg l : List Int}, l.length = sh.length → (∀ n ∈ rg, 0 ≤ n ∧ n < (sh.length : Int)) → flows sh (subR c l rg) j = flows sh l j - (rg.map fun n => flow j ⟨(nthD sh n).a, (nthD sh n).b, (nthD sh n).r, c⟩).sum
  | [], l, _, _ => by simp [subR]
  | n :: ns, l, hl, h => by
    show flows sh (subR c (l.set n.toNat (gI l n - c)) ns) j = _
    have h0 := h n (by simp)
    rw [flows_sub (by rw [List.length_set]; exact hl) (fun x hx => h x (by simp [hx])), flows_set hl h0.1 h0.2, List.map_cons, List.sum_cons]
    omega
theorem IsRing.turn {sh : List Dd} {rg : List Int} (h : IsRing sh rg) : (rg.map fun n => (nthD sh n).b).Perm (rg.map fun n => (nthD sh n).a) := by
  cases rg with
  | nil => exact List.Perm.refl _
  | cons r rs =>
    have e : ((r :: rs).map fun n => (nthD sh n).b) = (rs.map fun n => (nthD sh n).a) ++ [(nthD sh r).a] := by
      refine List.ext_getElem (by simp) fun k h1 h2 => ?_
      rw [List.length_map] at h1
      have hr := h.round k h1
      rw [gI_nat h1] at hr
      rw [List.getElem_map, hr]
      have hm : (k + 1) % (r :: rs).length < (r :: rs).length := Nat.mod_lt _ (by simp)
      rw [gI_nat hm]
      rw [List.length_cons] at h1
      by_cases hk : k < rs.length
      · rw [List.getElem_append_left (by rw [List.length_map]; exact hk), List.getElem_map]
        have e : (k + 1) % (r :: rs).length = k + 1 := Nat.mod_eq_of_lt (by rw [List.length_cons]; omega)
        simp only [e, List.getElem_cons_succ]
      · have hk2 : k = rs.length := by omega
        subst hk2
        rw [List.getElem_append_right (by simp)]
        simp
    rw [e]
    exact List.perm_append_comm
theorem flow_sum {j c : Int} {sh : List Dd} : ∀ {rg : List Int}, (rg.map fun n => flow j ⟨(nthD sh n).a, (nthD sh n).b, (nthD sh n).r, c⟩).sum = ((rg.map fun n => (nthD sh n).b).map fun b => if b = j then c else 0).sum - ((rg.map fun n => (nthD sh n).a).map fun b => if b = j then c else 0).sum
  | [] => rfl
  | n :: ns => by
    simp only [List.map_cons, List.sum_cons]
    rw [flow_sum (rg := ns)]
    unfold flow
    dsimp only
    omega
theorem ring_pay {sh : List Dd} {l rg : List Int} (hl : l.length = sh.length) (h : IsRing (withA sh l) rg) : (∀ n ∈ rg, 0 ≤ n ∧ n < (sh.length : Int)) ∧ (rg.map fun n => (nthD sh n).b).Perm (rg.map fun n => (nthD sh n).a) := by
  have hr : ∀ n ∈ rg, 0 ≤ n ∧ n < (sh.length : Int) := fun n hn => by
    have := h.rng n hn
    rw [withA_len hl] at this
    exact ⟨this.1, this.2.1⟩
  refine ⟨hr, ?_⟩
  have e1 : (rg.map fun n => (nthD (withA sh l) n).b) = rg.map fun n => (nthD sh n).b := List.map_congr_left fun n hn => by rw [nthD_withA hl (hr n hn).1 (hr n hn).2]
  have e2 : (rg.map fun n => (nthD (withA sh l) n).a) = rg.map fun n => (nthD sh n).a := List.map_congr_left fun n hn => by rw [nthD_withA hl (hr n hn).1 (hr n hn).2]
  have := h.turn
  rwa [e1, e2] at this
theorem flows_cut {sh : List Dd} {l : List Int} {p : List Int × Int} {j : Int} (h : CutAt sh l p) (hl : l.length = sh.length) : flows sh (subR p.2 l p.1) j = flows sh l j := by
  obtain ⟨h1, h2⟩ := ring_pay hl h.ring
  rw [flows_sub hl h1, flow_sum, perm_sum (h2.map _)]
  omega
theorem cuts_flows {sh : List Dd} {l : List Int} {cs : List (List Int × Int)} {j : Int} (h : CutsOk sh l cs) (hl : l.length = sh.length) (hn : ∀ z ∈ l, 0 ≤ z) : ∀ i : Nat, flows sh (runC l (cs.take i)) j = flows sh l j := fun i => by
  induction i with
  | zero => rfl
  | succ i ih =>
    cases e : cs[i]? with
    | none =>
      have : cs.length ≤ i := List.getElem?_eq_none_iff.mp e
      rw [List.take_of_length_le (by omega)]
      rwa [List.take_of_length_le this] at ih
    | some p =>
      rw [take_succ_of e, runC_one, flows_cut (h i p e) ((h.ok hl hn i).1), ih]
theorem cuts_le {sh : List Dd} {l : List Int} {cs : List (List Int × Int)} (h : CutsOk sh l cs) (hl : l.length = sh.length) (hn : ∀ z ∈ l, 0 ≤ z) : ∀ i k : Nat, k < l.length → gI (runC l (cs.take i)) k ≤ gI l k := fun i => by
  induction i with
  | zero => intro k _; exact Int.le_refl _
  | succ i ih =>
    intro k hk
    cases e : cs[i]? with
    | none =>
      have := ih k hk
      have h3 : cs.length ≤ i := List.getElem?_eq_none_iff.mp e
      rw [List.take_of_length_le (by omega)]
      rwa [List.take_of_length_le h3] at this
    | some p =>
      have hp := ih k hk
      have ho := h.ok hl hn i
      have o := (h i p e).ok ho.1 ho.2
      rw [take_succ_of e, runC_one]
      have := o.get k (by omega)
      have := o.coins
      split at * <;> omega
theorem flow_nets {j : Int} : ∀ {sh : List Dd}, (sh.map fun x => if x.b = j then x.c else 0).sum + (sh.map fun x => if x.a = j then -x.c else 0).sum = (sh.map (flow j)).sum
  | [] => rfl
  | x :: xs => by
    have ih := flow_nets (j := j) (sh := xs)
    simp only [List.map_cons, List.sum_cons]
    rw [← ih]
    unfold flow
    split <;> split <;> omega
end Ab

namespace Ab
open PySem PySem.Spec PyProof.Rows L2
def ConstT (K : PySem.W.Frag) (a : Addr) (xs : List Str) : Prop := ∃ (o : Obj) (its : Array Value) (n : Nat), K.lookup a = some o ∧ o.cls = .type "tuple" ∧ o.data = .seq its n ∧ its.size ≤ sizeLine ∧ Vals (xs.map V.str) its.toList
end Ab

namespace Ab
open PySem
def Fit (n : Nat) (v : List Int) : Prop := v.length = n ∧ ∀ k : Nat, k < n → 0 ≤ gI v k ∧ gI v k ≤ 100000000000000
theorem Fit.mem {n : Nat} {v : List Int} (h : Fit n v) : ∀ z ∈ v, 0 ≤ z ∧ z ≤ 100000000000000 := fun z hz => by
  obtain ⟨k, hk⟩ := List.mem_iff_getElem?.mp hz
  have hl := (List.getElem?_eq_some_iff.mp hk).1
  rw [← gI_at hk]
  exact h.2 k (by have := h.1; omega)
def minB (a b : List Int) : List Int := List.zipWith (fun x y => if y < x then y else x) a b
def subB (a b : List Int) : List Int := List.zipWith (fun x y => x - y) a b
def bndB (g s : List Int) : List Int := List.zipWith (fun x y => if x = 0 then y else 0) g s
def minI (a b : Int) : Int := if b < a then b else a
def rowR (g pl : List Int) (own : Int) (w : Str) (r st : List Int) : List Int × List Int :=
  if w = "pledge" then (minB r pl, minB r pl ++ [0])
  else if w = "share" then (minB r st, minB r st ++ [0])
  else if w = "own" then (shareL (minI own r.sum) r, (r.map fun _ => 0) ++ [minI own r.sum])
  else if w = "others" then (shareL (minI (bndB g st).sum r.sum) r, shareL (minI (bndB g st).sum r.sum) (bndB g st) ++ [0])
  else (shareL (minI (bndB g st).sum r.sum) r, levelL (minI (bndB g st).sum r.sum) (bndB g st) ++ [0])
structure LSt where
  rests : List Int
  stock : List Int
  rows : List (Str × List Int × List Int)
def stepR (g pl : List Int) (own : Int) (s : LSt) (w : Str) : LSt := ⟨subB s.rests (rowR g pl own w s.rests s.stock).1, if w = "pledge" then s.stock else subB s.stock (rowR g pl own w s.rests s.stock).2, s.rows ++ [(w, (rowR g pl own w s.rests s.stock).1, (rowR g pl own w s.rests s.stock).2)]⟩
def runR (g pl sh : List Int) (own : Int) (ws : List Str) : LSt := ws.foldl (stepR g pl own) ⟨g, sh, []⟩
structure RowOk (n : Nat) (r st : List Int) (p : List Int × List Int) (w : Str) : Prop where
  len1 : p.1.length = n
  len2 : p.2.length = n + 1
  le1 : ∀ k : Nat, k < n → 0 ≤ gI p.1 k ∧ gI p.1 k ≤ gI r k
  le2 : w ≠ "pledge" → ∀ k : Nat, k < n → 0 ≤ gI p.2 k ∧ gI p.2 k ≤ gI st k
structure LOk (n : Nat) (s : LSt) : Prop where
  rests : Fit n s.rests
  stock : Fit n s.stock
def rowsD (v : List (Str × List Int × List Int)) : List D := v.map fun x => .tup [.str x.1, .lst (vI x.2.1), .lst (vI x.2.2)]
def layersL : List Str := ["pledge", "share", "own", "others", "level"]
def strL (v : List Str) : List D := v.map D.str
end Ab

namespace Ab
open PySem
def owedI (sh : List Dd) (a b r : Int) : Int := (sh.map fun x => if x.a = a ∧ x.b = b ∧ x.r = r then x.c else 0).sum
def exI (l h r : Int) (x : Dd) : Int := (if x.a = l ∧ x.b = h ∧ x.r = r then x.c else 0) - (if x.a = h ∧ x.b = l ∧ x.r = r then x.c else 0)
def difI (sh : List Dd) (l h r : Int) : Int := owedI sh l h r - owedI sh h l r
def pairP (c l h r : Int) : List Dd := if 0 < c then [⟨l, h, r, c⟩] else if c < 0 then [⟨h, l, r, -c⟩] else []
abbrev D3 := Int → Int → Int → Int
def pairH (D : D3) (l r : Nat) : Nat → List Dd
  | 0 => []
  | n + 1 => pairH D l r n ++ pairP (D l ((l : Int) + 1 + (n : Int)) r) l ((l : Int) + 1 + (n : Int)) r
def pairLo (D : D3) (m r : Nat) : Nat → List Dd
  | 0 => []
  | l + 1 => pairLo D m r l ++ pairH D l r (m - (l + 1))
def pairR (D : D3) (m : Nat) : Nat → List Dd
  | 0 => []
  | r + 1 => pairR D m r ++ pairLo D m r m
def pairG (D : D3) (m : Nat) : List Dd := pairR D m 3
def rsum (t : Nat → Int) : Nat → Int
  | 0 => 0
  | n + 1 => rsum t n + t n
def sum3 (m : Nat) (t : D3) : Int := rsum (fun r => rsum (fun l => rsum (fun k => t l ((l : Int) + 1 + (k : Int)) r) (m - (l + 1))) m) 3
def gJ (j l h c : Int) : Int := (if h = j then c else 0) - (if l = j then c else 0)
end Ab

namespace Ab
open PySem
theorem netBs_in {m : Int} {j : Int} (j0 : 0 ≤ j) : ∀ {sh : List Dd} {v : List Int}, (v.length : Int) = m → (∀ x ∈ sh, x.In m) → gI (sh.foldl netB v) j = gI v j + (sh.map (flow j)).sum
  | [], v, _, _ => by simp
  | x :: sh, v, hv, h => by
    show gI (sh.foldl netB (netB v x)) j = _
    have hx := h x (by simp)
    unfold Dd.In at hx
    rw [netBs_in j0 (by rw [netB_len]; exact hv) (fun y hy => h y (by simp [hy]))]
    unfold netB
    rw [bump_get hx.2.2.1 (by rw [bump_len]; have := hx.2.2.2.1; omega) j0, bump_get hx.1 (by have := hx.2.1; omega) j0]
    simp only [List.map_cons, List.sum_cons]
    unfold flow
    split <;> split <;> omega
theorem netBs_netsIn {m : Int} {sh : List Dd} (hm : 0 ≤ m) (hs : ∀ x ∈ sh, x.In m) : sh.foldl netB (zeros m.toNat) = netsI m sh := by
  refine ext_gI (by rw [netBs_len, zeros_len, netsI_len]) fun j h0 h1 => ?_
  rw [netBs_len, zeros_len] at h1
  rw [netBs_in (m := m) h0 (by rw [zeros_len]; omega) hs]
  unfold netsI claimsI
  rw [bumps_get h0 (fun x hx => by have := hs x hx; rw [bumps_len, zeros_len]; exact ⟨this.1, by have := this.2.1; omega⟩), bumps_get h0 (fun x hx => by have := hs x hx; rw [zeros_len]; exact ⟨this.2.2.1, by have := this.2.2.2.1; omega⟩)]
  rw [Int.add_assoc, flow_nets]
end Ab

namespace Ab
open PySem
def Wh (N : Int) (q : Rat) : Prop := ∃ z : Int, q * (N : Rat) = (z : Rat)
theorem Wh.int {N a : Int} : Wh N (a : Rat) := ⟨a * N, by rw [Rat.intCast_mul]⟩
theorem Wh.zero {N : Int} : Wh N 0 := ⟨0, by grind⟩
theorem Wh.add {N : Int} {p q : Rat} (hp : Wh N p) (hq : Wh N q) : Wh N (p + q) := by
  obtain ⟨x, hx⟩ := hp
  obtain ⟨y, hy⟩ := hq
  exact ⟨x + y, by rw [Rat.intCast_add, ← hx, ← hy]; grind⟩
theorem Wh.sub {N : Int} {p q : Rat} (hp : Wh N p) (hq : Wh N q) : Wh N (p - q) := by
  obtain ⟨x, hx⟩ := hp
  obtain ⟨y, hy⟩ := hq
  exact ⟨x - y, by rw [Rat.intCast_sub, ← hx, ← hy]; grind⟩
theorem Wh.more {N M : Int} {q : Rat} (h : Wh N q) : Wh (N * M) q := by
  obtain ⟨x, hx⟩ := h
  exact ⟨x * M, by rw [Rat.intCast_mul, Rat.intCast_mul, ← hx]; grind⟩
theorem Wh.divInt {N a : Int} {q : Rat} (h : Wh N q) (ha : a ≠ 0) : Wh (N * a) (q / (a : Rat)) := by
  obtain ⟨x, hx⟩ := h
  refine ⟨x, ?_⟩
  have h0 : (a : Rat) ≠ 0 := by exact_mod_cast ha
  rw [← hx, Rat.intCast_mul]
  grind
theorem Wh.den {N : Int} {q : Rat} (h : Wh N q) : (q.den : Int) ∣ N := by
  obtain ⟨z, hz⟩ := h
  have e := num_eq q
  have h2 : ((q.num * N : Int) : Rat) = ((z * (q.den : Int) : Int) : Rat) := by
    rw [Rat.intCast_mul, Rat.intCast_mul, e, ← hz]
    grind
  have h3 : q.num * N = z * (q.den : Int) := by exact_mod_cast h2
  have h4 : (q.den : Int) ∣ q.num * N := ⟨z, by rw [h3]; exact Int.mul_comm _ _⟩
  have h5 : q.den ∣ q.num.natAbs * N.natAbs := by
    have := Int.natAbs_dvd_natAbs.mpr h4
    rwa [Int.natAbs_mul, Int.natAbs_natCast] at this
  have h6 : q.den ∣ N.natAbs := Nat.Coprime.dvd_of_dvd_mul_left (Nat.Coprime.symm q.reduced) h5
  exact Int.ofNat_dvd_left.mpr h6
theorem Wh.size {N : Int} {q : Rat} {k b : Nat} (h : Wh N q) (h0 : N ≠ 0) (hN : Sz k N) (hq : 0 ≤ q) {B : Int} (hB : q ≤ (B : Rat)) (hb : Sz b B) : SzR (k + b) q := by
  have hd := h.den
  have d1 : q.den ≤ N.natAbs := Nat.le_of_dvd (by omega) (Int.ofNat_dvd_left.mp hd)
  have s1 : Sz k (q.den : Int) := by
    unfold Sz at *
    rw [Int.natAbs_natCast]
    omega
  refine ⟨?_, s1.mono (by omega)⟩
  have e := num_eq q
  have n0 := num_nonneg_iff.mp hq
  have dp := den_ratpos q
  have h1 : ((q.num : Int) : Rat) ≤ ((B * (q.den : Int) : Int) : Rat) := by
    rw [Rat.intCast_mul, e]
    exact Rat.mul_le_mul_of_nonneg_right hB (Rat.le_of_lt dp)
  have h2 : q.num ≤ B * (q.den : Int) := by exact_mod_cast h1
  have h3 := hb.mul s1
  unfold Sz at *
  rw [Nat.add_comm k b]
  omega
end Ab

namespace Ab
open PySem
def inn (qs : List Rat) (sh : List Dd) (j r : Int) : Prop := 0 < gR (laidA qs sh j) r ∧ gR (laidA qs sh j) r < (rkI sh j r : Int)
open Classical in
noncomputable def actM (qs : List Rat) (sh : List Dd) (j : Int) : Int := if inn qs sh j 0 then rkI sh j 0 else if inn qs sh j 1 then rkI sh j 1 else if inn qs sh j 2 then rkI sh j 2 else 1
end Ab

namespace Ab
open PySem
theorem Wh.self {q : Rat} : Wh (q.den : Int) q := ⟨q.num, (num_eq q).symm⟩
def prodI (f : Nat → Int) : Nat → Int
  | 0 => 1
  | n + 1 => prodI f n * f n
theorem Wh.sum {N : Int} {α : Type} {f : α → Rat} : ∀ {xs : List α}, (∀ x ∈ xs, Wh N (f x)) → Wh N (xs.map f).sum
  | [], _ => by
    simpa using Wh.zero
  | x :: xs, h => by
    rw [List.map_cons, List.sum_cons]
    exact (h x (by simp)).add (Wh.sum fun y hy => h y (by simp [hy]))
end Ab

namespace Ab
open PySem PySem.Spec PyProof.Rows L2

section
variable {K : PySem.W.Frag} {g : Gi} {H0 H : Hp} {r r' : List Addr} {S : Sto} {d : D} {v : V}
def putD (f : Str) (d : D) : List (Str × D) → List (Str × D)
  | [] => [(f, d)]
  | (g, x) :: r => if g = f then (g, d) :: r else (g, x) :: putD f d r
end
section
variable {X : Cx} {g : Gi} {W : WX} {e o value : Expr} {es : List Expr} {pos cpos apos pos' p : Pos} {we wo wv : WE} {ws : WA}
def kFld (C f : Str) (k : KD) : D → Sto → Prop := fun (x0 : HG D) x1 => match x0, x1 with
  | .cell n, S => ∃ fs d, S[n]? = some (.obj C fs) ∧ fs.lookup f = some d ∧ k d S
  | _, _ => False
def wFld (C f : Str) (we : WE) : WE := fun (xc : HG XE) s S k => we xc s S (kFld C f k)
def kSetF (C f : Str) (d : D) (nx : Sto → Prop) : D → Sto → Prop := fun (x0 : HG D) x1 => match x0, x1 with
  | .cell n, S => ∃ fs, S[n]? = some (.obj C fs) ∧ fs.length < 1000 ∧ nx (S.set n (.obj C (putD f d fs)))
  | _, _ => False
def wSetF (C f : Str) (wv wo : WE) : WS := fun (D : HG Kd) s S => wv D.xc s S fun d S1 => wo D.xc s S1 fun y S2 => kSetF C f d (D.nx s) y S2
def isO (C m : Str) : D → Sto → Prop := fun (x0 : HG D) x1 => match x0, x1 with
  | .cell n, S => ∃ fs, S[n]? = some (.obj C fs) ∧ fs.lookup m = none
  | _, _ => False
def wMeth (C m : Str) (wf : WF) (wo : WE) (ws : WA) : WE := fun (xc : HG XE) s S k => wo xc s S fun o S1 => isO C m o S1 ∧ ws xc s S1 fun ds S2 => wf (o :: ds) S2 k fun c S3 => xc c s S3
def tMethE (C : Addr) (m : Str) (sp : Sp) (E : L2.St → XK) (ta : TE) (t : TA) : TE := fun σ H Q => ta σ H fun x H1 => ∃ a dx fs, x = .ref a ∧ H1 a = some (.ins C dx fs) ∧ fs.lookup m = none ∧ t σ H1 fun vs H2 => sp (x :: vs) H2 Q (E σ)
def methTree (X : Cx) (o : Expr) (m : Str) (pl : Sem Bool) (ap cp : Pos) (xs : List Expr) : Sem Value :=
  eval o X.env >>= fun ov => standAt ap.atName >>= fun _ => holding [ov] (getMethod ov m pl) >>= fun
    | (g, hd) => callWith cp g hd (backTo cp (starEach xs X.env)) (backToKw cp (keywordEach [] X.env))
def tMakeE (C : Addr) (sp : Sp) (E : L2.St → XK) (t : TA) : TE := fun σ H goal => t σ H fun vs H1 => ∀ ob dct, H1 ob = none → H1 dct = none → dct ≠ ob → sp (.ref ob :: vs) (upd (upd H1 dct (.own ob)) ob (.ins C dct [])) (fun v H2 => v = .non ∧ goal (.ref ob) H2) (E σ)
def wMake (C : Str) (wf : WF) (ws : WA) : WE := fun (xc : HG XE) s S k => ws xc s S fun ds S1 => wf (.cell S1.length :: ds) (S1 ++ [.obj C []]) (fun d S2 => d = .non ∧ k (.cell S1.length) S2) fun c S3 => xc c s S3
end

mutual
def D.clo (n : Nat) : D → Bool
  | .tup xs => cloAll n xs
  | .lst xs => cloAll n xs
  | .scr xs => cloAll n xs
  | .cell m => decide (m < n)
  | _ => true
def cloAll (n : Nat) : List D → Bool
  | [] => true
  | x :: xs => x.clo n && cloAll n xs
end
section
variable {K : PySem.W.Frag} {g : Gi} {H0 H : Hp} {r r' : List Addr} {S : Sto} {d : D} {v : V}
mutual
theorem Rel.clo (p : r <+: r') : ∀ {d : D} {v : V}, d.clo r.length = true → Rel K H0 r' d v → Rel K H0 r d v
  | .non, _, _, h => by unfold Rel at h ⊢; exact h
  | .bl _, _, _, h => by unfold Rel at h ⊢; exact h
  | .int _, _, _, h => by unfold Rel at h ⊢; exact h
  | .str _, _, _, h => by unfold Rel at h ⊢; exact h
  | .tup ds, _, c, h => by
    unfold Rel at h ⊢
    obtain ⟨a, xs, rfl, h1, h2⟩ := h
    exact ⟨a, xs, rfl, h1, Rels.clo p (by unfold D.clo at c; exact c) h2⟩
  | .lst ds, _, c, h => by
    unfold Rel at h ⊢
    obtain ⟨a, xs, rfl, h1, h2⟩ := h
    exact ⟨a, xs, rfl, h1, Rels.clo p (by unfold D.clo at c; exact c) h2⟩
  | .scr ds, _, c, h => by
    unfold Rel at h ⊢
    obtain ⟨a, xs, rfl, h1, h2⟩ := h
    exact ⟨a, xs, rfl, h1, Rels.clo p (by unfold D.clo at c; exact c) h2⟩
  | .cell n, _, c, h => by
    unfold Rel at h ⊢
    obtain ⟨a, rfl, h1⟩ := h
    refine ⟨a, rfl, ?_⟩
    have hn : n < r.length := by
      unfold D.clo at c
      exact of_decide_eq_true c
    rw [← pre_back p hn]
    exact h1
  | .exn ..,  _, _, h => by unfold Rel at h ⊢; exact h
theorem Rels.clo (p : r <+: r') : ∀ {ds : List D} {vs : List V}, cloAll r.length ds = true → Rels K H0 r' ds vs → Rels K H0 r ds vs
  | [], _, _, h => by rw [h.unnil]; exact Rels.nil
  | d :: ds, _, c, h => by
    unfold cloAll at c
    rw [Bool.and_eq_true] at c
    obtain ⟨y, ys, rfl, h1, h3⟩ := h.uncons
    exact Rels.cons (Rel.clo p c.1 h1) (Rels.clo p c.2 h3)
end
mutual
theorem clo_pure {n : Nat} : ∀ {d : D}, d.pure = true → d.clo n = true
  | .non, _ => by unfold D.clo; rfl
  | .bl _, _ => by unfold D.clo; rfl
  | .int _, _ => by unfold D.clo; rfl
  | .str _, _ => by unfold D.clo; rfl
  | .tup ds, h => by unfold D.clo; exact cloAll_pure (by unfold D.pure at h; exact h)
  | .lst ds, h => by unfold D.clo; exact cloAll_pure (by unfold D.pure at h; exact h)
  | .scr ds, h => by unfold D.clo; exact cloAll_pure (by unfold D.pure at h; exact h)
  | .cell n, h => by unfold D.pure at h; cases h
  | .exn .., h => by unfold D.pure at h; cases h
theorem cloAll_pure {n : Nat} : ∀ {ds : List D}, pureAll ds = true → cloAll n ds = true
  | [], _ => by unfold cloAll; rfl
  | d :: ds, h => by
    unfold pureAll at h
    rw [Bool.and_eq_true] at h
    unfold cloAll
    rw [clo_pure h.1, cloAll_pure h.2]
    rfl
end
def Cel.clo (n : Nat) : Cel → Bool
  | .lst xs => cloAll n xs
  | .obj _ fs => fs.all fun f => f.2.clo n
  | .dk kvs => kvs.all fun f => f.2.clo n
  | .dt kvs => kvs.all fun f => f.2.clo n
  | .dkf _ _ kvs => kvs.all fun f => f.2.clo n
  | .dtf _ _ kvs => kvs.all fun f => f.2.clo n
  | .tab _ _ => true
  | .dead => true
theorem RelF.clo (p : r <+: r') : ∀ {fs : List (Str × D)} {xs : List (Str × V)}, (fs.all fun f => f.2.clo r.length) = true → RelF K H0 r' fs xs → RelF K H0 r fs xs
  | [], _, _, h => h
  | (f, d) :: fs, _, c, h => by
    obtain ⟨y, ys, rfl, h1, h2⟩ := h
    rw [List.all_cons, Bool.and_eq_true] at c
    exact ⟨y, ys, rfl, h1.clo p c.1, RelF.clo p c.2 h2⟩
theorem RelK.clo {κ : Type} (p : r <+: r') : ∀ {fs : List (κ × D)} {xs : List (κ × V)}, (fs.all fun f => f.2.clo r.length) = true → RelK K H0 r' fs xs → RelK K H0 r fs xs
  | [], _, _, h => h
  | (f, d) :: fs, _, c, h => by
    obtain ⟨y, ys, rfl, h1, h2⟩ := h
    rw [List.all_cons, Bool.and_eq_true] at c
    exact ⟨y, ys, rfl, h1.clo p c.1, RelK.clo p c.2 h2⟩
theorem CelOk.clo {a : Addr} {c : Cel} (p : r <+: r') (hc : c.clo r.length = true) (h : CelOk K g H0 r' H a c) : CelOk K g H0 r H a c := by
  cases c with
  | lst ds =>
    obtain ⟨q, xs, h1, h2⟩ := h
    exact ⟨q, xs, h1, h2.clo p hc⟩
  | obj C fs =>
    obtain ⟨q, dx, xs, h1, h2⟩ := h
    exact ⟨q, dx, xs, h1, h2.clo p hc⟩
  | dk kvs =>
    obtain ⟨q, xs, h1, h2⟩ := h
    exact ⟨q, xs, h1, h2.clo p hc⟩
  | dt kvs =>
    obtain ⟨q, xs, h1, h2⟩ := h
    exact ⟨q, xs, h1, h2.clo p hc⟩
  | dkf o xs kvs =>
    obtain ⟨q, h1, h2⟩ := h
    exact ⟨q, h1, h2.clo p hc⟩
  | dtf o xs kvs =>
    obtain ⟨q, h1, h2⟩ := h
    exact ⟨q, h1, h2.clo p hc⟩
  | tab P q => exact h
  | dead => trivial
def Kept (S S' : Sto) : Prop := S.length ≤ S'.length ∧ ∀ (i : Nat) (c : Cel), i < S.length → S'[i]? = some c → S[i]? = some c ∨ c.clo S.length = true
end
def wTrimM (wf : WF) : WF := fun (ds : HG (List D)) S k xk => wf ds S (fun d S' => d.clo S.length = true ∧ Kept S S' ∧ k d (S'.take S.length)) (fun c S' => Kept S S' ∧ xk c (S'.take S.length))
end Ab

namespace Ab
open PySem
theorem clampR_le {q ah most : Rat} : clampR q ah most ≤ most := by
  unfold clampR
  split <;> split <;> grind
def ahI (sh : List Dd) (j r : Int) : Int := ((rkRow sh j).take r.toNat).sum
section
variable {m : Int} {sh pre : List Dd} {qs ps : List Rat} {x : Dd} {j r : Int}
theorem payR_clamp (hs : ∀ x ∈ sh, x.Ok m) (hx : x ∈ sh) (hq : 0 ≤ gR qs x.a) (h0 : rkI sh x.a x.r ≠ 0) : payR qs sh x = clampR (gR qs x.a) (ahI sh x.a x.r : Int) (rkI sh x.a x.r : Int) * (x.c : Int) / (rkI sh x.a x.r : Int) := by
  have ho := hs x hx
  unfold Dd.Ok at ho
  unfold payR
  rw [if_neg h0, laid_clamp hs hq (by omega) (by omega), divInt_eq]
  unfold ahI
  grind
theorem payR_nil (h0 : rkI sh x.a x.r = 0) : payR qs sh x = 0 := by
  unfold payR
  rw [if_pos h0]
theorem payR_congr (h : gR qs x.a = gR ps x.a) : payR qs sh x = payR ps sh x := by
  unfold payR laidA
  rw [h]
theorem sum_congr {α : Type} {f g : α → Rat} : ∀ {xs : List α}, (∀ x ∈ xs, f x = g x) → (xs.map f).sum = (xs.map g).sum
  | [], _ => rfl
  | x :: xs, h => by
    rw [List.map_cons, List.map_cons, List.sum_cons, List.sum_cons, h x (by simp), sum_congr fun y hy => h y (by simp [hy])]
theorem sum_mono {α : Type} {f g : α → Rat} : ∀ {xs : List α}, (∀ x ∈ xs, f x ≤ g x) → (xs.map f).sum ≤ (xs.map g).sum
  | [], _ => Rat.le_refl
  | x :: xs, h => by
    rw [List.map_cons, List.map_cons, List.sum_cons, List.sum_cons]
    have h1 := h x (by simp)
    have h2 := sum_mono (xs := xs) fun y hy => h y (by simp [hy])
    grind
theorem sum_nn {α : Type} {f : α → Rat} : ∀ {xs : List α}, (∀ x ∈ xs, 0 ≤ f x) → 0 ≤ (xs.map f).sum
  | [], _ => Rat.le_refl
  | x :: xs, h => by
    rw [List.map_cons, List.sum_cons]
    have h1 := h x (by simp)
    have h2 := sum_nn (xs := xs) fun y hy => h y (by simp [hy])
    grind
theorem owes_rkT (hs : ∀ x ∈ sh, x.Ok m) (j0 : 0 ≤ j) : gI (owesI m sh) j = rkT sh j := by
  unfold owesI
  rw [bumps_get j0 fun x hx => by
    have ho := hs x hx
    unfold Dd.Ok at ho
    rw [zeros_len]
    omega, zeros_get, Int.zero_add]
  have e := pay_split hs (j := j) (fun _ => (1 : Rat))
  have e2 : (sh.map fun x => if x.a = j then (1 : Rat) * (x.c : Int) else 0).sum = (((sh.map fun x => if x.a = j then x.c else 0).sum : Int) : Rat) := by
    clear e hs
    induction sh with
    | nil => rfl
    | cons y sh ih =>
      rw [List.map_cons, List.sum_cons, List.map_cons, List.sum_cons, ih, Rat.intCast_add]
      congr 1
      split
      · rw [Rat.one_mul]
      · rfl
  rw [e2] at e
  unfold rkT
  have : (((sh.map fun x => if x.a = j then x.c else 0).sum : Int) : Rat) = ((rkI sh j 0 + rkI sh j 1 + rkI sh j 2 : Int) : Rat) := by
    rw [e, Rat.intCast_add, Rat.intCast_add]
    grind
  exact_mod_cast this
theorem rkT_nonneg (hs : ∀ x ∈ sh, x.Ok m) : 0 ≤ rkT sh j := by
  have h0 := rkI_nonneg hs (j := j) (r := 0)
  have h1 := rkI_nonneg hs (j := j) (r := 1)
  have h2 := rkI_nonneg hs (j := j) (r := 2)
  unfold rkT
  omega
end
def nextR (m : Int) (qs : List Rat) (sh : List Dd) (ps : List Int) (k : Nat) : Rat := if ((gI ps k : Int) : Rat) + gotP qs sh sh k < ((gI (owesI m sh) k : Int) : Rat) then ((gI ps k : Int) : Rat) + gotP qs sh sh k else ((gI (owesI m sh) k : Int) : Rat)
def nextRL (m : Int) (qs : List Rat) (sh : List Dd) (ps : List Int) : List Rat := (List.range m.toNat).map (nextR m qs sh ps)
theorem nextRL_len {m : Int} {qs : List Rat} {sh : List Dd} {ps : List Int} : (nextRL m qs sh ps).length = m.toNat := by unfold nextRL; simp
theorem nextRL_get {m : Int} {qs : List Rat} {sh : List Dd} {ps : List Int} {k : Nat} (h : (k : Int) < m) : gR (nextRL m qs sh ps) k = nextR m qs sh ps k := by
  rw [gR_nat (by rw [nextRL_len]; omega)]
  unfold nextRL
  simp
theorem nextR_le {m : Int} {qs : List Rat} {sh : List Dd} {ps : List Int} {k : Nat} : nextR m qs sh ps k ≤ ((gI (owesI m sh) k : Int) : Rat) := by
  unfold nextR
  split
  · rename_i h; exact Rat.le_of_lt h
  · exact Rat.le_refl
def posL (qs : List Rat) : List Rat := qs.map fun q => if q < 0 then 0 else q
theorem posL_self {qs : List Rat} (h : ∀ q ∈ qs, 0 ≤ q) : posL qs = qs := by
  unfold posL
  refine (List.map_congr_left fun q hq => ?_).trans (List.map_id _)
  rw [if_neg (Rat.not_lt.mpr (h q hq))]
  rfl
def FixR (m : Int) (qs : List Rat) (sh : List Dd) (ps : List Int) : Prop := ∀ j : Nat, (j : Int) < m → nextR m (posL qs) sh ps j = gR qs j
def recL (m : Int) (sh : List Dd) (ps : List Int) : Nat → List Rat
  | 0 => List.replicate m.toNat 0
  | k + 1 => (recL m sh ps k).set k (nextR m (recL m sh ps k) sh ps k)
section
variable {m : Int} {sh : List Dd} {ps : List Int}
def Fwd (sh : List Dd) : Prop := ∀ x ∈ sh, x.a < x.b
end
section
variable {m : Int} {sh pre : List Dd} {qs : List Rat} {x : Dd} {j : Int}
theorem payR_le (hs : ∀ x ∈ sh, x.Ok m) (hx : x ∈ sh) (hq : 0 ≤ gR qs x.a) : payR qs sh x ≤ (x.c : Int) := by
  have ho := hs x hx
  unfold Dd.Ok at ho
  have n2 : (0 : Rat) ≤ (x.c : Int) := by exact_mod_cast ho.2.2.2.2.2.2.2.1
  by_cases h0 : rkI sh x.a x.r = 0
  · rw [payR_nil h0]; exact n2
  · rw [payR_clamp hs hx hq h0]
    have n0 := rkI_nonneg hs (j := x.a) (r := x.r)
    have n1 : (0 : Rat) < (rkI sh x.a x.r : Int) := by exact_mod_cast (show 0 < rkI sh x.a x.r by omega)
    refine rdiv_le n1 ?_
    rw [Rat.mul_comm ((x.c : Int) : Rat)]
    exact Rat.mul_le_mul_of_nonneg_right clampR_le n2
def ringL (m A r : Int) : List Dd := (List.range m.toNat).map fun (k : Nat) => ⟨k, ((k : Int) + 1) % m, r, A⟩
def rnd (m : Int) (sh : List Dd) (ps : List Int) : Nat → List Rat
  | 0 => (owesI m sh).map fun z => ((z : Int) : Rat)
  | n + 1 => nextRL m (rnd m sh ps n) sh ps
theorem rnd_len {m : Int} {sh : List Dd} {ps : List Int} : ∀ {n : Nat}, (rnd m sh ps n).length = m.toNat
  | 0 => by unfold rnd; rw [List.length_map, owesI_len]
  | n + 1 => by unfold rnd; rw [nextRL_len]
theorem rnd_0 {m : Int} {sh : List Dd} {ps : List Int} {j : Nat} (hj : (j : Int) < m) : gR (rnd m sh ps 0) j = ((gI (owesI m sh) j : Int) : Rat) := by
  have := owesI_len (m := m) (sh := sh)
  rw [gR_nat (by rw [rnd_len]; omega)]
  unfold rnd
  rw [List.getElem_map, gI_nat (by omega)]
theorem rnd_s {m : Int} {sh : List Dd} {ps : List Int} {n j : Nat} (hj : (j : Int) < m) : gR (rnd m sh ps (n + 1)) j = nextR m (rnd m sh ps n) sh ps j := nextRL_get hj
theorem rnd_le {m : Int} {sh : List Dd} {ps : List Int} : ∀ {n j : Nat}, (j : Int) < m → gR (rnd m sh ps n) j ≤ ((gI (owesI m sh) j : Int) : Rat)
  | 0, j, h => by rw [rnd_0 h]; exact Rat.le_refl
  | n + 1, j, h => by rw [rnd_s h]; exact nextR_le
def AllWh (m N : Int) (qs : List Rat) : Prop := ∀ j : Int, 0 ≤ j → j < m → Wh N (gR qs j)
noncomputable def actP (m : Int) (qs : List Rat) (sh : List Dd) : Int := prodI (fun k => actM qs sh k) m.toNat
noncomputable def rndN (m : Int) (sh : List Dd) (ps : List Int) : Nat → Int
  | 0 => 1
  | n + 1 => rndN m sh ps n * actP m (rnd m sh ps n) sh
end
end Ab

namespace Ab
open PySem PySem.Spec PyProof.Rows L2 L2H

structure ExAt (g : Gi) (rl : List Str) (c : Str) (oe : Obj) : Prop where
  z : Zc (.ref (g.cl c)) none oe
  d : ∃ vs, oe.data = .fields vs
  i : rl.contains c = true
structure FnE (P : Program) (w0 : World) (K : PySem.W.Frag) (mg : Str → Option Value) (base : Heap) (g : Gi) (rl : List Str) (k : Nat) (f : Addr) (fd : FuncData) (ps : List Str) (wf : Addr → Str → WF) : Prop where
  run : ∀ (A : Around) (outer : List PySem.Env) (s : Shared) (H : Hp) (as : Args) (us : List Value) (vs : List V) (goal : VK) (E : XK) (a : Addr) (oe : Obj) (c : Str), ExAt g rl c oe → RoomH k A → PinOk outer H s (a, oe) → Env0 P w0 K mg base A outer s H → BindsTo s fd as (ps.zip us) → Vals vs us → spW K g ps.length (wf a c) vs H goal E →
    codeAny (model P w0) A (.call (.ref f) as) (CR (L2.CX P w0) outer P w0 H s goal E) s
section
variable {X : Cx} {g : Gi} {W : WX} {e : Expr} {es : List Expr} {pos p p2 : Pos} {wa : WE} {ws : WA}
def wCallE (wf : WF) (ws : WA) : WE := fun (_ : HG XE) s S k => ws noXC s S fun ds S1 => wf ds S1 k fun _ _ => False
def tCallE (sp : Sp) (t : TA) : TE := fun σ H goal => t σ H fun vs H1 => sp vs H1 goal fun _ _ _ => False
end
def addCW : D → D → Sto → KD → Prop := fun x y S k => ∃ a b, rview S x = some a ∧ rview S y = some b ∧ a.length + b.length ≤ sizeLine ∧ k (.cell S.length) (S ++ [.lst (a ++ b)])
def sortR : List D → Sto → KD → Prop
  | [x], S, k => ∃ ns : List Int, isInts S x ns ∧ ∀ ms : List Int, ms.Perm ns → ms.Pairwise (fun a b => b ≤ a) → k (.lst (ms.map .int)) S
  | _, _, _ => False
end Ab

namespace Ab
open PySem PySem.Spec PyProof.Rows L2
noncomputable def vFld : (Str) → (Str) → (WE) → (WE) := sld wFld
theorem vFld_s : vFld = wFld := sld_eq _
theorem vFld_q (C f : Str) (we : WE) (xc : _) (s : _) (S : _) (k : _) : vFld C f we xc s S k = (we xc s S (kFld C f k)) := by rw [vFld_s]; rfl
noncomputable def vSetF : (Str) → (Str) → (WE) → (WE) → (WS) := sld wSetF
theorem vSetF_s : vSetF = wSetF := sld_eq _
theorem vSetF_q (C f : Str) (wv wo : WE) (D : _) (s : _) (S : _) : vSetF C f wv wo D s S = (wv D.xc s S fun d S1 => wo D.xc s S1 fun y S2 => kSetF C f d (D.nx s) y S2) := by rw [vSetF_s]; rfl
noncomputable def vMeth : (Str) → (Str) → (WF) → (WE) → (WA) → (WE) := sld wMeth
theorem vMeth_s : vMeth = wMeth := sld_eq _
theorem vMeth_q (C m : Str) (wf : WF) (wo : WE) (ws : WA) (xc : _) (s : _) (S : _) (k : _) : vMeth C m wf wo ws xc s S k = (wo xc s S fun o S1 => isO C m o S1 ∧ ws xc s S1 fun ds S2 => wf (o :: ds) S2 k fun c S3 => xc c s S3) := by rw [vMeth_s]; rfl
noncomputable def vMake : (Str) → (WF) → (WA) → (WE) := sld wMake
theorem vMake_s : vMake = wMake := sld_eq _
theorem vMake_q (C : Str) (wf : WF) (ws : WA) (xc : _) (s : _) (S : _) (k : _) : vMake C wf ws xc s S k = (ws xc s S fun ds S1 => wf (.cell S1.length :: ds) (S1 ++ [.obj C []]) (fun d S2 => d = .non ∧ k (.cell S1.length) S2) fun c S3 => xc c s S3) := by rw [vMake_s]; rfl
noncomputable def vTrimM : (WF) → (WF) := sld wTrimM
theorem vTrimM_s : vTrimM = wTrimM := sld_eq _
theorem vTrimM_q (wf : WF) (ds : _) (S : _) (k : _) (xk : _) : vTrimM wf ds S k xk = (wf ds S (fun d S' => d.clo S.length = true ∧ Kept S S' ∧ k d (S'.take S.length)) (fun c S' => Kept S S' ∧ xk c (S'.take S.length))) := by rw [vTrimM_s]; rfl
noncomputable def vCallE : (WF) → (WA) → (WE) := sld wCallE
theorem vCallE_s : vCallE = wCallE := sld_eq _
theorem vCallE_q (wf : WF) (ws : WA) (y0 : _) (s : _) (S : _) (k : _) : vCallE wf ws y0 s S k = (ws noXC s S fun ds S1 => wf ds S1 k fun _ _ => False) := by rw [vCallE_s]; rfl
theorem kFld_c {C f : Str} {k : KD} {n : Nat} {S : Sto} : kFld C f k (.cell n) S = ∃ fs d, S[n]? = some (.obj C fs) ∧ fs.lookup f = some d ∧ k d S := id rfl
theorem kSetF_c {C f : Str} {d : D} {nx : Sto → Prop} {n : Nat} {S : Sto} : kSetF C f d nx (.cell n) S = ∃ fs, S[n]? = some (.obj C fs) ∧ fs.length < 1000 ∧ nx (S.set n (.obj C (putD f d fs))) := id rfl
theorem isO_c {C m : Str} {n : Nat} {S : Sto} : isO C m (.cell n) S = ∃ fs, S[n]? = some (.obj C fs) ∧ fs.lookup m = none := id rfl
theorem vTrimM_i {np n : Nat} {w : WS} {ds : List D} {S : Sto} {k : KD} {xk : XD} (h1 : ds.length = np) (h : w ⟨fun _ S' => D.clo S.length .non = true ∧ Kept S S' ∧ k .non (S'.take S.length), fun d S' => d.clo S.length = true ∧ Kept S S' ∧ k d (S'.take S.length), fun c _ S' => Kept S S' ∧ xk c (S'.take S.length)⟩ (ds.map some ++ List.replicate (n - ds.length) none) S) : vTrimM (vDef np n w) ds S k xk := by
  rw [vTrimM_q]; exact vDef_i h1 h
theorem Kept.self {S : Sto} : Kept S S := ⟨Nat.le_refl _, fun i c hi e => .inl e⟩
end Ab

namespace Ab
open PySem
structure Deal where
  a : Int
  b : Int
  w : Int
  u : Int
  c : Int
  d : Int
  r : Int
  s : Str
def dealD (x : Deal) : D := .tup [.int x.a, .int x.b, .int x.w, .int x.u, .int x.c, .int x.d, .int x.r, .str x.s]
def dealL (ks : List Deal) : List D := ks.map dealD
def bookF (m w n : Int) (q : Nat) : List (Str × D) := [("many", .int m), ("wares", .int w), ("now", .int n), ("kept", .cell q)]
theorem Kept.set {S : Sto} {q : Nat} {c : Cel} (hc : c.clo S.length = true) : Kept S (S.set q c) := by
  refine ⟨by rw [List.length_set]; exact Nat.le_refl _, fun i c' hi e => ?_⟩
  by_cases h : q = i
  · subst h
    rw [List.getElem?_set_self hi] at e
    cases e
    exact .inr hc
  · rw [List.getElem?_set_ne h] at e
    exact .inl e
theorem Kept.trans {S S' S'' : Sto} (a : Kept S S') (b : Kept S' S'') (h : ∀ (i : Nat) (c : Cel), i < S.length → S''[i]? = some c → S'[i]? = some c ∨ c.clo S.length = true) : Kept S S'' :=
  ⟨Nat.le_trans a.1 b.1, fun i c hi e => (h i c hi e).elim (fun q => a.2 i c hi q) .inr⟩
def memBad (m a b : Int) : Prop := ¬ (0 ≤ a ∧ a < m) ∨ ¬ (0 ≤ b ∧ b < m) ∨ a = b
def termBad (wn w u c d r : Int) : Prop := ¬ (0 ≤ w ∧ w < wn) ∨ ¬ (1 ≤ u ∧ u ≤ 1000000) ∨ ¬ (1 ≤ c ∧ c ≤ 1000000000) ∨ ¬ (0 ≤ d ∧ d ≤ 1000000) ∨ ¬ (0 ≤ r ∧ r ≤ 2)
instance {m a b : Int} : Decidable (memBad m a b) := by unfold memBad; exact inferInstance
instance {wn w u c d r : Int} : Decidable (termBad wn w u c d r) := by unfold termBad; exact inferInstance
def termD (x : Deal) : D := .tup [.int x.a, .int x.b, .int x.w, .int x.u, .int x.c, .int x.d, .int x.r]
def strikeE (m wn n : Int) (x : Deal) : Option Str := if memBad m x.a x.b then some "NoMember" else if termBad wn x.w x.u x.c x.d x.r then some "NoTerms" else if x.d < n then some "Closed" else none
theorem atI_7 {x0 x1 x2 x3 x4 x5 x6 x7 : D} {r : List D} : L2.atI (x0 :: x1 :: x2 :: x3 :: x4 :: x5 :: x6 :: x7 :: r) 7 = some x7 := @L2.atI_nat D (x0 :: x1 :: x2 :: x3 :: x4 :: x5 :: x6 :: x7 :: r) 7 x7 rfl
end Ab

namespace Ab
open PySem
def dealV (x : Deal) : List D := [.int x.a, .int x.b, .int x.w, .int x.u, .int x.c, .int x.d, .int x.r, .str x.s]
def StOk (x : Deal) : Prop := x.s = "standing" ∨ x.s = "settled" ∨ x.s = "broken"
theorem StOk.str {x : Deal} (h : StOk x) : PyData.strOk x.s = true := by
  rcases h with h | h | h <;> rw [h] <;> decide +kernel
def onDay (ks : List Deal) (d : Int) (j : Nat) : Bool := match ks[j]? with
  | some x => decide (x.d = d) && decide (x.s ≠ "broken")
  | none => false
def numsTo (ks : List Deal) (d : Int) (n : Nat) : List Nat := (List.range n).filter (onDay ks d)
def numsOn (ks : List Deal) (d : Int) : List Nat := numsTo ks d ks.length
def setSt (ks : List Deal) (j : Nat) (s : Str) : List Deal := match ks[j]? with
  | some x => ks.set j { x with s := s }
  | none => ks
def closeK (n : Int) (ks : List Deal) : List Deal := ks.map fun (x : Deal) => if x.d = n ∧ x.s = ("standing" : Str) then { x with s := "settled" } else x
def stepC (ks : List Deal) (j : Nat) : List Deal := match ks[j]? with
  | some x => if x.s = "standing" then setSt ks j "settled" else ks
  | none => ks
def closeN (ks : List Deal) (js : List Nat) : List Deal := js.foldl stepC ks
def natL (js : List Nat) : List D := js.map fun (j : Nat) => D.int (j : Int)
def stands (ks : List Deal) (j : Nat) : Bool := match ks[j]? with
  | some x => decide (x.s = "standing")
  | none => false
def rowD (x : Deal) : Cel := .lst (dealV x)
structure Bk (S : Sto) (b q r : Nat) (cs : List Nat) (m wn n : Int) (ks rs : List Deal) : Prop where
  ob : S[b]? = some (.obj "Book" (bookF m wn n q))
  kp : S[q]? = some (.lst (dealL ks))
  rw : S[r]? = some (.lst (cs.map .cell))
  nd : cs.Nodup
  len : cs.length = rs.length
  row : ∀ (i c : Nat) (x : Deal), cs[i]? = some c → rs[i]? = some x → S[c]? = some (.lst (dealV x))
  qr : q ≠ r
  qc : q ∉ cs
  rc : r ∉ cs
theorem nodup_ix {α : Type} {l : List α} (nd : l.Nodup) {i j : Nat} {x : α} (h1 : l[i]? = some x) (h2 : l[j]? = some x) : i = j := by
  obtain ⟨l1, g1⟩ := List.getElem?_eq_some_iff.mp h1
  obtain ⟨l2, g2⟩ := List.getElem?_eq_some_iff.mp h2
  have p := List.pairwise_iff_getElem.mp nd
  rcases Nat.lt_trichotomy i j with c | c | c
  · exact absurd (g1.trans g2.symm) (p i j l1 l2 c)
  · exact c
  · exact absurd (g2.trans g1.symm) (p j i l2 l1 c)
variable {S : Sto} {b q r : Nat} {cs : List Nat} {m wn n : Int} {ks rs : List Deal}
theorem Bk.br (h : Bk S b q r cs m wn n ks rs) : b ≠ r := fun e => by
  have := h.ob
  rw [e, h.rw] at this
  cases this
theorem Bk.bl (h : Bk S b q r cs m wn n ks rs) : b < S.length := (List.getElem?_eq_some_iff.mp h.ob).1
theorem Bk.ql (h : Bk S b q r cs m wn n ks rs) : q < S.length := (List.getElem?_eq_some_iff.mp h.kp).1
theorem Bk.rl (h : Bk S b q r cs m wn n ks rs) : r < S.length := (List.getElem?_eq_some_iff.mp h.rw).1
theorem Bk.at (h : Bk S b q r cs m wn n ks rs) {i : Nat} {x : Deal} (e : rs[i]? = some x) : ∃ c, cs[i]? = some c ∧ S[c]? = some (.lst (dealV x)) := by
  have hi := (List.getElem?_eq_some_iff.mp e).1
  rw [← h.len] at hi
  exact ⟨_, List.getElem?_eq_getElem hi, h.row _ _ _ (List.getElem?_eq_getElem hi) e⟩
theorem Bk.to (h : Bk S b q r cs m wn n ks rs) {i c : Nat} (e : cs[i]? = some c) : ∃ x, rs[i]? = some x ∧ S[c]? = some (.lst (dealV x)) := by
  have hi := (List.getElem?_eq_some_iff.mp e).1
  rw [h.len] at hi
  exact ⟨_, List.getElem?_eq_getElem hi, h.row _ _ _ e (List.getElem?_eq_getElem hi)⟩
theorem Bk.cl (h : Bk S b q r cs m wn n ks rs) {c : Nat} (e : c ∈ cs) : c < S.length := by
  obtain ⟨i, e⟩ := List.mem_iff_getElem?.mp e
  obtain ⟨x, _, e2⟩ := h.to e
  exact (List.getElem?_eq_some_iff.mp e2).1
theorem Bk.app (h : Bk S b q r cs m wn n ks rs) (T : Sto) : Bk (S ++ T) b q r cs m wn n ks rs where
  ob := by rw [List.getElem?_append_left h.bl]; exact h.ob
  kp := by rw [List.getElem?_append_left h.ql]; exact h.kp
  rw := by rw [List.getElem?_append_left h.rl]; exact h.rw
  nd := h.nd
  len := h.len
  row := fun i c x e1 e2 => by
    rw [List.getElem?_append_left (h.cl (List.mem_of_getElem? e1))]
    exact h.row i c x e1 e2
  qr := h.qr
  qc := h.qc
  rc := h.rc
def Bf (b q : Nat) (cs : List Nat) (S S' : Sto) : Prop := S'.length = S.length ∧ ∀ (i : Nat) (c : Cel), S'[i]? = some c → S[i]? = some c ∨ (c.clo S.length = true ∧ (i = b ∨ i = q ∨ i ∈ cs))
theorem Bf.refl {S : Sto} : Bf b q cs S S := ⟨rfl, fun _ _ h => .inl h⟩
theorem Bf.set {S S' : Sto} {j : Nat} {c : Cel} (h : Bf b q cs S S') (hc : c.clo S.length = true) (hj : j = b ∨ j = q ∨ j ∈ cs) : Bf b q cs S (S'.set j c) := by
  refine ⟨by rw [List.length_set]; exact h.1, fun i c' e => ?_⟩
  by_cases hq : j = i
  · subst hq
    by_cases hl : j < S'.length
    · rw [List.getElem?_set_self hl] at e
      cases e
      exact .inr ⟨hc, hj⟩
    · rw [List.getElem?_eq_none (by rw [List.length_set]; omega)] at e
      cases e
  · rw [List.getElem?_set_ne hq] at e
    exact h.2 i c' e
theorem Bf.trans {S S' S'' : Sto} (h : Bf b q cs S S') (h2 : Bf b q cs S' S'') : Bf b q cs S S'' := ⟨h2.1.trans h.1, fun i c e => by
  rcases h2.2 i c e with e | e
  · exact h.2 i c e
  · rw [h.1] at e
    exact .inr e⟩
theorem Bf.kept {S S' T : Sto} (h : Bf b q cs S S') : Kept S (S' ++ T) := by
  refine ⟨by rw [List.length_append, h.1]; omega, fun i c hi e => ?_⟩
  rw [List.getElem?_append_left (by rw [h.1]; exact hi)] at e
  exact (h.2 i c e).imp_right fun z => z.1
theorem Bf.take {S S' T : Sto} (h : Bf b q cs S S') : (S' ++ T).take S.length = S' := List.take_left' h.1
theorem Bf.at {S S' : Sto} {i : Nat} {c : Cel} (h : Bf b q cs S S') (e : S[i]? = some c) (hb : i ≠ b) (hq : i ≠ q) (hc : i ∉ cs) : S'[i]? = some c := by
  have hi := (List.getElem?_eq_some_iff.mp e).1
  rw [← h.1] at hi
  have e2 := List.getElem?_eq_getElem hi
  rcases h.2 i _ e2 with z | z
  · rw [e2, ← z, e]
  · rcases z.2 with z | z | z
    · exact absurd z hb
    · exact absurd z hq
    · exact absurd z hc
theorem sto_put {S : Sto} {q j : Nat} {xs : List D} {d y : D} {nx : Sto → Prop} (hS : S[q]? = some (.lst xs)) (hj : xs[j]? = some y) (h : nx (S.set q (.lst (xs.set j d)))) : kSto d nx (.cell q) (.int (j : Int)) S := by
  have := (List.getElem?_eq_some_iff.mp hj).1
  rw [kSto_c]
  exact ⟨xs, j, hS, ixN_in (by omega) (by omega), h⟩
theorem vlc_rngf {i : Nat} {vs : List Nat} {wt : WT} {we : WE} {gd : Sto → Prop} {s : Env} {S : Sto} {fin : List D → Sto → Prop} (p : Nat → Bool) (f : Nat → D) (m : Nat) (hl : m ≤ 1000000) (hg : gd S)
    (ht : ∀ n : Nat, n < m → ∀ k : Bool → Sto → Prop, k (p n) S → wt noXC ((wipeD s vs).set i (some (.int (n : Int)))) S k)
    (he : ∀ n : Nat, n < m → p n = true → ∀ k : KD, k (f n) S → we noXC ((wipeD s vs).set i (some (.int (n : Int)))) S k)
    (hf : fin (((List.range m).filter p).map f) S) : lcW i vs wt we (rngD 0 m) gd s S fin := by
  have er : rngD 0 m = (List.range m).map fun (n : Nat) => D.int (n : Int) := by
    unfold rngD
    refine List.map_congr_left fun n _ => ?_
    show D.int (0 + (n : Int)) = D.int (n : Int)
    rw [Int.zero_add]
  let toN : D → Nat := fun d => match d with
    | .int z => z.toNat
    | _ => 0
  refine lc_filter (fun d => p (toN d)) (fun d => f (toN d)) (by rw [rngD_len]; exact szlt hl) hg (fun x hx k hk => ?_) (fun x hx hp k hk => ?_) ?_
  · rw [er] at hx
    obtain ⟨n, hn, rfl⟩ := List.mem_map.mp hx
    exact ht n (List.mem_range.mp hn) k hk
  · rw [er] at hx
    obtain ⟨n, hn, rfl⟩ := List.mem_map.mp hx
    exact he n (List.mem_range.mp hn) hp k hk
  · rw [er, List.filter_map, List.map_map]
    exact hf
def termL (x : Deal) : List D := [.int x.a, .int x.b, .int x.w, .int x.u, .int x.c, .int x.d, .int x.r]
def termV (x : Deal) : List Int := [x.a, x.b, x.w, x.u, x.c, x.d, x.r]
def NoBrk (ks : List Deal) : Prop := ∀ x ∈ ks, x.s = "standing" ∨ x.s = "settled"
theorem NoBrk.ok {ks : List Deal} (h : NoBrk ks) : ∀ x ∈ ks, StOk x := fun x hx => (h x hx).imp_right .inl
theorem NoBrk.close {ks : List Deal} {n : Int} (h : NoBrk ks) : NoBrk (closeK n ks) := fun x hx => by
  unfold closeK at hx
  obtain ⟨y, hy, rfl⟩ := List.mem_map.mp hx
  split
  · exact .inr rfl
  · exact h y hy
def closeTo (n : Int) (ks : List Deal) (i : Nat) : List Deal := closeK n (ks.take i) ++ ks.drop i
def dueS : Option Str → Str
  | none => ""
  | some e => if e = "NoMember" then "member" else if e = "NoTerms" then "terms" else "closed"
end Ab

namespace Ab
open PySem
def standE (ks : List Deal) (i : Int) : Option Str := if 0 ≤ i then
    match ks[i.toNat]? with
    | none => some "NoDeal"
    | some x => if x.s = ("broken" : Str) then some "Gone" else if x.s = ("settled" : Str) then some "Settled" else none
  else some "NoDeal"
structure DealOk (m wn : Int) (x : Deal) : Prop where
  st : StOk x
  a : 0 ≤ x.a ∧ x.a < m
  b : 0 ≤ x.b ∧ x.b < m
  w : 0 ≤ x.w ∧ x.w < wn
  u : 1 ≤ x.u ∧ x.u ≤ 1000000
  c : 1 ≤ x.c ∧ x.c ≤ 1000000000
  d : 0 ≤ x.d ∧ x.d ≤ 1000000
  r : 0 ≤ x.r ∧ x.r ≤ 2
  ne : x.a ≠ x.b
theorem DealOk.of {m wn n : Int} {x : Deal} (hs : StOk x) (h : strikeE m wn n x = none) : DealOk m wn x ∧ n ≤ x.d := by
  unfold strikeE at h
  by_cases h1 : memBad m x.a x.b
  · rw [if_pos h1] at h; cases h
  rw [if_neg h1] at h
  by_cases h2 : termBad wn x.w x.u x.c x.d x.r
  · rw [if_pos h2] at h; cases h
  rw [if_neg h2] at h
  by_cases h3 : x.d < n
  · rw [if_pos h3] at h; cases h
  unfold memBad at h1
  unfold termBad at h2
  exact ⟨⟨hs, by omega, by omega, by omega, by omega, by omega, by omega, by omega, by omega⟩, by omega⟩
def AllOk (m wn : Int) (ks : List Deal) : Prop := ∀ x ∈ ks, DealOk m wn x
theorem AllOk.at {m wn : Int} {ks : List Deal} (h : AllOk m wn ks) {j : Nat} {x : Deal} (e : ks[j]? = some x) : DealOk m wn x := h x (List.mem_of_getElem? e)
theorem AllOk.set {m wn : Int} {ks : List Deal} (h : AllOk m wn ks) {j : Nat} {x : Deal} (hx : DealOk m wn x) : AllOk m wn (ks.set j x) := fun y hy => by
  rcases List.mem_or_eq_of_mem_set hy with z | z
  · exact h y z
  · rw [z]; exact hx
theorem DealOk.put {m wn : Int} {x : Deal} (h : DealOk m wn x) {s : Str} (hs : s = "standing" ∨ s = "settled" ∨ s = "broken") : DealOk m wn { x with s := s } := ⟨hs, h.a, h.b, h.w, h.u, h.c, h.d, h.r, h.ne⟩
theorem AllOk.close {m wn : Int} {ks : List Deal} (h : AllOk m wn ks) {n : Int} : AllOk m wn (closeK n ks) := fun y hy => by
  unfold closeK at hy
  obtain ⟨x, hx, rfl⟩ := List.mem_map.mp hy
  split
  · exact (h x hx).put (.inr (.inl rfl))
  · exact h x hx
theorem AllOk.setSt {m wn : Int} {ks : List Deal} (h : AllOk m wn ks) {j : Nat} {s : Str} (hs : s = "standing" ∨ s = "settled" ∨ s = "broken") : AllOk m wn (setSt ks j s) := by
  unfold Ab.setSt
  split
  · rename_i x ex
    exact h.set ((h.at ex).put hs)
  · exact h
def changeE (n : Int) (ks : List Deal) (i c d : Int) : Option Str := match standE ks i with
  | some e => some e
  | none => if ¬ (1 ≤ c ∧ c ≤ 1000000000) ∨ ¬ (0 ≤ d ∧ d ≤ 1000000) then some "NoTerms" else if d < n then some "Closed" else none
def dueC (e : Str) : Str := if e = "NoDeal" then "deal" else if e = "Gone" then "gone" else if e = "Settled" then "settled" else if e = "Standing" then "standing" else if e = "NoTerms" then "terms" else "closed"
def sheetD (x : Deal) : D := .tup [.int x.a, .int x.b, .int x.r, .int x.c]
def sheetL (ks : List Deal) (js : List Nat) : List D := js.map fun j => match ks[j]? with
  | some x => sheetD x
  | none => .non
variable {S : Sto} {b q r : Nat} {cs : List Nat} {m wn n : Int} {ks rs : List Deal}
theorem Bk.push (h : Bk S b q r cs m wn n ks rs) {c : Nat} {x : Deal} (e : S[c]? = some (.lst (dealV x))) (hc : c ∉ cs) (hq : c ≠ q) (hr : c ≠ r) : Bk (S.set r (.lst ((cs ++ [c]).map .cell))) b q r (cs ++ [c]) m wn n ks (rs ++ [x]) := by
  refine ⟨?_, ?_, List.getElem?_set_self h.rl, ?_, ?_, ?_, h.qr, ?_, ?_⟩
  · rw [List.getElem?_set_ne h.br.symm]; exact h.ob
  · rw [List.getElem?_set_ne h.qr.symm]; exact h.kp
  · exact List.nodup_append.mpr ⟨h.nd, by simp, fun y hy z hz e => hc (by rw [List.mem_singleton] at hz; rw [← hz, ← e]; exact hy)⟩
  · rw [List.length_append, List.length_append, h.len]; rfl
  · intro i c' y e1 e2
    by_cases hi : i < cs.length
    · rw [List.getElem?_append_left hi] at e1
      rw [List.getElem?_append_left (by rw [← h.len]; exact hi)] at e2
      rw [List.getElem?_set_ne (fun e => h.rc (by rw [e]; exact List.mem_of_getElem? e1))]
      exact h.row i c' y e1 e2
    · have hl := (List.getElem?_eq_some_iff.mp e1).1
      rw [List.length_append, List.length_singleton] at hl
      obtain rfl : i = cs.length := by omega
      rw [List.getElem?_concat_length] at e1
      rw [h.len, List.getElem?_concat_length] at e2
      cases e1
      cases e2
      rw [List.getElem?_set_ne (fun e => hr e.symm)]
      exact e
  · intro e
    rcases List.mem_append.mp e with e | e
    · exact h.qc e
    · rw [List.mem_singleton] at e
      exact hq e.symm
  · intro e
    rcases List.mem_append.mp e with e | e
    · exact h.rc e
    · rw [List.mem_singleton] at e
      exact hr e.symm
end Ab

namespace Ab
open PySem
def settledE (ks : List Deal) (i : Int) : Option Str := if 0 ≤ i then
    match ks[i.toNat]? with
    | none => some "NoDeal"
    | some x => if x.s = ("broken" : Str) then some "Gone" else if x.s = ("standing" : Str) then some "Standing" else none
  else some "NoDeal"
def contr (x : Deal) (d : Int) : Deal := { a := x.b, b := x.a, w := x.w, u := x.u, c := x.c, d := d, r := x.r, s := "standing" }
def contrE (n : Int) (ks : List Deal) (i d : Int) : Option Str := match settledE ks i with
  | some e => some e
  | none => if ¬ (0 ≤ d ∧ d ≤ 1000000) then some "NoTerms" else if d < n then some "Closed" else none
def stTo (ks : List Deal) (n : Int) (i : Nat) : List Nat := (List.range i).filter fun j => onDay ks n j && stands ks j
end Ab

namespace Ab
open PySem PySem.Spec PyProof.Rows L2
def keyD : D → Option Key
  | .int i => some (.inl i)
  | .str s => some (.inr s)
  | _ => none
def kD : Key → D
  | .inl i => .int i
  | .inr s => .str s
def valD (kvs : List (Key × D)) (k : Key) : Option D := (kvs.find? fun kv => decide (kv.1 = k)).map (·.2)
def putKD (kvs : List (Key × D)) (k : Key) (d : D) : List (Key × D) :=
  if (kvs.any fun kv => decide (kv.1 = k)) = true then kvs.map (fun kv => if kv.1 = k then (kv.1, d) else kv) else kvs ++ [(k, d)]
def dview (S : Sto) : D → Option (List (Key × D))
  | .cell n => match S[n]? with
    | some (.dk kvs) => some kvs
    | some (.dkf _ _ kvs) => some kvs
    | _ => none
  | _ => none
section
variable {X : Cx} {g : Gi} {W : WX} {a b c e o i f : Expr} {pos apos cpos : Pos} {wa wb wc we wo wi wf : WE}
variable {K : PySem.W.Frag} {H0 H0' H H' : Hp} {r r' : List Addr} {S S' : Sto} {d x y : D} {v u : V}
def dgetW : OW := fun x y S k => ∃ kvs key d, dview S x = some kvs ∧ keyD y = some key ∧ valD kvs key = some d ∧ k d S
def dinW (neg : Bool) : OW := fun y x S k => ∃ kvs key, dview S x = some kvs ∧ keyD y = some key ∧ k (.bl (if neg then !(valD kvs key).isSome else (valD kvs key).isSome)) S
def rDin (neg : Bool) : R2 := fun y x H Q => ∃ a o, x = .ref a ∧ DGet H a y o ∧ Q (.bl (if neg then !o.isSome else o.isSome)) H
def wDGet2 (wo we wf : WE) : WE := fun (xc : HG XE) s S k => wo xc s S fun x S1 => (∃ kvs, dview S1 x = some kvs) ∧ we xc s S1 fun y S2 => wf xc s S2 fun z S3 => ∃ kvs key, dview S3 x = some kvs ∧ keyD y = some key ∧ k ((valD kvs key).getD z) S3
def wDNew : WE := fun (_ : HG XE) _ S k => k (.cell S.length) (S ++ [.dk []])
def kDPut (d : D) (nx : Sto → Prop) (x y : D) (S : Sto) : Prop := ∃ n kvs key, x = .cell n ∧ S[n]? = some (.dk kvs) ∧ keyD y = some key ∧ kvs.length < sizeLine ∧ nx (S.set n (.dk (putKD kvs key d)))
def wDPut (we wo wa : WE) : WS := fun (D : HG Kd) s S => we D.xc s S fun d S1 => wo D.xc s S1 fun o S2 => wa D.xc s S2 fun y S3 => kDPut d (D.nx s) o y S3
def wKeysL (j : Nat) : WI := fun (_ : HG XE) s S k => ∃ n o xs kvs, s[j]? = some (some (.cell n)) ∧ S[n]? = some (.dkf o xs kvs) ∧ k (kvs.map fun kv => kD kv.1) (fun S' => S'[n]? = some (.dkf o xs kvs)) S
def wLock (j : Nat) (w : WS) : WS := fun (D : HG Kd) s S => ∃ n kvs, s[j]? = some (some (.cell n)) ∧ S[n]? = some (.dk kvs) ∧ ∀ o xs,
  w { nx := fun s' S' => S'[n]? = some (.dkf o xs kvs) ∧ D.nx s' (S'.set n (.dk kvs)), rt := fun d S' => S'[n]? = some (.dkf o xs kvs) ∧ D.rt d (S'.set n (.dk kvs)), xc := D.xc } s (S.set n (.dkf o xs kvs))
abbrev WP := XE → Env → Sto → (List (Key × D) → Sto → Prop) → Prop
def wPnil : WP := fun (_ : HG XE) _ S k => k [] S
def wPcons (wk wv : WE) (wr : WP) : WP := fun (xc : HG XE) s S k => wk xc s S fun y S1 => wv xc s S1 fun d S2 => wr xc s S2 fun kvs S3 => ∃ key, keyD y = some key ∧ k ((key, d) :: kvs) S3
def GoodPs (X : Cx) (g : Gi) (W : WX) (trs : List (TE × TE)) (w : XE → Env → Sto → (List (Key × D) → Sto → Prop) → Prop) : Prop :=
  ∀ H0 r S H s sv (Q : List (V × V) → Hp → Prop) (k : List (Key × D) → Sto → Prop) xc, Sim X.K g H0 r S H → RelSt X.K H0 r s sv → w xc s S k →
    (∀ (kvs : List (Key × D)) (xs : List (Key × V)) H0' r' S' H', Fut H0 r H H0' r' H' → Sim X.K g H0' r' S' H' → RelK X.K H0' r' kvs xs → k kvs S' → Q (xs.map fun kv => (kV kv.1, kv.2)) H') → CtX X.K g H0 r H s sv xc W → tPairs trs sv H Q
def SPs (X : Cx) (g : Gi) (W : WX) (pos : Pos) (keys : List (Option Expr)) (vals : List Expr) (w : XE → Env → Sto → (List (Key × D) → Sto → Prop) → Prop) : Prop := ∃ trs, PPs X pos keys vals trs ∧ GoodPs X g W trs w
def mergeD (kvs more : List (Key × D)) : List (Key × D) := more.foldl (fun acc kv => putKD acc kv.1 kv.2) kvs
def wDisp (wp : WP) : WE := fun (xc : HG XE) s S k => wp xc s (S ++ [.dk []]) fun kvs S2 => S2[S.length]? = some (.dk []) ∧ kvs.length ≤ 15 ∧ k (.cell S.length) (S2.set S.length (.dk (mergeD [] kvs)))
end
end Ab

namespace Ab
open PySem PySem.Spec PyProof.Rows L2
def tupI (v : List Int) : D := .tup (v.map .int)
def pyT (v : List Int) : PyData := .tuple (v.map .int)
def leT : List Int → List Int → Bool := PySem.W.dataLe false pyT
def sortT (ts : List (List Int)) : List (List Int) := ts.mergeSort leT
def rSortT (K : PySem.W.Frag) : List V → Hp → VK → Prop := fun vs H Q => ∃ (a : Addr) (ys : List V) (ts : List (List Int)), vs = [V.ref a] ∧ SqL K H a ys ∧ ys.length = ts.length ∧ (∀ p ∈ ys.zip ts, Dp K H p.1 (pyT p.2)) ∧ (∀ t ∈ ts, t ≠ []) ∧
  ∀ (ps : List (V × List Int)) (p : Addr), (∀ q ∈ ps, q ∈ ys.zip ts) → ps.map Prod.snd = sortT ts → ps.length ≤ sizeLine → H p = none → Q (.ref p) (upd H p (.lst (ps.map Prod.fst)))
section
variable {X : Cx}
end
section
variable {X : Cx} {g : Gi} {W : WX} {e : Expr} {pos : Pos} {ws : WA} {K : PySem.W.Frag}
def sortTF : List D → Sto → KD → Prop
  | [x], S, k => ∃ ts : List (List Int), lview S x = some (ts.map tupI) ∧ (∀ t ∈ ts, t ≠ []) ∧ k (.lst ((sortT ts).map tupI)) S
  | _, _, _ => False
def sortTCF : List D → Sto → KD → Prop
  | [x], S, k => ∃ ts : List (List Int), lview S x = some (ts.map tupI) ∧ (∀ t ∈ ts, t ≠ []) ∧ k (.cell S.length) (S ++ [.lst ((sortT ts).map tupI)])
  | _, _, _ => False
end
end Ab

namespace Ab
open PySem PySem.Spec PyProof.Rows L2
noncomputable def vDGet2 : (WE) → (WE) → (WE) → (WE) := sld wDGet2
theorem vDGet2_s : vDGet2 = wDGet2 := sld_eq _
theorem vDGet2_q (wo we wf : WE) (xc : _) (s : _) (S : _) (k : _) : vDGet2 wo we wf xc s S k = (wo xc s S fun x S1 => (∃ kvs, dview S1 x = some kvs) ∧ we xc s S1 fun y S2 => wf xc s S2 fun z S3 => ∃ kvs key, dview S3 x = some kvs ∧ keyD y = some key ∧ k ((valD kvs key).getD z) S3) := by rw [vDGet2_s]; rfl
noncomputable def vDNew : (WE) := sld wDNew
theorem vDNew_s : vDNew = wDNew := sld_eq _
theorem vDNew_q (y0 : _) (y1 : _) (S : _) (k : _) : vDNew  y0 y1 S k = (k (.cell S.length) (S ++ [.dk []])) := by rw [vDNew_s]; rfl
noncomputable def vDPut : (WE) → (WE) → (WE) → (WS) := sld wDPut
theorem vDPut_s : vDPut = wDPut := sld_eq _
theorem vDPut_q (we wo wa : WE) (D : _) (s : _) (S : _) : vDPut we wo wa D s S = (we D.xc s S fun d S1 => wo D.xc s S1 fun o S2 => wa D.xc s S2 fun y S3 => kDPut d (D.nx s) o y S3) := by rw [vDPut_s]; rfl
noncomputable def vKeysL : (Nat) → (WI) := sld wKeysL
theorem vKeysL_s : vKeysL = wKeysL := sld_eq _
theorem vKeysL_q (j : Nat) (y0 : _) (s : _) (S : _) (k : _) : vKeysL j y0 s S k = (∃ n o xs kvs, s[j]? = some (some (.cell n)) ∧ S[n]? = some (.dkf o xs kvs) ∧ k (kvs.map fun kv => kD kv.1) (fun S' => S'[n]? = some (.dkf o xs kvs)) S) := by rw [vKeysL_s]; rfl
noncomputable def vLock : (Nat) → (WS) → (WS) := sld wLock
theorem vLock_s : vLock = wLock := sld_eq _
theorem vLock_q (j : Nat) (w : WS) (D : _) (s : _) (S : _) : vLock j w D s S = (∃ n kvs, s[j]? = some (some (.cell n)) ∧ S[n]? = some (.dk kvs) ∧ ∀ o xs, w { nx := fun s' S' => S'[n]? = some (.dkf o xs kvs) ∧ D.nx s' (S'.set n (.dk kvs)), rt := fun d S' => S'[n]? = some (.dkf o xs kvs) ∧ D.rt d (S'.set n (.dk kvs)), xc := D.xc } s (S.set n (.dkf o xs kvs))) := by rw [vLock_s]; rfl
noncomputable def vPnil : (WP) := sld wPnil
theorem vPnil_s : vPnil = wPnil := sld_eq _
theorem vPnil_q (y0 : _) (y1 : _) (S : _) (k : _) : vPnil  y0 y1 S k = (k [] S) := by rw [vPnil_s]; rfl
noncomputable def vPcons : (WE) → (WE) → (WP) → (WP) := sld wPcons
theorem vPcons_s : vPcons = wPcons := sld_eq _
theorem vPcons_q (wk wv : WE) (wr : WP) (xc : _) (s : _) (S : _) (k : _) : vPcons wk wv wr xc s S k = (wk xc s S fun y S1 => wv xc s S1 fun d S2 => wr xc s S2 fun kvs S3 => ∃ key, keyD y = some key ∧ k ((key, d) :: kvs) S3) := by rw [vPcons_s]; rfl
noncomputable def vDisp : (WP) → (WE) := sld wDisp
theorem vDisp_s : vDisp = wDisp := sld_eq _
theorem vDisp_q (wp : WP) (xc : _) (s : _) (S : _) (k : _) : vDisp wp xc s S k = (wp xc s (S ++ [.dk []]) fun kvs S2 => S2[S.length]? = some (.dk []) ∧ kvs.length ≤ 15 ∧ k (.cell S.length) (S2.set S.length (.dk (mergeD [] kvs)))) := by rw [vDisp_s]; rfl
end Ab

namespace Ab
open PySem L2
def chg (p : Deal → Bool) (s : Str) (x : Deal) : Deal := if p x = true then { x with s := s } else x
def chgTo (p : Deal → Bool) (s : Str) (ks : List Deal) (i : Nat) : List Deal := (ks.take i).map (chg p s) ++ ks.drop i
def selK (p : Deal → Bool) (ks : List Deal) (j : Nat) : Bool := match ks[j]? with
  | some x => p x
  | none => false
def selTo (p : Deal → Bool) (ks : List Deal) (i : Nat) : List Nat := (List.range i).filter (selK p ks)
theorem AllOk.chg {m wn : Int} {ks : List Deal} (h : AllOk m wn ks) {p : Deal → Bool} {s : Str} (hs : s = "standing" ∨ s = "settled" ∨ s = "broken") : AllOk m wn (ks.map (chg p s)) := fun y hy => by
  obtain ⟨x, hx, rfl⟩ := List.mem_map.mp hy
  unfold Ab.chg
  split
  · exact (h x hx).put hs
  · exact h x hx
def ofM (mem : Int) (x : Deal) : Bool := decide (x.s = ("standing" : Str)) && (decide (x.a = mem) || decide (x.b = mem))
end Ab

namespace Ab
open PySem
def live (x : Deal) : Bool := decide (x.s ≠ ("broken" : Str))
def stnd (x : Deal) : Bool := decide (x.s = ("standing" : Str))
def entA (x : Deal) (i : Nat) (mem : Int) : List (List Int) := if live x = true ∧ x.a = mem then [[x.d, (i : Int), 0 - x.c]] else []
def entB (x : Deal) (i : Nat) (mem : Int) : List (List Int) := if live x = true ∧ x.b = mem then [[x.d, (i : Int), x.c]] else []
def entAt (ks : List Deal) (mem : Int) (i : Nat) : List (List Int) := match ks[i]? with
  | some x => entA x i mem ++ entB x i mem
  | none => []
def entTo (ks : List Deal) (mem : Int) (n : Nat) : List (List Int) := (List.range n).flatMap (entAt ks mem)
def entries (ks : List Deal) (mem : Int) : List (List Int) := sortT (entTo ks mem ks.length)
def onD (d : Int) (e : List Int) : Int := if gI e 0 = d then gI e 2 else 0
def dueD (d m : Int) (x : Deal) : Int := if live x = true ∧ x.d = d then (if x.b = m then x.c else 0) - (if x.a = m then x.c else 0) else 0
theorem sum_add {α : Type} {f g : α → Int} : ∀ {l : List α}, (l.map fun x => f x + g x).sum = (l.map f).sum + (l.map g).sum
  | [] => rfl
  | x :: l => by
    rw [List.map_cons, List.map_cons, List.map_cons, List.sum_cons, List.sum_cons, List.sum_cons, sum_add (l := l)]
    omega
def posA (x : Deal) (mem : Int) : List (Int × Int) := if stnd x = true ∧ x.a = mem then [(x.w, x.u)] else []
def posB (x : Deal) (mem : Int) : List (Int × Int) := if stnd x = true ∧ x.b = mem then [(x.w, - x.u)] else []
def posE (ks : List Deal) (mem : Int) : List (Int × Int) := ks.flatMap fun x => posA x mem ++ posB x mem
def posV (ks : List Deal) (mem : Int) (wn : Nat) : List Int := bumps Prod.fst Prod.snd (List.replicate wn 0) (posE ks mem)
def unA (ks : List Deal) (w mem : Int) : Int := (((ks.filter fun x => decide (x.w = w) && stnd x).filter fun x => decide (x.a = mem)).map fun x => x.u).sum
def unB (ks : List Deal) (w mem : Int) : Int := (((ks.filter fun x => decide (x.w = w) && stnd x).filter fun x => decide (x.b = mem)).map fun x => x.u).sum
end Ab

namespace Ab
open PySem
def heldL (hs : List (Nat × List D)) : List D := hs.map fun p => .tup [.cell p.1, .lst p.2]
structure Hd (L : Nat) (S : Sto) (h b q r : Nat) (cs : List Nat) (hs : List (Nat × List D)) : Prop where
  hl : S[h]? = some (.lst (heldL hs))
  ats : ∀ p ∈ hs, S[p.1]? = some (.lst p.2)
  ok : ∀ p ∈ hs, plainAll p.2 = true ∧ okEq 9 (.lst p.2) = true ∧ p.2.length ≤ L
  nd : (hs.map Prod.fst).Nodup
  out : ∀ p ∈ hs, p.1 ∉ cs ∧ p.1 ≠ b ∧ p.1 ≠ q ∧ p.1 ≠ r ∧ p.1 ≠ h
  hc : h ∉ cs
  hb : h ≠ b
  hq : h ≠ q
  hr : h ≠ r
variable {L : Nat} {S S' : Sto} {h b q r : Nat} {cs : List Nat} {hs : List (Nat × List D)} {m wn n : Int} {ks rs : List Deal}
theorem Hd.hlt (x : Hd L S h b q r cs hs) : h < S.length := (List.getElem?_eq_some_iff.mp x.hl).1
theorem Hd.lt (x : Hd L S h b q r cs hs) {p : Nat × List D} (hp : p ∈ hs) : p.1 < S.length := (List.getElem?_eq_some_iff.mp (x.ats p hp)).1
theorem Hd.app (x : Hd L S h b q r cs hs) (T : Sto) : Hd L (S ++ T) h b q r cs hs :=
  ⟨by rw [List.getElem?_append_left x.hlt]; exact x.hl, fun p hp => by rw [List.getElem?_append_left (x.lt hp)]; exact x.ats p hp, x.ok, x.nd, x.out, x.hc, x.hb, x.hq, x.hr⟩
theorem Hd.row (x : Hd L S h b q r cs hs) {c : Nat} {d : Cel} (hc : ∀ p ∈ hs, p.1 ≠ c) (hh : h ≠ c) : Hd L (S.set r d) h b q r (cs ++ [c]) hs := by
  refine ⟨by rw [List.getElem?_set_ne (Ne.symm x.hr)]; exact x.hl, fun p hp => by rw [List.getElem?_set_ne (Ne.symm (x.out p hp).2.2.2.1)]; exact x.ats p hp, x.ok, x.nd, fun p hp => ⟨fun z => ?_, (x.out p hp).2⟩, fun z => ?_, x.hb, x.hq, x.hr⟩
  · rcases List.mem_append.mp z with z | z
    · exact (x.out p hp).1 z
    · exact hc p hp (List.mem_singleton.mp z)
  · rcases List.mem_append.mp z with z | z
    · exact x.hc z
    · exact hh (List.mem_singleton.mp z)
theorem Hd.push (x : Hd L S h b q r cs hs) {c : Nat} {xs : List D} (e : S[c]? = some (.lst xs)) (px : plainAll xs = true) (ox : okEq 9 (.lst xs) = true) (lx : xs.length ≤ L) (nc : ∀ p ∈ hs, p.1 ≠ c) (h1 : c ∉ cs) (h2 : c ≠ b) (h3 : c ≠ q) (h4 : c ≠ r) (h5 : c ≠ h) :
    Hd L (S.set h (.lst (heldL (hs ++ [(c, xs)])))) h b q r cs (hs ++ [(c, xs)]) := by
  refine ⟨List.getElem?_set_self x.hlt, fun p hp => ?_, fun p hp => ?_, ?_, fun p hp => ?_, x.hc, x.hb, x.hq, x.hr⟩
  · rcases List.mem_append.mp hp with hp | hp
    · rw [List.getElem?_set_ne (Ne.symm (x.out p hp).2.2.2.2)]
      exact x.ats p hp
    · rw [List.mem_singleton] at hp
      subst hp
      rw [List.getElem?_set_ne (Ne.symm h5)]
      exact e
  · rcases List.mem_append.mp hp with hp | hp
    · exact x.ok p hp
    · rw [List.mem_singleton] at hp
      subst hp
      exact ⟨px, ox, lx⟩
  · rw [List.map_append, List.map_singleton]
    refine List.nodup_append.mpr ⟨x.nd, by simp, fun y hy z hz e2 => ?_⟩
    obtain ⟨p, hp, rfl⟩ := List.mem_map.mp hy
    rw [List.mem_singleton] at hz
    exact nc p hp (e2.trans hz)
  · rcases List.mem_append.mp hp with hp | hp
    · exact x.out p hp
    · rw [List.mem_singleton] at hp
      subst hp
      exact ⟨h1, h2, h3, h4, h5⟩
theorem Bk.setH (x : Bk S b q r cs m wn n ks rs) {c : Cel} (hb : h ≠ b) (hq : h ≠ q) (hr : h ≠ r) (hc : h ∉ cs) : Bk (S.set h c) b q r cs m wn n ks rs where
  ob := by rw [List.getElem?_set_ne hb]; exact x.ob
  kp := by rw [List.getElem?_set_ne hq]; exact x.kp
  rw := by rw [List.getElem?_set_ne hr]; exact x.rw
  nd := x.nd
  len := x.len
  row := fun i c' y e1 e2 => by
    rw [List.getElem?_set_ne (fun e => hc (by rw [e]; exact List.mem_of_getElem? e1))]
    exact x.row i c' y e1 e2
  qr := x.qr
  qc := x.qc
  rc := x.rc
theorem Hd.new (x : Hd L S h b q r cs hs) (y : Bk S b q r cs m wn n ks rs) (T : Sto) {j : Nat} {xs : List D} (e : T[j]? = some (.lst xs)) (px : plainAll xs = true) (ox : okEq 9 (.lst xs) = true) (lx : xs.length ≤ L) :
    Hd L ((S ++ T).set h (.lst (heldL (hs ++ [(S.length + j, xs)])))) h b q r cs (hs ++ [(S.length + j, xs)]) := by
  refine (x.app T).push (by rw [List.getElem?_append_right (Nat.le_add_right _ _), Nat.add_sub_cancel_left]; exact e) px ox lx (fun p hp => ?_) (fun z => ?_) ?_ ?_ ?_ ?_
  · have := x.lt hp; omega
  · have := y.cl z; omega
  · have := y.bl; omega
  · have := y.ql; omega
  · have := y.rl; omega
  · have := x.hlt; omega
def addH (z : D) (hs : List (Nat × List D)) : List (Nat × List D) := hs.map fun p => (p.1, p.2 ++ [z])
def cellN : D → Nat
  | .cell n => n
  | _ => 0
def rowOf (S : Sto) (c : Nat) : Deal := match S[c]? with
  | some (.lst [.int a, .int b, .int w, .int u, .int c, .int d, .int r, .str s]) => ⟨a, b, w, u, c, d, r, s⟩
  | _ => ⟨0, 0, 0, 0, 0, 0, 0, ""⟩
theorem rowOf_at {S : Sto} {c : Nat} {x : Deal} (h : S[c]? = some (.lst (dealV x))) : rowOf S c = x := by
  unfold rowOf
  rw [h]
  rfl
theorem Bk.rows (x : Bk S b q r cs m wn n ks rs) : cs.map (rowOf S) = rs := list_eq (by rw [List.length_map, x.len]) fun i y z e1 e2 => by
  rw [List.getElem?_map] at e1
  cases ec : cs[i]? with
  | none => rw [ec] at e1; cases e1
  | some c =>
    rw [ec] at e1
    cases e1
    exact rowOf_at (x.row i c z ec e2)
def daySum (ks : List Deal) (days : Nat) (ms : List Int) : List Int := bumps (fun e => gI e 0) (fun e => gI e 2) (List.replicate days 0) (ms.flatMap (entries ks))
def rngI (m : Nat) : List Int := (List.range m).map fun (n : Nat) => (n : Int)
theorem Hd.mono (x : Hd L S h b q r cs hs) {L' : Nat} (l : L ≤ L') : Hd L' S h b q r cs hs := ⟨x.hl, x.ats, fun p hp => ⟨(x.ok p hp).1, (x.ok p hp).2.1, Nat.le_trans (x.ok p hp).2.2 l⟩, x.nd, x.out, x.hc, x.hb, x.hq, x.hr⟩
structure HdT (z : D) (L i : Nat) (S : Sto) (h b q r : Nat) (cs : List Nat) (hs : List (Nat × List D)) : Prop where
  hl : S[h]? = some (.lst (heldL hs))
  ats : ∀ (j : Nat) (p : Nat × List D), hs[j]? = some p → S[p.1]? = some (.lst (if j < i then p.2 ++ [z] else p.2))
theorem Hd.t0 (x : Hd L S h b q r cs hs) {z : D} : HdT z L 0 S h b q r cs hs := ⟨x.hl, fun j p e => by rw [if_neg (Nat.not_lt_zero _)]; exact x.ats p (List.mem_of_getElem? e)⟩
theorem HdT.s {z : D} {i : Nat} (y : HdT z L i S h b q r cs hs) (nd : (hs.map Prod.fst).Nodup) (no : ∀ p ∈ hs, p.1 ≠ h) {p : Nat × List D} (e : hs[i]? = some p) : S[p.1]? = some (.lst p.2) ∧ HdT z L (i + 1) (S.set p.1 (.lst (p.2 ++ [z]))) h b q r cs hs := by
  have e1 := y.ats i p e
  rw [if_neg (Nat.lt_irrefl _)] at e1
  refine ⟨e1, by rw [List.getElem?_set_ne (no p (List.mem_of_getElem? e))]; exact y.hl, fun j p' e' => ?_⟩
  by_cases c : j = i
  · subst c
    rw [e] at e'
    cases e'
    rw [if_pos (Nat.lt_succ_self _)]
    exact List.getElem?_set_self (List.getElem?_eq_some_iff.mp e1).1
  · have hne : p.1 ≠ p'.1 := fun z => c (nodup_ix nd (x := p'.1) (by rw [List.getElem?_map, e']; rfl) (by rw [List.getElem?_map, e, ← z]; rfl))
    rw [List.getElem?_set_ne hne, y.ats j p' e']
    congr 2
    by_cases c2 : j < i
    · rw [if_pos c2, if_pos (by omega)]
    · rw [if_neg c2, if_neg (by omega)]
theorem HdT.bk {z : D} {i : Nat} (k : Bk S b q r cs m wn n ks rs) (x : Hd L S' h b q r cs hs) {p : Nat × List D} (hp : p ∈ hs) {c : Cel} : Bk (S.set p.1 c) b q r cs m wn n ks rs := k.setH (x.out p hp).2.1 (x.out p hp).2.2.1 (x.out p hp).2.2.2.1 (x.out p hp).1
end Ab

namespace Ab
open PySem L2
inductive Deed where
  | strike (x : Deal) | change (i c d : Int) | brk (i : Int) | all (mem : Int) | contr (i d : Int) | close
def Deed.l : Deed → List D
  | .strike x => .str "strike" :: termL x
  | .change i c d => [.str "change", .int i, .int c, .int d]
  | .brk i => [.str "break", .int i]
  | .all m => [.str "all", .int m]
  | .contr i d => [.str "contrary", .int i, .int d]
  | .close => [.str "close"]
def Deed.ok : Deed → Prop
  | .strike x => x.s = "standing"
  | _ => True
def dueA (e : Str) : Str := if e = "NoMember" then "member" else if e = "NoTerms" then "terms" else if e = "NoDeal" then "deal" else if e = "Closed" then "closed" else if e = "Gone" then "gone" else if e = "Settled" then "settled" else "standing"
def doneE (m wn n : Int) (ks : List Deal) : Deed → Option Str
  | .strike x => strikeE m wn n x
  | .change i c d => changeE n ks i c d
  | .brk i => standE ks i
  | .all _ => none
  | .contr i d => contrE n ks i d
  | .close => none
def doneK (n : Int) (ks : List Deal) : Deed → List Deal
  | .strike x => ks ++ [x]
  | .change i c d => match ks[i.toNat]? with
    | some x => ks.set i.toNat { x with c := c, d := d }
    | none => ks
  | .brk i => setSt ks i.toNat "broken"
  | .all m => ks.map (chg (ofM m) "broken")
  | .contr i d => match ks[i.toNat]? with
    | some x => ks ++ [contr x d]
    | none => ks
  | .close => closeK n ks
def doneV (n : Int) (ks : List Deal) : Deed → D
  | .strike _ => .int ks.length
  | .change _ _ _ => .non
  | .brk _ => .non
  | .all m => .lst (natL (selTo (ofM m) ks ks.length))
  | .contr _ _ => .int ks.length
  | .close => .lst (natL ((numsOn ks n).filter (stands ks)))
def doneN (n : Int) : Deed → Int
  | .close => n + 1
  | _ => n
def resD (m wn n : Int) (ks : List Deal) (dd : Deed) : D := match doneE m wn n ks dd with
  | none => .tup [.str "told", doneV n ks dd]
  | some e => .tup [.str "refused", .str (dueA e)]
def nextK (m wn n : Int) (ks : List Deal) (dd : Deed) : List Deal := match doneE m wn n ks dd with
  | none => doneK n ks dd
  | some _ => ks
def nextN (m wn n : Int) (ks : List Deal) (dd : Deed) : Int := match doneE m wn n ks dd with
  | none => doneN n dd
  | some _ => n
def sevenE (e : Str) : Prop := e = "NoMember" ∨ e = "NoTerms" ∨ e = "NoDeal" ∨ e = "Closed" ∨ e = "Gone" ∨ e = "Settled" ∨ e = "Standing"
structure Sums (kvs : List (Key × D)) (es : List (List Int)) : Prop where
  keys : ∀ p ∈ kvs, ∃ d : Int, p.1 = .inl d
  some : ∀ e ∈ es, valD kvs (.inl (gI e 0)) ≠ none
  val : ∀ (d : Int) (v : D), valD kvs (.inl d) = Option.some v → v = .int ((es.map (onD d)).sum)
  none : ∀ d : Int, valD kvs (.inl d) = Option.none → (es.map (onD d)).sum = 0
theorem Sums.nil : Sums [] [] where
  keys := fun p hp => absurd hp (by simp)
  some := fun e he => absurd he (by simp)
  val := fun d v h => by
    have h : (Option.none : Option D) = Option.some v := h
    cases h
  none := fun d _ => rfl
theorem Sums.get {kvs : List (Key × D)} {es : List (List Int)} (s : Sums kvs es) (d : Int) : (valD kvs (.inl d)).getD (.int 0) = .int ((es.map (onD d)).sum) := by
  cases e : valD kvs (.inl d) with
  | none => rw [s.none d e]; rfl
  | some v => exact s.val d v e
def markN (ks : List Deal) (js : List Nat) (s : Str) : List Deal := js.foldl (fun ks j => setSt ks j s) ks
def onSt (n : Int) (x : Deal) : Bool := decide (x.d = n) && stnd x
end Ab

namespace Ab
def sm : Nat → (Nat → Int) → Int
  | 0, _ => 0
  | n + 1, f => sm n f + f n
theorem sm_congr : ∀ {n : Nat} {f g : Nat → Int}, (∀ i, i < n → f i = g i) → sm n f = sm n g
  | 0, _, _, _ => rfl
  | n + 1, f, g, h => by
    unfold sm
    rw [sm_congr (n := n) (f := f) (g := g) fun i hi => h i (by omega), h n (by omega)]
theorem sm_add : ∀ (n : Nat) (f g : Nat → Int), sm n (fun i => f i + g i) = sm n f + sm n g
  | 0, _, _ => rfl
  | n + 1, f, g => by simp only [sm]; rw [sm_add n f g]; omega
theorem sm_mul : ∀ (n : Nat) (x : Int) (f : Nat → Int), sm n (fun i => x * f i) = x * sm n f
  | 0, _, _ => by unfold sm; rw [Int.mul_zero]
  | n + 1, x, f => by unfold sm; rw [sm_mul n x f, Int.mul_add]
theorem sm_zero : ∀ {n : Nat} {f : Nat → Int}, (∀ i, i < n → f i = 0) → sm n f = 0
  | 0, _, _ => rfl
  | n + 1, f, h => by
    unfold sm
    rw [sm_zero (n := n) (f := f) fun i hi => h i (by omega), h n (by omega)]
    rfl
theorem sm_one : ∀ {n r : Nat} {f : Nat → Int}, r < n → (∀ i, i < n → i ≠ r → f i = 0) → sm n f = f r
  | 0, _, _, h, _ => by omega
  | n + 1, r, f, hr, h => by
    unfold sm
    by_cases e : r = n
    · subst e
      rw [sm_zero fun i hi => h i (by omega) (by omega), Int.zero_add]
    · rw [sm_one (n := n) (r := r) (by omega) fun i hi hn => h i (by omega) hn, h n (by omega) (by omega), Int.add_zero]
theorem sm_two : ∀ {n r : Nat} {f : Nat → Int}, r + 1 < n → (∀ i, i < n → i ≠ r → i ≠ r + 1 → f i = 0) → sm n f = f r + f (r + 1)
  | 0, _, _, h, _ => by omega
  | n + 1, r, f, hr, h => by
    unfold sm
    by_cases e : r + 1 = n
    · subst e
      rw [sm_one (r := r) (by omega) fun i hi hn => h i (by omega) hn (by omega)]
    · rw [sm_two (n := n) (r := r) (by omega) fun i hi hn hm => h i (by omega) hn hm, h n (by omega) (by omega) (by omega), Int.add_zero]
theorem sm_front : ∀ (n : Nat) (f : Nat → Int), sm (n + 1) f = f 0 + sm n (fun i => f (i + 1))
  | 0, f => by unfold sm; unfold sm; omega
  | n + 1, f => by
    rw [sm, sm_front n f]
    rw [sm]
    omega
theorem sm_le : ∀ {n : Nat} {f g : Nat → Int}, (∀ i, i < n → f i ≤ g i) → sm n f ≤ sm n g
  | 0, _, _, _ => Int.le_refl _
  | n + 1, f, g, h => by
    unfold sm
    have := sm_le (n := n) (f := f) (g := g) fun i hi => h i (by omega)
    have := h n (by omega)
    omega
theorem sm_nonneg {n : Nat} {f : Nat → Int} (h : ∀ i, i < n → 0 ≤ f i) : 0 ≤ sm n f := by
  have := sm_le (n := n) (f := fun _ => 0) (g := f) h
  rw [sm_zero fun _ _ => rfl] at this
  exact this
theorem sm_abs : ∀ (n : Nat) (f : Nat → Int), ((sm n f).natAbs : Int) ≤ sm n fun i => ((f i).natAbs : Int)
  | 0, _ => Int.le_refl _
  | n + 1, f => by
    simp only [sm]
    have := sm_abs n f
    omega
def skp (i a : Nat) : Nat := if a < i then a else a + 1
theorem skp_ne (i a : Nat) : skp i a ≠ i := by unfold skp; split <;> omega
theorem skp_lt {i a n : Nat} (h : a < n) : skp i a < n + 1 := by unfold skp; split <;> omega
def usk (i r : Nat) : Nat := if r < i then r else r - 1
theorem skp_eq {i r a : Nat} (h : r ≠ i) : skp i a = r ↔ a = usk i r := by unfold skp usk; split <;> split <;> omega
theorem sm_skp : ∀ (n i : Nat) (f : Nat → Int), i < n + 1 → sm n (fun a => f (skp i a)) + f i = sm (n + 1) f
  | 0, i, f, h => by
    have : i = 0 := by omega
    subst this; rfl
  | n + 1, i, f, h => by
    rw [sm, sm]
    by_cases e : i = n + 1
    · subst e
      have : skp (n + 1) n = n := by unfold skp; split <;> omega
      rw [this, sm]
      rw [sm_congr (f := fun a => f (skp (n + 1) a)) (g := f) fun a ha => by
        have : skp (n + 1) a = a := by unfold skp; split <;> omega
        show f (skp (n + 1) a) = f a
        rw [this]]
    · have q := sm_skp n i f (by omega)
      have : skp i n = n + 1 := by unfold skp; split <;> omega
      rw [this]
      omega
def sg : Nat → Int
  | 0 => 1
  | n + 1 => - sg n
theorem sg_abs : ∀ n, (sg n).natAbs = 1
  | 0 => rfl
  | n + 1 => by unfold sg; rw [Int.natAbs_neg]; exact sg_abs n
def mnr (i : Nat) (v : Nat → Nat → Int) : Nat → Nat → Int := fun a c => v (skp i a) (c + 1)
def det : Nat → (Nat → Nat → Int) → Int
  | 0, _ => 1
  | n + 1, v => sm (n + 1) fun i => sg i * v i 0 * det n (mnr i v)
theorem det_congr : ∀ {n : Nat} {v w : Nat → Nat → Int}, (∀ i c, i < n → c < n → v i c = w i c) → det n v = det n w
  | 0, _, _, _ => rfl
  | n + 1, v, w, h => by
    unfold det
    refine sm_congr fun i hi => ?_
    rw [h i 0 hi (by omega), det_congr (n := n) (v := mnr i v) (w := mnr i w) fun a c ha hc => h _ _ (skp_lt ha) (by omega)]
def upv (v : Nat → Nat → Int) (r : Nat) (u : Nat → Int) : Nat → Nat → Int := fun i => if i = r then u else v i
theorem upv_at (v : Nat → Nat → Int) (r : Nat) (u : Nat → Int) : upv v r u r = u := by unfold upv; rw [if_pos rfl]
theorem upv_ne {v : Nat → Nat → Int} {r i : Nat} {u : Nat → Int} (h : i ≠ r) : upv v r u i = v i := by unfold upv; rw [if_neg h]
theorem upv_self (v : Nat → Nat → Int) (r : Nat) : upv v r (v r) = v := by
  funext i
  by_cases h : i = r
  · subst h; rw [upv_at]
  · rw [upv_ne h]
theorem upv_comm {v : Nat → Nat → Int} {r s : Nat} {u w : Nat → Int} (h : r ≠ s) : upv (upv v r u) s w = upv (upv v s w) r u := by
  funext i
  by_cases h1 : i = s
  · subst h1; rw [upv_at, upv_ne (Ne.symm h), upv_at]
  · rw [upv_ne h1]
    by_cases h2 : i = r
    · subst h2; rw [upv_at, upv_at]
    · rw [upv_ne h2, upv_ne h2, upv_ne h1]
theorem mnr_same (v : Nat → Nat → Int) (r : Nat) (u : Nat → Int) : mnr r (upv v r u) = mnr r v := by
  funext a c
  unfold mnr
  rw [upv_ne (skp_ne r a)]
theorem mnr_upv {v : Nat → Nat → Int} {i r : Nat} (u : Nat → Int) (h : r ≠ i) : mnr i (upv v r u) = upv (mnr i v) (usk i r) (fun c => u (c + 1)) := by
  funext a c
  by_cases e : a = usk i r
  · have := (skp_eq h).mpr e
    unfold mnr
    rw [this, upv_at, e, upv_at]
  · rw [upv_ne e]
    unfold mnr
    rw [upv_ne fun q => e ((skp_eq h).mp q)]
theorem det_lin : ∀ {n : Nat} (v : Nat → Nat → Int) {r : Nat} (x y : Int) (u w : Nat → Int), r < n → det n (upv v r fun c => x * u c + y * w c) = x * det n (upv v r u) + y * det n (upv v r w)
  | 0, _, _, _, _, _, _, h => by omega
  | n + 1, v, r, x, y, u, w, hr => by
    unfold det
    rw [← sm_mul, ← sm_mul, ← sm_add]
    refine sm_congr fun i hi => ?_
    by_cases e : r = i
    · subst e
      simp only [upv_at, mnr_same]
      grind
    · rw [mnr_upv _ e, mnr_upv _ e, mnr_upv _ e, upv_ne (Ne.symm e), upv_ne (Ne.symm e), upv_ne (Ne.symm e)]
      have hu : usk i r < n := by unfold usk; split <;> omega
      rw [det_lin (mnr i v) x y (fun c => u (c + 1)) (fun c => w (c + 1)) hu]
      grind
theorem det_sum {n : Nat} (v : Nat → Nat → Int) {r : Nat} (hr : r < n) (Y : Nat → Int) (u : Nat → Nat → Int) : ∀ m, det n (upv v r fun c => sm m fun k => Y k * u k c) = sm m fun k => Y k * det n (upv v r (u k))
  | 0 => by
    have := det_lin v 0 0 (fun _ => 0) (fun _ => 0) hr
    simp only [Int.zero_mul, Int.add_zero] at this
    unfold sm
    exact this
  | m + 1 => by
    have := det_lin v 1 (Y m) (fun c => sm m fun k => Y k * u k c) (u m) hr
    simp only [Int.one_mul] at this
    unfold sm
    rw [this, det_sum v hr Y u m]
theorem det_adj : ∀ {n : Nat} {v : Nat → Nat → Int} {r : Nat}, r + 1 < n → v r = v (r + 1) → det n v = 0
  | 0, _, _, h, _ => by omega
  | n + 1, v, r, hr, h => by
    unfold det
    rw [sm_two hr fun i hi h1 h2 => ?_]
    · have e : mnr r v = mnr (r + 1) v := by
        funext a c
        unfold mnr skp
        by_cases q1 : a < r
        · rw [if_pos q1, if_pos (by omega)]
        · by_cases q2 : a = r
          · subst q2
            rw [if_neg (by omega), if_pos (by omega), h]
          · rw [if_neg q1, if_neg (by omega)]
      rw [e, h]
      show sg r * v (r + 1) 0 * det n (mnr (r + 1) v) + - sg r * v (r + 1) 0 * det n (mnr (r + 1) v) = 0
      grind
    · rw [det_adj (n := n) (v := mnr i v) (r := if i < r then r - 1 else r) (by split <;> omega) ?_, Int.mul_zero]
      funext c
      unfold mnr
      by_cases q : i < r
      · rw [if_pos q]
        have e1 : skp i (r - 1) = r := by unfold skp; split <;> omega
        have e2 : skp i (r - 1 + 1) = r + 1 := by unfold skp; split <;> omega
        rw [e1, e2, h]
      · rw [if_neg q]
        have e1 : skp i r = r := by unfold skp; split <;> omega
        have e2 : skp i (r + 1) = r + 1 := by unfold skp; split <;> omega
        rw [e1, e2, h]
theorem det_swap {n : Nat} {v : Nat → Nat → Int} {r : Nat} (hr : r + 1 < n) : det n (upv (upv v r (v (r + 1))) (r + 1) (v r)) = - det n v := by
  have D : ∀ a b : Nat → Int, det n (upv (upv v r (fun c => 1 * a c + 1 * b c)) (r + 1) (fun c => 1 * a c + 1 * b c)) = det n (upv (upv v r a) (r + 1) a) + det n (upv (upv v r a) (r + 1) b) + det n (upv (upv v r b) (r + 1) a) + det n (upv (upv v r b) (r + 1) b) := fun a b => by
    rw [det_lin _ 1 1 a b hr]
    have C : ∀ x y : Nat → Int, upv (upv v r x) (r + 1) y = upv (upv v (r + 1) y) r x := fun x y => upv_comm (by omega)
    rw [C _ a, C _ b, det_lin _ 1 1 a b (by omega : r < n), det_lin _ 1 1 a b (by omega : r < n), C, C, C, C]
    omega
  have Z : ∀ a : Nat → Int, det n (upv (upv v r a) (r + 1) a) = 0 := fun a => det_adj hr (by rw [upv_at, upv_ne (by omega), upv_at])
  have := D (v r) (v (r + 1))
  rw [Z, Z, Z, upv_self, upv_self] at this
  omega
theorem det_eq0 : ∀ (k : Nat) {n : Nat} {v : Nat → Nat → Int} {p : Nat}, p + k + 1 < n → v p = v (p + k + 1) → det n v = 0
  | 0, n, v, p, h, e => det_adj h e
  | k + 1, n, v, p, h, e => by
    have q := det_swap (v := v) (r := p + k + 1) h
    rw [det_eq0 k (p := p) (by omega) ?_] at q
    · omega
    · rw [upv_ne (by omega), upv_ne (by omega), upv_ne (by omega), upv_at, e]
      rfl
theorem det_rep {n : Nat} {v : Nat → Nat → Int} {p q : Nat} (hp : p < n) (hq : q < n) (h : p ≠ q) (e : v p = v q) : det n v = 0 := by
  rcases Nat.lt_or_gt_of_ne h with h | h
  · exact det_eq0 (q - p - 1) (p := p) (by omega) (by rw [e]; congr 1; omega)
  · exact det_eq0 (p - q - 1) (p := q) (by omega) (by rw [← e]; congr 1; omega)
theorem det_cramer {n : Nat} (v : Nat → Nat → Int) {r : Nat} (hr : r < n) (Y : Nat → Int) : det n (upv v r fun c => sm n fun k => Y k * v k c) = Y r * det n v := by
  rw [det_sum v hr Y v n, sm_one hr fun k hk hn => ?_, upv_self]
  rw [det_rep hr hk (Ne.symm hn) (by rw [upv_at, upv_ne hn]), Int.mul_zero]
theorem det_last : ∀ {n : Nat} {v : Nat → Nat → Int}, (∀ c, c < n + 1 → v n c = if c = n then 1 else 0) → det (n + 1) v = det n v
  | 0, v, h => by
    have := h 0 (by omega)
    rw [if_pos rfl] at this
    show 0 + sg 0 * v 0 0 * 1 = 1
    rw [this]; rfl
  | n + 1, v, h => by
    rw [det, sm, h 0 (by omega), if_neg (by omega), Int.mul_zero, Int.zero_mul, Int.add_zero, det]
    refine sm_congr fun i hi => ?_
    rw [det_last (n := n) (v := mnr i v) fun c hc => ?_]
    have e : skp i n = n + 1 := by unfold skp; split <;> omega
    unfold mnr
    rw [e, h (c + 1) (by omega)]
    by_cases q : c = n
    · rw [if_pos (by omega), if_pos q]
    · rw [if_neg (by omega), if_neg q]
def prN : Nat → (Nat → Int) → Int
  | 0, _ => 1
  | n + 1, f => f 0 * prN n fun i => f (i + 1)
theorem det_abs : ∀ {n : Nat} {v : Nat → Nat → Int} {B : Nat → Nat}, (∀ c, c < n → (sm n fun i => ((v i c).natAbs : Int)) ≤ B c) → ((det n v).natAbs : Int) ≤ prN n fun c => B c
  | 0, _, _, _ => by unfold det prN; decide
  | n + 1, v, B, h => by
    unfold det prN
    have P : 0 ≤ prN n fun c => (B (c + 1) : Int) := by
      have : ∀ (n : Nat) (B : Nat → Nat), 0 ≤ prN n fun c => (B c : Int) := fun n => by
        induction n with
        | zero => intro B; unfold prN; omega
        | succ n ih => intro B; unfold prN; exact Int.mul_nonneg (Int.natCast_nonneg _) (ih fun c => B (c + 1))
      exact this n fun c => B (c + 1)
    refine Int.le_trans (sm_abs _ _) ?_
    refine Int.le_trans (sm_le (g := fun i => (prN n fun c => (B (c + 1) : Int)) * ((v i 0).natAbs : Int)) fun i hi => ?_) ?_
    · show (((sg i * v i 0 * det n (mnr i v)).natAbs : Nat) : Int) ≤ (prN n fun c => (B (c + 1) : Int)) * ((v i 0).natAbs : Int)
      rw [Int.natAbs_mul, Int.natAbs_mul, sg_abs, Nat.one_mul, Int.natCast_mul, Int.mul_comm]
      refine Int.mul_le_mul_of_nonneg_right (det_abs (B := fun c => B (c + 1)) fun c hc => ?_) (by omega)
      have q := sm_skp n i (fun i => ((v i (c + 1)).natAbs : Int)) hi
      have q2 := h (c + 1) (by omega)
      have : sm n (fun a => ((mnr i v a c).natAbs : Int)) = sm n fun a => ((v (skp i a) (c + 1)).natAbs : Int) := rfl
      rw [this]
      have : 0 ≤ ((v i (c + 1)).natAbs : Int) := by omega
      omega
    · rw [sm_mul, Int.mul_comm]
      exact Int.mul_le_mul_of_nonneg_right (h 0 (by omega)) P
theorem sm_comm : ∀ (n m : Nat) (f : Nat → Nat → Int), sm n (fun i => sm m fun j => f i j) = sm m fun j => sm n fun i => f i j
  | 0, m, f => by simp only [sm]; rw [sm_zero fun _ _ => rfl]
  | n + 1, m, f => by simp only [sm]; rw [sm_comm n m f, ← sm_add]
def sw (p q c : Nat) : Nat := if c = p then q else if c = q then p else c
theorem det_sw0 (n : Nat) (v : Nat → Nat → Int) : det (n + 2) (fun i c => v i (sw 0 1 c)) = - det (n + 2) v := by
  let M : Nat → Nat → Int := fun i j => det n fun a c => v (skp i (skp (usk i j) a)) (c + 2)
  let F : Nat → Nat → Int := fun i j => if i = j then 0 else sg i * sg (usk i j) * M i j * v i 0 * v j 1
  have hM : ∀ i j, i ≠ j → M i j = M j i := fun i j h => by
    refine det_congr fun a c _ _ => ?_
    have : skp i (skp (usk i j) a) = skp j (skp (usk j i) a) := by
      unfold skp usk
      (repeat' split) <;> omega
    show v _ _ = v _ _
    rw [this]
  have hs : ∀ i j, i ≠ j → sg i * sg (usk i j) = - (sg j * sg (usk j i)) := fun i j h => by
    have key : ∀ i j, i < j → sg i * sg (usk i j) = - (sg j * sg (usk j i)) := fun i j h => by
      have e1 : usk i j = j - 1 := by unfold usk; rw [if_neg (by omega)]
      have e2 : usk j i = i := by unfold usk; rw [if_pos h]
      obtain ⟨m, rfl⟩ : ∃ m, j = m + 1 := ⟨j - 1, by omega⟩
      rw [e1, e2, Nat.add_sub_cancel]
      simp only [sg]
      grind
    rcases Nat.lt_or_gt_of_ne h with h | h
    · exact key i j h
    · have := key j i h
      omega
  have hu : ∀ i a, usk i (skp i a) = a := fun i a => by unfold usk skp; (repeat' split) <;> omega
  have e1 : det (n + 2) v = sm (n + 2) fun i => sm (n + 2) fun j => F i j := by
    rw [det]
    refine sm_congr fun i hi => ?_
    rw [det, ← sm_mul]
    have := sm_skp (n + 1) i (F i) hi
    have z : F i i = 0 := if_pos rfl
    rw [z, Int.add_zero] at this
    rw [← this]
    refine sm_congr fun a ha => ?_
    show _ = if i = skp i a then (0 : Int) else _
    rw [if_neg (Ne.symm (skp_ne i a))]
    show sg i * v i 0 * (sg a * v (skp i a) 1 * det n (mnr a (mnr i v))) = sg i * sg (usk i (skp i a)) * det n (fun b c => v (skp i (skp (usk i (skp i a)) b)) (c + 2)) * v i 0 * v (skp i a) 1
    rw [hu]
    have : mnr a (mnr i v) = fun b c => v (skp i (skp a b)) (c + 2) := rfl
    rw [this]
    grind
  have e2 : det (n + 2) (fun i c => v i (sw 0 1 c)) = sm (n + 2) fun i => sm (n + 2) fun j => if i = j then 0 else sg i * sg (usk i j) * M i j * v i 1 * v j 0 := by
    rw [det]
    refine sm_congr fun i hi => ?_
    rw [det, ← sm_mul]
    have := sm_skp (n + 1) i (fun j => if i = j then 0 else sg i * sg (usk i j) * M i j * v i 1 * v j 0) hi
    rw [if_pos rfl, Int.add_zero] at this
    rw [← this]
    refine sm_congr fun a ha => ?_
    rw [if_neg (Ne.symm (skp_ne i a))]
    show sg i * v i 1 * (sg a * v (skp i a) 0 * det n (mnr a (mnr i fun i c => v i (sw 0 1 c)))) = sg i * sg (usk i (skp i a)) * det n (fun b c => v (skp i (skp (usk i (skp i a)) b)) (c + 2)) * v i 1 * v (skp i a) 0
    rw [hu]
    have : mnr a (mnr i fun i c => v i (sw 0 1 c)) = fun b c => v (skp i (skp a b)) (c + 2) := by
      funext b c
      show v _ (sw 0 1 (c + 1 + 1)) = _
      have : sw 0 1 (c + 1 + 1) = c + 2 := by unfold sw; rw [if_neg (by omega), if_neg (by omega)]
      rw [this]
    rw [this]
    grind
  rw [e1, e2, sm_comm]
  have : ∀ x : Int, -x = (-1) * x := fun x => by omega
  rw [this, ← sm_mul]
  refine sm_congr fun j hj => ?_
  rw [← sm_mul]
  refine sm_congr fun i hi => ?_
  show (if i = j then (0 : Int) else _) = -1 * (if j = i then (0 : Int) else _)
  by_cases h : i = j
  · subst h
    rw [if_pos rfl, if_pos rfl]
    rfl
  · rw [if_neg h, if_neg (Ne.symm h), hM j i (Ne.symm h), hs j i (Ne.symm h)]
    grind
theorem det_swa : ∀ (p : Nat) {n : Nat} (v : Nat → Nat → Int), p + 1 < n → det n (fun i c => v i (sw p (p + 1) c)) = - det n v
  | 0, n, v, h => by
    obtain ⟨m, rfl⟩ : ∃ m, n = m + 2 := ⟨n - 2, by omega⟩
    exact det_sw0 m v
  | p + 1, n, v, h => by
    obtain ⟨m, rfl⟩ : ∃ m, n = m + 1 := ⟨n - 1, by omega⟩
    have : ∀ x : Int, -x = (-1) * x := fun x => by omega
    rw [this, det, det, ← sm_mul]
    refine sm_congr fun i hi => ?_
    have e0 : sw (p + 1) (p + 1 + 1) 0 = 0 := by unfold sw; rw [if_neg (by omega), if_neg (by omega)]
    have e1 : mnr i (fun i c => v i (sw (p + 1) (p + 1 + 1) c)) = fun a c => mnr i v a (sw p (p + 1) c) := by
      funext a c
      show v _ _ = v _ _
      have : sw (p + 1) (p + 1 + 1) (c + 1) = sw p (p + 1) c + 1 := by unfold sw; (repeat' split) <;> omega
      rw [this]
    show sg i * v i (sw (p + 1) (p + 1 + 1) 0) * _ = _
    rw [e0, e1, det_swa p (mnr i v) (by omega)]
    grind
theorem det_swk : ∀ (k : Nat) {n p : Nat} (v : Nat → Nat → Int), p + k + 1 < n → det n (fun i c => v i (sw p (p + k + 1) c)) = - det n v
  | 0, n, p, v, h => det_swa p v h
  | k + 1, n, p, v, h => by
    have e : (fun i c => v i (sw p (p + (k + 1) + 1) c)) = fun i c => v i (sw (p + k + 1) (p + k + 1 + 1) (sw p (p + k + 1) (sw (p + k + 1) (p + k + 1 + 1) c))) := by
      funext i c
      have : sw p (p + (k + 1) + 1) c = sw (p + k + 1) (p + k + 1 + 1) (sw p (p + k + 1) (sw (p + k + 1) (p + k + 1 + 1) c)) := by unfold sw; (repeat' split) <;> omega
      rw [this]
    rw [e, det_swa (p + k + 1) (fun i c => v i (sw (p + k + 1) (p + k + 1 + 1) (sw p (p + k + 1) c))) h, det_swk k (fun i c => v i (sw (p + k + 1) (p + k + 1 + 1) c)) (by omega), det_swa (p + k + 1) v h]
    omega
theorem sw_comm (p q : Nat) : sw p q = sw q p := by funext c; unfold sw; (repeat' split) <;> omega
theorem sw_self (p c : Nat) : sw p p c = c := by unfold sw; (repeat' split) <;> omega
theorem det_swp {n p q : Nat} (v : Nat → Nat → Int) (hp : p < n) (hq : q < n) : det n (fun i c => v i (sw p q c)) = det n v ∨ det n (fun i c => v i (sw p q c)) = - det n v := by
  rcases Nat.lt_trichotomy p q with h | h | h
  · obtain ⟨k, rfl⟩ : ∃ k, q = p + k + 1 := ⟨q - p - 1, by omega⟩
    exact .inr (det_swk k v (by omega))
  · subst h
    simp only [sw_self]
    exact .inl trivial
  · obtain ⟨k, rfl⟩ : ∃ k, p = q + k + 1 := ⟨p - q - 1, by omega⟩
    rw [sw_comm]
    exact .inr (det_swk k v (by omega))

theorem det_mul {n r : Nat} (v : Nat → Nat → Int) (x : Int) (u : Nat → Int) (h : r < n) : det n (upv v r fun c => x * u c) = x * det n (upv v r u) := by
  have := det_lin v x 0 u (fun _ => 0) h
  simp only [Int.zero_mul, Int.add_zero] at this
  exact this
theorem det_add {n r : Nat} (v : Nat → Nat → Int) (y : Int) (u w : Nat → Int) (h : r < n) : det n (upv v r fun c => u c + y * w c) = det n (upv v r u) + y * det n (upv v r w) := by
  have := det_lin v 1 y u w h
  simp only [Int.one_mul] at this
  exact this
structure Elim (n w t : Nat) (A G : Nat → Nat → Int) (d : Int) : Prop where
  hd : d ≠ 0
  ht : t ≤ n
  hw : n ≤ w
  eq : ∀ i, i < n → ∀ j, j < w → d * A i j = sm t (fun k => G k j * A i k) + if t ≤ i then G i j else 0
  dg : ∀ k, k < t → ∀ j, j < t → G k j = if k = j then d else 0
  dt : det t (fun j i => A i j) = d
theorem Elim.init {n w : Nat} (A : Nat → Nat → Int) (h : n ≤ w) : Elim n w 0 A A 1 :=
  ⟨by omega, by omega, h, fun i _ j _ => by rw [if_pos (Nat.zero_le _)]; simp only [sm]; omega, fun k h => by omega, rfl⟩
theorem sw_lt {t p q c : Nat} (h : c < t) (hp : t ≤ p) (hq : t ≤ q) : sw p q c = c := by unfold sw; rw [if_neg (by omega), if_neg (by omega)]
theorem sw_ge {t p q c : Nat} (h : t ≤ c) (hp : t ≤ p) (hq : t ≤ q) : t ≤ sw p q c := by unfold sw; (repeat' split) <;> omega
theorem sw_ln {n p q c : Nat} (h : c < n) (hp : p < n) (hq : q < n) : sw p q c < n := by unfold sw; (repeat' split) <;> omega
theorem Elim.swap {n w t : Nat} {A G : Nat → Nat → Int} {d : Int} (E : Elim n w t A G d) {p q : Nat} (hp : t ≤ p) (hq : t ≤ q) (hpn : p < n) (hqn : q < n) : Elim n w t (fun i => A (sw p q i)) (fun i => G (sw p q i)) d := by
  refine ⟨E.hd, E.ht, E.hw, fun i hi j hj => ?_, fun k hk j hj => ?_, ?_⟩
  · rw [E.eq _ (sw_ln hi hpn hqn) j hj]
    congr 1
    · exact sm_congr fun k hk => by rw [sw_lt hk hp hq]
    · by_cases h : t ≤ i
      · rw [if_pos h, if_pos (sw_ge h hp hq)]
      · rw [if_neg h, sw_lt (by omega) hp hq, if_neg h]
  · show G (sw p q k) j = _
    rw [sw_lt hk hp hq]
    exact E.dg k hk j hj
  · rw [← E.dt]
    exact det_congr fun j i hj hi => by rw [sw_lt hi hp hq]
theorem Elim.lowG {n w t : Nat} {A G : Nat → Nat → Int} {d : Int} (E : Elim n w t A G d) {k j : Nat} (hk : k < t) (hj : j < w) : G k j = det t (upv (fun j i => A i j) k fun i => A i j) := by
  have h1 := det_cramer (n := t) (fun j i => A i j) hk (fun k => G k j)
  have h2 : det t (upv (fun j i => A i j) k fun c => sm t fun k => G k j * A c k) = d * det t (upv (fun j i => A i j) k fun i => A i j) := by
    rw [← det_mul _ _ _ hk]
    refine det_congr fun i c hi hc => ?_
    by_cases e : i = k
    · subst e
      have := E.ht
      rw [upv_at, upv_at]
      have := E.eq c (by omega) j hj
      rw [if_neg (by omega)] at this
      omega
    · rw [upv_ne e, upv_ne e]
  rw [h2, E.dt] at h1
  have h3 : d * det t (upv (fun j i => A i j) k fun i => A i j) = d * G k j := by rw [h1, Int.mul_comm]
  exact (Int.eq_of_mul_eq_mul_left E.hd h3).symm
def ext (A : Nat → Nat → Int) (t r i : Nat) : Nat → Int := A (if i < t then i else r)
theorem Elim.highG {n w t : Nat} {A G : Nat → Nat → Int} {d : Int} (E : Elim n w t A G d) {k j : Nat} (hk : t ≤ k) (hn : k < n) (hj : j < w) : G k j = det (t + 1) (upv (fun j i => ext A t k i j) t fun i => ext A t k i j) := by
  let v : Nat → Nat → Int := fun j i => ext A t k i j
  have h2 : det (t + 1) (upv v t fun i => ext A t k i j) * d = det (t + 1) (upv v t fun i => sm t (fun m => G m j * v m i) + G k j * if i = t then 1 else 0) := by
    rw [Int.mul_comm, ← det_mul _ _ _ (Nat.lt_succ_self t)]
    refine det_congr fun i c hi hc => ?_
    by_cases e : i = t
    · subst e
      rw [upv_at, upv_at]
      show d * ext A i k c j = sm i (fun m => G m j * ext A i k c m) + _
      unfold ext
      by_cases h : c < i
      · have := E.eq c (by omega) j hj
        rw [if_neg (by omega)] at this
        rw [if_pos h, if_neg (by omega)]
        omega
      · have := E.eq k hn j hj
        rw [if_pos hk] at this
        rw [if_neg h, if_pos (by omega)]
        omega
    · rw [upv_ne e, upv_ne e]
  have h3 := det_add (n := t + 1) v (G k j) (fun i => sm t (fun m => G m j * v m i)) (fun i => if i = t then 1 else 0) (Nat.lt_succ_self t)
  rw [h3, det_sum v (Nat.lt_succ_self t) (fun m => G m j) v t, sm_zero (fun m hm => by
    rw [det_rep (p := m) (q := t) (by omega) (by omega) (by omega) (by rw [upv_at, upv_ne (by omega)]), Int.mul_zero]), Int.zero_add, det_last (n := t) (v := upv v t fun i => if i = t then 1 else 0) (fun c hc => by rw [upv_at])] at h2
  have h4 : det t (upv v t fun i => if i = t then 1 else 0) = d := by
    rw [← E.dt]
    refine det_congr fun i c hi hc => ?_
    rw [upv_ne (by omega)]
    show ext A t k c i = _
    unfold ext
    rw [if_pos hc]
  rw [h4] at h2
  exact (Int.eq_of_mul_eq_mul_right E.hd h2).symm
theorem Elim.pivot {n w t : Nat} {A G : Nat → Nat → Int} {d : Int} (E : Elim n w t A G d) (h : t < n) : G t t = det (t + 1) (fun j i => A i j) := by
  have := E.hw
  rw [E.highG (Nat.le_refl t) h (by omega : t < w)]
  refine det_congr fun j i hj hi => ?_
  have e : ∀ i, i < t + 1 → (if i < t then i else t) = i := fun i hi => by split <;> omega
  by_cases q : j = t
  · subst q
    rw [upv_at]
    unfold ext
    rw [e i hi]
  · rw [upv_ne q]
    unfold ext
    rw [e i hi]
theorem Elim.eqn {n w t : Nat} {A G : Nat → Nat → Int} {d : Int} (E : Elim n w t A G d) (h : t < n) {i j : Nat} (hi : i < n) (hj : j < w) :
    d * (G t t * A i j) = sm t (fun k => (G t t * G k j - G k t * G t j) * A i k) + d * (G t j * A i t) + if t + 1 ≤ i then G t t * G i j - G i t * G t j else 0 := by
  have := E.hw
  have h1 := E.eq i hi j hj
  have h2 := E.eq i hi t (by omega)
  have h3 : sm t (fun k => (G t t * G k j - G k t * G t j) * A i k) = G t t * sm t (fun k => G k j * A i k) + (- G t j) * sm t (fun k => G k t * A i k) := by
    rw [← sm_mul, ← sm_mul, ← sm_add]
    exact sm_congr fun k hk => by grind
  rw [h3]
  by_cases c1 : t + 1 ≤ i
  · rw [if_pos c1]
    rw [if_pos (by omega)] at h1 h2
    grind
  · rw [if_neg c1]
    by_cases c2 : t ≤ i
    · have : i = t := by omega
      subst this
      rw [if_pos c2] at h1 h2
      grind
    · rw [if_neg c2] at h1 h2
      grind
theorem Elim.divs {n w t : Nat} {A G : Nat → Nat → Int} {d : Int} (E : Elim n w t A G d) (h : t < n) (hp : G t t ≠ 0) {k j : Nat} (hk : k < n) (hkt : k ≠ t) (hj : j < w) : ∃ z, G t t * G k j - G k t * G t j = d * z := by
  have hpv := E.pivot h
  rcases Nat.lt_or_gt_of_ne hkt with hk1 | hk1
  · refine ⟨det (t + 1) (upv (fun j i => A i j) k fun i => A i j), ?_⟩
    let Y : Nat → Int := fun m => if m = t then d * G t j else G t t * G m j - G m t * G t j
    have h1 := det_cramer (n := t + 1) (fun j i => A i j) (show k < t + 1 by omega) Y
    have h2 : det (t + 1) (upv (fun j i => A i j) k fun c => sm (t + 1) fun m => Y m * A c m) = (d * G t t) * det (t + 1) (upv (fun j i => A i j) k fun i => A i j) := by
      rw [← det_mul _ _ _ (show k < t + 1 by omega)]
      refine det_congr fun i c hi hc => ?_
      by_cases e : i = k
      · subst e
        rw [upv_at, upv_at]
        have := E.eqn h (i := c) (by omega) hj
        rw [if_neg (by omega)] at this
        simp only [sm]
        have e1 : Y t = d * G t j := if_pos rfl
        have e2 : sm t (fun m => Y m * A c m) = sm t fun k => (G t t * G k j - G k t * G t j) * A c k := sm_congr fun m hm => by
          have : Y m = G t t * G m j - G m t * G t j := if_neg (by omega)
          rw [this]
        rw [e1, e2]
        grind
      · rw [upv_ne e, upv_ne e]
    have e1 : Y k = G t t * G k j - G k t * G t j := if_neg (by omega)
    rw [h2, ← hpv, e1] at h1
    have h3 : G t t * (G t t * G k j - G k t * G t j) = G t t * (d * det (t + 1) (upv (fun j i => A i j) k fun i => A i j)) := by grind
    exact Int.eq_of_mul_eq_mul_left hp h3
  · refine ⟨det (t + 2) (upv (fun j i => ext A (t + 1) k i j) (t + 1) fun i => ext A (t + 1) k i j), ?_⟩
    let v : Nat → Nat → Int := fun j i => ext A (t + 1) k i j
    let Y : Nat → Int := fun m => if m = t then d * G t j else G t t * G m j - G m t * G t j
    have eY : ∀ c, sm (t + 1) (fun m => Y m * A c m) = sm t (fun k => (G t t * G k j - G k t * G t j) * A c k) + d * (G t j * A c t) := fun c => by
      simp only [sm]
      have e1 : Y t = d * G t j := if_pos rfl
      have e2 : sm t (fun m => Y m * A c m) = sm t fun k => (G t t * G k j - G k t * G t j) * A c k := sm_congr fun m hm => by
        have : Y m = G t t * G m j - G m t * G t j := if_neg (by omega)
        rw [this]
      rw [e1, e2]
      grind
    have h2 : (d * G t t) * det (t + 2) (upv v (t + 1) fun i => ext A (t + 1) k i j) = det (t + 2) (upv v (t + 1) fun i => sm (t + 1) (fun m => Y m * v m i) + (G t t * G k j - G k t * G t j) * if i = t + 1 then 1 else 0) := by
      rw [← det_mul _ _ _ (show t + 1 < t + 2 by omega)]
      refine det_congr fun i c hi hc => ?_
      by_cases e : i = t + 1
      · subst e
        rw [upv_at, upv_at]
        show d * G t t * ext A (t + 1) k c j = sm (t + 1) (fun m => Y m * ext A (t + 1) k c m) + _
        unfold ext
        by_cases hc1 : c < t + 1
        · have := E.eqn h (i := c) (by omega) hj
          rw [if_neg (by omega)] at this
          rw [if_pos hc1, if_neg (by omega), eY]
          grind
        · have := E.eqn h (i := k) hk hj
          rw [if_pos (by omega)] at this
          rw [if_neg hc1, if_pos (by omega), eY]
          grind
      · rw [upv_ne e, upv_ne e]
    have h3 := det_add (n := t + 2) v (G t t * G k j - G k t * G t j) (fun i => sm (t + 1) (fun m => Y m * v m i)) (fun i => if i = t + 1 then 1 else 0) (show t + 1 < t + 2 by omega)
    rw [h3, det_sum v (show t + 1 < t + 2 by omega) Y v (t + 1), sm_zero (fun m hm => by
      rw [det_rep (p := m) (q := t + 1) (by omega) (by omega) (by omega) (by rw [upv_at, upv_ne (by omega)]), Int.mul_zero]), Int.zero_add, det_last (n := t + 1) (v := upv v (t + 1) fun i => if i = t + 1 then 1 else 0) (fun c hc => by rw [upv_at])] at h2
    have h4 : det (t + 1) (upv v (t + 1) fun i => if i = t + 1 then 1 else 0) = G t t := by
      rw [hpv]
      refine det_congr fun i c hi hc => ?_
      rw [upv_ne (by omega)]
      show ext A (t + 1) k c i = _
      unfold ext
      rw [if_pos hc]
    rw [h4] at h2
    have h5 : G t t * (G t t * G k j - G k t * G t j) = G t t * (d * det (t + 2) (upv v (t + 1) fun i => ext A (t + 1) k i j)) := by grind
    exact Int.eq_of_mul_eq_mul_left hp h5
theorem Elim.step {n w t : Nat} {A G G' : Nat → Nat → Int} {d : Int} (E : Elim n w t A G d) (h : t < n) (hp : G t t ≠ 0) (h1 : ∀ j, j < w → G' t j = G t j) (h2 : ∀ k, k < n → k ≠ t → ∀ j, j < w → d * G' k j = G t t * G k j - G k t * G t j) : Elim n w (t + 1) A G' (G t t) := by
  have hw := E.hw
  refine ⟨hp, h, hw, fun i hi j hj => ?_, fun k hk j hj => ?_, (E.pivot h).symm⟩
  · have e := E.eqn h hi hj
    refine Int.eq_of_mul_eq_mul_left E.hd ?_
    rw [e, sm, h1 j hj]
    have e2 : sm t (fun k => (G t t * G k j - G k t * G t j) * A i k) = d * sm t fun k => G' k j * A i k := by
      rw [← sm_mul]
      exact sm_congr fun k hk => by rw [← h2 k (by omega) (by omega) j hj]; grind
    rw [e2]
    by_cases c : t + 1 ≤ i
    · rw [if_pos c, if_pos c, ← h2 i hi (by omega) j hj]
      grind
    · rw [if_neg c, if_neg c]
      grind
  · by_cases e : k = t
    · subst e
      rw [h1 j (by omega)]
      by_cases q : k = j
      · subst q; rw [if_pos rfl]
      · rw [if_neg q]
        have := E.lowG (k := j) (j := j) (by omega) (by omega)
        have e2 := E.eq k h j (by omega)
        rw [if_pos (Nat.le_refl k)] at e2
        rw [sm_one (r := j) (by omega) fun m hm hn => by rw [E.dg m hm j (by omega), if_neg hn, Int.zero_mul], E.dg j (by omega) j (by omega), if_pos rfl] at e2
        omega
    · have e2 := h2 k (by omega) e j (by omega)
      by_cases q : j = t
      · subst q
        rw [if_neg e]
        have : d * G' k j = 0 := by rw [e2]; grind
        rcases Int.mul_eq_zero.mp this with z | z
        · exact absurd z E.hd
        · exact z
      · have z : G t j = 0 := by
          have e3 := E.eq t h j (by omega)
          rw [if_pos (Nat.le_refl t)] at e3
          rw [sm_one (r := j) (by omega) fun m hm hn => by rw [E.dg m hm j (by omega), if_neg hn, Int.zero_mul], E.dg j (by omega) j (by omega), if_pos rfl] at e3
          omega
        rw [E.dg k (by omega) j (by omega), z, Int.mul_zero, Int.sub_zero] at e2
        by_cases r : k = j
        · rw [if_pos r] at e2 ⊢
          refine Int.eq_of_mul_eq_mul_left E.hd ?_
          rw [e2, Int.mul_comm]
        · rw [if_neg r] at e2 ⊢
          rw [Int.mul_zero] at e2
          rcases Int.mul_eq_zero.mp e2 with z | z
          · exact absurd z E.hd
          · exact z
theorem Elim.none {n w t : Nat} {A G : Nat → Nat → Int} {d : Int} (E : Elim n w t A G d) (h : t < n) (hz : ∀ k, t ≤ k → k < n → G k t = 0) : det n (fun j i => A i j) = 0 := by
  have hw := E.hw
  have h1 := det_mul (n := n) (fun j i => A i j) d (fun i => A i t) h
  have h2 := det_sum (n := n) (fun j i => A i j) h (fun m => G m t) (fun m i => A i m) t
  rw [sm_zero (fun m hm => by
      rw [det_rep (p := m) (q := t) (by omega) (by omega) (by omega) (by rw [upv_at, upv_ne (by omega)]), Int.mul_zero])] at h2
  have e : upv (fun j i => A i j) t (fun i => A i t) = fun j i => A i j := upv_self (fun j i => A i j) t
  rw [e] at h1
  have h3 : det n (upv (fun j i => A i j) t fun c => d * A c t) = det n (upv (fun j i => A i j) t fun c => sm t fun k => G k t * A c k) := by
    refine det_congr fun i c hi hc => ?_
    by_cases q : i = t
    · subst q
      rw [upv_at, upv_at]
      have := E.eq c hc i (by omega)
      by_cases r : i ≤ c
      · rw [if_pos r, hz c r hc] at this
        omega
      · rw [if_neg r] at this
        omega
    · rw [upv_ne q, upv_ne q]
  rw [h3, h2] at h1
  rcases Int.mul_eq_zero.mp h1.symm with z | z
  · exact absurd z E.hd
  · exact z
end Ab

namespace Ab
open PySem PySem.Spec PyProof.Rows L2
section
variable {X : Cx} {g : Gi} {W : WX} {w : WS} {st : List Stmt}
def wTryO (rl : List Str) (cat : Str → Bool) (w : WS) (ws : WS) : WS := fun (D : HG Kd) s S =>
  w { nx := D.nx, rt := D.rt, xc := fun c s1 S1 => rl.contains c = true ∧ if cat c = true then ws { nx := D.nx, rt := D.rt, xc := fun _ _ _ => False } s1 S1 else D.xc c s1 S1 } s S
end
end Ab

namespace Ab
open PySem L2
def ent (M : List (List Int)) (k j : Nat) : Int := gI (M.getD k []) (j : Int)
def swapL (M : List (List Int)) (p q : Nat) : List (List Int) := (M.set p (M.getD q [])).set q (M.getD p [])
theorem getD_set {α : Type} {l : List α} {n k : Nat} {a b : α} (h : n < l.length) : (l.set n a).getD k b = if k = n then a else l.getD k b := by
  rw [List.getD_eq_getElem?_getD, List.getD_eq_getElem?_getD, List.getElem?_set]
  by_cases e : k = n
  · subst e; simp [h]
  · rw [if_neg (Ne.symm e), if_neg e]
theorem ent_swap {M : List (List Int)} {p q : Nat} (hp : p < M.length) (hq : q < M.length) : ent (swapL M p q) = fun i => ent M (sw p q i) := by
  funext i j
  unfold ent swapL
  rw [getD_set (by rw [List.length_set]; exact hq), getD_set hp]
  unfold sw
  by_cases e1 : i = q
  · subst e1
    by_cases e2 : i = p
    · subst e2; simp
    · simp [e2]
  · by_cases e2 : i = p
    · subst e2; simp [e1]
    · simp [e1, e2]
theorem swapL_len {M : List (List Int)} {p q : Nat} : (swapL M p q).length = M.length := by unfold swapL; simp
theorem swapL_mem {M : List (List Int)} {p q : Nat} (hp : p < M.length) (hq : q < M.length) {r : List Int} (h : r ∈ swapL M p q) : r ∈ M := by
  unfold swapL at h
  rcases List.mem_or_eq_of_mem_set h with h | h
  · rcases List.mem_or_eq_of_mem_set h with h | h
    · exact h
    · rw [h, List.getD_eq_getElem?_getD, List.getElem?_eq_getElem hq]; exact List.getElem_mem _
  · rw [h, List.getD_eq_getElem?_getD, List.getElem?_eq_getElem hp]; exact List.getElem_mem _
def freedL (row head : List Int) (t : Nat) (d : Int) : List Int := (List.range row.length).map fun (m : Nat) => (gI head t * gI row m - gI row t * gI head m).fdiv d
def sweptL (M : List (List Int)) (t : Nat) (d : Int) : List (List Int) := (List.range M.length).map fun k => if k = t then M.getD k [] else freedL (M.getD k []) (M.getD t []) t d
theorem gI_range {n : Nat} {f : Nat → Int} {j : Nat} (h : j < n) : gI ((List.range n).map f) j = f j := by
  unfold gI
  rw [Int.toNat_natCast, List.getD_eq_getElem?_getD, List.getElem?_map, List.getElem?_range h]
  rfl
theorem getD_range {α : Type} {n : Nat} {f : Nat → α} {j : Nat} {a : α} (h : j < n) : ((List.range n).map f).getD j a = f j := by
  rw [List.getD_eq_getElem?_getD, List.getElem?_map, List.getElem?_range h]
  rfl
theorem freedL_len {row head : List Int} {t : Nat} {d : Int} : (freedL row head t d).length = row.length := by unfold freedL; simp
theorem sweptL_len {M : List (List Int)} {t : Nat} {d : Int} : (sweptL M t d).length = M.length := by unfold sweptL; simp
theorem rowLen {M : List (List Int)} {w : Nat} (h : ∀ r ∈ M, r.length = w) {k : Nat} (hk : k < M.length) : (M.getD k []).length = w := by
  rw [List.getD_eq_getElem?_getD, List.getElem?_eq_getElem hk]
  exact h _ (List.getElem_mem _)
theorem sweptL_row {M : List (List Int)} {t w : Nat} {d : Int} (h : ∀ r ∈ M, r.length = w) : ∀ r ∈ sweptL M t d, r.length = w := fun r hr => by
  unfold sweptL at hr
  obtain ⟨k, hk, rfl⟩ := List.mem_map.mp hr
  rw [List.mem_range] at hk
  split
  · exact rowLen h hk
  · rw [freedL_len]; exact rowLen h hk
theorem ent_swept {M : List (List Int)} {t w k j : Nat} {d : Int} (h : ∀ r ∈ M, r.length = w) (hk : k < M.length) (hj : j < w) : ent (sweptL M t d) k j = if k = t then ent M k j else (ent M t t * ent M k j - ent M k t * ent M t j).fdiv d := by
  unfold ent sweptL
  rw [getD_range hk]
  split
  · rfl
  · unfold freedL
    rw [gI_range (by rw [rowLen h hk]; exact hj)]
structure ElimL (n w t : Nat) (A0 A M : List (List Int)) (d : Int) : Prop where
  e : Elim n w t (ent A) (ent M) d
  la : A.length = n
  lm : M.length = n
  rm : ∀ r ∈ M, r.length = w
  ra : ∀ r ∈ A, r ∈ A0
  ar : ∀ r ∈ A0, r ∈ A
  dd : det n (fun j i => ent A i j) = det n (fun j i => ent A0 i j) ∨ det n (fun j i => ent A i j) = - det n (fun j i => ent A0 i j)
theorem ElimL.init {n w : Nat} {A : List (List Int)} (la : A.length = n) (ra : ∀ r ∈ A, r.length = w) (hw : n ≤ w) : ElimL n w 0 A A A 1 :=
  ⟨.init _ hw, la, la, ra, fun _ h => h, fun _ h => h, .inl rfl⟩
theorem swapL_back {M : List (List Int)} {p q : Nat} (hp : p < M.length) (hq : q < M.length) {r : List Int} (h : r ∈ M) : r ∈ swapL M p q := by
  obtain ⟨i, hi, rfl⟩ := List.mem_iff_getElem.mp h
  have e : (swapL M p q).getD (sw p q i) [] = M.getD i [] := by
    unfold swapL sw
    rw [getD_set (by rw [List.length_set]; exact hq), getD_set hp]
    by_cases e1 : i = p
    · subst e1
      simp
    · by_cases e2 : i = q
      · subst e2
        simp only [e1, if_false, if_true]
        by_cases e3 : p = i
        · exact absurd e3.symm e1
        · simp [e3]
      · simp [e1, e2]
  have hs : sw p q i < (swapL M p q).length := by rw [swapL_len]; exact sw_ln hi hp hq
  rw [List.getD_eq_getElem?_getD, List.getElem?_eq_getElem hs, List.getD_eq_getElem?_getD, List.getElem?_eq_getElem hi] at e
  have e : (swapL M p q)[sw p q i] = M[i] := e
  rw [← e]
  exact List.getElem_mem _
theorem ElimL.swap {n w t : Nat} {A0 A M : List (List Int)} {d : Int} (E : ElimL n w t A0 A M d) {p q : Nat} (hp : t ≤ p) (hq : t ≤ q) (hpn : p < n) (hqn : q < n) : ElimL n w t A0 (swapL A p q) (swapL M p q) d := by
  have e := E.e.swap hp hq hpn hqn
  have ea : ent (swapL A p q) = fun i => ent A (sw p q i) := ent_swap (by rw [E.la]; exact hpn) (by rw [E.la]; exact hqn)
  have em : ent (swapL M p q) = fun i => ent M (sw p q i) := ent_swap (by rw [E.lm]; exact hpn) (by rw [E.lm]; exact hqn)
  refine ⟨by rw [ea, em]; exact e, by rw [swapL_len]; exact E.la, by rw [swapL_len]; exact E.lm, fun r hr => E.rm r (swapL_mem (by rw [E.lm]; exact hpn) (by rw [E.lm]; exact hqn) hr),
    fun r hr => E.ra r (swapL_mem (by rw [E.la]; exact hpn) (by rw [E.la]; exact hqn) hr), fun r hr => swapL_back (by rw [E.la]; exact hpn) (by rw [E.la]; exact hqn) (E.ar r hr), ?_⟩
  have q2 := E.dd
  rw [ea]
  rcases det_swp (fun j i => ent A i j) hpn hqn with z | z
  · rw [z]; exact q2
  · rw [z]
    omega
theorem ElimL.step {n w t : Nat} {A0 A M : List (List Int)} {d : Int} (E : ElimL n w t A0 A M d) (h : t < n) (hp : ent M t t ≠ 0) : ElimL n w (t + 1) A0 A (sweptL M t d) (ent M t t) ∧ ent (sweptL M t d) t t = ent M t t := by
  have hw := E.e.hw
  have es : ∀ j, j < w → ent (sweptL M t d) t j = ent M t j := fun j hj => by rw [ent_swept E.rm (by rw [E.lm]; exact h) hj, if_pos rfl]
  refine ⟨⟨E.e.step h hp es fun k hk hkt j hj => ?_, E.la, by rw [sweptL_len]; exact E.lm, sweptL_row E.rm, E.ra, E.ar, E.dd⟩, es t (by omega)⟩
  rw [ent_swept E.rm (by rw [E.lm]; exact hk) hj, if_neg hkt]
  obtain ⟨z, hz⟩ := E.e.divs h hp hk hkt hj
  rw [hz, Int.mul_comm d z, Int.mul_fdiv_cancel _ E.e.hd, Int.mul_comm]
theorem sm_sub {t w j : Nat} {f : Nat → Int} (hf : ∀ i, 0 ≤ f i) (ht : t ≤ j) (hj : j < w) : sm t f + f j ≤ sm w f := by
  obtain ⟨m, rfl⟩ : ∃ m, w = m + 1 := ⟨w - 1, by omega⟩
  induction m generalizing t j with
  | zero =>
    have : t = 0 ∧ j = 0 := by omega
    obtain ⟨rfl, rfl⟩ := this
    exact Int.le_refl _
  | succ m ih =>
    rw [sm]
    by_cases e : j = m + 1
    · subst e
      have : sm t f ≤ sm (m + 1) f := by
        have : ∀ k, sm t f ≤ sm (t + k) f := fun k => by
          induction k with
          | zero => exact Int.le_refl _
          | succ k ihk => rw [← Nat.add_assoc, sm]; have := hf (t + k); omega
        have := this (m + 1 - t)
        rwa [show t + (m + 1 - t) = m + 1 by omega] at this
      omega
    · have := ih ht (by omega)
      have := hf (m + 1)
      omega
theorem sm_le_all {t w : Nat} {f : Nat → Int} (hf : ∀ i, 0 ≤ f i) (h : t ≤ w) : sm t f ≤ sm w f := by
  obtain ⟨k, rfl⟩ : ∃ k, w = t + k := ⟨w - t, by omega⟩
  induction k with
  | zero => exact Int.le_refl _
  | succ k ihk => rw [← Nat.add_assoc, sm]; have := hf (t + k); have := ihk (by omega); omega
theorem prN_const : ∀ (n B : Nat), prN n (fun _ => (B : Int)) = ((B ^ n : Nat) : Int)
  | 0, _ => rfl
  | n + 1, B => by
    unfold prN
    rw [prN_const n B, Nat.pow_succ, Int.natCast_mul, Int.mul_comm]
theorem Elim.size {n w t : Nat} {A G : Nat → Nat → Int} {d : Int} (E : Elim n w t A G d) {B : Nat} (hB : 1 ≤ B) (hA : ∀ i, i < n → (sm w fun j => ((A i j).natAbs : Int)) ≤ B) {k j : Nat} (hk : k < n) (hj : j < w) : d.natAbs ≤ B ^ n ∧ (G k j).natAbs ≤ B ^ n := by
  have ht := E.ht
  have hw := E.hw
  have nn : ∀ i j, 0 ≤ ((A i j).natAbs : Int) := fun i j => by omega
  have hd : d.natAbs ≤ B ^ n := by
    have := det_abs (n := t) (v := fun j i => A i j) (B := fun _ => B) fun c hc => Int.le_trans (sm_le_all (fun i => nn c i) (by omega)) (hA c (by omega))
    rw [prN_const, E.dt] at this
    have : d.natAbs ≤ B ^ t := by exact_mod_cast this
    exact Nat.le_trans this (Nat.pow_le_pow_right hB ht)
  refine ⟨hd, ?_⟩
  by_cases hjt : j < t
  · by_cases hkt : k < t
    · rw [E.dg k hkt j hjt]
      split
      · exact hd
      · exact Nat.zero_le _
    · have e := E.eq k hk j hj
      rw [if_pos (by omega)] at e
      rw [sm_one (r := j) hjt fun m hm hn => by rw [E.dg m hm j hjt, if_neg hn, Int.zero_mul], E.dg j hjt j hjt, if_pos rfl] at e
      have : G k j = 0 := by omega
      rw [this]
      exact Nat.zero_le _
  · have key : ∀ (m : Nat) (v : Nat → Nat → Int), m ≤ n → (∀ c, c < m → (sm m fun i => ((v i c).natAbs : Int)) ≤ B) → (det m v).natAbs ≤ B ^ n := fun m v hm hv => by
      have := det_abs (n := m) (v := v) (B := fun _ => B) hv
      rw [prN_const] at this
      have : (det m v).natAbs ≤ B ^ m := by exact_mod_cast this
      exact Nat.le_trans this (Nat.pow_le_pow_right hB hm)
    by_cases hkt : k < t
    · rw [E.lowG hkt hj]
      refine key t _ ht fun c hc => ?_
      have h1 : (sm t fun i => ((upv (fun j i => A i j) k (fun i => A i j) i c).natAbs : Int)) ≤ sm t (fun i => ((A c i).natAbs : Int)) + ((A c j).natAbs : Int) := by
        have : (sm t fun i => ((upv (fun j i => A i j) k (fun i => A i j) i c).natAbs : Int)) ≤ sm t (fun i => ((A c i).natAbs : Int) + if i = k then ((A c j).natAbs : Int) else 0) := sm_le fun i hi => by
          by_cases e : i = k
          · subst e
            rw [upv_at, if_pos rfl]
            have := nn c i
            omega
          · rw [upv_ne e, if_neg e]
            omega
        rw [sm_add, sm_one (r := k) hkt fun i hi hn => if_neg hn, if_pos rfl] at this
        exact this
      exact Int.le_trans h1 (Int.le_trans (sm_sub (f := fun i => ((A c i).natAbs : Int)) (fun i => nn c i) (by omega) hj) (hA c (by omega)))
    · rw [E.highG (by omega) hk hj]
      refine key (t + 1) _ (by omega) fun c hc => ?_
      rw [sm]
      have e0 : upv (fun j i => ext A t k i j) t (fun i => ext A t k i j) t c = ext A t k c j := by rw [upv_at]
      have h1 : (sm t fun i => ((upv (fun j i => ext A t k i j) t (fun i => ext A t k i j) i c).natAbs : Int)) = sm t fun i => ((ext A t k c i).natAbs : Int) := sm_congr fun i hi => by rw [upv_ne (by omega)]
      rw [h1, e0]
      unfold ext
      exact Int.le_trans (sm_sub (f := fun i => ((A (if c < t then c else k) i).natAbs : Int)) (fun i => nn _ i) (by omega) hj) (hA _ (by split <;> omega))
def dens (qs : List Rat) : Int := qs.foldl (fun a q => a * (q.den : Int)) 1
def Whole (qs : List Rat) (v : List Int) : Prop := v.length = qs.length ∧ ∃ m : Int, 0 < m ∧ m ≤ dens qs ∧ ∀ (i : Nat) (q : Rat), qs[i]? = some q → gI v i * q.den = q.num * m
end Ab

namespace Ab
open PySem PySem.Spec PyProof.Rows L2
noncomputable def vTryO : (List Str) → (Str → Bool) → (WS) → (WS) → (WS) := sld wTryO
theorem vTryO_s : vTryO = wTryO := sld_eq _
theorem vTryO_q (rl : List Str) (cat : Str → Bool) (w : WS) (ws : WS) (D : _) (s : _) (S : _) : vTryO rl cat w ws D s S = ( w { nx := D.nx, rt := D.rt, xc := fun c s1 S1 => rl.contains c = true ∧ if cat c = true then ws { nx := D.nx, rt := D.rt, xc := fun _ _ _ => False } s1 S1 else D.xc c s1 S1 } s S) := by rw [vTryO_s]; rfl
end Ab

namespace Ab
open PySem L2
def Wholes (rows : List (List Rat)) (right : List Rat) (A : List (List Int)) : Prop := A.length = rows.length ∧ ∀ (i : Nat) (r : List Rat) (q : Rat) (v : List Int), rows[i]? = some r → right[i]? = some q → A[i]? = some v → Whole (r ++ [q]) v
def smR : Nat → (Nat → Rat) → Rat
  | 0, _ => 0
  | n + 1, f => smR n f + f n
end Ab

namespace Ab.Cl
open PySem L2
section
variable {α : Type}
theorem sum_add {f g : α → Rat} : ∀ {xs : List α}, (xs.map fun x => f x + g x).sum = (xs.map f).sum + (xs.map g).sum
  | [] => by simp only [List.map_nil, List.sum_nil]; grind
  | x :: xs => by
    rw [List.map_cons, List.map_cons, List.map_cons, List.sum_cons, List.sum_cons, List.sum_cons, sum_add]
    grind
theorem sum_mul {c : Rat} {f : α → Rat} : ∀ {xs : List α}, (xs.map fun x => c * f x).sum = c * (xs.map f).sum
  | [] => by simp only [List.map_nil, List.sum_nil]; grind
  | x :: xs => by
    rw [List.map_cons, List.map_cons, List.sum_cons, List.sum_cons, sum_mul]
    grind
theorem sum_null {f : α → Rat} : ∀ {xs : List α}, (∀ x ∈ xs, f x = 0) → (xs.map f).sum = 0
  | [], _ => rfl
  | x :: xs, h => by
    rw [List.map_cons, List.sum_cons, h x (by simp), sum_null fun y hy => h y (by simp [hy])]
    grind
theorem sum_memle {f : α → Rat} : ∀ {xs : List α} {x : α}, (∀ y ∈ xs, 0 ≤ f y) → x ∈ xs → f x ≤ (xs.map f).sum
  | y :: xs, x, h, hx => by
    rw [List.map_cons, List.sum_cons]
    have h0 := h y (by simp)
    have h1 := sum_nn (xs := xs) (f := f) fun z hz => h z (by simp [hz])
    rcases List.mem_cons.mp hx with e | e
    · subst e; grind
    · have := sum_memle (xs := xs) (f := f) (fun z hz => h z (by simp [hz])) e
      grind
theorem sum_zero_all {f : α → Rat} {xs : List α} (h : ∀ y ∈ xs, 0 ≤ f y) (hz : (xs.map f).sum ≤ 0) : ∀ x ∈ xs, f x = 0 := fun x hx => by
  have := sum_memle h hx
  have := h x hx
  grind
theorem sum_filter {p : α → Bool} {f : α → Rat} : ∀ {xs : List α}, ((xs.filter p).map f).sum = (xs.map fun x => if p x = true then f x else 0).sum
  | [] => rfl
  | x :: xs => by
    rw [List.filter_cons, List.map_cons, List.sum_cons]
    split
    · rw [List.map_cons, List.sum_cons, sum_filter]
    · rw [sum_filter]; grind
theorem sumL_key {key : α → Int} {f : α → Rat} {xs : List α} : ∀ {L : List Int}, L.Nodup → (L.map fun p => (xs.map fun x => if key x = p then f x else 0).sum).sum = (xs.map fun x => if key x ∈ L then f x else 0).sum
  | [], _ => by
    rw [List.map_nil, sum_null (xs := xs) fun x _ => if_neg (by simp)]
    rfl
  | p :: L, h => by
    obtain ⟨h1, h2⟩ := List.nodup_cons.mp h
    rw [List.map_cons, List.sum_cons, sumL_key h2, ← sum_add]
    refine sum_congr fun x hx => ?_
    by_cases c : key x = p
    · rw [if_pos c, if_neg (by rw [c]; exact h1), if_pos (by rw [c]; simp)]
      grind
    · rw [if_neg c]
      by_cases c2 : key x ∈ L
      · rw [if_pos c2, if_pos (by simp [c2])]; grind
      · rw [if_neg c2, if_neg (by simp [c, c2])]; grind
end
def inF (sm : List Dd) (w : Int → Rat) (p : Int) : Rat := (sm.map fun x => if x.b = p then (x.c : Rat) * w x.a else 0).sum
def outF (sm : List Dd) (p : Int) : Rat := (sm.map fun x => if x.a = p then (x.c : Rat) else 0).sum
theorem c_pos {x : Dd} (h : 0 < x.c) : (0 : Rat) < (x.c : Rat) := by exact_mod_cast h
theorem inF_nonneg {sm : List Dd} {w : Int → Rat} (hc : ∀ x ∈ sm, 0 < x.c) (w0 : ∀ p, 0 ≤ w p) {p : Int} : 0 ≤ inF sm w p := sum_nn fun x hx => by
  split
  · exact Rat.mul_nonneg (Rat.le_of_lt (c_pos (hc x hx))) (w0 _)
  · exact Rat.le_refl
theorem flow {sm : List Dd} {L : List Int} {w : Int → Rat} (hL : L.Nodup) (hc : ∀ x ∈ sm, 0 < x.c) (w0 : ∀ p, 0 ≤ w p) (wz : ∀ p, p ∉ L → w p = 0) (hle : ∀ p ∈ L, outF sm p * w p ≤ inF sm w p) : ∀ x ∈ sm, 0 < w x.a → 0 < w x.b := by
  have t0 : ∀ x ∈ sm, 0 ≤ (x.c : Rat) * w x.a := fun x hx => Rat.mul_nonneg (Rat.le_of_lt (c_pos (hc x hx))) (w0 _)
  have e1 : (L.map fun p => outF sm p * w p).sum = (sm.map fun x => (x.c : Rat) * w x.a).sum := by
    have : (L.map fun p => outF sm p * w p) = L.map fun p => (sm.map fun x => if x.a = p then (x.c : Rat) * w x.a else 0).sum := by
      refine List.map_congr_left fun p hp => ?_
      unfold outF
      rw [Rat.mul_comm, ← sum_mul]
      refine sum_congr fun x hx => ?_
      split
      · rename_i e; rw [e]; grind
      · grind
    rw [this, sumL_key hL]
    refine sum_congr fun x hx => ?_
    split
    · rfl
    · rename_i e; rw [wz _ e]; grind
  have e2 : (L.map fun p => inF sm w p).sum = (sm.map fun x => if x.b ∈ L then (x.c : Rat) * w x.a else 0).sum := sumL_key hL
  have e3 : (sm.map fun x => (x.c : Rat) * w x.a).sum = (sm.map fun x => if x.b ∈ L then (x.c : Rat) * w x.a else 0).sum + (sm.map fun x => if x.b ∈ L then 0 else (x.c : Rat) * w x.a).sum := by
    rw [← sum_add]
    refine sum_congr fun x hx => ?_
    split <;> grind
  have n3 : 0 ≤ (sm.map fun x => if x.b ∈ L then 0 else (x.c : Rat) * w x.a).sum := sum_nn fun x hx => by
    split
    · exact Rat.le_refl
    · exact t0 x hx
  have d0 : ∀ p ∈ L, 0 ≤ inF sm w p - outF sm p * w p := fun p hp => by
    have := hle p hp
    grind
  have e4 : (L.map fun p => inF sm w p).sum = (L.map fun p => inF sm w p - outF sm p * w p).sum + (L.map fun p => outF sm p * w p).sum := by
    rw [← sum_add]
    refine sum_congr fun p hp => ?_
    grind
  have n4 := sum_nn d0
  have z4 := sum_zero_all d0 (by grind)
  have z3 := sum_zero_all (xs := sm) (f := fun x => if x.b ∈ L then 0 else (x.c : Rat) * w x.a) (fun x hx => by
    split
    · exact Rat.le_refl
    · exact t0 x hx) (by grind)
  intro x hx hw
  have cp := Rat.mul_pos (c_pos (hc x hx)) hw
  have hb : x.b ∈ L := Classical.byContradiction fun hn => by
    have := z3 x hx
    rw [if_neg hn] at this
    grind
  refine Classical.byContradiction fun hn => ?_
  have wb : w x.b = 0 := by
    have := w0 x.b
    grind
  have h1 := z4 x.b hb
  rw [wb] at h1
  have h2 : (if x.b = x.b then (x.c : Rat) * w x.a else 0) ≤ inF sm w x.b := sum_memle (xs := sm) (f := fun y => if y.b = x.b then (y.c : Rat) * w y.a else 0) (fun y hy => by
    split
    · exact t0 y hy
    · exact Rat.le_refl) hx
  rw [if_pos rfl] at h2
  grind
end Ab.Cl

namespace Ab.Cl
open PySem L2
theorem rlt_le {a b c : Rat} (h : a < b) (h2 : b ≤ c) : a < c := by grind
theorem rle_lt {a b c : Rat} (h : a ≤ b) (h2 : b < c) : a < c := by grind
def stQ (qs : List Rat) (sh : List Dd) (j : Int) : Option Int := stop3 (gR qs j) (rkRow sh j)
def someD (qs : List Rat) (sh : List Dd) : List Dd := sh.filter fun x => decide (0 < x.c) && decide (stQ qs sh x.a = some x.r)
def hdI (qs : List Rat) (sh : List Dd) (j : Int) : Int := match stQ qs sh j with
  | none => 0
  | some r => rkI sh j r
def tpI (qs : List Rat) (sh : List Dd) (j : Int) : Int := match stQ qs sh j with
  | none => 0
  | some r => ahI sh j r + rkI sh j r
theorem ahI_0 {sh : List Dd} {j : Int} : ahI sh j 0 = 0 := rfl
theorem ahI_1 {sh : List Dd} {j : Int} : ahI sh j 1 = rkI sh j 0 := by show rkI sh j 0 + 0 = _; omega
theorem ahI_2 {sh : List Dd} {j : Int} : ahI sh j 2 = rkI sh j 0 + rkI sh j 1 := by show rkI sh j 0 + (rkI sh j 1 + 0) = _; omega
theorem stop_cases (q : Rat) (a b c : Int) : (stop3 q [a, b, c] = some 0 ∧ q < (a : Rat)) ∨ (stop3 q [a, b, c] = some 1 ∧ (a : Rat) ≤ q ∧ q < ((a + b : Int) : Rat)) ∨ (stop3 q [a, b, c] = some 2 ∧ (a : Rat) ≤ q ∧ ((a + b : Int) : Rat) ≤ q ∧ q < ((a + b + c : Int) : Rat)) ∨
    (stop3 q [a, b, c] = none ∧ (a : Rat) ≤ q ∧ ((a + b : Int) : Rat) ≤ q ∧ ((a + b + c : Int) : Rat) ≤ q) := by
  unfold stop3
  simp only [stopF, Int.zero_add]
  by_cases c1 : q < (a : Rat)
  · rw [if_pos c1]; exact .inl ⟨rfl, c1⟩
  rw [if_neg c1]
  by_cases c2 : q < ((a + b : Int) : Rat)
  · rw [if_pos c2]; exact .inr (.inl ⟨rfl, Rat.not_lt.mp c1, c2⟩)
  rw [if_neg c2]
  by_cases c3 : q < ((a + b + c : Int) : Rat)
  · rw [if_pos c3]; exact .inr (.inr (.inl ⟨rfl, Rat.not_lt.mp c1, Rat.not_lt.mp c2, c3⟩))
  rw [if_neg c3]
  exact .inr (.inr (.inr ⟨rfl, Rat.not_lt.mp c1, Rat.not_lt.mp c2, Rat.not_lt.mp c3⟩))
section
variable {m : Int} {sh : List Dd} {qs ps : List Rat} {j r : Int}
theorem st_some (hq : 0 ≤ gR qs j) (h : stQ qs sh j = some r) : 0 ≤ r ∧ r < 3 ∧ ((ahI sh j r : Int) : Rat) ≤ gR qs j ∧ gR qs j < ((ahI sh j r + rkI sh j r : Int) : Rat) := by
  unfold stQ rkRow at h
  rcases stop_cases (gR qs j) (rkI sh j 0) (rkI sh j 1) (rkI sh j 2) with ⟨e, h1⟩ | ⟨e, h1, h2⟩ | ⟨e, h1, h2, h3⟩ | ⟨e, h1, h2, h3⟩
  · rw [e] at h
    cases h
    rw [ahI_0]
    exact ⟨by decide, by decide, hq, by rw [Int.zero_add]; exact h1⟩
  · rw [e] at h
    cases h
    rw [ahI_1]
    exact ⟨by decide, by decide, h1, h2⟩
  · rw [e] at h
    cases h
    rw [ahI_2]
    exact ⟨by decide, by decide, h2, h3⟩
  · rw [e] at h
    cases h
theorem st_none (h : stQ qs sh j = none) : ((rkT sh j : Int) : Rat) ≤ gR qs j := by
  unfold stQ rkRow at h
  rcases stop_cases (gR qs j) (rkI sh j 0) (rkI sh j 1) (rkI sh j 2) with ⟨e, h1⟩ | ⟨e, h1, h2⟩ | ⟨e, h1, h2, h3⟩ | ⟨e, h1, h2, h3⟩ <;> rw [e] at h
  · cases h
  · cases h
  · cases h
  · exact h3
theorem rk_nn (hs : ∀ x ∈ sh, x.Ok m) : 0 ≤ rkI sh j 0 ∧ 0 ≤ rkI sh j 1 ∧ 0 ≤ rkI sh j 2 := ⟨rkI_nonneg hs, rkI_nonneg hs, rkI_nonneg hs⟩
theorem three (h0 : 0 ≤ r) (h1 : r < 3) : r = 0 ∨ r = 1 ∨ r = 2 := by omega
theorem ah_nn (hs : ∀ x ∈ sh, x.Ok m) (h0 : 0 ≤ r) (h1 : r < 3) : 0 ≤ ahI sh j r ∧ 0 ≤ rkI sh j r ∧ ahI sh j r + rkI sh j r ≤ rkT sh j := by
  obtain ⟨a, b, c⟩ := rk_nn hs (j := j)
  unfold rkT
  rcases three h0 h1 with rfl | rfl | rfl
  · rw [ahI_0]; omega
  · rw [ahI_1]; omega
  · rw [ahI_2]; omega
theorem ah_mono {r' : Int} (hs : ∀ x ∈ sh, x.Ok m) (h0 : 0 ≤ r) (h2 : r < r') (h1 : r' < 3) : ahI sh j r + rkI sh j r ≤ ahI sh j r' := by
  obtain ⟨a, b, c⟩ := rk_nn hs (j := j)
  rcases three h0 (by omega) with rfl | rfl | rfl
  · rcases three (r := r') (by omega) h1 with e | e | e
    · omega
    · rw [e, ahI_0, ahI_1]; omega
    · rw [e, ahI_0, ahI_2]; omega
  · have : r' = 2 := by omega
    rw [this, ahI_1, ahI_2]; omega
  · omega
theorem st_short (hs : ∀ x ∈ sh, x.Ok m) (hq : 0 ≤ gR qs j) (h : stQ qs sh j = some r) : gR qs j < ((rkT sh j : Int) : Rat) ∧ 0 < rkI sh j r := by
  obtain ⟨r0, r1, h1, h2⟩ := st_some hq h
  obtain ⟨a0, k0, t0⟩ := ah_nn hs r0 r1 (j := j)
  refine ⟨rlt_le h2 (by exact_mod_cast t0), ?_⟩
  have h3 : ((ahI sh j r : Int) : Rat) < ((ahI sh j r + rkI sh j r : Int) : Rat) := rle_lt h1 h2
  have : ahI sh j r < ahI sh j r + rkI sh j r := by exact_mod_cast h3
  omega
theorem hd_some (h : stQ qs sh j = some r) : hdI qs sh j = rkI sh j r := by unfold hdI; rw [h]
theorem hd_none (h : stQ qs sh j = none) : hdI qs sh j = 0 := by unfold hdI; rw [h]
theorem pay_grow {qs' : List Rat} {x : Dd} {w : Rat} (hs : ∀ x ∈ sh, x.Ok m) (hx : x ∈ sh) (hq : 0 ≤ gR qs x.a) (h : stQ qs sh x.a = some r) (hw : 0 ≤ w) (e : gR qs' x.a = gR qs x.a + (rkI sh x.a r : Rat) * w) (ht : gR qs' x.a ≤ ((ahI sh x.a r + rkI sh x.a r : Int) : Rat)) :
    payR qs' sh x = payR qs sh x + if x.r = r then (x.c : Rat) * w else 0 := by
  obtain ⟨r0, r1, h1, h2⟩ := st_some hq h
  have hk := (st_short hs hq h).2
  have hkr : (0 : Rat) < (rkI sh x.a r : Rat) := by exact_mod_cast hk
  have hq' : gR qs x.a ≤ gR qs' x.a := by
    rw [e]
    have := Rat.mul_nonneg (Rat.le_of_lt hkr) hw
    grind
  have hx1 := hs x hx
  unfold Dd.Ok at hx1
  by_cases c : x.r = r
  · subst c
    rw [if_pos rfl, payR_clamp hs hx (Rat.le_trans hq hq') (by omega), payR_clamp hs hx hq (by omega)]
    have c1 : clampR (gR qs x.a) (ahI sh x.a x.r : Int) (rkI sh x.a x.r : Int) = gR qs x.a - (ahI sh x.a x.r : Int) := by
      rw [Rat.intCast_add] at h2
      unfold clampR
      grind
    have c2 : clampR (gR qs' x.a) (ahI sh x.a x.r : Int) (rkI sh x.a x.r : Int) = gR qs' x.a - (ahI sh x.a x.r : Int) := by
      rw [Rat.intCast_add] at ht
      unfold clampR
      grind
    rw [c1, c2, e]
    grind
  · rw [if_neg c]
    have : payR qs' sh x = payR qs sh x := by
      by_cases z : rkI sh x.a x.r = 0
      · rw [payR_nil z, payR_nil z]
      rw [payR_clamp hs hx (Rat.le_trans hq hq') z, payR_clamp hs hx hq z]
      have n1 := ah_nn hs (j := x.a) (r := x.r) hx1.2.2.2.2.2.1 hx1.2.2.2.2.2.2.1
      have n2 : (0 : Rat) ≤ (rkI sh x.a x.r : Rat) := by exact_mod_cast n1.2.1
      rcases Int.lt_or_gt_of_ne c with c' | c'
      · have h3 : ((ahI sh x.a x.r + rkI sh x.a x.r : Int) : Rat) ≤ (ahI sh x.a r : Rat) := by exact_mod_cast ah_mono hs hx1.2.2.2.2.2.1 c' r1
        rw [Rat.intCast_add] at h3
        have c1 : clampR (gR qs x.a) (ahI sh x.a x.r : Int) (rkI sh x.a x.r : Int) = (rkI sh x.a x.r : Rat) := by unfold clampR; grind
        have c2 : clampR (gR qs' x.a) (ahI sh x.a x.r : Int) (rkI sh x.a x.r : Int) = (rkI sh x.a x.r : Rat) := by unfold clampR; grind
        rw [c1, c2]
      · have h3 : ((ahI sh x.a r + rkI sh x.a r : Int) : Rat) ≤ (ahI sh x.a x.r : Rat) := by exact_mod_cast ah_mono hs r0 c' hx1.2.2.2.2.2.2.1
        have c1 : clampR (gR qs x.a) (ahI sh x.a x.r : Int) (rkI sh x.a x.r : Int) = 0 := by unfold clampR; grind
        have c2 : clampR (gR qs' x.a) (ahI sh x.a x.r : Int) (rkI sh x.a x.r : Int) = 0 := by unfold clampR; grind
        rw [c1, c2]
    rw [this]
    grind
theorem got_grow {qs' : List Rat} {w : Int → Rat} (hs : ∀ x ∈ sh, x.Ok m) (hq : ∀ k : Int, 0 ≤ k → k < m → 0 ≤ gR qs k) (hw : ∀ k, 0 ≤ w k) (hn : ∀ k : Int, 0 ≤ k → k < m → stQ qs sh k = none → gR qs' k = gR qs k)
    (hg : ∀ (k r : Int), 0 ≤ k → k < m → stQ qs sh k = some r → gR qs' k = gR qs k + (rkI sh k r : Rat) * w k ∧ gR qs' k ≤ ((ahI sh k r + rkI sh k r : Int) : Rat)) (p : Int) :
    gotP qs' sh sh p = gotP qs sh sh p + inF (someD qs sh) w p := by
  unfold gotP inF someD
  rw [sum_filter, ← sum_add]
  refine sum_congr fun x hx => ?_
  have hx1 := hs x hx
  unfold Dd.Ok at hx1
  by_cases hb : x.b = p
  · rw [if_pos hb, if_pos hb]
    cases e : stQ qs sh x.a with
    | none =>
      rw [payR_congr (hn x.a hx1.1 hx1.2.1 e)]
      simp
      grind
    | some r =>
      obtain ⟨g1, g2⟩ := hg x.a r hx1.1 hx1.2.1 e
      rw [pay_grow hs hx (hq _ hx1.1 hx1.2.1) e (hw _) g1 g2]
      congr 1
      by_cases c : x.r = r
      · subst c
        by_cases c0 : 0 < x.c
        · simp [c0, hb]
        · have : x.c = 0 := by omega
          simp [this]
          try grind
      · have : ¬ (some r = some x.r) := fun z => c (Option.some.inj z).symm
        rw [if_neg c]
        simp [this]
  · rw [if_neg hb, if_neg hb]
    simp
    grind
theorem some_c : ∀ x ∈ someD qs sh, 0 < x.c ∧ x ∈ sh ∧ stQ qs sh x.a = some x.r := fun x hx => by
  unfold someD at hx
  rw [List.mem_filter, Bool.and_eq_true, decide_eq_true_eq, decide_eq_true_eq] at hx
  exact ⟨hx.2.1, hx.1, hx.2.2⟩
end
end Ab.Cl

namespace Ab.Cl
open PySem L2
structure ClI (m : Int) (sh : List Dd) (ps : List Int) (qs : List Rat) (σ : Rat) : Prop where
  hl : (qs.length : Int) = m
  s0 : 0 ≤ σ
  s1 : σ ≤ 1
  q0 : ∀ j : Int, 0 ≤ j → j < m → 0 ≤ gR qs j ∧ gR qs j ≤ (rkT sh j : Rat)
  eq : ∀ j r : Int, 0 ≤ j → j < m → stQ qs sh j = some r → gR qs j = (1 - σ) * (gI ps j : Rat) + gotP qs sh sh j
  ge : ∀ j : Int, 0 ≤ j → j < m → stQ qs sh j = none → (rkT sh j : Rat) ≤ (1 - σ) * (gI ps j : Rat) + gotP qs sh sh j
theorem inF_scale {sm : List Dd} {v : Int → Rat} {t : Rat} {p : Int} : inF sm (fun q => v q * t) p = inF sm v p * t := by
  unfold inF
  rw [Rat.mul_comm, ← sum_mul]
  refine sum_congr fun x hx => ?_
  split <;> grind
section
variable {m : Int} {sh : List Dd} {ps : List Int} {qs : List Rat} {σ : Rat}
theorem gR_rep {n : Nat} {j : Int} : gR (List.replicate n 0) j = 0 := by
  unfold gR
  rw [List.getD_eq_getElem?_getD, List.getElem?_replicate]
  split <;> rfl
theorem ClI.init (hs : ∀ x ∈ sh, x.Ok m) (hm : 0 ≤ m) : ClI m sh ps (List.replicate m.toNat 0) 1 := by
  have gz : ∀ j : Int, gotP (List.replicate m.toNat 0) sh sh j = 0 := fun j => by
    unfold gotP
    refine sum_null fun x hx => ?_
    split
    · by_cases z : rkI sh x.a x.r = 0
      · exact payR_nil z
      · have hx1 := hs x hx
        unfold Dd.Ok at hx1
        rw [payR_clamp hs hx (by rw [gR_rep]; exact Rat.le_refl) z, gR_rep]
        obtain ⟨a0, k0, _⟩ := ah_nn hs (j := x.a) (r := x.r) hx1.2.2.2.2.2.1 hx1.2.2.2.2.2.2.1
        have a1 : (0 : Rat) ≤ (ahI sh x.a x.r : Rat) := by exact_mod_cast a0
        have k1 : (0 : Rat) ≤ (rkI sh x.a x.r : Rat) := by exact_mod_cast k0
        have : clampR 0 (ahI sh x.a x.r : Rat) (rkI sh x.a x.r : Rat) = 0 := by unfold clampR; grind
        rw [this]
        grind
    · rfl
  have t0 : ∀ j : Int, (0 : Rat) ≤ (rkT sh j : Rat) := fun j => by exact_mod_cast rkT_nonneg hs
  refine ⟨by rw [List.length_replicate]; omega, by decide, by decide, fun j _ _ => ?_, fun j r _ _ h => ?_, fun j _ _ h => ?_⟩
  · rw [gR_rep]; exact ⟨Rat.le_refl, t0 j⟩
  · rw [gR_rep, gz]; grind
  · have := st_none h
    rw [gR_rep] at this
    rw [gz]
    grind
theorem ClI.nn (I : ClI m sh ps qs σ) : ∀ k : Int, 0 ≤ k → k < m → 0 ≤ gR qs k := fun k h0 h1 => (I.q0 k h0 h1).1
theorem ClI.step (I : ClI m sh ps qs σ) (hs : ∀ x ∈ sh, x.Ok m) {v : Int → Rat} {t e : Rat} (t0 : 0 ≤ t) (e0 : 0 ≤ e) (e1 : e ≤ σ) (v0 : ∀ j, 0 ≤ v j) (p0 : ∀ j : Int, 0 ≤ gI ps j)
    (bal : ∀ j r : Int, 0 ≤ j → j < m → stQ qs sh j = some r → (rkI sh j r : Rat) * v j * t = (gI ps j : Rat) * e + inF (someD qs sh) v j * t)
    (top : ∀ j r : Int, 0 ≤ j → j < m → stQ qs sh j = some r → gR qs j + (rkI sh j r : Rat) * v j * t ≤ ((ahI sh j r + rkI sh j r : Int) : Rat))
    {qs' : List Rat} (hl' : (qs'.length : Int) = m) (hq' : ∀ j : Int, 0 ≤ j → j < m → gR qs' j = gR qs j + (hdI qs sh j : Rat) * v j * t) :
    ClI m sh ps qs' (σ - e) ∧ ∀ j : Int, 0 ≤ j → j < m → gR qs j ≤ gR qs' j := by
  have hn : ∀ k : Int, 0 ≤ k → k < m → stQ qs sh k = none → gR qs' k = gR qs k := fun k h0 h1 h => by
    rw [hq' k h0 h1, hd_none h]; grind
  have hg : ∀ (k r : Int), 0 ≤ k → k < m → stQ qs sh k = some r → gR qs' k = gR qs k + (rkI sh k r : Rat) * (v k * t) ∧ gR qs' k ≤ ((ahI sh k r + rkI sh k r : Int) : Rat) := fun k r h0 h1 h => by
    have e2 : gR qs' k = gR qs k + (rkI sh k r : Rat) * (v k * t) := by rw [hq' k h0 h1, hd_some h]; grind
    refine ⟨e2, ?_⟩
    have := top k r h0 h1 h
    rw [e2]
    grind
  have w0 : ∀ k, 0 ≤ v k * t := fun k => Rat.mul_nonneg (v0 k) t0
  have gg := got_grow (qs' := qs') (w := fun k => v k * t) hs I.nn w0 hn hg
  have up : ∀ j : Int, 0 ≤ j → j < m → gR qs j ≤ gR qs' j := fun j h0 h1 => by
    cases h : stQ qs sh j with
    | none => rw [hn j h0 h1 h]; exact Rat.le_refl
    | some r =>
      obtain ⟨g1, _⟩ := hg j r h0 h1 h
      have k0 : (0 : Rat) ≤ (rkI sh j r : Rat) := by exact_mod_cast rkI_nonneg hs
      have := Rat.mul_nonneg k0 (w0 j)
      rw [g1]; grind
  have le' : ∀ j : Int, 0 ≤ j → j < m → gR qs' j ≤ (rkT sh j : Rat) := fun j h0 h1 => by
    cases h : stQ qs sh j with
    | none => rw [hn j h0 h1 h]; exact (I.q0 j h0 h1).2
    | some r =>
      obtain ⟨r0, r1, _, _⟩ := st_some (I.nn j h0 h1) h
      have : ((ahI sh j r + rkI sh j r : Int) : Rat) ≤ (rkT sh j : Rat) := by exact_mod_cast (ah_nn hs r0 r1 (j := j)).2.2
      exact Rat.le_trans (hg j r h0 h1 h).2 this
  have inn : ∀ j, 0 ≤ inF (someD qs sh) (fun k => v k * t) j := fun j => inF_nonneg (fun x hx => (some_c x hx).1) w0
  have psr : ∀ j : Int, (0 : Rat) ≤ (gI ps j : Rat) := fun j => by exact_mod_cast p0 j
  have eqS : ∀ j r : Int, 0 ≤ j → j < m → stQ qs sh j = some r → gR qs' j = (1 - (σ - e)) * (gI ps j : Rat) + gotP qs' sh sh j := fun j r h0 h1 h => by
    have b := bal j r h0 h1 h
    have q := I.eq j r h0 h1 h
    rw [(hg j r h0 h1 h).1, gg j, inF_scale, q]
    grind
  refine ⟨⟨hl', by grind, by have := I.s1; grind, fun j h0 h1 => ⟨Rat.le_trans (I.nn j h0 h1) (up j h0 h1), le' j h0 h1⟩, fun j r h0 h1 h => ?_, fun j h0 h1 h => ?_⟩, up⟩
  · cases h2 : stQ qs sh j with
    | none =>
      have := st_none h2
      have h3 := (st_short hs (Rat.le_trans (I.nn j h0 h1) (up j h0 h1)) h).1
      have := Rat.le_trans this (up j h0 h1)
      grind
    | some r2 => exact eqS j r2 h0 h1 h2
  · cases h2 : stQ qs sh j with
    | none =>
      have g := I.ge j h0 h1 h2
      have := inn j
      have := Rat.mul_nonneg e0 (psr j)
      rw [gg j]
      grind
    | some r2 =>
      have h3 := st_none h
      rw [eqS j r2 h0 h1 h2] at h3
      exact h3
def pairs (n : Nat) : List (Int × Int) := (List.range n).flatMap fun (j : Nat) => [((j : Int), 0), ((j : Int), 1), ((j : Int), 2)]
noncomputable def openN (m : Int) (sh : List Dd) (qs : List Rat) : Nat := (pairs m.toNat).countP fun p => decide (0 < rkI sh p.1 p.2) && decide (gR qs p.1 < ((ahI sh p.1 p.2 + rkI sh p.1 p.2 : Int) : Rat))
theorem nodup_len {α : Type} [BEq α] [LawfulBEq α] : ∀ {l s : List α}, l.Nodup → (∀ x ∈ l, x ∈ s) → l.length ≤ s.length
  | [], _, _, _ => Nat.zero_le _
  | a :: l, s, h, hs => by
    obtain ⟨h1, h2⟩ := List.nodup_cons.mp h
    have ha := hs a (by simp)
    have := nodup_len (l := l) (s := s.erase a) h2 fun x hx => by
      have hne : x ≠ a := fun e => h1 (e ▸ hx)
      exact (List.mem_erase_of_ne hne).mpr (hs x (by simp [hx]))
    rw [List.length_erase_of_mem ha] at this
    have := List.length_pos_of_mem ha
    rw [List.length_cons]
    omega
def NoShut (m : Int) (sh : List Dd) (qs : List Rat) : Prop := ∀ M : Int → Prop, (∀ j, M j → 0 ≤ j ∧ j < m ∧ stQ qs sh j ≠ none) → (∀ x ∈ someD qs sh, M x.a → M x.b) → ∀ j, ¬ M j
structure GroupOk (m : Int) (sh : List Dd) (qs : List Rat) (g : List Int) : Prop where
  nd : g.Nodup
  rng : ∀ j ∈ g, 0 ≤ j ∧ j < m ∧ stQ qs sh j ≠ none
  cl : ∀ x ∈ someD qs sh, x.a ∈ g → x.b ∈ g
  mn : ∀ M : Int → Prop, (∀ j, M j → j ∈ g) → (∀ x ∈ someD qs sh, M x.a → M x.b) → ∀ i, M i → ∀ j ∈ g, M j
end
end Ab.Cl

namespace Ab.Cl
open PySem L2
def uL (L : List Int) (f : Nat → Rat) (p : Int) : Rat := if p ∈ L then f (L.idxOf p) else 0
def rowI (sm : List Dd) (L : List Int) (h : Int → Int) (p : Int) : List Int := L.map fun q => (if q = p then h p else 0) - (sm.map fun x => if x.b = p ∧ x.a = q then x.c else 0).sum
def sysR (sm : List Dd) (L : List Int) (h : Int → Int) : List (List Rat) := L.map fun p => (rowI sm L h p).map fun (z : Int) => (z : Rat)
def sideR (fed : List Int) : List Rat := fed.map fun (z : Int) => (z : Rat)
end Ab.Cl

namespace Ab
open PySem L2
theorem sm_end {t : Nat} {f g : Nat → Int} : ∀ {n : Nat}, t < n → (∀ k, k < t → f k = g k) → (∀ k, t < k → k < n → f k = 0) → sm n f = sm t g + f t
  | 0, h, _, _ => by omega
  | n + 1, h, h1, h2 => by
    rw [sm]
    by_cases e : t = n
    · subst e
      rw [sm_congr h1]
    · rw [sm_end (n := n) (by omega) h1 fun k a b => h2 k a (by omega), h2 n (by omega) (by omega), Int.add_zero]
theorem Elim.kernel {n w t : Nat} {A G : Nat → Nat → Int} {d : Int} (E : Elim n w t A G d) (h : t < n) (hz : ∀ k, t ≤ k → k < n → G k t = 0) : ∃ U : Nat → Int, (∃ k, k < n ∧ U k ≠ 0) ∧ ∀ i, i < n → sm n (fun k => U k * A i k) = 0 := by
  have hw := E.hw
  refine ⟨fun k => if k < t then G k t else if k = t then - d else 0, ⟨t, h, by
    show (if t < t then G t t else if t = t then - d else 0) ≠ 0
    rw [if_neg (by omega), if_pos rfl]
    have := E.hd
    omega⟩, fun i hi => ?_⟩
  have e := E.eq i hi t (by omega)
  rw [sm_end (t := t) (g := fun k => G k t * A i k) h (fun k hk => by
    show (if k < t then G k t else if k = t then - d else 0) * A i k = _
    rw [if_pos hk]) fun k a b => by
      show (if k < t then G k t else if k = t then - d else 0) * A i k = _
      rw [if_neg (by omega), if_neg (by omega), Int.zero_mul]]
  show _ + (if t < t then G t t else if t = t then - d else 0) * A i t = 0
  rw [if_neg (by omega), if_pos rfl]
  by_cases c : t ≤ i
  · rw [if_pos c, hz i c hi] at e
    grind
  · rw [if_neg c] at e
    grind
theorem ElimL.kernel {n w t : Nat} {A0 A M : List (List Int)} {d : Int} (E : ElimL n w t A0 A M d) (l0 : A0.length = n) (h : t < n) (hz : ∀ k, t ≤ k → k < n → ent M k t = 0) : ∃ U : Nat → Int, (∃ k, k < n ∧ U k ≠ 0) ∧ ∀ i, i < n → sm n (fun k => U k * ent A0 i k) = 0 := by
  obtain ⟨U, hU, hk⟩ := E.e.kernel h hz
  refine ⟨U, hU, fun i hi => ?_⟩
  have e3 := List.getElem?_eq_getElem (l := A0) (i := i) (by omega)
  obtain ⟨j, hj, ej⟩ := List.mem_iff_getElem.mp (E.ar _ (List.mem_of_getElem? e3))
  have hjn : j < n := by have := E.la; omega
  have := hk j hjn
  have hAj : ∀ c : Nat, ent A j c = ent A0 i c := fun c => by
    unfold ent
    rw [List.getD_eq_getElem?_getD, List.getElem?_eq_getElem hj, ej, List.getD_eq_getElem?_getD, e3]
  rw [← this]
  exact sm_congr fun k _ => by rw [hAj]
namespace Cl
section
variable {m : Int} {sh : List Dd} {ps : List Int} {qs : List Rat} {σ : Rat}
def shortL (m : Int) (sh : List Dd) (qs : List Rat) : List Int := ((List.range m.toNat).filter fun (k : Nat) => (stQ qs sh (k : Int)).isSome).map fun (k : Nat) => (k : Int)
theorem map_nodup {α β : Type} {f : α → β} (hf : ∀ x y, f x = f y → x = y) : ∀ {l : List α}, l.Nodup → (l.map f).Nodup
  | [], _ => by simp
  | a :: l, h => by
    obtain ⟨h1, h2⟩ := List.nodup_cons.mp h
    rw [List.map_cons]
    refine List.nodup_cons.mpr ⟨fun z => ?_, map_nodup hf h2⟩
    obtain ⟨b, hb, e⟩ := List.mem_map.mp z
    exact h1 (hf b a e ▸ hb)
def fedI (sm : List Dd) (first p : Int) : Int := (sm.map fun x => if x.a = first ∧ x.b = p then x.c else 0).sum
end
end Cl
end Ab

namespace Ab.Cl
open PySem L2
structure Reach (sm : List Dd) (f : Int) (g : List Int) : Prop where
  nd : g.Nodup
  hd : ∃ t, g = f :: t
  cl : ∀ x ∈ sm, x.a ∈ g → x.b ∈ g
  mn : ∀ M : Int → Prop, M f → (∀ x ∈ sm, M x.a → M x.b) → ∀ j ∈ g, M j
theorem Reach.self {sm : List Dd} {f : Int} {g : List Int} (h : Reach sm f g) : f ∈ g := by
  obtain ⟨t, e⟩ := h.hd
  rw [e]; simp
section
variable {m : Int} {sh : List Dd} {qs : List Rat}
theorem Reach.rng {f : Int} {g : List Int} (hs : ∀ x ∈ sh, x.Ok m) (h : Reach (someD qs sh) f g) (h0 : 0 ≤ f) (h1 : f < m) : ∀ j ∈ g, 0 ≤ j ∧ j < m := h.mn (fun j => 0 ≤ j ∧ j < m) ⟨h0, h1⟩ fun x hx _ => by
  have := hs x (some_c x hx).2.1
  unfold Dd.Ok at this
  exact ⟨this.2.2.1, this.2.2.2.1⟩
def ShutI (m : Int) (sh : List Dd) (qs : List Rat) (i : Nat) (best : List Int) : Prop :=
  (∀ f : Int, 0 ≤ f → f < (i : Int) → stQ qs sh f ≠ none → ∃ g, Reach (someD qs sh) f g ∧ ((∀ j ∈ g, stQ qs sh j ≠ none) → best ≠ [] ∧ best.length ≤ g.length)) ∧
    (best ≠ [] → ∃ f : Int, Reach (someD qs sh) f best ∧ (∀ j ∈ best, stQ qs sh j ≠ none) ∧ 0 ≤ f ∧ f < m)
theorem ShutI.start : ShutI m sh qs 0 [] := ⟨fun f h0 h1 => by omega, fun h => absurd rfl h⟩
theorem ShutI.keep {i : Nat} {best g : List Int} (h : ShutI m sh qs i best) (hg : Reach (someD qs sh) (i : Int) g) (hk : (∀ j ∈ g, stQ qs sh j ≠ none) → best ≠ [] ∧ best.length ≤ g.length) : ShutI m sh qs (i + 1) best := ⟨fun f h0 h1 hf => by
  by_cases e : f = (i : Int)
  · subst e; exact ⟨g, hg, hk⟩
  · exact h.1 f h0 (by omega) hf, h.2⟩
theorem ShutI.take {i : Nat} {best g : List Int} (h : ShutI m sh qs i best) (hi : (i : Int) < m) (hg : Reach (someD qs sh) (i : Int) g) (hsh : ∀ j ∈ g, stQ qs sh j ≠ none) (hk : best = [] ∨ g.length < best.length) : ShutI m sh qs (i + 1) g := by
  have gne : g ≠ [] := fun e => by
    have := hg.self
    rw [e] at this
    cases this
  refine ⟨fun f h0 h1 hf => ?_, fun _ => ⟨_, hg, hsh, by omega, hi⟩⟩
  by_cases e : f = (i : Int)
  · subst e; exact ⟨g, hg, fun _ => ⟨gne, Nat.le_refl _⟩⟩
  · obtain ⟨g', hg', hk'⟩ := h.1 f h0 (by omega) hf
    refine ⟨g', hg', fun hs' => ⟨gne, ?_⟩⟩
    obtain ⟨b1, b2⟩ := hk' hs'
    rcases hk with hk | hk
    · exact absurd hk b1
    · omega
theorem ShutI.none {best : List Int} (h : ShutI m sh qs m.toNat best) (e : best = []) : NoShut m sh qs := fun M hM hc j hj => by
  obtain ⟨h0, h1, h2⟩ := hM j hj
  obtain ⟨g, hg, hk⟩ := h.1 j h0 (by omega) h2
  exact (hk fun i hi => (hM i (hg.mn M hj hc i hi)).2.2).1 e
theorem ShutI.some {best : List Int} (hs : ∀ x ∈ sh, x.Ok m) (h : ShutI m sh qs m.toNat best) (e : best ≠ []) : GroupOk m sh qs best := by
  obtain ⟨f, hf, hsh, h0, h1⟩ := h.2 e
  have rg := hf.rng hs h0 h1
  refine ⟨hf.nd, fun j hj => ⟨(rg j hj).1, (rg j hj).2, hsh j hj⟩, hf.cl, fun M hM hc i hi j hj => ?_⟩
  have ib := hM i hi
  obtain ⟨g, hg, hk⟩ := h.1 i (rg i ib).1 (by have := (rg i ib).2; omega) (hsh i ib)
  have gM := hg.mn M hi hc
  have hle := (hk fun a ha => hsh a (hM a (gM a ha))).2
  refine gM j (Classical.byContradiction fun hn => ?_)
  have := nodup_len (l := j :: g) (s := best) (List.nodup_cons.mpr ⟨hn, hg.nd⟩) fun a ha => by
    rcases List.mem_cons.mp ha with q | q
    · rw [q]; exact hj
    · exact hM a (gM a q)
  rw [List.length_cons] at this
  omega
end
structure ReachI (m : Int) (sm : List Dd) (f : Int) (at_ : Nat) (g : List Int) : Prop where
  nd : g.Nodup
  hd : ∃ t, g = f :: t
  rng : ∀ j ∈ g, 0 ≤ j ∧ j < m
  cl : ∀ (i : Nat) (j : Int), i < at_ → g[i]? = some j → ∀ x ∈ sm, x.a = j → x.b ∈ g
  mn : ∀ M : Int → Prop, M f → (∀ x ∈ sm, M x.a → M x.b) → ∀ j ∈ g, M j
theorem ReachI.len {m : Int} {sm : List Dd} {f : Int} {a : Nat} {g : List Int} (h : ReachI m sm f a g) : g.length ≤ m.toNat := by
  have := nodup_len (s := (List.range m.toNat).map fun (k : Nat) => (k : Int)) h.nd fun j hj => by
    have := h.rng j hj
    exact List.mem_map.mpr ⟨j.toNat, List.mem_range.mpr (by omega), by omega⟩
  rwa [List.length_map, List.length_range] at this
theorem ReachI.fin {m : Int} {sm : List Dd} {f : Int} {a : Nat} {g : List Int} (h : ReachI m sm f a g) (ha : g.length ≤ a) : Reach sm f g := ⟨h.nd, h.hd, fun x hx hm => by
  obtain ⟨i, hi⟩ := List.mem_iff_getElem?.mp hm
  have := (List.getElem?_eq_some_iff.mp hi).1
  exact h.cl i _ (by omega) hi x hx rfl, h.mn⟩
end Ab.Cl

namespace Ab.Cl
open PySem L2
noncomputable def headsL (m : Int) (sh : List Dd) (qs : List Rat) : List Int := (List.range m.toNat).map fun (j : Nat) => hdI qs sh (j : Int)
noncomputable def topsL (m : Int) (sh : List Dd) (qs : List Rat) : List Int := (List.range m.toNat).map fun (j : Nat) => tpI qs sh (j : Int)
noncomputable def ratesL (n : Nat) (hd : Int → Int) (g : List Int) (fs : List Rat) (i : Nat) : List Rat := (List.range n).map fun (j : Nat) => if (j : Int) ∈ g.take i then (hd (j : Int) : Rat) * uL g (fun k => gR fs (k : Nat)) (j : Int) else 0
noncomputable def grownL (n : Nat) (qs gs : List Rat) (t : Rat) : List Rat := (List.range n).map fun (j : Nat) => gR qs (j : Nat) + gR gs (j : Nat) * t
def optRD : Option Rat → D
  | none => .non
  | some t => pR t
structure RoomOk (n : Nat) (tp : Nat → Int) (qs gs : List Rat) (o : Option Rat) : Prop where
  le : ∀ j : Nat, j < n → 0 < gR gs (j : Nat) → ∃ t, o = some t ∧ t ≤ ((tp j : Rat) - gR qs (j : Nat)) / gR gs (j : Nat)
  at_ : ∀ t, o = some t → ∃ j : Nat, j < n ∧ 0 < gR gs (j : Nat) ∧ t = ((tp j : Rat) - gR qs (j : Nat)) / gR gs (j : Nat)
theorem RoomOk.start {tp : Nat → Int} {qs gs : List Rat} : RoomOk 0 tp qs gs none := ⟨fun j h => by omega, fun t h => by cases h⟩
theorem RoomOk.keep {n : Nat} {tp : Nat → Int} {qs gs : List Rat} {t : Rat} (h : RoomOk n tp qs gs (some t)) (hn : ¬ ((tp n : Rat) - gR qs (n : Nat)) / gR gs (n : Nat) < t) : RoomOk (n + 1) tp qs gs (some t) := ⟨fun j hj hg => by
  by_cases e : j = n
  · subst e; exact ⟨t, rfl, Rat.not_lt.mp hn⟩
  · exact h.le j (by omega) hg, fun t ht => by
    obtain ⟨j, a, b⟩ := h.at_ t ht
    exact ⟨j, by omega, b⟩⟩
theorem RoomOk.take {n : Nat} {tp : Nat → Int} {qs gs : List Rat} {o : Option Rat} (h : RoomOk n tp qs gs o) (hg : 0 < gR gs (n : Nat)) (hk : ∀ t, o = some t → ((tp n : Rat) - gR qs (n : Nat)) / gR gs (n : Nat) ≤ t) : RoomOk (n + 1) tp qs gs (some (((tp n : Rat) - gR qs (n : Nat)) / gR gs (n : Nat))) := ⟨fun j hj hgj => by
  by_cases e : j = n
  · subst e; exact ⟨_, rfl, Rat.le_refl⟩
  · obtain ⟨t, e1, e2⟩ := h.le j (by omega) hgj
    exact ⟨_, rfl, Rat.le_trans (hk t e1) e2⟩, fun t ht => ⟨n, by omega, hg, (Option.some.inj ht).symm⟩⟩
end Ab.Cl

namespace Ab.Cl
open PySem L2
def inI (sm : List Dd) (p : Int) : Int := (sm.map fun x => if x.b = p then x.c else 0).sum
structure StepN (m : Int) (N N' : Int) (qs' : List Rat) (σ' : Rat) : Prop where
  pos : 0 < N'
  all : AllWh m N' qs'
  sg : Wh N' σ'
end Ab.Cl

namespace Ab.Cl
open PySem L2
structure GrowOk (m : Int) (sh : List Dd) (qs : List Rat) (B T P R : Nat) (d : Int) (V : Int → Int) (v : Int → Rat) (gs : List Rat) : Prop where
  d0 : d ≠ 0
  dB : d.natAbs ≤ P * B ^ m.toNat
  VB : ∀ j, (V j).natAbs ≤ P * B ^ m.toNat
  ve : ∀ j, v j = (V j : Rat) / (d : Rat)
  v0 : ∀ j, 0 ≤ v j
  gl : (gs.length : Int) = m
  ge : ∀ j : Int, 0 ≤ j → j < m → gR gs j = (hdI qs sh j : Rat) * v j
  gz : ∀ q ∈ gs, SzR (T * m.toNat + R + T + 2) q
end Ab.Cl

namespace Ab.Cl
open PySem L2
def allC (sh : List Dd) : Int := (sh.map Dd.c).sum
section
variable {m : Int} {sh : List Dd} {qs : List Rat} {ps : List Int}
structure Clrd (m : Int) (sh : List Dd) (ps : List Int) (qs : List Rat) : Prop where
  hl : (qs.length : Int) = m
  q0 : ∀ j : Int, 0 ≤ j → j < m → 0 ≤ gR qs j ∧ gR qs j ≤ (rkT sh j : Rat)
  eq : ∀ j r : Int, 0 ≤ j → j < m → stQ qs sh j = some r → gR qs j = (gI ps j : Rat) + gotP qs sh sh j
  ge : ∀ j : Int, 0 ≤ j → j < m → stQ qs sh j = none → (rkT sh j : Rat) ≤ (gI ps j : Rat) + gotP qs sh sh j
  ns : NoShut m sh qs
theorem ClI.done (I : ClI m sh ps qs 0) (h : NoShut m sh qs) : Clrd m sh ps qs := ⟨I.hl, I.q0, fun j r h0 h1 e => by rw [I.eq j r h0 h1 e]; grind, fun j h0 h1 e => by have := I.ge j h0 h1 e; grind, h⟩
theorem Clrd.fix (C : Clrd m sh ps qs) (hs : ∀ x ∈ sh, x.Ok m) : FixR m qs sh ps := fun j hj => by
  have hp : posL qs = qs := posL_self fun q hq => by
    obtain ⟨i, hi, rfl⟩ := List.mem_iff_getElem.mp hq
    have := C.q0 (i : Int) (by omega) (by have := C.hl; omega)
    rw [gR_nat hi] at this
    exact this.1
  rw [hp]
  unfold nextR
  rw [owes_rkT hs (by omega)]
  cases e : stQ qs sh (j : Int) with
  | none =>
    have h1 := C.ge j (by omega) hj e
    have h2 := st_none e
    have h3 := (C.q0 (j : Int) (by omega) hj).2
    split <;> grind
  | some r =>
    have h1 := C.eq j r (by omega) hj e
    have h2 := (st_short hs (C.q0 (j : Int) (by omega) hj).1 e).1
    split <;> grind
end
end Ab.Cl

namespace Ab.Cl
open PySem L2
section
variable {m : Int} {sh : List Dd} {ps : List Int} {qs gs : List Rat} {σ : Rat} {B T P R : Nat} {d : Int} {V : Int → Int} {v : Int → Rat} {o : Option Rat} {t : Rat}
structure StepOk (m : Int) (sh : List Dd) (ps : List Int) (qs : List Rat) (σ : Rat) (N : Int) (qs' : List Rat) (σ' : Rat) (N' : Int) : Prop where
  inv : ClI m sh ps qs' σ'
  pos : 0 < N'
  all : AllWh m N' qs'
  sg : Wh N' σ'
  less : openN m sh qs' + (if σ' = 0 then 0 else 1) < openN m sh qs + (if σ = 0 then 0 else 1)
  up : ∀ j : Int, 0 ≤ j → j < m → gR qs j ≤ gR qs' j
end
end Ab.Cl

namespace Ab.Cl
open PySem L2
section
variable {m : Int} {sh : List Dd} {ps : List Int} {qs rs : List Rat}
theorem Clrd.le (hs : ∀ x ∈ sh, x.Ok m) (C : Clrd m sh ps qs) (j : Int) (h0 : 0 ≤ j) (h1 : j < m) : gR qs j ≤ (gI ps j : Rat) + gotP qs sh sh j := by
  cases e : stQ qs sh j with
  | none => exact Rat.le_trans (C.q0 j h0 h1).2 (C.ge j h0 h1 e)
  | some r => rw [← C.eq j r h0 h1 e]; exact Rat.le_refl
end
end Ab.Cl

namespace Ab.Cl
open PySem L2
def FB (m : Int) (sh : List Dd) (ps : List Int) : Prop := (sh.length ≤ 57 ∧ (∀ x ∈ sh, x.c ≤ 12) ∧ ∀ z ∈ ps, z ≤ 40) ∨ (sh.length ≤ 12 ∧ ∀ z ∈ ps, z ≤ 100000000000000) ∨ (m ≤ 6 ∧ sh.length ≤ 16 ∧ ∀ z ∈ ps, z ≤ 100000000000000)
theorem allC_le {b : Int} {sh : List Dd} (h : ∀ x ∈ sh, x.c ≤ b) : allC sh ≤ b * (sh.length : Int) := by
  unfold allC
  induction sh with
  | nil => simp
  | cons x xs ih =>
    rw [List.map_cons, List.sum_cons, List.length_cons]
    have h1 := h x (by simp)
    have h2 := ih fun y hy => h y (by simp [hy])
    have : b * (((xs.length + 1 : Nat)) : Int) = b * (xs.length : Int) + b := by
      rw [Int.natCast_add, Int.mul_add]; simp
    omega
theorem FB.params {m : Int} {sh : List Dd} {ps : List Int} (hs : ∀ x ∈ sh, x.Ok m) (m0 : 0 ≤ m) (m1 : m ≤ 9) (h : FB m sh ps) : ∃ B T K : Nat, 0 < T ∧ T ≤ 60 ∧ B < 2 ^ T ∧ 1 ≤ B ∧ 2 * allC sh ≤ B ∧ (∀ z ∈ ps, allC sh + z ≤ B) ∧ min sh.length 27 + 1 ≤ K ∧
    2 * (1 + (T * m.toNat + T + 1) * K) + T * m.toNat + 3 * T + 10 ≤ 13000 + 2 * (T * m.toNat + T + 1) ∧ 1 + (T * m.toNat + T + 1) * K ≤ 6124 := by
  have hc : ∀ x ∈ sh, x.c ≤ 1000000000000 := fun x hx => by
    have := hs x hx
    unfold Dd.Ok at this
    omega
  rcases h with ⟨l, c, p⟩ | ⟨l, p⟩ | ⟨m6, l, p⟩
  · have := allC_le c
    refine ⟨1400, 11, 28, by decide, by decide, by decide, by decide, by omega, fun z hz => ?_, by omega, by omega, by omega⟩
    have := p z hz
    omega
  · have := allC_le hc
    refine ⟨112000000000000, 47, 13, by decide, by decide, by decide, by decide, by omega, fun z hz => ?_, by omega, by omega, by omega⟩
    have := p z hz
    omega
  · have := allC_le hc
    refine ⟨116000000000000, 47, 17, by decide, by decide, by decide, by decide, by omega, fun z hz => ?_, by omega, by omega, by omega⟩
    have := p z hz
    omega
theorem FB.len {m : Int} {sh : List Dd} {ps : List Int} (h : FB m sh ps) : sh.length ≤ 57 := by
  rcases h with ⟨l, c, p⟩ | ⟨l, p⟩ | ⟨m6, l, p⟩ <;> omega
def turnD (sh : List Dd) : List Dd := sh.map fun x => ⟨x.b, x.a, x.r, x.c⟩
end Ab.Cl

namespace Ab.Cl
open PySem L2
section
variable {m : Int} {sh : List Dd} {ps : List Int} {qs : List Rat} {j r : Int}
def endR (qs : List Rat) (sh : List Dd) (ps : List Int) (j : Int) : Rat := (gI ps j : Rat) + gotP qs sh sh j - gR qs j
def endL (m : Int) (qs : List Rat) (sh : List Dd) (ps : List Int) : List Rat := (List.range m.toNat).map fun (k : Nat) => endR qs sh ps k
theorem Clrd.nn (C : Clrd m sh ps qs) : ∀ k : Int, 0 ≤ k → k < m → 0 ≤ gR qs k := fun k h0 h1 => (C.q0 k h0 h1).1
theorem rsum_int : ∀ {v : List Int}, ((v.sum : Int) : Rat) = (v.map fun z => ((z : Int) : Rat)).sum
  | [] => by simp
  | x :: xs => by rw [List.sum_cons, List.map_cons, List.sum_cons, Rat.intCast_add, rsum_int (v := xs)]
end
end Ab.Cl

namespace Ab.Cl
open PySem L2
section
variable {m : Int} {sh : List Dd} {ps : List Int} {qs q0 : List Rat} {j r : Int}
def itR (m : Int) (sh : List Dd) (ps : List Int) (q0 : List Rat) : Nat → List Rat
  | 0 => q0
  | n + 1 => nextRL m (itR m sh ps q0 n) sh ps
theorem Clrd.pos (C : Clrd m sh ps qs) : posL qs = qs := posL_self fun q hq => by
  obtain ⟨i, hi, rfl⟩ := List.mem_iff_getElem.mp hq
  have := C.q0 (i : Int) (by omega) (by have := C.hl; omega)
  rw [gR_nat hi] at this
  exact this.1
end
end Ab.Cl

namespace Ab.Cl
open PySem L2
def bL (g : List Bool) : List D := g.map D.bl
theorem cnt_lt : ∀ {g h : List Bool}, g.length = h.length → (∀ j : Nat, g[j]? = some true → h[j]? = some true) → (∃ j : Nat, g[j]? = some false ∧ h[j]? = some true) → g.count true + 1 ≤ h.count true
  | [], [], _, _, ⟨j, e, _⟩ => by simp at e
  | a :: g, b :: h, hl, hm, ⟨j, e1, e2⟩ => by
    have hl' : g.length = h.length := by simpa using hl
    have hm' : ∀ j : Nat, g[j]? = some true → h[j]? = some true := fun j e => by have := hm (j + 1) (by simpa using e); simpa using this
    have h0 : a = true → b = true := fun e => by have := hm 0 (by simp [e]); simpa using this
    have le : ∀ {g h : List Bool}, g.length = h.length → (∀ j : Nat, g[j]? = some true → h[j]? = some true) → g.count true ≤ h.count true := by
      intro g
      induction g with
      | nil => intro h _ _; simp
      | cons a g ih =>
        intro h hl hm
        cases h with
        | nil => simp at hl
        | cons b h =>
          have h0 : a = true → b = true := fun e => by have := hm 0 (by simp [e]); simpa using this
          have := ih (h := h) (by simpa using hl) fun j e => by have := hm (j + 1) (by simpa using e); simpa using this
          rw [List.count_cons, List.count_cons]
          cases a with
          | true => rw [h0 rfl]; omega
          | false => cases b <;> simp <;> omega
    rw [List.count_cons, List.count_cons]
    cases j with
    | zero =>
      simp at e1 e2
      subst e1 e2
      have := le hl' hm'
      simp
      omega
    | succ j =>
      have := cnt_lt hl' hm' ⟨j, by simpa using e1, by simpa using e2⟩
      cases a with
      | true => rw [h0 rfl]; simp; omega
      | false => cases b <;> simp <;> omega
theorem cnt_all : ∀ {g : List Bool}, g.length ≤ g.count true → ∀ (j : Nat) (b : Bool), g[j]? = some b → b = true
  | [], _, j, b, e => by simp at e
  | a :: g, h, j, b, e => by
    have hc := List.count_le_length (a := true) (l := g)
    rw [List.count_cons, List.length_cons] at h
    cases a with
    | true =>
      cases j with
      | zero => simp at e; exact e
      | succ j => exact cnt_all (g := g) (by simp at h; omega) j b (by simpa using e)
    | false => simp at h; omega
section
variable {m : Int} {sh : List Dd} {qs : List Rat}
structure GI (m : Int) (sh : List Dd) (qs : List Rat) (g : List Bool) : Prop where
  gl : (g.length : Int) = m
  g0 : ∀ j : Nat, (j : Int) < m → stQ qs sh j = none → g[j]? = some true
def Closed (sh : List Dd) (qs : List Rat) (g : List Bool) : Prop := ∀ x ∈ someD qs sh, g[x.b.toNat]? = some true → g[x.a.toNat]? = some true
def g0L (m : Int) (qs : List Rat) (sh : List Dd) : List Bool := (List.range m.toNat).map fun (j : Nat) => (stQ qs sh j).isNone
theorem g0L_gi (m0 : 0 ≤ m) : GI m sh qs (g0L m qs sh) := ⟨by unfold g0L; simp; omega, fun j hj e => by
  unfold g0L
  rw [List.getElem?_map, List.getElem?_range (by omega)]
  simp [e]⟩
structure TI (m : Int) (sh : List Dd) (qs : List Rat) (g : List Bool) (n : Nat) (g' : List Bool) : Prop where
  gi : GI m sh qs g'
  up : ∀ j : Nat, g[j]? = some true → g'[j]? = some true
  dn : ∀ x ∈ sh.take n, x ∈ someD qs sh → g[x.b.toNat]? = some true → g'[x.a.toNat]? = some true
  st : Closed sh qs g → g' = g
theorem TI.init (h : GI m sh qs g) : TI m sh qs g 0 g := ⟨h, fun _ e => e, fun x hx => by simp at hx, fun _ => rfl⟩
def TnI (m : Int) (sh : List Dd) (qs : List Rat) (i : Nat) (g : List Bool) : Prop := GI m sh qs g ∧ (Closed sh qs g ∨ i ≤ g.count true)
theorem TnI.init (m0 : 0 ≤ m) : TnI m sh qs 0 (g0L m qs sh) := ⟨g0L_gi m0, .inr (Nat.zero_le _)⟩
theorem TnI.step {i : Nat} {g g' : List Bool} (hs : ∀ x ∈ sh, x.Ok m) (h : TnI m sh qs i g) (T : TI m sh qs g sh.length g') : TnI m sh qs (i + 1) g' := by
  refine ⟨T.gi, ?_⟩
  by_cases c : Closed sh qs g
  · rw [T.st c]
    exact .inl c
  · right
    have hcnt := h.2.resolve_left c
    have : ∃ x, x ∈ someD qs sh ∧ g[x.b.toNat]? = some true ∧ ¬ g[x.a.toNat]? = some true := by
      apply Classical.byContradiction
      intro hn
      exact c fun x hx hb => Classical.byContradiction fun ha => hn ⟨x, hx, hb, ha⟩
    obtain ⟨x, hx, hb, ha⟩ := this
    have hxs := (some_c x hx).2.1
    have ho := hs x hxs
    unfold Dd.Ok at ho
    have l1 := h.1.gl
    have l2 := T.gi.gl
    have e1 : g[x.a.toNat]? = some g[x.a.toNat] := List.getElem?_eq_getElem (by omega)
    have e2 : g[x.a.toNat] = false := by
      cases e : g[x.a.toNat] with
      | true => rw [e] at e1; exact absurd e1 ha
      | false => rfl
    rw [e2] at e1
    have := cnt_lt (g := g) (h := g') (by omega) T.up ⟨_, e1, T.dn x (by rw [List.take_length]; exact hxs) hx hb⟩
    omega
theorem TnI.all {g : List Bool} (hs : ∀ x ∈ sh, x.Ok m) (h : TnI m sh qs m.toNat g) (hN : NoShut m sh qs) : ∀ (j : Nat) (b : Bool), g[j]? = some b → b = true := by
  have hgl := h.1.gl
  rcases h.2 with c | c
  · intro j b e
    cases b with
    | true => rfl
    | false =>
      have hj := (List.getElem?_eq_some_iff.mp e).1
      refine absurd ⟨by omega, by omega, e⟩ (hN (fun k => 0 ≤ k ∧ k < m ∧ g[k.toNat]? = some false) (fun k ⟨k0, k1, k2⟩ => ⟨k0, k1, fun en => ?_⟩) (fun x hx ⟨a0, a1, a2⟩ => ?_) (j : Int))
      · have := h.1.g0 k.toNat (by omega) (by rw [show ((k.toNat : Nat) : Int) = k by omega]; exact en)
        rw [this] at k2
        cases k2
      · have ho := hs x (some_c x hx).2.1
        unfold Dd.Ok at ho
        refine ⟨by omega, by omega, ?_⟩
        have eb : g[x.b.toNat]? = some g[x.b.toNat] := List.getElem?_eq_getElem (by omega)
        cases e : g[x.b.toNat] with
        | true =>
          rw [e] at eb
          rw [c x hx eb] at a2
          cases a2
        | false => rw [e] at eb; exact eb
  · exact cnt_all (by omega)
inductive Road (sh : List Dd) (st : Int → Option Int) : Int → List Int → List Int → Prop
  | nil {j : Int} : st j = none → Road sh st j [] []
  | cons {n : Nat} {x : Dd} {rd cs : List Int} : sh[n]? = some x → 0 < x.c → st x.a = some x.r → Road sh st x.b rd cs → x.a ∉ cs → Road sh st x.a ((n : Int) :: rd) (x.a :: cs)
theorem Road.len {st : Int → Option Int} {j : Int} {rd cs : List Int} (h : Road sh st j rd cs) : rd.length = cs.length := by
  induction h with
  | nil => rfl
  | cons _ _ _ _ _ ih => simp [ih]
theorem Road.nd {st : Int → Option Int} {j : Int} {rd cs : List Int} (h : Road sh st j rd cs) : cs.Nodup := by
  induction h with
  | nil => exact List.nodup_nil
  | cons _ _ _ _ h2 ih => exact List.nodup_cons.mpr ⟨h2, ih⟩
theorem Road.mem {st : Int → Option Int} {j : Int} {rd cs : List Int} (hs : ∀ x ∈ sh, x.Ok m) (h : Road sh st j rd cs) : ∀ p ∈ cs, 0 ≤ p ∧ p < m := by
  induction h with
  | nil => intro p hp; cases hp
  | cons hn _ _ _ _ ih =>
    intro p hp
    rcases List.mem_cons.mp hp with rfl | hp
    · have := hs _ (List.mem_of_getElem? hn)
      unfold Dd.Ok at this
      omega
    · exact ih p hp
theorem Road.le {st : Int → Option Int} {j : Int} {rd cs : List Int} (hs : ∀ x ∈ sh, x.Ok m) (h : Road sh st j rd cs) : rd.length ≤ m.toNat := by
  rw [h.len]
  have := nodup_len (s := (List.range m.toNat).map fun (k : Nat) => (k : Int)) h.nd fun p hp => by
    have := h.mem hs p hp
    exact List.mem_map.mpr ⟨p.toNat, List.mem_range.mpr (by omega), by show ((p.toNat : Nat) : Int) = p; omega⟩
  simpa using this
structure RdI (m : Int) (sh : List Dd) (qs : List Rat) (g : List Bool) (M : List (List Int)) : Prop where
  ml : (M.length : Int) = m
  rd : ∀ j : Nat, g[j]? = some true → ∃ r cs, M[j]? = some r ∧ Road sh (stQ qs sh) j r cs ∧ ∀ p ∈ cs, g[p.toNat]? = some true
  no : ∀ (j : Nat) (r : List Int), M[j]? = some r → r.length ≤ m.toNat
theorem RdI.init (m0 : 0 ≤ m) : RdI m sh qs (g0L m qs sh) (List.replicate m.toNat []) := ⟨by simp; omega, fun j e => by
  unfold g0L at e
  rw [List.getElem?_map] at e
  have hj : j < m.toNat := by
    by_cases c : j < m.toNat
    · exact c
    · rw [List.getElem?_eq_none (by simp; omega)] at e; cases e
  rw [List.getElem?_range hj] at e
  have e2 : stQ qs sh (j : Int) = none := by
    cases h : stQ qs sh (j : Int) with
    | none => rfl
    | some r => simp [h] at e
  exact ⟨[], [], by rw [List.getElem?_replicate, if_pos hj], .nil e2, fun p hp => by cases hp⟩, fun j r e => by
  rw [List.getElem?_replicate] at e
  split at e
  · cases e; exact Nat.zero_le _
  · cases e⟩
end
end Ab.Cl

namespace Ab
open PySem PySem.Spec PyProof.Rows L2
section
variable {X : Cx} {g : Gi} {W : WX} {K : PySem.W.Frag}
def isBW (neg : Bool) : D → D → Sto → KD → Prop
  | .bl a, .bl b, S, k => k (.bl (if neg then !decide (a = b) else decide (a = b))) S
  | _, _, _, _ => False
theorem isBW_bb {neg a b : Bool} {S : Sto} {k : KD} : isBW neg (.bl a) (.bl b) S k = k (.bl (if neg then !decide (a = b) else decide (a = b))) S := id rfl
end
end Ab

namespace Ab.Cl
open PySem L2
section
variable {m : Int} {sh : List Dd} {qs : List Rat} {fr : Dd → Bool}
def freeQ (qs : List Rat) (sh : List Dd) (x : Dd) : Bool := (stQ qs sh x.a).isNone && (stQ qs sh x.b).isNone
def amtF (fr : Dd → Bool) (sh : List Dd) : List Int := sh.map fun x => if fr x then x.c else 0
def safeL (fr : Dd → Bool) (sh : List Dd) (left : List Int) : List Int := List.zipWith (fun x l => if fr x then l else x.c) sh left
theorem withA_amt {as : List Int} (h : as.length = sh.length) : (withA sh as).map Dd.c = as := by
  refine list_eq (by rw [List.length_map, withA_len h, h]) fun i x y e1 e2 => ?_
  have hi := (List.getElem?_eq_some_iff.mp e2).1
  have ex : sh[i]? = some sh[i] := List.getElem?_eq_getElem (by omega)
  rw [List.getElem?_map, withA_get ex (by omega)] at e1
  cases e1
  rw [← (List.getElem?_eq_some_iff.mp e2).2]
  exact gI_nat hi
end
end Ab.Cl

namespace Ab.Cl
open PySem L2
section
variable {m : Int} {sh : List Dd} {ps : List Int} {qs : List Rat} {left told : List Int} {j r : Int}
theorem st_full (hs : ∀ x ∈ sh, x.Ok m) (h : ((rkT sh j : Int) : Rat) ≤ gR qs j) : stQ qs sh j = none := by
  cases e : stQ qs sh j with
  | none => rfl
  | some r =>
    exfalso
    have n := rk_nn (j := j) hs
    have h1 : ((rkI sh j 0 : Int) : Rat) ≤ gR qs j := Rat.le_trans (Rat.intCast_le_intCast.mpr (by unfold rkT; omega)) h
    have h2 : ((rkI sh j 0 + rkI sh j 1 : Int) : Rat) ≤ gR qs j := Rat.le_trans (Rat.intCast_le_intCast.mpr (by unfold rkT; omega)) h
    have h3 : ((rkI sh j 0 + rkI sh j 1 + rkI sh j 2 : Int) : Rat) ≤ gR qs j := h
    unfold stQ rkRow at e
    rcases stop_cases (gR qs j) (rkI sh j 0) (rkI sh j 1) (rkI sh j 2) with ⟨e2, g1⟩ | ⟨e2, g1, g2⟩ | ⟨e2, g1, g2, g3⟩ | ⟨e2, g1, g2, g3⟩
    · exact absurd h1 (Rat.not_le.mpr g1)
    · exact absurd h2 (Rat.not_le.mpr g2)
    · exact absurd h3 (Rat.not_le.mpr g3)
    · rw [e2] at e; cases e
theorem rk_mem (hs : ∀ x ∈ sh, x.Ok m) {x : Dd} (hx : x ∈ sh) : x.c ≤ rkI sh x.a x.r := rkI_mem hs hx
theorem pay_full (hs : ∀ x ∈ sh, x.Ok m) {x : Dd} (hx : x ∈ sh) (h0 : 0 ≤ gR qs x.a) (h : gR qs x.a = (rkT sh x.a : Rat)) : payR qs sh x = (x.c : Rat) := by
  have ho := hs x hx
  unfold Dd.Ok at ho
  have hc := rk_mem hs hx
  by_cases e : rkI sh x.a x.r = 0
  · rw [payR_nil e, show x.c = 0 by omega]
    rfl
  · rw [payR_clamp hs hx h0 e]
    have hah := (ah_nn (j := x.a) (r := x.r) hs (by omega) (by omega)).2.2
    have h1 : ((ahI sh x.a x.r + rkI sh x.a x.r : Int) : Rat) ≤ gR qs x.a := by rw [h]; exact Rat.intCast_le_intCast.mpr hah
    rw [Rat.intCast_add] at h1
    have hm : ((rkI sh x.a x.r : Int) : Rat) ≠ 0 := by exact_mod_cast e
    have hm0 : (0 : Rat) < ((rkI sh x.a x.r : Int) : Rat) := by
      have : (0 : Int) < rkI sh x.a x.r := by
        have := rkI_nonneg (j := x.a) (r := x.r) hs
        omega
      exact_mod_cast this
    have : clampR (gR qs x.a) (ahI sh x.a x.r : Int) (rkI sh x.a x.r : Int) = ((rkI sh x.a x.r : Int) : Rat) := by
      unfold clampR
      grind
    rw [this]
    grind
theorem withA_sum {β : Type} [Add β] [Zero β] {f : Dd → β} : ∀ {sh : List Dd} {told : List Int}, told.length = sh.length → (∀ (i : Nat) (x : Dd), sh[i]? = some x → f ⟨x.a, x.b, x.r, gI told i⟩ = f x) → ((withA sh told).map f) = (sh.map f)
  | [], [], _, _ => rfl
  | x :: sh, t :: told, hl, h => by
    show f ⟨x.a, x.b, x.r, t⟩ :: (withA sh told).map f = f x :: sh.map f
    rw [withA_sum (f := f) (sh := sh) (told := told) (by simpa using hl) fun i y e => by
      have := h (i + 1) y (by simpa using e)
      simpa [gI] using this]
    have := h 0 x (by simp)
    simp [gI] at this
    rw [this]
theorem rkT_sumA (hs : ∀ x ∈ sh, x.Ok m) : rkT sh j = sumA sh j := by
  unfold rkT rkI sumA
  induction sh with
  | nil => rfl
  | cons x xs ih =>
    have := ih fun y hy => hs y (by simp [hy])
    have hx := hs x (by simp)
    unfold Dd.Ok at hx
    simp only [List.map_cons, List.sum_cons]
    by_cases h : x.a = j
    · simp only [h, true_and, if_true]
      rcases (show x.r = 0 ∨ x.r = 1 ∨ x.r = 2 by omega) with e | e | e <;> simp only [e] <;> simp <;> omega
    · simp only [h, false_and, if_false]
      omega
def cutQ (m : Int) (qs : List Rat) (sh less : List Dd) : List Rat := (List.range m.toNat).map fun (k : Nat) => if (stQ qs sh k).isNone then ((rkT less k : Int) : Rat) else gR qs k
theorem cutQ_len {less : List Dd} : (cutQ m qs sh less).length = m.toNat := by unfold cutQ; simp
theorem cutQ_get {less : List Dd} (h0 : 0 ≤ j) (h1 : j < m) : gR (cutQ m qs sh less) j = if (stQ qs sh j).isNone then ((rkT less j : Int) : Rat) else gR qs j := by
  obtain ⟨k, rfl⟩ : ∃ k : Nat, j = (k : Int) := ⟨j.toNat, by omega⟩
  rw [gR_nat (by rw [cutQ_len]; omega)]
  unfold cutQ
  simp
end
end Ab.Cl

namespace Ab.Cl
open PySem L2
section
variable {m : Int} {sh : List Dd} {ps : List Int} {qs : List Rat} {told : List Int} {j r : Int}
theorem flow_AB : ∀ {l : List Dd}, (l.map (Ab.flow j)).sum = sumB l j - sumA l j
  | [] => rfl
  | x :: l => by
    have := flow_AB (l := l)
    unfold sumA sumB at this ⊢
    unfold Ab.flow at this ⊢
    simp only [List.map_cons, List.sum_cons]
    omega
structure CutT (m : Int) (sh : List Dd) (qs : List Rat) (told : List Int) : Prop where
  tl : told.length = sh.length
  rg : ∀ (i : Nat) (x : Dd), sh[i]? = some x → 0 ≤ gI told i ∧ gI told i ≤ x.c ∧ (freeQ qs sh x = false → gI told i = x.c)
  fl : ∀ j, flows sh told j = flows sh (sh.map Dd.c) j
theorem CutT.ok (hs : ∀ x ∈ sh, x.Ok m) (T : CutT m sh qs told) : ∀ x ∈ withA sh told, x.Ok m := withA_ok hs fun z hz => by
  obtain ⟨i, hi⟩ := List.mem_iff_getElem?.mp hz
  have hil := (List.getElem?_eq_some_iff.mp hi).1
  have tl := T.tl
  have hx : sh[i]? = some sh[i] := List.getElem?_eq_getElem (by omega)
  have h1 := T.rg i _ hx
  have h2 := hs _ (List.mem_of_getElem? hx)
  unfold Dd.Ok at h2
  rw [gI_nat hil, (List.getElem?_eq_some_iff.mp hi).2] at h1
  omega
theorem not_free_a {x : Dd} (h : stQ qs sh x.a = some r) : freeQ qs sh x = false := by unfold freeQ; rw [h]; rfl
theorem CutT.rk (T : CutT m sh qs told) (h : stQ qs sh j = some r) (r' : Int) : rkI (withA sh told) j r' = rkI sh j r' := by
  unfold rkI
  rw [withA_sum (f := fun x : Dd => if x.a = j ∧ x.r = r' then x.c else 0) T.tl fun i x hx => by
    by_cases c : x.a = j ∧ x.r = r'
    · have := (T.rg i x hx).2.2 (not_free_a (by rw [c.1]; exact h))
      simp only [c, and_self, if_true]
      exact this
    · simp only [c, if_false]]
theorem CutT.row (T : CutT m sh qs told) (h : stQ qs sh j = some r) : rkRow (withA sh told) j = rkRow sh j := by
  unfold rkRow
  rw [T.rk h, T.rk h, T.rk h]
theorem CutT.rkT (T : CutT m sh qs told) (h : stQ qs sh j = some r) : Ab.rkT (withA sh told) j = Ab.rkT sh j := by
  unfold Ab.rkT
  rw [T.rk h, T.rk h, T.rk h]
theorem CutT.bal (T : CutT m sh qs told) : sumB sh j - sumB (withA sh told) j = sumA sh j - sumA (withA sh told) j := by
  have h := T.fl j
  unfold flows at h
  rw [flow_AB, flow_AB, withA_self] at h
  omega
theorem CutT.qn (h0 : 0 ≤ j) (h1 : j < m) (h : stQ qs sh j = none) : gR (cutQ m qs sh (withA sh told)) j = ((Ab.rkT (withA sh told) j : Int) : Rat) := by
  rw [cutQ_get h0 h1, h]
  rfl
theorem CutT.qo (h0 : 0 ≤ j) (h1 : j < m) (h : stQ qs sh j = some r) : gR (cutQ m qs sh (withA sh told)) j = gR qs j := by
  rw [cutQ_get h0 h1, h]
  rfl
theorem CutT.st (hs : ∀ x ∈ sh, x.Ok m) (T : CutT m sh qs told) (h0 : 0 ≤ j) (h1 : j < m) : stQ (cutQ m qs sh (withA sh told)) (withA sh told) j = stQ qs sh j := by
  cases e : stQ qs sh j with
  | none =>
    refine st_full (T.ok hs) ?_
    rw [CutT.qn h0 h1 e]
    exact Rat.le_refl
  | some r =>
    unfold stQ
    rw [CutT.qo h0 h1 e, T.row e]
    exact e
theorem CutT.full (C : Clrd m sh ps qs) (h0 : 0 ≤ j) (h1 : j < m) (h : stQ qs sh j = none) : gR qs j = ((Ab.rkT sh j : Int) : Rat) := by
  have := (C.q0 j h0 h1).2
  have := st_none h
  grind
theorem CutT.pay (hs : ∀ x ∈ sh, x.Ok m) (C : Clrd m sh ps qs) (T : CutT m sh qs told) (i : Nat) (x : Dd) (hx : sh[i]? = some x) : payR (cutQ m qs sh (withA sh told)) (withA sh told) ⟨x.a, x.b, x.r, gI told i⟩ = payR qs sh x - ((x.c - gI told i : Int) : Rat) := by
  have hm := List.mem_of_getElem? hx
  have ho := hs x hm
  unfold Dd.Ok at ho
  cases e : stQ qs sh x.a with
  | some r =>
    rw [(T.rg i x hx).2.2 (not_free_a e), Int.sub_self]
    unfold payR laidA
    dsimp only
    rw [T.rk e, T.row e, CutT.qo (by omega) (by omega) e]
    simp
    grind
  | none =>
    have h1 := CutT.full C (by omega) (by omega) e
    have h2 := CutT.qn (m := m) (told := told) (by omega) (by omega) e
    have hx2 := withA_get hx (as := told) (by rw [T.tl]; exact (List.getElem?_eq_some_iff.mp hx).1)
    have hp := pay_full (T.ok hs) (List.mem_of_getElem? hx2) (by show 0 ≤ gR _ x.a; rw [h2]; exact_mod_cast rkT_nonneg (T.ok hs)) h2
    rw [hp, pay_full hs hm (C.q0 x.a (by omega) (by omega)).1 h1, Rat.intCast_sub]
    grind
theorem CutT.free (hs : ∀ x ∈ sh, x.Ok m) (T : CutT m sh qs told) {x : Dd} (hx : x ∈ sh) {c : Int} : freeQ (cutQ m qs sh (withA sh told)) (withA sh told) ⟨x.a, x.b, x.r, c⟩ = freeQ qs sh x := by
  have ho := hs x hx
  unfold Dd.Ok at ho
  unfold freeQ
  dsimp only
  rw [T.st hs (by omega) (by omega), T.st hs (by omega) (by omega)]
end
end Ab.Cl

namespace Ab.Cl
open PySem L2
structure RdC (S : Sto) (pm pr : Nat) (cs : List Nat) (g : List Bool) (M : List (List Int)) : Prop where
  mc : S[pm]? = some (.lst (cs.map D.cell))
  rc : S[pr]? = some (.lst (bL g))
  mr : pm ≠ pr
  cl : cs.length = M.length
  nd : cs.Nodup
  ce : ∀ (i p : Nat) (r : List Int), cs[i]? = some p → M[i]? = some r → S[p]? = some (.lst (vI r))
  ne : ∀ (i p : Nat), cs[i]? = some p → p ≠ pm ∧ p ≠ pr
theorem RdC.lt {S : Sto} {pm pr : Nat} {cs : List Nat} {g : List Bool} {M : List (List Int)} (h : RdC S pm pr cs g M) {i p : Nat} (e : cs[i]? = some p) : p < S.length := by
  have hi := (List.getElem?_eq_some_iff.mp e).1
  have := h.cl
  have eM : M[i]? = some M[i] := List.getElem?_eq_getElem (by omega)
  exact (List.getElem?_eq_some_iff.mp (h.ce i p _ e eM)).1
theorem RdC.init {S : Sto} {m : Nat} {g : List Bool} : RdC (S ++ List.replicate m (Cel.lst (vI [])) ++ [.lst (cellsD S.length m)] ++ [.lst (bL g)]) (S.length + m) (S.length + m + 1) ((List.range m).map fun i => S.length + i) g (List.replicate m []) := by
  have e1 : cellsD S.length m = ((List.range m).map fun i => S.length + i).map D.cell := by
    unfold cellsD
    rw [List.map_map]
    rfl
  have l1 : (S ++ List.replicate m (Cel.lst (vI []))).length = S.length + m := by simp
  have l2 : (S ++ List.replicate m (Cel.lst (vI [])) ++ [Cel.lst (cellsD S.length m)]).length = S.length + m + 1 := by rw [List.length_append, l1]; rfl
  refine ⟨?_, ?_, by omega, by simp, ?_, fun i p r h1 h2 => ?_, fun i p h => ?_⟩
  · rw [List.getElem?_append_left (by omega), List.getElem?_append_right (by omega), l1, Nat.sub_self, e1]
    rfl
  · rw [List.getElem?_append_right (by omega), l2, Nat.sub_self]
    rfl
  · exact map_nodup (fun a b h => by omega) List.nodup_range
  · have hi := (List.getElem?_eq_some_iff.mp h1).1
    simp at hi
    rw [List.getElem?_map, List.getElem?_range hi] at h1
    rw [List.getElem?_replicate, if_pos hi] at h2
    cases h1
    cases h2
    show (_ : Sto)[S.length + i]? = _
    rw [List.getElem?_append_left (by rw [l2]; omega), List.getElem?_append_left (by rw [l1]; omega), List.getElem?_append_right (by omega), List.getElem?_replicate, if_pos (by omega)]
  · have hi := (List.getElem?_eq_some_iff.mp h).1
    simp at hi
    rw [List.getElem?_map, List.getElem?_range hi] at h
    cases h
    show S.length + i ≠ _ ∧ S.length + i ≠ _
    omega
end Ab.Cl

namespace Ab.Cl
open PySem L2
def Addy (w : Dd → Rat) : Prop := ∀ a b r c d, w ⟨a, b, r, c + d⟩ = w ⟨a, b, r, c⟩ + w ⟨a, b, r, d⟩
theorem Addy.zero {w : Dd → Rat} (h : Addy w) (a b r : Int) : w ⟨a, b, r, 0⟩ = 0 := by
  have := h a b r 0 0
  rw [Int.add_zero] at this
  grind
structure Alike (sh sh' : List Dd) : Prop where
  sm : ∀ w : Dd → Rat, Addy w → (sh'.map w).sum = (sh.map w).sum
  mem : ∀ x ∈ sh, 0 < x.c → ∃ c, 0 < c ∧ (⟨x.a, x.b, x.r, c⟩ : Dd) ∈ sh'
section
variable {m : Int} {sh sh' sh2 : List Dd} {ps : List Int} {qs : List Rat}
theorem Alike.refl : Alike sh sh := ⟨fun _ _ => rfl, fun x hx hc => ⟨x.c, hc, hx⟩⟩
theorem Alike.trans (h1 : Alike sh sh') (h2 : Alike sh' sh2) : Alike sh sh2 := ⟨fun w hw => (h2.sm w hw).trans (h1.sm w hw), fun x hx hc => by
  obtain ⟨c, c0, hm⟩ := h1.mem x hx hc
  obtain ⟨d, d0, hd⟩ := h2.mem _ hm c0
  exact ⟨d, d0, hd⟩⟩
theorem rsum_app {xs ys : List Dd} {w : Dd → Rat} : ((xs ++ ys).map w).sum = (xs.map w).sum + (ys.map w).sum := by rw [List.map_append, List.sum_append]
theorem rsum_rev {w : Dd → Rat} : ∀ {xs : List Dd}, (xs.reverse.map w).sum = (xs.map w).sum
  | [] => rfl
  | x :: xs => by
    rw [List.reverse_cons, rsum_app, rsum_rev (xs := xs), List.map_cons, List.map_cons, List.sum_cons, List.map_nil, List.sum_cons, List.sum_nil]
    grind
theorem Alike.turn {t : Nat} : Alike sh (sh.drop t ++ sh.take t).reverse := ⟨fun w _ => by
  rw [rsum_rev, rsum_app]
  have := rsum_app (xs := sh.take t) (ys := sh.drop t) (w := w)
  rw [List.take_append_drop] at this
  rw [this]
  grind, fun x hx hc => ⟨x.c, hc, by
  rw [List.mem_reverse, List.mem_append]
  rw [← List.take_append_drop t sh, List.mem_append] at hx
  exact hx.symm⟩⟩
theorem Alike.none {a b r : Int} : Alike sh (sh ++ [⟨a, b, r, 0⟩]) := ⟨fun w hw => by
  rw [rsum_app, List.map_cons, List.map_nil, List.sum_cons, List.sum_nil, hw.zero]
  grind, fun x hx hc => ⟨x.c, hc, List.mem_append.mpr (.inl hx)⟩⟩
theorem Alike.split {i : Nat} {x : Dd} {c d : Int} (hx : sh[i]? = some x) (c0 : 0 ≤ c) (d0 : 0 ≤ d) (e : c + d = x.c) : Alike sh (sh.take i ++ [⟨x.a, x.b, x.r, c⟩] ++ sh.drop (i + 1) ++ [⟨x.a, x.b, x.r, d⟩]) := by
  have hi := (List.getElem?_eq_some_iff.mp hx).1
  have hsh : sh = sh.take i ++ (x :: sh.drop (i + 1)) := by
    have := List.drop_eq_getElem_cons hi
    rw [(List.getElem?_eq_some_iff.mp hx).2] at this
    rw [← this, List.take_append_drop]
  refine ⟨fun w hw => ?_, fun y hy hc => ?_⟩
  · have h1 : w x = w ⟨x.a, x.b, x.r, c⟩ + w ⟨x.a, x.b, x.r, d⟩ := by rw [← hw, e]
    rw [rsum_app, rsum_app, rsum_app]
    have h2 : (sh.map w).sum = ((sh.take i).map w).sum + (w x + ((sh.drop (i + 1)).map w).sum) := by
      conv => lhs; rw [hsh]
      rw [rsum_app, List.map_cons, List.sum_cons]
    rw [h2, h1]
    simp only [List.map_cons, List.map_nil, List.sum_cons, List.sum_nil]
    grind
  · rw [hsh, List.mem_append, List.mem_cons] at hy
    rcases hy with hy | rfl | hy
    · exact ⟨y.c, hc, by simp [hy]⟩
    · by_cases h : 0 < c
      · exact ⟨c, h, by simp⟩
      · exact ⟨d, by omega, by simp⟩
    · exact ⟨y.c, hc, by simp [hy]⟩
theorem Alike.rk (h : Alike sh sh') (j r : Int) : rkI sh' j r = rkI sh j r := by
  have := h.sm (fun x => ((if x.a = j ∧ x.r = r then x.c else 0 : Int) : Rat)) fun a b r' c d => by
    dsimp only
    split
    · rw [Rat.intCast_add]
    · grind
  unfold rkI
  refine Rat.intCast_inj.mp ?_
  rw [rsum_int, rsum_int, List.map_map, List.map_map]
  exact this
theorem Alike.allC (h : Alike sh sh') : Cl.allC sh' = Cl.allC sh := by
  have := h.sm (fun x => ((x.c : Int) : Rat)) fun a b r' c d => by dsimp only; rw [Rat.intCast_add]
  unfold Cl.allC
  refine Rat.intCast_inj.mp ?_
  rw [rsum_int, rsum_int, List.map_map, List.map_map]
  exact this
theorem Alike.row (h : Alike sh sh') (j : Int) : rkRow sh' j = rkRow sh j := by unfold rkRow; rw [h.rk, h.rk, h.rk]
theorem Alike.rkT (h : Alike sh sh') (j : Int) : Ab.rkT sh' j = Ab.rkT sh j := by unfold Ab.rkT; rw [h.rk, h.rk, h.rk]
theorem Alike.st (h : Alike sh sh') (j : Int) : stQ qs sh' j = stQ qs sh j := by unfold stQ; rw [h.row]
theorem Alike.pay (h : Alike sh sh') (x : Dd) : payR qs sh' x = payR qs sh x := by
  unfold payR laidA
  rw [h.rk, h.row]
theorem Alike.openN (h : Alike sh sh') : Cl.openN m sh' qs = Cl.openN m sh qs := by
  unfold Cl.openN ahI
  congr 1
  funext p
  rw [h.rk, h.row]
end
end Ab.Cl

namespace Ab.Cl
open PySem L2
def scaleD (n : Int) (sh : List Dd) : List Dd := sh.map fun x => ⟨x.a, x.b, x.r, x.c * n⟩
def scaleQ (n : Int) (qs : List Rat) : List Rat := qs.map fun q => q * (n : Rat)
section
variable {m n : Int} {sh : List Dd} {ps : List Int} {qs : List Rat} {j r : Int}
end
end Ab.Cl

namespace Ab
end Ab

namespace Ab.Cl
end Ab.Cl

namespace Ab
open PySem L2
def addB (a b : List Int) : List Int := List.zipWith (fun x y => x + y) a b
def meansR (ps : List Int) (rows : List (Str × List Int × List Int)) : List Int := rows.foldl (fun m x => addB m x.2.1) ps
structure MOk (n : Nat) (ps g : List Int) (s : LSt) : Prop where
  ln : (meansR ps s.rows).length = n
  gt : ∀ k : Nat, k < n → gI (meansR ps s.rows) k + gI s.rests k = gI ps k + gI g k
  lo : ∀ k : Nat, k < n → gI ps k ≤ gI (meansR ps s.rows) k
  rl : ∀ x ∈ s.rows, x.2.1.length = n ∧ ∀ k : Nat, k < n → 0 ≤ gI x.2.1 k
namespace Cl
section
variable {m : Int} {sh : List Dd} {ps : List Int} {qs : List Rat} {j : Int}
theorem got_le_B (hs : ∀ x ∈ sh, x.Ok m) (hq : ∀ k : Int, 0 ≤ k → k < m → 0 ≤ gR qs k) : gotP qs sh sh j ≤ ((sumB sh j : Int) : Rat) := by
  unfold gotP sumB
  rw [rsum_int, List.map_map]
  refine sum_mono fun x hx => ?_
  have ho := hs x hx
  unfold Dd.Ok at ho
  show (if x.b = j then payR qs sh x else 0) ≤ ((if x.b = j then x.c else 0 : Int) : Rat)
  split
  · exact payR_le hs hx (hq x.a (by omega) (by omega))
  · exact Rat.le_refl
theorem Clrd.short (hs : ∀ x ∈ sh, x.Ok m) (C : Clrd m sh ps qs) (k0 : 0 ≤ j) (k1 : j < m) (h : gI ps j + sumB sh j < sumA sh j) : stQ qs sh j ≠ none := fun e => by
  have h1 := C.ge j k0 k1 e
  have h2 := got_le_B (j := j) hs C.nn
  rw [rkT_sumA hs] at h1
  have h3 : ((sumA sh j : Int) : Rat) ≤ ((gI ps j + sumB sh j : Int) : Rat) := by rw [Rat.intCast_add]; grind
  have := Rat.intCast_le_intCast.mp h3
  omega
end
end Cl
end Ab

namespace Ab
open PySem PySem.Spec PyProof.Rows L2
abbrev keyScope : Scope := { kind := .function, names := [("day", .local), ("losses", .free)], isGenerator := false, isCoroutine := false, more := [] }
abbrev keyParams (pp : Pos) : Arguments := { posonlyargs := [], args := [{ arg := "day", annotation := none, pos := pp }], vararg := none, kwonlyargs := [], kw_defaults := [], kwarg := none, defaults := [] }
abbrev keyBody (j kk : Nat) (p0 p1 p2 p3 p4 p5 p6 : Pos) : Expr := .Tuple [.BinOp (.Constant (.int 0) j p0) .Sub (.Subscript (.Name "losses" p1) (.Name "day" p2) p3) p4, .Name "day" p5] kk p6
def kDat (key : Int → Int) (x : Int) : PyData := .tuple [.int (key x), .int x]
def TabOk (H : Hp) (ps : Array Value) (q : Str) : Prop := TriplesOk ps.toList ∧ ∀ (pos : Pos) (cv : Value), codeAmong pos ps.toList = some cv → ∃ c, cv = .ref c ∧ H c = some (LamX.CodeO c q)
def LamH (H H1 : Hp) (P : Addr) (ps : Array Value) (q : Str) : Prop := H1 = H ∨ ∃ (c' : Addr) (more : Array Value), H c' = none ∧ H1 = upd (upd H P (.tbl (ps ++ more))) c' (LamX.CodeO c' q) ∧ TriplesOk (ps ++ more).toList ∧ ∀ (pos : Pos) (cv : Value), codeAmong pos (ps ++ more).toList = some cv → codeAmong pos ps.toList = some cv ∨ cv = .ref c'
def sortK (ns : List Int) (n : Int) : List Int := (intsL n).mergeSort (PySem.W.dataLe false (kDat fun x => 0 - gI ns x))
def tSortKey (K : PySem.W.Frag) (i : Nat) (P : Addr) (q : Str) (te : L2.St → Hp → (Int → Int → Hp → Prop) → Prop) : TE := fun σ H Q => te σ H fun a b H1 => a = 0 ∧ RgOk 0 b ∧ ∃ (aL : Addr) (ns : List Int) (ps : Array Value),
  σ[i]? = some (some (.ref aL)) ∧ SqL K H1 aL (ns.map V.int) ∧ b ≤ (ns.length : Int) ∧ H1 P = some (.tbl ps) ∧ TabOk H1 ps q ∧ ∀ (H2 : Hp) (p : Addr), LamH H1 H2 P ps q → H2 p = none → Q (.ref p) (upd H2 p (.lst ((sortK ns b).map V.int)))
theorem LamH.sql {K : PySem.W.Frag} {H H1 : Hp} {P a : Addr} {ps : Array Value} {q : Str} {xs : List V} (L : LamH H H1 P ps q) (hP : H P = some (.tbl ps)) (h : SqL K H a xs) : SqL K H1 a xs := by
  rcases L with rfl | ⟨c', more, n, rfl, _⟩
  · exact h
  have key : ∀ o, H a = some o → (∀ ps, o ≠ .tbl ps) → upd (upd H P (.tbl (ps ++ more))) c' (LamX.CodeO c' q) a = some o := fun o e hn => by
    rw [upd_ne (ne_of_none e n), upd_ne (fun z => hn ps (by rw [z, hP] at e; exact (Option.some.inj e).symm))]
    exact e
  rcases h with (h | ⟨o, h⟩) | h
  · exact .inl (.inl (key _ h fun ps z => by cases z))
  · exact .inl (.inr ⟨o, key _ h fun ps z => by cases z⟩)
  · exact .inr h
def kSortK (i : Nat) (q : Str) (k : KD) (s : Env) : D → Sto → Prop
  | .int n, S => ∃ (j : Nat) (P0 : Addr) (d : D) (ns : List Int), S[j]? = some (.tab P0 q) ∧ slot s i = some d ∧ lview S d = some (ns.map .int) ∧ 0 ≤ n ∧ n ≤ (ns.length : Int) ∧ n ≤ 16777216 ∧ k (.lst ((sortK ns n).map .int)) S
  | _, _ => False
def wSortK (i : Nat) (q : Str) (we : WE) : WE := fun (xc : HG XE) s S k => we xc s S (kSortK i q k s)
end Ab

namespace Ab
open PySem PySem.Spec PyProof.Rows L2
noncomputable def vSortK : (Nat) → (Str) → (WE) → (WE) := sld wSortK
theorem vSortK_s : vSortK = wSortK := sld_eq _
theorem vSortK_q (i : Nat) (q : Str) (we : WE) (xc : _) (s : _) (S : _) (k : _) : vSortK i q we xc s S k = (we xc s S (kSortK i q k s)) := by rw [vSortK_s]; rfl
theorem kSortK_i {i : Nat} {q : Str} {k : KD} {s : Env} {n : Int} {S : Sto} : kSortK i q k s (.int n) S = ∃ (j : Nat) (P0 : Addr) (d : D) (ns : List Int), S[j]? = some (.tab P0 q) ∧ slot s i = some d ∧ lview S d = some (ns.map .int) ∧ 0 ≤ n ∧ n ≤ (ns.length : Int) ∧ n ≤ 16777216 ∧ k (.lst ((sortK ns n).map .int)) S := id rfl
end Ab

namespace Ab
open PySem PySem.Spec PyProof.Rows L2 L2H
section
variable {X : Cx} {pins : List (Addr × Obj)} {σ : L2.St} {H : Hp} {s : Shared}
abbrev fxe : Value → Shared → Prop := fun _ _ => False
end
def wAsK (K : PySem.W.Frag) (c : Value) (i : Nat) (ts tK : Addr → Value → Option Addr → TS) (Wout : WX) (D : Ends) : WX := fun cls d σ H =>
  ∃ b, PySem.W.exmOne K cls c = some b ∧ (b = true → ∀ a, H a = none → ts a cls d { nx := fun σ' H' => tK a cls d D (σ'.set i none) H', rt := fun _ _ => False } (σ.set i (some (.ref a))) H) ∧
    (b = false → Wout cls d σ H)
section
variable {X : Cx} {x n : Str} {c : Value} {i : Nat} {body suite rest : List Stmt} {b₀ : Stmt} {np pos pos' : Pos} {tb : WX → TS} {t0 : TS} {ts tK : Addr → Value → Option Addr → TS} {Wout : WX}
end
def wTryK (i : Nat) (rl : List Str) (cat : Str → Bool) (w : WS) (ws : Addr → Str → WS) (w0 : WS) (wK : Addr → Str → WS) : WS := fun (D : HG Kd) s S =>
  w { nx := fun s1 S1 => w0 { nx := D.nx, rt := D.rt, xc := fun _ _ _ => False } s1 S1, rt := D.rt, xc := fun c s1 S1 => rl.contains c = true ∧ if cat c = true then ∀ a : Addr, ws a c { nx := fun s2 S2 => wK a c { nx := D.nx, rt := D.rt, xc := fun _ _ _ => False } (s2.set i none) S2, rt := fun _ _ => False, xc := fun _ _ _ => False } (s1.set i (some (.exn a c))) S1 else D.xc c s1 S1 } s S
section
variable {X : Cx} {g : Gi} {W : WX} {w : WS}
def wNevE : WE := fun (_ : HG XE) _ _ _ => False
theorem isNW_x {neg : Bool} {a : Addr} {c : Str} {S : Sto} {k : KD} : isNW neg (.exn a c) .non S k = k (.bl neg) S := id rfl
end
end Ab

namespace Ab
open PySem PySem.Spec PyProof.Rows L2
noncomputable def vAsK : (PySem.W.Frag) → (Value) → (Nat) → (Addr → Value → Option Addr → TS) → (Addr → Value → Option Addr → TS) → (WX) → (Ends) → (WX) := sld wAsK
noncomputable def vTryK : (Nat) → (List Str) → (Str → Bool) → (WS) → (Addr → Str → WS) → (WS) → (Addr → Str → WS) → (WS) := sld wTryK
theorem vTryK_s : vTryK = wTryK := sld_eq _
theorem vTryK_q (i : Nat) (rl : List Str) (cat : Str → Bool) (w : WS) (ws : Addr → Str → WS) (w0 : WS) (wK : Addr → Str → WS) (D : _) (s : _) (S : _) : vTryK i rl cat w ws w0 wK D s S = ( w { nx := fun s1 S1 => w0 { nx := D.nx, rt := D.rt, xc := fun _ _ _ => False } s1 S1, rt := D.rt, xc := fun c s1 S1 => rl.contains c = true ∧ if cat c = true then ∀ a : Addr, ws a c { nx := fun s2 S2 => wK a c { nx := D.nx, rt := D.rt, xc := fun _ _ _ => False } (s2.set i none) S2, rt := fun _ _ => False, xc := fun _ _ _ => False } (s1.set i (some (.exn a c))) S1 else D.xc c s1 S1 } s S) := by rw [vTryK_s]; rfl
noncomputable def vNevE : (WE) := sld wNevE
theorem vNevE_s : vNevE = wNevE := sld_eq _
theorem vNevE_q (y0 : _) (y1 : _) (y2 : _) (y3 : _) : vNevE  y0 y1 y2 y3 = (False) := by rw [vNevE_s]; rfl
end Ab

namespace Ab
open PySem PySem.Spec PyProof.Rows L2
section
variable {X : Cx} {g : Gi} {W : WX} {a b c e o : Expr} {pos apos cpos : Pos} {wa wb wo we : WE}
def slX : D → Option Int → Option Int → Sto → KD → Prop
  | .str z, lo, hi, S, k => z.length ≤ sizeLine ∧ k (.str (Txt.slice z lo hi)) S
  | _, _, _, _, _ => False
def wSlX (wa : WE) (wl wh : WO) : WE := fun (xc : HG XE) s S k => wa xc s S fun x S1 => wl xc s S1 fun l S2 => wh xc s S2 fun u S3 => slX x l u S3 k
theorem slX_s {z : Str} {lo hi : Option Int} {S : Sto} {k : KD} : slX (.str z) lo hi S k = (z.length ≤ sizeLine ∧ k (.str (Txt.slice z lo hi)) S) := id rfl
def upF : D → Sto → KD → Prop
  | .str z, S, k => z.length ≤ 5592405 ∧ k (.str (Txt.upper z)) S
  | _, _, _ => False
def wUp (wo : WE) : WE := fun (xc : HG XE) s S k => wo xc s S fun x S1 => upF x S1 k
theorem upF_s {z : Str} {S : Sto} {k : KD} : upF (.str z) S k = (z.length ≤ 5592405 ∧ k (.str (Txt.upper z)) S) := id rfl
def joF : D → D → Sto → KD → Prop
  | .str z, y, S, k => ∃ ys : List Str, sview S y = some (ys.map .str) ∧ (ys.map (·.length)).sum + ys.length * z.length ≤ 16777216 ∧ k (.str (Txt.join z ys)) S
  | _, _, _, _ => False
def wJo (wo wa : WE) : WE := fun (xc : HG XE) s S k => wo xc s S fun x S1 => (∃ z, x = .str z) ∧ wa xc s S1 fun y S2 => joF x y S2 k
theorem joF_s {z : Str} {y : D} {S : Sto} {k : KD} : joF (.str z) y S k = ∃ ys : List Str, sview S y = some (ys.map .str) ∧ (ys.map (·.length)).sum + ys.length * z.length ≤ 16777216 ∧ k (.str (Txt.join z ys)) S := id rfl
end
end Ab

namespace Ab
open PySem PySem.Spec PyProof.Rows L2
noncomputable def vSlX : (WE) → (WO) → (WO) → (WE) := sld wSlX
theorem vSlX_s : vSlX = wSlX := sld_eq _
theorem vSlX_q (wa : WE) (wl wh : WO) (xc : _) (s : _) (S : _) (k : _) : vSlX wa wl wh xc s S k = (wa xc s S fun x S1 => wl xc s S1 fun l S2 => wh xc s S2 fun u S3 => slX x l u S3 k) := by rw [vSlX_s]; rfl
noncomputable def vUp : (WE) → (WE) := sld wUp
theorem vUp_s : vUp = wUp := sld_eq _
theorem vUp_q (wo : WE) (xc : _) (s : _) (S : _) (k : _) : vUp wo xc s S k = (wo xc s S fun x S1 => upF x S1 k) := by rw [vUp_s]; rfl
noncomputable def vJo : (WE) → (WE) → (WE) := sld wJo
theorem vJo_s : vJo = wJo := sld_eq _
theorem vJo_q (wo wa : WE) (xc : _) (s : _) (S : _) (k : _) : vJo wo wa xc s S k = (wo xc s S fun x S1 => (∃ z, x = .str z) ∧ wa xc s S1 fun y S2 => joF x y S2 k) := by rw [vJo_s]; rfl
end Ab

namespace Ab.Th
open Ab
def upd {α : Type} (f : Int → α) (i : Int) (v : α) : Int → α := fun j => if j = i then v else f j
theorem upd_at {α : Type} {f : Int → α} {i : Int} {v : α} : upd f i v i = v := if_pos rfl
theorem upd_ne {α : Type} {f : Int → α} {i j : Int} {v : α} (h : j ≠ i) : upd f i v j = f j := if_neg h
structure BS where
  L : Int → Option Int
  C : Int → Option Dd
def betr (o : Option Int) (z : Int) : Bool := match o with
  | none => true
  | some v => decide (z < v)
def rlx (w : Dd → Int) (s : BS) (x : Dd) : BS := match s.L x.a with
  | none => s
  | some u => if betr (s.L x.b) (u + w x) = true then ⟨upd s.L x.b (some (u + w x)), upd s.C x.b (some x)⟩ else s
theorem rlx_none {w : Dd → Int} {s : BS} {x : Dd} (h : s.L x.a = none) : rlx w s x = s := by unfold rlx; rw [h]
theorem rlx_some {w : Dd → Int} {s : BS} {x : Dd} {u : Int} (h : s.L x.a = some u) : rlx w s x = if betr (s.L x.b) (u + w x) = true then ⟨upd s.L x.b (some (u + w x)), upd s.C x.b (some x)⟩ else s := by unfold rlx; rw [h]
def rnd (w : Dd → Int) (E : List Dd) (s : BS) : BS := E.foldl (rlx w) s
def rnds (w : Dd → Int) (E : List Dd) : Nat → BS → BS
  | 0, s => s
  | n + 1, s => rnd w E (rnds w E n s)
def Chn (E : List Dd) : Int → List Dd → Int → Prop
  | u, [], v => u = v
  | u, x :: p, v => x ∈ E ∧ x.a = u ∧ Chn E x.b p v
def cst (w : Dd → Int) (p : List Dd) : Int := (p.map w).sum
def Le (L L' : Int → Option Int) : Prop := ∀ v u, L v = some u → ∃ u', L' v = some u' ∧ u' ≤ u
theorem Le.refl (L : Int → Option Int) : Le L L := fun v u h => ⟨u, h, Int.le_refl _⟩
theorem Le.trans {L M N : Int → Option Int} (a : Le L M) (b : Le M N) : Le L N := fun v u h => by
  obtain ⟨u', h1, h2⟩ := a v u h
  obtain ⟨u'', h3, h4⟩ := b v u' h1
  exact ⟨u'', h3, Int.le_trans h4 h2⟩
section
variable {w : Dd → Int} {E : List Dd} {s : BS} {x : Dd}
theorem rlx_le : Le s.L (rlx w s x).L := by
  cases h : s.L x.a with
  | none => rw [rlx_none h]; exact .refl _
  | some u =>
    rw [rlx_some h]
    split
    · rename_i hb
      intro v z hv
      show ∃ u', upd s.L x.b (some (u + w x)) v = some u' ∧ u' ≤ z
      by_cases c : v = x.b
      · subst c
        rw [upd_at]
        rw [hv] at hb
        exact ⟨_, rfl, Int.le_of_lt (of_decide_eq_true hb)⟩
      · rw [upd_ne c]
        exact ⟨z, hv, Int.le_refl _⟩
    · exact .refl _
theorem rnd_le : ∀ {E : List Dd} {s : BS}, Le s.L (rnd w E s).L
  | [], s => .refl _
  | x :: E, s => rlx_le.trans (rnd_le (E := E) (s := rlx w s x))
theorem rnds_le : ∀ {n : Nat}, Le s.L (rnds w E n s).L
  | 0 => .refl _
  | n + 1 => (rnds_le (n := n)).trans rnd_le
theorem rlx_done {u : Int} (h : s.L x.a = some u) : ∃ v, (rlx w s x).L x.b = some v ∧ v ≤ u + w x := by
  rw [rlx_some h]
  split
  · exact ⟨_, upd_at, Int.le_refl _⟩
  · rename_i hb
    cases e : s.L x.b with
    | none => rw [e] at hb; exact absurd rfl hb
    | some v =>
      rw [e] at hb
      exact ⟨v, rfl, by have : ¬ (u + w x < v) := fun z => hb (decide_eq_true z); omega⟩
theorem rnd_done : ∀ {E : List Dd} {s : BS} {u : Int}, x ∈ E → s.L x.a = some u → ∃ v, (rnd w E s).L x.b = some v ∧ v ≤ u + w x
  | [], _, _, h, _ => absurd h (by simp)
  | y :: E, s, u, h, hu => by
    rcases List.mem_cons.mp h with rfl | h
    · obtain ⟨v, h1, h2⟩ := rlx_done (w := w) hu
      obtain ⟨v', h3, h4⟩ := rnd_le (w := w) (E := E) _ _ h1
      exact ⟨v', h3, Int.le_trans h4 h2⟩
    · obtain ⟨u', h1, h2⟩ := rlx_le (w := w) (s := s) (x := y) _ _ hu
      obtain ⟨v, h3, h4⟩ := rnd_done (E := E) (s := rlx w s y) h h1
      exact ⟨v, h3, by omega⟩
theorem chn_app : ∀ {p q : List Dd} {u v z : Int}, Chn E u p v → Chn E v q z → Chn E u (p ++ q) z
  | [], _, _, _, _, h, g => by have h : _ = _ := h; subst h; exact g
  | y :: p, q, u, v, z, h, g => ⟨h.1, h.2.1, chn_app h.2.2 g⟩
theorem chn_unapp : ∀ {p q : List Dd} {u z : Int}, Chn E u (p ++ q) z → ∃ v, Chn E u p v ∧ Chn E v q z
  | [], _, u, _, h => ⟨u, rfl, h⟩
  | y :: p, q, u, z, h => by
    obtain ⟨v, h1, h2⟩ := chn_unapp (p := p) h.2.2
    exact ⟨v, ⟨h.1, h.2.1, h1⟩, h2⟩
theorem cst_app {p q : List Dd} : cst w (p ++ q) = cst w p + cst w q := by unfold cst; rw [List.map_append, List.sum_append]
theorem cst_cons {p : List Dd} : cst w (x :: p) = w x + cst w p := by unfold cst; rw [List.map_cons, List.sum_cons]
theorem chn_mem : ∀ {p : List Dd} {u v : Int}, Chn E u p v → ∀ y ∈ p, y ∈ E
  | [], _, _, _, y, h => absurd h (by simp)
  | z :: p, u, v, h, y, hy => by
    rcases List.mem_cons.mp hy with rfl | hy
    · exact h.1
    · exact chn_mem h.2.2 y hy
theorem chn_pot {g : Int → Int} (hg : ∀ x ∈ E, g x.b ≤ g x.a + w x) : ∀ {p : List Dd} {u v : Int}, Chn E u p v → g v ≤ g u + cst w p
  | [], u, v, h => by have h : u = v := h; subst h; unfold cst; simp
  | y :: p, u, v, h => by
    have h1 := chn_pot hg h.2.2
    have h2 := hg y h.1
    rw [cst_cons]
    rw [← h.2.1]
    omega
theorem chn_last (u : Int) : ∀ {p : List Dd} {a v : Int}, Chn E a p v → (∀ y ∈ p, y.b ≠ u) ∨ ∃ p1 p2, p = p1 ++ p2 ∧ Chn E a p1 u ∧ Chn E u p2 v ∧ ∀ y ∈ p2, y.b ≠ u
  | [], a, v, h => .inl fun y hy => absurd hy (by simp)
  | y :: p, a, v, h => by
    rcases chn_last u h.2.2 with h1 | ⟨p1, p2, rfl, h1, h2, h3⟩
    · by_cases c : y.b = u
      · exact .inr ⟨[y], p, rfl, ⟨h.1, h.2.1, c⟩, by rw [← c]; exact h.2.2, h1⟩
      · refine .inl fun z hz => ?_
        rcases List.mem_cons.mp hz with rfl | hz
        · exact c
        · exact h1 z hz
    · exact .inr ⟨y :: p1, p2, rfl, ⟨h.1, h.2.1, h1⟩, h2, h3⟩
theorem chn_short {g : Int → Int} (hg : ∀ x ∈ E, g x.b ≤ g x.a + w x) : ∀ (n : Nat) (A : List Int) {p : List Dd} {u v : Int}, A.length = n → A.Nodup → u ∈ A → Chn E u p v → (∀ y ∈ p, y.b ∈ A) → ∃ q, Chn E u q v ∧ q.length < n ∧ cst w q ≤ cst w p
  | 0, A, p, u, v, hn, _, hu, _, _ => by
    have : A = [] := List.length_eq_zero_iff.mp hn
    rw [this] at hu
    exact absurd hu (by simp)
  | n + 1, A, p, u, v, hn, hA, hu, hp, hv => by
    have key : ∃ p2, Chn E u p2 v ∧ (∀ y ∈ p2, y.b ≠ u) ∧ cst w p2 ≤ cst w p ∧ ∀ y ∈ p2, y ∈ p := by
      rcases chn_last u hp with h1 | ⟨p1, p2, rfl, h1, h2, h3⟩
      · exact ⟨p, hp, h1, Int.le_refl _, fun y h => h⟩
      · refine ⟨p2, h2, h3, ?_, fun y h => List.mem_append.mpr (.inr h)⟩
        have := chn_pot hg h1
        rw [cst_app]
        omega
    obtain ⟨p2, h1, h2, h3, h4⟩ := key
    match p2, h1, h2, h3, h4 with
    | [], h1, _, h3, _ => exact ⟨[], h1, Nat.succ_pos _, h3⟩
    | y :: r, h1, h2, h3, h4 =>
      have hl : (A.erase u).length = n := by rw [List.length_erase_of_mem hu, hn]; rfl
      obtain ⟨q, q1, q2, q3⟩ := chn_short hg n (A.erase u) (p := r) (u := y.b) (v := v) hl (hA.sublist List.erase_sublist) ((List.Nodup.mem_erase_iff hA).mpr ⟨h2 y List.mem_cons_self, hv y (h4 y List.mem_cons_self)⟩) h1.2.2
        (fun z hz => (List.Nodup.mem_erase_iff hA).mpr ⟨h2 z (List.mem_cons_of_mem _ hz), hv z (h4 z (List.mem_cons_of_mem _ hz))⟩)
      refine ⟨y :: q, ⟨h1.1, h1.2.1, q1⟩, by rw [List.length_cons]; omega, ?_⟩
      rw [cst_cons] at h3 ⊢
      omega
theorem rnds_way {st : Int → Prop} {s0 : BS} (h0 : ∀ z, st z → s0.L z = some 0) : ∀ (n : Nat) {p : List Dd} {z v : Int}, st z → Chn E z p v → p.length ≤ n → ∃ u, (rnds w E n s0).L v = some u ∧ u ≤ cst w p
  | n, [], z, v, hz, h, _ => by
    have h : z = v := h
    subst h
    obtain ⟨u, h1, h2⟩ := rnds_le (w := w) (E := E) (n := n) _ _ (h0 z hz)
    exact ⟨u, h1, by unfold cst; simpa using h2⟩
  | 0, y :: p, z, v, hz, h, hl => absurd hl (by simp)
  | n + 1, y :: p, z, v, hz, h, hl => by
    have e := List.dropLast_concat_getLast (List.cons_ne_nil y p)
    generalize hq : (y :: p).dropLast = q at e
    generalize (y :: p).getLast (List.cons_ne_nil y p) = x at e
    have lq : q.length ≤ n := by
      have : q.length = (y :: p).length - 1 := by rw [← hq, List.length_dropLast]
      omega
    rw [← e] at h ⊢
    obtain ⟨a, h1, h2⟩ := chn_unapp h
    obtain ⟨u, h3, h4⟩ := rnds_way h0 n hz h1 lq
    obtain ⟨hx, ha, hv⟩ := h2
    have hv : x.b = v := hv
    subst ha hv
    obtain ⟨t, h5, h6⟩ := rnd_done (w := w) hx h3
    refine ⟨t, h5, ?_⟩
    rw [cst_app, cst_cons]
    have : cst w [] = 0 := rfl
    omega
structure BInv (w : Dd → Int) (E : List Dd) (st : Int → Prop) (s : BS) : Prop where
  i1 : ∀ v u, s.L v = some u → ∃ z p, st z ∧ Chn E z p v ∧ cst w p = u
  i2 : ∀ v x, s.C v = some x → x ∈ E ∧ x.b = v ∧ ∃ ua ub, s.L x.a = some ua ∧ s.L v = some ub ∧ ua + w x ≤ ub
  i3 : ∀ v u, s.L v = some u → s.C v = none → st v
theorem BInv.rlx {st : Int → Prop} (h : BInv w E st s) (hx : x ∈ E) (hne : x.a ≠ x.b) : BInv w E st (rlx w s x) := by
  cases e : s.L x.a with
  | none => rw [rlx_none e]; exact h
  | some u =>
    rw [rlx_some e]
    split
    · rename_i hb
      have lt : ∀ v, s.L x.b = some v → u + w x < v := fun v hv => by rw [hv] at hb; exact of_decide_eq_true hb
      refine ⟨fun v t hv => ?_, fun v y hy => ?_, fun v t hv hc => ?_⟩
      · have hv : upd s.L x.b (some (u + w x)) v = some t := hv
        by_cases c : v = x.b
        · subst c
          rw [upd_at] at hv
          obtain ⟨z, p, h1, h2, h3⟩ := h.i1 _ _ e
          refine ⟨z, p ++ [x], h1, chn_app h2 ⟨hx, rfl, rfl⟩, ?_⟩
          rw [cst_app, cst_cons, h3, ← Option.some.inj hv]
          have : cst w [] = 0 := rfl
          omega
        · rw [upd_ne c] at hv
          exact h.i1 v t hv
      · have hy : upd s.C x.b (some x) v = some y := hy
        show y ∈ E ∧ y.b = v ∧ ∃ ua ub, upd s.L x.b (some (u + w x)) y.a = some ua ∧ upd s.L x.b (some (u + w x)) v = some ub ∧ ua + w y ≤ ub
        by_cases c : v = x.b
        · subst c
          rw [upd_at] at hy
          obtain rfl := Option.some.inj hy
          exact ⟨hx, rfl, u, _, by rw [upd_ne hne]; exact e, upd_at, Int.le_refl _⟩
        · rw [upd_ne c] at hy
          obtain ⟨h1, h2, ua, ub, h3, h4, h5⟩ := h.i2 v y hy
          refine ⟨h1, h2, ?_⟩
          rw [upd_ne c]
          by_cases c2 : y.a = x.b
          · rw [c2] at h3 ⊢
            have := lt _ h3
            exact ⟨_, ub, upd_at, h4, by omega⟩
          · rw [upd_ne c2]
            exact ⟨ua, ub, h3, h4, h5⟩
      · have hv : upd s.L x.b (some (u + w x)) v = some t := hv
        have hc : upd s.C x.b (some x) v = none := hc
        by_cases c : v = x.b
        · subst c
          rw [upd_at] at hc
          cases hc
        · rw [upd_ne c] at hv hc
          exact h.i3 v t hv hc
    · exact h
theorem BInv.rnd {st : Int → Prop} : ∀ {F : List Dd} {s : BS}, (∀ x ∈ F, x ∈ E ∧ x.a ≠ x.b) → BInv w E st s → BInv w E st (rnd w F s)
  | [], _, _, h => h
  | x :: F, s, hF, h => BInv.rnd (F := F) (s := Th.rlx w s x) (fun y hy => hF y (List.mem_cons_of_mem _ hy)) (h.rlx (hF x List.mem_cons_self).1 (hF x List.mem_cons_self).2)
theorem BInv.rnds {st : Int → Prop} (hE : ∀ x ∈ E, x.a ≠ x.b) (h : BInv w E st s) : ∀ n, BInv w E st (rnds w E n s)
  | 0 => h
  | n + 1 => (BInv.rnds hE h n).rnd fun x hx => ⟨hx, hE x hx⟩
structure Done (w : Dd → Int) (E : List Dd) (st : Int → Prop) (m : Nat) (s : BS) : Prop where
  fix : ∀ x ∈ E, ∀ u, s.L x.a = some u → ∃ v, s.L x.b = some v ∧ v ≤ u + w x
  way : ∀ v u, s.L v = some u → ∃ z p, st z ∧ Chn E z p v ∧ cst w p = u ∧ p.length < m
  st0 : ∀ z, st z → ∃ u, s.L z = some u ∧ u ≤ 0
  cam : ∀ v x, s.C v = some x → x ∈ E ∧ x.b = v ∧ ∃ ua, s.L x.a = some ua ∧ s.L v = some (ua + w x)
  end_ : ∀ v u, s.L v = some u → s.C v = none → st v
theorem rnds_done {st : Int → Prop} {g : Int → Int} {m : Nat} {s0 : BS} (hg : ∀ x ∈ E, g x.b ≤ g x.a + w x) (hE : ∀ x ∈ E, x.a ≠ x.b ∧ 0 ≤ x.b ∧ x.b < (m : Int)) (hst : ∀ z, st z → 0 ≤ z ∧ z < (m : Int))
    (h0 : ∀ z, st z → s0.L z = some 0) (h1 : ∀ v u, s0.L v = some u → u = 0 ∧ st v) (h2 : ∀ v, s0.C v = none) : Done w E st m (rnds w E m s0) := by
  have i0 : BInv w E st s0 := ⟨fun v u h => ⟨v, [], (h1 v u h).2, rfl, (h1 v u h).1.symm⟩, fun v x h => absurd h (by rw [h2]; simp), fun v u h _ => (h1 v u h).2⟩
  have I := i0.rnds (fun x hx => (hE x hx).1) m
  have short : ∀ {z v : Int} {p : List Dd}, st z → Chn E z p v → ∃ q, Chn E z q v ∧ q.length < m ∧ cst w q ≤ cst w p := fun {z v p} hz hp => by
    refine chn_short hg m ((List.range m).map fun (k : Nat) => (k : Int)) (by simp) ?_ ?_ hp fun y hy => ?_
    · exact List.Pairwise.map _ (fun a b h e => h (Int.ofNat.inj e)) List.nodup_range
    · have := hst z hz
      exact List.mem_map.mpr ⟨z.toNat, List.mem_range.mpr (by omega), by omega⟩
    · have := hE y (chn_mem hp y hy)
      exact List.mem_map.mpr ⟨y.b.toNat, List.mem_range.mpr (by omega), by omega⟩
  have fx : ∀ x ∈ E, ∀ u, (rnds w E m s0).L x.a = some u → ∃ v, (rnds w E m s0).L x.b = some v ∧ v ≤ u + w x := fun x hx u hu => by
    obtain ⟨z, p, hz, hp, hc⟩ := I.i1 _ _ hu
    obtain ⟨q, q1, q2, q3⟩ := short hz hp
    obtain ⟨v, v1, v2⟩ := rnds_way (w := w) h0 m hz (chn_app q1 (show Chn E x.a [x] x.b from ⟨hx, rfl, rfl⟩)) (by rw [List.length_append]; simp; omega)
    refine ⟨v, v1, ?_⟩
    rw [cst_app, cst_cons] at v2
    have : cst w [] = 0 := rfl
    omega
  refine ⟨fx, fun v u h => ?_, fun z hz => ?_, fun v x h => ?_, I.i3⟩
  · obtain ⟨z, p, hz, hp, hc⟩ := I.i1 _ _ h
    obtain ⟨q, q1, q2, q3⟩ := short hz hp
    obtain ⟨v', v1, v2⟩ := rnds_way (w := w) h0 m hz q1 (by omega)
    rw [h] at v1
    obtain rfl := Option.some.inj v1
    exact ⟨z, q, hz, q1, by omega, q2⟩
  · obtain ⟨u, h3, h4⟩ := rnds_le (w := w) (E := E) (n := m) _ _ (h0 z hz)
    exact ⟨u, h3, h4⟩
  · obtain ⟨x1, x2, ua, ub, x3, x4, x5⟩ := I.i2 v x h
    obtain ⟨v', x6, x7⟩ := fx x x1 ua x3
    rw [x2, x4] at x6
    obtain rfl := Option.some.inj x6
    exact ⟨x1, x2, ua, x3, by rw [x4]; congr 1; omega⟩
end
end Ab.Th

namespace Ab.Th
open Ab
def stp1 (x : Dd) (l : Int) (k : Nat) : List Dd := (if l < x.c then [⟨x.a, x.b, 1, (k : Int)⟩] else []) ++ (if 0 < l then [⟨x.b, x.a, -1, (k : Int)⟩] else [])
def stepsL (sh : List Dd) (left : List Int) (n : Nat) : List Dd := (List.range n).flatMap fun (k : Nat) => match sh[k]? with
  | some x => stp1 x (gI left (k : Int)) k
  | none => []
theorem steps_succ {sh : List Dd} {left : List Int} {n : Nat} {x : Dd} (h : sh[n]? = some x) : stepsL sh left (n + 1) = stepsL sh left n ++ stp1 x (gI left n) n := by
  unfold stepsL
  rw [List.range_succ, List.flatMap_append, List.flatMap_cons, List.flatMap_nil, List.append_nil, h]
theorem steps_mem {sh : List Dd} {left : List Int} {y : Dd} : y ∈ stepsL sh left sh.length ↔ ∃ (k : Nat) (x : Dd), sh[k]? = some x ∧ ((gI left k < x.c ∧ y = ⟨x.a, x.b, 1, (k : Int)⟩) ∨ (0 < gI left k ∧ y = ⟨x.b, x.a, -1, (k : Int)⟩)) := by
  unfold stepsL
  rw [List.mem_flatMap]
  constructor
  · rintro ⟨k, hk, hy⟩
    have e := List.getElem?_eq_getElem (List.mem_range.mp hk)
    rw [e] at hy
    refine ⟨k, _, e, ?_⟩
    unfold stp1 at hy
    rcases List.mem_append.mp hy with h | h
    · split at h
      · rename_i c; exact .inl ⟨c, List.mem_singleton.mp h⟩
      · exact absurd h (by simp)
    · split at h
      · rename_i c; exact .inr ⟨c, List.mem_singleton.mp h⟩
      · exact absurd h (by simp)
  · rintro ⟨k, x, e, h⟩
    have hk := (List.getElem?_eq_some_iff.mp e).1
    refine ⟨k, List.mem_range.mpr hk, ?_⟩
    rw [e]
    show y ∈ stp1 x (gI left k) k
    unfold stp1
    rcases h with ⟨c, rfl⟩ | ⟨c, rfl⟩
    · rw [if_pos c]; exact List.mem_append.mpr (.inl (by simp))
    · rw [if_pos c]; exact List.mem_append.mpr (.inr (by simp))
theorem stp1_len {x : Dd} {l : Int} {k : Nat} : (stp1 x l k).length ≤ 2 := by
  unfold stp1
  split <;> split <;> simp
theorem steps_len {sh : List Dd} {left : List Int} : ∀ n, n ≤ sh.length → (stepsL sh left n).length ≤ 2 * n
  | 0, _ => by unfold stepsL; simp
  | n + 1, h => by
    rw [steps_succ (List.getElem?_eq_getElem (show n < sh.length by omega)), List.length_append]
    have := steps_len (sh := sh) (left := left) n (by omega)
    have := stp1_len (x := sh[n]) (l := gI left n) (k := n)
    omega
def w1 (y : Dd) : Int := 100 * y.r + 1
def w2 (y : Dd) : Int := y.r
def ind (a b : Int) : Int := if a = b then 1 else 0
def dl (x : Dd) (v : Int) : Int := ind x.b v - ind x.a v
def net (sh : List Dd) (v : Int) : Int := (sh.map fun x => x.c * dl x v).sum
theorem sum_set {α : Type} (f : α → Int) : ∀ (L : List α) (i : Nat) (y : α) (hi : i < L.length), ((L.set i y).map f).sum = (L.map f).sum - f L[i] + f y
  | [], i, y, hi => absurd hi (by simp)
  | a :: L, 0, y, hi => by simp; omega
  | a :: L, i + 1, y, hi => by
    have := sum_set f L i y (by simpa using hi)
    simp only [List.set_cons_succ, List.map_cons, List.sum_cons, List.getElem_cons_succ]
    omega
theorem net_set {sh : List Dd} {l : List Int} {i : Nat} {x : Dd} {z : Int} {v : Int} (hl : l.length = sh.length) (hi : sh[i]? = some x) : net (withA sh (l.set i z)) v = net (withA sh l) v + (z - gI l i) * dl x v := by
  have hil := (List.getElem?_eq_some_iff.mp hi).1
  rw [withA_set hl hi]
  unfold net
  have hw : i < (withA sh l).length := by rw [withA_len hl]; exact hil
  rw [sum_set _ _ _ _ hw]
  have e := withA_get hi (as := l) (by omega)
  rw [List.getElem?_eq_getElem hw] at e
  rw [Option.some.inj e]
  show _ - gI l i * dl x v + z * dl x v = _
  rw [Int.sub_mul]
  omega
theorem sm_sum {α : Type} (m : Nat) (F : Nat → α → Int) : ∀ l : List α, sm m (fun v => (l.map (F v)).sum) = (l.map fun x => sm m fun v => F v x).sum
  | [] => by simp only [List.map_nil, List.sum_nil]; exact sm_zero fun _ _ => rfl
  | x :: l => by
    simp only [List.map_cons, List.sum_cons]
    rw [sm_add, sm_sum m F l]
theorem sm_ind {m : Nat} {b : Int} (h0 : 0 ≤ b) (h1 : b < (m : Int)) (f : Int → Int) : sm m (fun v => f v * ind b v) = f b := by
  have e : ((b.toNat : Nat) : Int) = b := by omega
  rw [sm_one (r := b.toNat) (by omega) fun i hi hn => by
    unfold ind
    rw [if_neg (by omega), Int.mul_zero]]
  rw [e]
  unfold ind
  rw [if_pos rfl, Int.mul_one]
theorem cut_sum {m : Nat} {sh : List Dd} (hs : ∀ x ∈ sh, 0 ≤ x.a ∧ x.a < (m : Int) ∧ 0 ≤ x.b ∧ x.b < (m : Int)) (ρ : Int → Int) : sm m (fun v => ρ v * net sh v) = (sh.map fun x => x.c * (ρ x.b - ρ x.a)).sum := by
  have e : sm m (fun (v : Nat) => ρ v * net sh v) = sm m fun (v : Nat) => (sh.map fun x => ρ v * (x.c * dl x v)).sum := sm_congr fun v _ => by
    unfold net
    induction sh with
    | nil => simp
    | cons x sh ih =>
      simp only [List.map_cons, List.sum_cons]
      rw [Int.mul_add, ih fun y hy => hs y (List.mem_cons_of_mem _ hy)]
  rw [e, sm_sum m (fun v x => ρ v * (x.c * dl x v)) sh]
  congr 1
  refine List.map_congr_left fun x hx => ?_
  have h := hs x hx
  have e2 : sm m (fun (v : Nat) => ρ v * (x.c * dl x v)) = x.c * (sm m (fun (v : Nat) => ρ v * ind x.b v) + (-1) * sm m (fun (v : Nat) => ρ v * ind x.a v)) := by
    rw [← sm_mul m (-1), ← sm_add, ← sm_mul]
    refine sm_congr fun v _ => ?_
    unfold dl
    grind
  rw [e2, sm_ind h.2.2.1 h.2.2.2, sm_ind h.1 h.2.1]
  grind
def augL (c : Int) (W : List Dd) (left : List Int) : List Int := W.foldl (fun l x => l.set x.c.toNat (gI l x.c + c * x.r)) left
theorem augL_len {c : Int} : ∀ {W : List Dd} {left : List Int}, (augL c W left).length = left.length
  | [], _ => rfl
  | x :: W, left => by
    have := augL_len (c := c) (W := W) (left := left.set x.c.toNat (gI left x.c + c * x.r))
    rw [List.length_set] at this
    exact this
def Bck (C : Int → Option Dd) : Int → List Dd → Int → Prop
  | g, [], z => g = z
  | g, x :: W, z => C g = some x ∧ Bck C x.a W z
def IsStep (sh : List Dd) (y : Dd) : Prop := ∃ (k : Nat) (x : Dd), sh[k]? = some x ∧ y.c = (k : Int) ∧ ((y.r = 1 ∧ y.a = x.a ∧ y.b = x.b) ∨ (y.r = -1 ∧ y.a = x.b ∧ y.b = x.a))
theorem steps_is {sh : List Dd} {left : List Int} {y : Dd} (h : y ∈ stepsL sh left sh.length) : IsStep sh y := by
  obtain ⟨k, x, e, ⟨_, rfl⟩ | ⟨_, rfl⟩⟩ := steps_mem.mp h
  · exact ⟨k, x, e, rfl, .inl ⟨rfl, rfl, rfl⟩⟩
  · exact ⟨k, x, e, rfl, .inr ⟨rfl, rfl, rfl⟩⟩
theorem aug_net {sh : List Dd} {C : Int → Option Dd} {c v : Int} : ∀ {W : List Dd} {left : List Int} {g z : Int}, left.length = sh.length → (∀ x ∈ W, IsStep sh x) → (∀ u x, C u = some x → x.b = u) → Bck C g W z →
    net (withA sh (augL c W left)) v = net (withA sh left) v + c * (ind g v - ind z v)
  | [], left, g, z, _, _, _, h => by
    have h : g = z := h
    subst h
    show net (withA sh left) v = _
    rw [Int.sub_self, Int.mul_zero]
    omega
  | x :: W, left, g, z, hl, hW, hC, h => by
    have hb := hC g x h.1
    obtain ⟨k, d, e, ek, hd⟩ := hW x List.mem_cons_self
    have ih := aug_net (c := c) (v := v) (W := W) (left := left.set x.c.toNat (gI left x.c + c * x.r)) (g := x.a) (z := z) (by rw [List.length_set]; exact hl) (fun y hy => hW y (List.mem_cons_of_mem _ hy)) hC h.2
    show net (withA sh (augL c W (left.set x.c.toNat (gI left x.c + c * x.r)))) v = _
    rw [ih]
    have ek2 : x.c.toNat = k := by omega
    rw [ek2, ek, net_set hl e]
    have e2 : (gI left (k : Int) + c * x.r - gI left (k : Int)) * dl d v = c * (ind g v - ind x.a v) := by
      unfold dl
      rcases hd with ⟨h1, h2, h3⟩ | ⟨h1, h2, h3⟩
      · rw [h1, h2, ← hb, h3]; grind
      · rw [h1, h2, ← hb, h3]; grind
    rw [e2]
    grind
theorem aug_get {c : Int} : ∀ {W : List Dd} {left : List Int} {k : Nat}, k < left.length → (∀ x ∈ W, 0 ≤ x.c) → W.Pairwise (fun x y => x.c ≠ y.c) →
    ((∀ x ∈ W, x.c ≠ (k : Int)) → gI (augL c W left) k = gI left k) ∧ (∀ x ∈ W, x.c = (k : Int) → gI (augL c W left) k = gI left k + c * x.r)
  | [], left, k, _, _, _ => ⟨fun _ => rfl, fun x hx => absurd hx (by simp)⟩
  | y :: W, left, k, hk, h0, hp => by
    have hp := List.pairwise_cons.mp hp
    have y0 := h0 y List.mem_cons_self
    have ih := aug_get (c := c) (W := W) (left := left.set y.c.toNat (gI left y.c + c * y.r)) (k := k) (by rw [List.length_set]; exact hk) (fun x hx => h0 x (List.mem_cons_of_mem _ hx)) hp.2
    have gs : gI (left.set y.c.toNat (gI left y.c + c * y.r)) (k : Int) = if y.c = (k : Int) then gI left k + c * y.r else gI left k := by
      unfold gI
      rw [Int.toNat_natCast, List.getD_eq_getElem?_getD, List.getD_eq_getElem?_getD]
      by_cases e : y.c = (k : Int)
      · rw [if_pos e, show y.c.toNat = k by omega, List.getElem?_set_self hk, List.getD_eq_getElem?_getD]
        rfl
      · rw [if_neg e, List.getElem?_set_ne (by omega), List.getD_eq_getElem?_getD]
    show (_ → gI (augL c W (left.set y.c.toNat (gI left y.c + c * y.r))) k = _) ∧ ∀ x ∈ y :: W, x.c = (k : Int) → gI (augL c W (left.set y.c.toNat (gI left y.c + c * y.r))) k = _
    refine ⟨fun hx => ?_, fun x hx e => ?_⟩
    · rw [ih.1 fun x h => hx x (List.mem_cons_of_mem _ h), gs, if_neg (hx y List.mem_cons_self)]
    · rcases List.mem_cons.mp hx with rfl | hx
      · rw [ih.1 fun z hz q => hp.1 z hz (e.trans q.symm), gs, if_pos e]
      · rw [ih.2 x hx e, gs, if_neg fun q => hp.1 x hx (q.trans e.symm)]
end Ab.Th

namespace Ab.Th
open Ab
theorem sum_sm : ∀ {m : Nat} {v : List Int}, v.length = m → v.sum = sm m fun i => gI v (i : Int)
  | 0, v, h => by rw [List.length_eq_zero_iff.mp h]; rfl
  | m + 1, [], h => absurd h (by simp)
  | m + 1, a :: v, h => by
    rw [List.sum_cons, sum_sm (m := m) (v := v) (by simpa using h), sm_front]
    rfl
theorem sum_le_at {α β : Type} {f : α → Int} {g : β → Int} : ∀ {l : List α} {r : List β}, l.length = r.length → (∀ (k : Nat) x y, l[k]? = some x → r[k]? = some y → f x ≤ g y) → (l.map f).sum ≤ (r.map g).sum
  | [], [], _, _ => Int.le_refl _
  | [], _ :: _, h, _ => absurd h (by simp)
  | _ :: _, [], h, _ => absurd h (by simp)
  | x :: l, y :: r, h, hk => by
    have h1 := hk 0 x y rfl rfl
    have h2 := sum_le_at (f := f) (g := g) (l := l) (r := r) (by simpa using h) fun k a b ha hb => hk (k + 1) a b ha hb
    simp only [List.map_cons, List.sum_cons]
    omega
theorem fin_bound (f : Int → Int) : ∀ m : Nat, ∃ M : Int, 0 ≤ M ∧ ∀ v : Int, 0 ≤ v → v < (m : Int) → f v ≤ M
  | 0 => ⟨0, Int.le_refl _, fun v h0 h1 => by omega⟩
  | m + 1 => by
    obtain ⟨M, h0, h⟩ := fin_bound f m
    refine ⟨M + (f m).natAbs, by omega, fun v v0 v1 => ?_⟩
    by_cases c : v = (m : Int)
    · subst c; omega
    · have := h v v0 (by omega); omega
theorem lst_bound {α : Type} (f : α → Int) : ∀ l : List α, ∃ M : Int, 0 ≤ M ∧ ∀ x ∈ l, f x ≤ M
  | [] => ⟨0, Int.le_refl _, fun x h => absurd h (by simp)⟩
  | y :: l => by
    obtain ⟨M, h0, h⟩ := lst_bound f l
    refine ⟨M + (f y).natAbs, by omega, fun x hx => ?_⟩
    rcases List.mem_cons.mp hx with rfl | hx
    · omega
    · have := h x hx; omega
structure FI (m : Nat) (sh : List Dd) (left spare want : List Int) : Prop where
  ll : left.length = sh.length
  ls : spare.length = m
  lw : want.length = m
  bd : ∀ (k : Nat) (x : Dd), sh[k]? = some x → 0 ≤ gI left k ∧ gI left k ≤ x.c
  sp : ∀ v : Nat, v < m → 0 ≤ gI spare v ∧ 0 ≤ gI want v ∧ (gI spare v = 0 ∨ gI want v = 0)
  bal : ∀ v : Nat, v < m → net (withA sh left) v + gI want v - gI spare v = net sh v
  pot : ∃ h : Int → Int, ∀ y ∈ stepsL sh left sh.length, h y.b ≤ h y.a + y.r
def stt (m : Nat) (spare : List Int) (v : Int) : Prop := 0 ≤ v ∧ v < (m : Int) ∧ 0 < gI spare v
section
variable {m : Nat} {sh : List Dd} {left spare want : List Int} {s : BS}
theorem steps_in (hs : ∀ x ∈ sh, x.In (m : Int)) {y : Dd} (h : y ∈ stepsL sh left sh.length) : y.a ≠ y.b ∧ 0 ≤ y.a ∧ y.a < (m : Int) ∧ 0 ≤ y.b ∧ y.b < (m : Int) := by
  obtain ⟨k, x, e, ⟨_, rfl⟩ | ⟨_, rfl⟩⟩ := steps_mem.mp h
  · have := hs x (List.mem_of_getElem? e)
    exact ⟨this.2.2.2.2.1, this.1, this.2.1, this.2.2.1, this.2.2.2.1⟩
  · have := hs x (List.mem_of_getElem? e)
    exact ⟨Ne.symm this.2.2.2.2.1, this.2.2.1, this.2.2.2.1, this.1, this.2.1⟩
theorem FI.goal (F : FI m sh left spare want) (hs : ∀ x ∈ sh, x.In (m : Int)) (hD : Done w1 (stepsL sh left sh.length) (stt m spare) m s) (hp : 0 < spare.sum) : ∃ v : Nat, v < m ∧ 0 < gI want v ∧ ∃ u, s.L v = some u := by
  refine Classical.byContradiction fun hn => ?_
  have hw : ∀ v : Nat, v < m → (s.L v).isSome = true → gI want v = 0 := fun v hv hr => by
    have := (F.sp v hv).2.1
    by_cases c : 0 < gI want v
    · exact absurd ⟨v, hv, c, Option.isSome_iff_exists.mp hr⟩ hn
    · omega
  obtain ⟨ρ, hρ⟩ : ∃ ρ : Int → Int, ρ = fun v => if (s.L v).isSome = true then 1 else 0 := ⟨_, rfl⟩
  have r01 : ∀ v, (ρ v = 1 ∧ (s.L v).isSome = true) ∨ (ρ v = 0 ∧ s.L v = none) := fun v => by
    rw [hρ]
    dsimp only
    cases e : s.L v with
    | none => exact .inr ⟨rfl, rfl⟩
    | some u => exact .inl ⟨rfl, rfl⟩
  have e1 : sm m (fun (v : Nat) => ρ v * net sh v) = sm m (fun (v : Nat) => ρ v * net (withA sh left) v) + sm m (fun (v : Nat) => ρ v * gI want v) + (-1) * sm m (fun (v : Nat) => ρ v * gI spare v) := by
    rw [← sm_mul, ← sm_add, ← sm_add]
    refine sm_congr fun v hv => ?_
    rw [← F.bal v hv]
    grind
  have e2 : sm m (fun (v : Nat) => ρ v * gI want v) = 0 := sm_zero fun v hv => by
    rcases r01 v with ⟨h1, h2⟩ | ⟨h1, h2⟩
    · rw [hw v hv h2, Int.mul_zero]
    · rw [h1, Int.zero_mul]
  have e3 : sm m (fun (v : Nat) => ρ v * gI spare v) = spare.sum := by
    rw [sum_sm F.ls]
    refine sm_congr fun v hv => ?_
    rcases r01 v with ⟨h1, h2⟩ | ⟨h1, h2⟩
    · rw [h1, Int.one_mul]
    · have h0 := (F.sp v hv).1
      by_cases c : 0 < gI spare v
      · obtain ⟨u, h3, _⟩ := hD.st0 v ⟨by omega, by omega, c⟩
        rw [h2] at h3; cases h3
      · rw [show gI spare v = 0 by omega, Int.mul_zero]
  have sa : ∀ x ∈ sh, 0 ≤ x.a ∧ x.a < (m : Int) ∧ 0 ≤ x.b ∧ x.b < (m : Int) := fun x hx => ⟨(hs x hx).1, (hs x hx).2.1, (hs x hx).2.2.1, (hs x hx).2.2.2.1⟩
  have sw : ∀ x ∈ withA sh left, 0 ≤ x.a ∧ x.a < (m : Int) ∧ 0 ≤ x.b ∧ x.b < (m : Int) := fun x hx => by
    obtain ⟨k, hk⟩ := List.mem_iff_getElem?.mp hx
    have hkl := (List.getElem?_eq_some_iff.mp hk).1
    rw [withA_len F.ll] at hkl
    have e := List.getElem?_eq_getElem hkl
    rw [withA_get e (by rw [F.ll]; exact hkl)] at hk
    rw [← Option.some.inj hk]
    exact (fun (h : 0 ≤ sh[k].a ∧ sh[k].a < (m : Int) ∧ 0 ≤ sh[k].b ∧ sh[k].b < (m : Int)) => h) (sa _ (List.mem_of_getElem? e))
  rw [cut_sum sa ρ, cut_sum sw ρ, e2, e3] at e1
  have e4 : ((withA sh left).map fun x => x.c * (ρ x.b - ρ x.a)).sum ≤ (sh.map fun x => x.c * (ρ x.b - ρ x.a)).sum := by
    refine sum_le_at (withA_len F.ll) fun k y x hy hx => ?_
    have hkl := (List.getElem?_eq_some_iff.mp hx).1
    rw [withA_get hx (by rw [F.ll]; exact hkl)] at hy
    rw [← Option.some.inj hy]
    show gI left k * (ρ x.b - ρ x.a) ≤ x.c * (ρ x.b - ρ x.a)
    have hb := F.bd k x hx
    rcases r01 x.a with ⟨a1, a2⟩ | ⟨a1, a2⟩ <;> rcases r01 x.b with ⟨b1, b2⟩ | ⟨b1, b2⟩
    · rw [a1, b1]; omega
    · rw [a1, b1]
      have : ¬ gI left k < x.c := fun c => by
        obtain ⟨u, hu⟩ := Option.isSome_iff_exists.mp a2
        obtain ⟨v, hv, _⟩ := hD.fix _ (steps_mem.mpr ⟨k, x, hx, .inl ⟨c, rfl⟩⟩) u hu
        have hv : s.L x.b = some v := hv
        rw [b2] at hv; cases hv
      omega
    · rw [a1, b1]
      have : ¬ 0 < gI left k := fun c => by
        obtain ⟨u, hu⟩ := Option.isSome_iff_exists.mp b2
        obtain ⟨v, hv, _⟩ := hD.fix _ (steps_mem.mpr ⟨k, x, hx, .inr ⟨c, rfl⟩⟩) u hu
        have hv : s.L x.a = some v := hv
        rw [a2] at hv; cases hv
      have : gI left k = 0 := by omega
      rw [this]
      omega
    · rw [a1, b1]; omega
  omega
theorem msr {E : List Dd} {st : Int → Prop} {h : Int → Int} (hst : ∀ z, st z → 0 ≤ z ∧ z < (m : Int)) (hD : Done w1 E st m s) (hh : ∀ y ∈ E, h y.b ≤ h y.a + y.r) : ∃ μ : Int → Nat, ∀ v x, s.C v = some x → μ x.a < μ v := by
  obtain ⟨M, M0, hM⟩ := fin_bound h m
  refine ⟨fun v => match s.L v with
    | some u => (u - 100 * h v + 100 * M).toNat
    | none => 0, fun v x hx => ?_⟩
  obtain ⟨hE, rfl, ua, ea, eb⟩ := hD.cam v x hx
  have hxr := hh x hE
  obtain ⟨z, p, hz, hp, hc, _⟩ := hD.way _ _ ea
  have hpot := chn_pot (w := w1) (g := fun v => 100 * h v) (E := E) (fun y hy => by have := hh y hy; unfold w1; omega) hp
  have hzb := hst z hz
  have := hM z hzb.1 hzb.2
  try dsimp only
  rw [ea, eb]
  try dsimp only
  try dsimp only at hpot
  unfold w1
  omega
theorem bck_mem {C : Int → Option Dd} : ∀ {W : List Dd} {v z : Int}, Bck C v W z → ∀ x ∈ W, ∃ u, C u = some x
  | [], _, _, _, x, hx => absurd hx (by simp)
  | y :: W, v, z, h, x, hx => by
    rcases List.mem_cons.mp hx with rfl | hx
    · exact ⟨v, h.1⟩
    · exact bck_mem h.2 x hx
theorem bck_app {C : Int → Option Dd} : ∀ {W : List Dd} {v z : Int} {x : Dd}, Bck C v W z → C z = some x → Bck C v (W ++ [x]) x.a
  | [], v, z, x, h, e => by have h : v = z := h; subst h; exact ⟨e, rfl⟩
  | y :: W, v, z, x, h, e => ⟨h.1, bck_app h.2 e⟩
theorem bck_pair {C : Int → Option Dd} {μ : Int → Nat} (hC : ∀ v x, C v = some x → x.b = v ∧ μ x.a < μ v) : ∀ {W : List Dd} {v z : Int}, Bck C v W z → (∀ x ∈ W, μ x.b ≤ μ v) ∧ W.Pairwise fun x y => μ y.b < μ x.b
  | [], _, _, _ => ⟨fun x hx => absurd hx (by simp), .nil⟩
  | y :: W, v, z, h => by
    obtain ⟨h1, h2⟩ := bck_pair hC h.2
    have hy := hC v y h.1
    refine ⟨fun x hx => ?_, List.pairwise_cons.mpr ⟨fun x hx => ?_, h2⟩⟩
    · rcases List.mem_cons.mp hx with rfl | hx
      · rw [hy.1]; exact Nat.le_refl _
      · have := h1 x hx; omega
    · have := h1 x hx
      rw [hy.1]; omega
theorem bck_num {E : List Dd} {st : Int → Prop} {μ : Int → Nat} (hD : Done w1 E st m s) (hE : ∀ y ∈ E, IsStep sh y) (hμ : ∀ v x, s.C v = some x → μ x.a < μ v) {W : List Dd} {v z : Int} (h : Bck s.C v W z) : W.Pairwise fun x y => x.c ≠ y.c := by
  have hp := (bck_pair (fun v x hx => ⟨(hD.cam v x hx).2.1, hμ v x hx⟩) h).2
  refine (List.pairwise_iff_forall_sublist.mpr fun {x y} hxy => ?_)
  have hlt := (List.pairwise_iff_forall_sublist.mp hp) hxy
  have mx := hxy.subset (List.mem_cons_self (a := x) (l := [y]))
  have my := hxy.subset (show y ∈ [x, y] by simp)
  intro e
  obtain ⟨u1, c1⟩ := bck_mem h x mx
  obtain ⟨u2, c2⟩ := bck_mem h y my
  obtain ⟨x1, rfl, ua, x3, x4⟩ := hD.cam _ x c1
  obtain ⟨y1, rfl, va, y3, y4⟩ := hD.cam _ y c2
  obtain ⟨k, d, e1, e2, e3⟩ := hE x x1
  obtain ⟨k', d', f1, f2, f3⟩ := hE y y1
  have : k = k' := by omega
  subst this
  rw [e1] at f1
  obtain rfl := Option.some.inj f1
  unfold w1 at x4 y4
  rcases e3 with ⟨g1, g2, g3⟩ | ⟨g1, g2, g3⟩ <;> rcases f3 with ⟨k1, k2, k3⟩ | ⟨k1, k2, k3⟩
  · rw [g3, k3] at hlt; omega
  · rw [g2] at x3; rw [g3] at x4; rw [k2] at y3; rw [k3] at y4
    rw [x4] at y3
    rw [x3] at y4
    have a := Option.some.inj y3
    have b := Option.some.inj y4
    omega
  · rw [g2] at x3; rw [g3] at x4; rw [k2] at y3; rw [k3] at y4
    rw [x4] at y3
    rw [x3] at y4
    have a := Option.some.inj y3
    have b := Option.some.inj y4
    omega
  · rw [g3, k3] at hlt; omega
def room (sh : List Dd) (left : List Int) (x : Dd) : Int := if 0 < x.r then ((sh.map Dd.c).getD x.c.toNat 0) - gI left x.c else gI left x.c
theorem room_pos {x : Dd} (h : x ∈ stepsL sh left sh.length) : 0 < room sh left x := by
  obtain ⟨k, d, e, ⟨c, rfl⟩ | ⟨c, rfl⟩⟩ := steps_mem.mp h
  · unfold room
    rw [if_pos (show (0 : Int) < 1 by decide), Int.toNat_natCast, List.getD_eq_getElem?_getD, List.getElem?_map, e]
    show 0 < d.c - gI left (k : Int)
    omega
  · unfold room
    rw [if_neg (show ¬ (0 : Int) < -1 by decide)]
    exact c
theorem gI_set {l : List Int} {i : Nat} {z : Int} (hi : i < l.length) (v : Nat) : gI (l.set i z) v = if v = i then z else gI l v := by
  unfold gI
  rw [Int.toNat_natCast, List.getD_eq_getElem?_getD, List.getD_eq_getElem?_getD]
  by_cases e : v = i
  · rw [if_pos e, e, List.getElem?_set_self hi]; rfl
  · rw [if_neg e, List.getElem?_set_ne (Ne.symm e)]
def d100 (u : Int) : Int := u / 100
theorem d100_lo (u : Int) : 100 * d100 u ≤ u := by unfold d100; omega
theorem d100_hi (u : Int) : u < 100 * d100 u + 100 := by unfold d100; omega
theorem FI.step (F : FI m sh left spare want) (hm : m ≤ 90) (hs : ∀ x ∈ sh, x.In (m : Int)) (hD : Done w1 (stepsL sh left sh.length) (stt m spare) m s) {v z : Nat} {W : List Dd} {c : Int} (hv : v < m) (hwv : 0 < gI want v) (hW : Bck s.C v W z) (hz : stt m spare z)
    (c0 : 1 ≤ c) (c1 : ∀ x ∈ W, c ≤ room sh left x) (c2 : c ≤ gI spare z) (c3 : c ≤ gI want v) : FI m sh (augL c W left) (spare.set z (gI spare z - c)) (want.set v (gI want v - c)) := by
  obtain ⟨h, hh⟩ := F.pot
  obtain ⟨μ, hμ⟩ := msr (fun z hz => ⟨hz.1, hz.2.1⟩) hD hh
  have hE : ∀ y ∈ stepsL sh left sh.length, IsStep sh y := fun y hy => steps_is hy
  have num := bck_num hD hE hμ hW
  have hWE : ∀ x ∈ W, x ∈ stepsL sh left sh.length ∧ ∃ ua, s.L x.a = some ua ∧ s.L x.b = some (ua + w1 x) := fun x hx => by
    obtain ⟨u, hu⟩ := bck_mem hW x hx
    obtain ⟨h1, rfl, h2⟩ := hD.cam u x hu
    exact ⟨h1, h2⟩
  have hWs : ∀ x ∈ W, IsStep sh x := fun x hx => hE x (hWE x hx).1
  have hW0 : ∀ x ∈ W, 0 ≤ x.c := fun x hx => by
    obtain ⟨k, d, _, e, _⟩ := hWs x hx
    omega
  have hzm : z < m := by have := hz.2.1; omega
  have zs := hz.2.2
  have ne : v ≠ z := fun e => by
    have := (F.sp z hzm).2.2
    subst e
    omega
  -- what becomes of each due
  have new : ∀ (k : Nat) (d : Dd), sh[k]? = some d → (gI (augL c W left) k = gI left k ∧ ∀ x ∈ W, x.c ≠ (k : Int)) ∨ ∃ x ∈ W, x.c = (k : Int) ∧ gI (augL c W left) k = gI left k + c * x.r := fun k d e => by
    have hk := (List.getElem?_eq_some_iff.mp e).1
    have g := aug_get (c := c) (W := W) (left := left) (k := k) (by rw [F.ll]; exact hk) hW0 num
    by_cases q : ∀ x ∈ W, x.c ≠ (k : Int)
    · exact .inl ⟨g.1 q, q⟩
    · obtain ⟨x, hx⟩ := Classical.not_forall.mp q
      obtain ⟨h1, h2⟩ := Classical.not_imp.mp hx
      have h2 := Classical.not_not.mp h2
      exact .inr ⟨x, h1, h2, g.2 x h1 h2⟩
  have rooms : ∀ (k : Nat) (d x : Dd), sh[k]? = some d → x ∈ W → x.c = (k : Int) → (x.r = 1 ∧ x.a = d.a ∧ x.b = d.b ∧ c ≤ d.c - gI left k) ∨ (x.r = -1 ∧ x.a = d.b ∧ x.b = d.a ∧ c ≤ gI left k) := fun k d x e hx ex => by
    obtain ⟨k', d', f1, f2, f3⟩ := hWs x hx
    have : k = k' := by omega
    subst this
    rw [e] at f1
    obtain rfl := Option.some.inj f1
    have hc := c1 x hx
    unfold room at hc
    rcases f3 with ⟨g1, g2, g3⟩ | ⟨g1, g2, g3⟩
    · rw [g1, if_pos (by decide), ex, Int.toNat_natCast, List.getD_eq_getElem?_getD, List.getElem?_map, e] at hc
      exact .inl ⟨g1, g2, g3, hc⟩
    · rw [g1, if_neg (by decide), ex] at hc
      exact .inr ⟨g1, g2, g3, hc⟩
  refine ⟨by rw [augL_len]; exact F.ll, by rw [List.length_set]; exact F.ls, by rw [List.length_set]; exact F.lw, fun k d e => ?_, fun u hu => ?_, fun u hu => ?_, ?_⟩
  · have hb := F.bd k d e
    rcases new k d e with ⟨h1, _⟩ | ⟨x, hx, ex, h1⟩
    · rw [h1]; exact hb
    · rw [h1]
      rcases rooms k d x e hx ex with ⟨g1, _, _, g4⟩ | ⟨g1, _, _, g4⟩
      · rw [g1]; omega
      · rw [g1]; omega
  · rw [gI_set (l := spare) (i := z) (by rw [F.ls]; exact hzm), gI_set (l := want) (i := v) (by rw [F.lw]; exact hv)]
    have := F.sp u hu
    have hsz := F.sp z hzm
    have hsv := F.sp v hv
    by_cases e1 : u = z
    · subst e1
      rw [if_pos rfl, if_neg (Ne.symm ne)]
      omega
    · rw [if_neg e1]
      by_cases e2 : u = v
      · subst e2
        rw [if_pos rfl]
        omega
      · rw [if_neg e2]; exact this
  · rw [gI_set (l := spare) (i := z) (by rw [F.ls]; exact hzm), gI_set (l := want) (i := v) (by rw [F.lw]; exact hv), aug_net F.ll hWs (fun u x hx => (hD.cam u x hx).2.1) hW]
    have := F.bal u hu
    unfold ind
    by_cases e1 : u = z
    · subst e1
      rw [if_pos rfl, if_neg (Ne.symm ne), if_neg (by omega), if_pos rfl]
      omega
    · rw [if_neg e1]
      by_cases e2 : u = v
      · subst e2
        rw [if_pos rfl, if_pos rfl, if_neg (by omega)]
        omega
      · rw [if_neg e2, if_neg (by omega), if_neg (by omega)]
        omega
  · -- potentials
    obtain ⟨K, K0, hK⟩ := lst_bound (fun y : Dd => (match s.L y.b with | some u => d100 u | none => 0) - h y.a - y.r) (stepsL sh left sh.length)
    have len : ∀ u t, s.L u = some t → ∃ q n : Int, t = 100 * q + n ∧ 0 ≤ n ∧ n ≤ 90 := fun u t ht => by
      obtain ⟨_, p, _, _, hc, hl⟩ := hD.way u t ht
      have : ∀ p : List Dd, ∃ q : Int, cst w1 p = 100 * q + (p.length : Int) := fun p => by
        induction p with
        | nil => exact ⟨0, rfl⟩
        | cons y p ih =>
          obtain ⟨q, e⟩ := ih
          refine ⟨q + y.r, ?_⟩
          rw [cst_cons, e, List.length_cons]
          unfold w1
          omega
      obtain ⟨q, e⟩ := this p
      exact ⟨q, p.length, by omega, by omega, by omega⟩
    refine ⟨fun u => match s.L u with | some t => d100 t | none => h u + K, fun y hy => ?_⟩
    have old : ∀ y ∈ stepsL sh left sh.length, (match s.L y.b with | some t => d100 t | none => h y.b + K) ≤ (match s.L y.a with | some t => d100 t | none => h y.a + K) + y.r := fun y hy => by
      cases ea : s.L y.a with
      | some u =>
        obtain ⟨t, eb, hle⟩ := hD.fix y hy u ea
        obtain ⟨q, n, e, n0, n1⟩ := len _ _ ea
        rw [eb]
        dsimp only
        unfold w1 at hle
        have := d100_lo u; have := d100_hi u; have := d100_lo t; have := d100_hi t
        omega
      | none =>
        cases eb : s.L y.b with
        | some t =>
          have h1 : d100 t - h y.a - y.r ≤ K := by
            have := hK y hy
            rw [eb] at this
            exact this
          show d100 t ≤ h y.a + K + y.r
          omega
        | none =>
          have := hh y hy
          show h y.b + K ≤ h y.a + K + y.r
          omega
    have back : ∀ x ∈ W, (match s.L x.a with | some t => d100 t | none => h x.a + K) ≤ (match s.L x.b with | some t => d100 t | none => h x.b + K) - x.r := fun x hx => by
      obtain ⟨_, ua, ea, eb⟩ := hWE x hx
      obtain ⟨q, n, e, n0, n1⟩ := len _ _ ea
      rw [ea, eb]
      dsimp only
      have := d100_lo ua; have := d100_hi ua; have := d100_lo (ua + w1 x); have := d100_hi (ua + w1 x)
      have ew : w1 x = 100 * x.r + 1 := rfl
      omega
    obtain ⟨k, d, e, ⟨hc, rfl⟩ | ⟨hc, rfl⟩⟩ := steps_mem.mp hy
    · rcases new k d e with ⟨h1, _⟩ | ⟨x, hx, ex, h1⟩
      · rw [h1] at hc
        exact old _ (steps_mem.mpr ⟨k, d, e, .inl ⟨hc, rfl⟩⟩)
      · rcases rooms k d x e hx ex with ⟨g1, g2, g3, g4⟩ | ⟨g1, g2, g3, g4⟩
        · exact old _ (steps_mem.mpr ⟨k, d, e, .inl ⟨by omega, rfl⟩⟩)
        · have := back x hx
          rw [g1, g2, g3] at this
          dsimp only at this ⊢
          omega
    · rcases new k d e with ⟨h1, _⟩ | ⟨x, hx, ex, h1⟩
      · rw [h1] at hc
        exact old _ (steps_mem.mpr ⟨k, d, e, .inr ⟨hc, rfl⟩⟩)
      · rcases rooms k d x e hx ex with ⟨g1, g2, g3, g4⟩ | ⟨g1, g2, g3, g4⟩
        · have := back x hx
          rw [g1, g2, g3] at this
          dsimp only at this ⊢
          omega
        · exact old _ (steps_mem.mpr ⟨k, d, e, .inr ⟨by omega, rfl⟩⟩)
end
end Ab.Th

namespace Ab.Th
open Ab
theorem flow_dl (x : Dd) (j : Int) : flow j x = x.c * dl x j := by
  unfold flow dl ind
  split <;> split <;> (first | grind | (simp <;> omega))
theorem net_flow {sh : List Dd} {j : Int} : (sh.map (flow j)).sum = net sh j := by
  unfold net
  congr 1
  exact List.map_congr_left fun x _ => flow_dl x j
theorem netsI_net {m : Int} {sh : List Dd} (hm : 0 ≤ m) (hs : ∀ x ∈ sh, x.In m) {j : Int} (j0 : 0 ≤ j) (j1 : j < m) : gI (netsI m sh) j = net sh j := by
  rw [← netBs_netsIn hm hs, netBs_in j0 (by unfold zeros; simp; omega) hs, net_flow]
  have : gI (zeros m.toNat) j = 0 := by
    unfold zeros gI
    rw [List.getD_eq_getElem?_getD, List.getElem?_replicate, if_pos (by omega)]
    rfl
  omega
section
variable {m : Nat} {sh : List Dd} {left spare want : List Int}
theorem gI_zeros {n k : Nat} : gI (zeros n) (k : Int) = 0 := by
  unfold zeros gI
  rw [List.getD_eq_getElem?_getD, List.getElem?_replicate]
  split <;> rfl
theorem FI.init (hs : ∀ x ∈ sh, x.In (m : Int)) : FI m sh (zeros sh.length) ((netsI m sh).map fun z => if 0 < -z then -z else 0) ((netsI m sh).map fun z => if 0 < z then z else 0) := by
  have ln : (netsI (m : Int) sh).length = m := by rw [netsI_len]; omega
  have gm : ∀ (f : Int → Int) (v : Nat), v < m → gI ((netsI m sh).map f) (v : Int) = f (net sh v) := fun f v hv => by
    rw [← netsI_net (by omega) hs (by omega) (by omega)]
    unfold gI
    rw [Int.toNat_natCast, List.getD_eq_getElem?_getD, List.getElem?_map, List.getElem?_eq_getElem (by omega), List.getD_eq_getElem?_getD, List.getElem?_eq_getElem (by omega)]
    rfl
  refine ⟨by unfold zeros; simp, by rw [List.length_map, ln], by rw [List.length_map, ln], fun k x e => ?_, fun v hv => ?_, fun v hv => ?_, fun _ => 0, fun y hy => ?_⟩
  · rw [gI_zeros]
    have := hs x (List.mem_of_getElem? e)
    exact ⟨Int.le_refl _, this.2.2.2.2.2.2.2⟩
  · rw [gm _ v hv, gm _ v hv]
    split <;> split <;> omega
  · rw [gm _ v hv, gm _ v hv]
    have z : net (withA sh (zeros sh.length)) v = 0 := by
      unfold net
      have : ∀ l : List Dd, (∀ x ∈ l, x.c = 0) → (l.map fun x => x.c * dl x v).sum = 0 := fun l => by
        induction l with
        | nil => intro _; rfl
        | cons x l ih =>
          intro hl
          rw [List.map_cons, List.sum_cons, ih fun y hy => hl y (List.mem_cons_of_mem _ hy), hl x List.mem_cons_self]
          simp
      refine this _ fun x hx => ?_
      obtain ⟨k, hk⟩ := List.mem_iff_getElem?.mp hx
      have lz : (zeros sh.length).length = sh.length := by unfold zeros; simp
      have hkl := (List.getElem?_eq_some_iff.mp hk).1
      rw [withA_len lz] at hkl
      rw [withA_get (List.getElem?_eq_getElem hkl) (by rw [lz]; exact hkl)] at hk
      rw [← Option.some.inj hk]
      exact gI_zeros
    rw [z]
    split <;> split <;> omega
  · obtain ⟨k, x, e, ⟨_, rfl⟩ | ⟨c, rfl⟩⟩ := steps_mem.mp hy
    · show (0 : Int) ≤ 0 + 1
      decide
    · rw [gI_zeros] at c; omega
theorem FI.fin (F : FI m sh left spare want) (hs : ∀ x ∈ sh, x.In (m : Int)) (h : ¬ 0 < spare.sum) : ∀ v : Nat, v < m → net (withA sh left) v = net sh v := by
  have sw : ∀ x ∈ withA sh left, 0 ≤ x.a ∧ x.a < (m : Int) ∧ 0 ≤ x.b ∧ x.b < (m : Int) := fun x hx => by
    obtain ⟨k, hk⟩ := List.mem_iff_getElem?.mp hx
    have hkl := (List.getElem?_eq_some_iff.mp hk).1
    rw [withA_len F.ll] at hkl
    have e := List.getElem?_eq_getElem hkl
    rw [withA_get e (by rw [F.ll]; exact hkl)] at hk
    rw [← Option.some.inj hk]
    have := hs _ (List.mem_of_getElem? e)
    exact ⟨this.1, this.2.1, this.2.2.1, this.2.2.2.1⟩
  have sa : ∀ x ∈ sh, 0 ≤ x.a ∧ x.a < (m : Int) ∧ 0 ≤ x.b ∧ x.b < (m : Int) := fun x hx => ⟨(hs x hx).1, (hs x hx).2.1, (hs x hx).2.2.1, (hs x hx).2.2.2.1⟩
  have z : ∀ l : List Dd, (l.map fun x => x.c * ((fun _ => (1 : Int)) x.b - (fun _ => (1 : Int)) x.a)).sum = 0 := fun l => by
    induction l with
    | nil => rfl
    | cons x l ih => rw [List.map_cons, List.sum_cons, ih]; simp
  have e1 := cut_sum sa fun _ => 1
  have e2 := cut_sum sw fun _ => 1
  rw [z] at e1 e2
  have e3 : sm m (fun (v : Nat) => 1 * net sh v) = sm m (fun (v : Nat) => 1 * net (withA sh left) v) + sm m (fun (v : Nat) => gI want v) + (-1) * sm m (fun (v : Nat) => gI spare v) := by
    rw [← sm_mul m (-1), ← sm_add, ← sm_add]
    refine sm_congr fun v hv => ?_
    rw [← F.bal v hv]
    grind
  rw [e1, e2, ← sum_sm F.lw, ← sum_sm F.ls] at e3
  have nn : ∀ (l : List Int), l.length = m → (∀ v : Nat, v < m → 0 ≤ gI l v) → l.sum ≤ 0 → ∀ v : Nat, v < m → gI l v = 0 := fun l hl h0 hsum v hv => by
    have hp := h0 v hv
    have := sum_set (fun z : Int => z) l v 0 (by omega)
    rw [List.map_id', List.map_id'] at this
    have h2 : 0 ≤ (l.set v 0).sum := by
      rw [sum_sm (m := m) (by rw [List.length_set]; exact hl)]
      refine sm_nonneg fun i hi => ?_
      rw [gI_set (by omega)]
      split
      · exact Int.le_refl _
      · exact h0 i hi
    have e : l[v]'(by omega) = gI l v := by rw [gI_nat (by omega)]
    rw [e] at this
    omega
  have s0 := nn spare F.ls (fun v hv => (F.sp v hv).1) (by omega)
  have ss : 0 ≤ spare.sum := by rw [sum_sm F.ls]; exact sm_nonneg fun v hv => (F.sp v hv).1
  have w0 := nn want F.lw (fun v hv => (F.sp v hv).2.1) (by omega)
  intro v hv
  have := F.bal v hv
  rw [s0 v hv, w0 v hv] at this
  omega
structure Hts (m : Nat) (sh : List Dd) (left : List Int) (H : Int → Int) : Prop where
  up : ∀ (k : Nat) (x : Dd), sh[k]? = some x → 0 < gI left k → H x.a + 1 ≤ H x.b
  dn : ∀ (k : Nat) (x : Dd), sh[k]? = some x → gI left k < x.c → H x.b ≤ H x.a + 1
  bd : ∀ v : Int, 0 ≤ v → v < (m : Int) → -(m : Int) < H v ∧ H v ≤ 0
theorem hts_of {s0 : BS} (hs : ∀ x ∈ sh, x.In (m : Int)) (hp : ∃ h : Int → Int, ∀ y ∈ stepsL sh left sh.length, h y.b ≤ h y.a + y.r) (h0 : ∀ z, 0 ≤ z → z < (m : Int) → s0.L z = some 0) (h1 : ∀ v u, s0.L v = some u → u = 0 ∧ 0 ≤ v ∧ v < (m : Int)) (h2 : ∀ v, s0.C v = none) {H : Int → Int}
    (hH : ∀ v : Int, 0 ≤ v → v < (m : Int) → (rnds w2 (stepsL sh left sh.length) m s0).L v = some (H v)) : Hts m sh left H := by
  obtain ⟨h, hh⟩ := hp
  have hD := rnds_done (w := w2) (E := stepsL sh left sh.length) (st := fun v => 0 ≤ v ∧ v < (m : Int)) (g := h) (m := m) (s0 := s0) (fun y hy => by unfold w2; exact hh y hy) (fun y hy => ⟨(steps_in hs hy).1, (steps_in hs hy).2.2.2.1, (steps_in hs hy).2.2.2.2⟩) (fun z hz => hz) (fun z hz => h0 z hz.1 hz.2) (fun v u hv => ⟨(h1 v u hv).1, (h1 v u hv).2⟩) h2
  have key : ∀ y ∈ stepsL sh left sh.length, H y.b ≤ H y.a + y.r := fun y hy => by
    have hi := steps_in hs hy
    obtain ⟨v, e, hle⟩ := hD.fix y hy _ (hH y.a hi.2.1 hi.2.2.1)
    rw [hH y.b hi.2.2.2.1 hi.2.2.2.2] at e
    have := Option.some.inj e
    unfold w2 at hle
    omega
  refine ⟨fun k x e c => ?_, fun k x e c => ?_, fun v v0 v1 => ?_⟩
  · have := key _ (steps_mem.mpr ⟨k, x, e, .inr ⟨c, rfl⟩⟩)
    dsimp only at this
    omega
  · exact key _ (steps_mem.mpr ⟨k, x, e, .inl ⟨c, rfl⟩⟩)
  · obtain ⟨u, e1, e2⟩ := hD.st0 v ⟨v0, v1⟩
    rw [hH v v0 v1] at e1
    have e3 := Option.some.inj e1
    obtain ⟨_, p, _, hp, hc, hl⟩ := hD.way v _ (hH v v0 v1)
    have : ∀ p : List Dd, (∀ y ∈ p, y ∈ stepsL sh left sh.length) → -(p.length : Int) ≤ cst w2 p := fun p => by
      induction p with
      | nil => intro _; exact Int.le_refl _
      | cons y p ih =>
        intro hy
        have h3 := ih fun z hz => hy z (List.mem_cons_of_mem _ hz)
        rw [cst_cons, List.length_cons]
        obtain ⟨_, _, _, _, h4⟩ := steps_is (hy y List.mem_cons_self)
        unfold w2 at *
        omega
    have := this p (chn_mem hp)
    omega
theorem Hts.least {H : Int → Int} (h : Hts m sh left H) (hs : ∀ x ∈ sh, x.In (m : Int)) (ll : left.length = sh.length) (hb : ∀ (k : Nat) (x : Dd), sh[k]? = some x → 0 ≤ gI left k ∧ gI left k ≤ x.c) {l' : List Int} (ll' : l'.length = sh.length) (hb' : ∀ (k : Nat) (x : Dd), sh[k]? = some x → 0 ≤ gI l' k ∧ gI l' k ≤ x.c)
    (hn : ∀ v : Nat, v < m → net (withA sh left) v = net (withA sh l') v) : left.sum ≤ l'.sum := by
  have sw : ∀ l : List Int, l.length = sh.length → ∀ x ∈ withA sh l, 0 ≤ x.a ∧ x.a < (m : Int) ∧ 0 ≤ x.b ∧ x.b < (m : Int) := fun l hl x hx => by
    obtain ⟨k, hk⟩ := List.mem_iff_getElem?.mp hx
    have hkl := (List.getElem?_eq_some_iff.mp hk).1
    rw [withA_len hl] at hkl
    have e := List.getElem?_eq_getElem hkl
    rw [withA_get e (by rw [hl]; exact hkl)] at hk
    rw [← Option.some.inj hk]
    have := hs _ (List.mem_of_getElem? e)
    exact ⟨this.1, this.2.1, this.2.2.1, this.2.2.2.1⟩
  have e1 := cut_sum (sw left ll) H
  have e2 := cut_sum (sw l' ll') H
  have e3 : sm m (fun (v : Nat) => H v * net (withA sh left) v) = sm m (fun (v : Nat) => H v * net (withA sh l') v) := sm_congr fun v hv => by rw [hn v hv]
  rw [e1, e2] at e3
  have amt : ∀ l : List Int, l.length = sh.length → l.sum = ((withA sh l).map fun x => x.c).sum := fun l hl => by
    have := Cl.withA_amt (sh := sh) (as := l) hl
    rw [show (fun x : Dd => x.c) = Dd.c from rfl, this]
  rw [amt left ll, amt l' ll']
  have e4 : ((withA sh left).map fun x => x.c - x.c * (H x.b - H x.a)).sum ≤ ((withA sh l').map fun x => x.c - x.c * (H x.b - H x.a)).sum := by
    refine sum_le_at (by rw [withA_len ll, withA_len ll']) fun k y y' hy hy' => ?_
    have hkl := (List.getElem?_eq_some_iff.mp hy).1
    rw [withA_len ll] at hkl
    have e := List.getElem?_eq_getElem hkl
    rw [withA_get e (by rw [ll]; exact hkl)] at hy
    rw [withA_get e (by rw [ll']; exact hkl)] at hy'
    rw [← Option.some.inj hy, ← Option.some.inj hy']
    generalize sh[k] = x at e
    show gI left k - gI left k * (H x.b - H x.a) ≤ gI l' k - gI l' k * (H x.b - H x.a)
    have b1 := hb k x e
    have b2 := hb' k x e
    have hu := h.up k x e
    have hd := h.dn k x e
    generalize gI left k = p at *
    generalize gI l' k = q at *
    have f : q - q * (H x.b - H x.a) - (p - p * (H x.b - H x.a)) = (q - p) * (1 - (H x.b - H x.a)) := by grind
    have : 0 ≤ (q - p) * (1 - (H x.b - H x.a)) := by
      rcases Int.lt_trichotomy p q with c | c | c
      · have := hd (by omega)
        exact Int.mul_nonneg (by omega) (by omega)
      · subst c; simp
      · have := hu (by omega)
        have h3 := Int.mul_nonneg (show 0 ≤ p - q by omega) (show 0 ≤ (H x.b - H x.a) - 1 by omega)
        have : (p - q) * ((H x.b - H x.a) - 1) = (q - p) * (1 - (H x.b - H x.a)) := by grind
        omega
    omega
  have spl : ∀ l : List Dd, (l.map fun x => x.c - x.c * (H x.b - H x.a)).sum = (l.map fun x => x.c).sum - (l.map fun x => x.c * (H x.b - H x.a)).sum := fun l => by
    induction l with
    | nil => rfl
    | cons x l ih => simp only [List.map_cons, List.sum_cons]; rw [ih]; omega
  rw [spl, spl] at e4
  omega
end
end Ab.Th

namespace Ab.Th
open Ab
section
variable {m : Nat} {sh : List Dd} {left : List Int}
theorem hts_none {H : Int → Int} (h : Hts m sh left H) (hs : ∀ x ∈ sh, x.In (m : Int)) (ll : left.length = sh.length) : filN (withA sh left) (intsL (m : Int)) ((m : Int)).toNat = [] := by
  have key : ∀ n, ∀ z ∈ filN (withA sh left) (intsL (m : Int)) n, 0 ≤ z ∧ z < (m : Int) ∧ -(m : Int) + 1 + n ≤ H z := fun n => by
    induction n with
    | zero =>
      intro z hz
      have := intsL_mem.mp hz
      have h3 := h.bd z this.1 this.2
      omega
    | succ n ih =>
      intro z hz
      obtain ⟨h1, h2⟩ := List.mem_filter.mp hz
      obtain ⟨x, hx, hx2⟩ := pb_iff.mp h2
      have hz0 := ih z h1
      obtain ⟨k, hk⟩ := List.mem_iff_getElem?.mp hx
      have hkl := (List.getElem?_eq_some_iff.mp hk).1
      rw [withA_len ll] at hkl
      have e := List.getElem?_eq_getElem hkl
      rw [withA_get e (by omega)] at hk
      have hx3 := Option.some.inj hk
      subst hx3
      obtain ⟨p1, p2, p3⟩ := hx2
      dsimp only at p1 p2 p3
      have := h.up k _ e p1
      have h4 := ih _ p3
      rw [p2] at this
      omega
  cases e : filN (withA sh left) (intsL (m : Int)) ((m : Int)).toNat with
  | nil => rfl
  | cons z zs =>
    have h1 := key ((m : Int)).toNat z (by rw [e]; exact List.mem_cons_self)
    have h2 := h.bd z h1.1 h1.2.1
    omega
theorem withA_twice {l : List Int} (ll : left.length = sh.length) (hl : l.length = sh.length) : withA (withA sh left) l = withA sh l := by
  refine list_eq (by rw [withA_len (by rw [withA_len ll]; exact hl), withA_len ll, withA_len hl]) fun n x y e1 e2 => ?_
  have hn := (List.getElem?_eq_some_iff.mp e2).1
  rw [withA_len hl] at hn
  have e := List.getElem?_eq_getElem hn
  rw [withA_get e (by omega)] at e2
  rw [withA_get (withA_get e (by omega)) (by omega)] at e1
  exact (Option.some.inj e1).symm.trans (Option.some.inj e2)
theorem withA_rev {l : List Int} (hl : l.length = sh.length) : withA sh.reverse l = (withA sh l.reverse).reverse := by
  refine list_eq (by rw [withA_len (by simpa using hl), List.length_reverse, List.length_reverse, withA_len (by simpa using hl)]) fun n x y e1 e2 => ?_
  have hn := (List.getElem?_eq_some_iff.mp e1).1
  rw [withA_len (by simpa using hl), List.length_reverse] at hn
  have e := List.getElem?_eq_getElem (l := sh) (i := sh.length - 1 - n) (by omega)
  have er : sh.reverse[n]? = some sh[sh.length - 1 - n] := by rw [List.getElem?_reverse hn, e]
  rw [withA_get er (by omega)] at e1
  rw [List.getElem?_reverse (by rw [withA_len (by simpa using hl)]; exact hn), withA_len (by simpa using hl), withA_get e (by rw [List.length_reverse]; omega)] at e2
  have : gI l.reverse ((sh.length - 1 - n : Nat) : Int) = gI l n := by
    have e3 := List.getElem?_eq_getElem (l := l) (i := n) (by omega)
    rw [gI_at e3]
    refine gI_at ?_
    rw [List.getElem?_reverse (by omega), ← e3]
    congr 1
    omega
  rw [this] at e2
  exact (Option.some.inj e1).symm.trans (Option.some.inj e2)
theorem net_rev {v : Int} : net sh.reverse v = net sh v := by
  unfold net
  rw [List.map_reverse, List.sum_reverse]
theorem bd_rev {l : List Int} (hl : l.length = sh.length) (hb : ∀ (k : Nat) (x : Dd), sh[k]? = some x → 0 ≤ gI l k ∧ gI l k ≤ x.c) (k : Nat) (x : Dd) (e : sh.reverse[k]? = some x) : 0 ≤ gI l.reverse k ∧ gI l.reverse k ≤ x.c := by
  have hn := (List.getElem?_eq_some_iff.mp e).1
  rw [List.length_reverse] at hn
  rw [List.getElem?_reverse hn] at e
  have := hb _ x e
  have e3 := List.getElem?_eq_getElem (l := l) (i := sh.length - 1 - k) (by omega)
  have e4 : l.reverse[k]? = l[sh.length - 1 - k]? := by
    rw [List.getElem?_reverse (by omega)]
    congr 1
    omega
  rw [gI_at e3] at this
  rw [gI_at (e4.trans e3)]
  exact this
structure Cand (m : Nat) (sh : List Dd) (l : List Int) : Prop where
  ll : l.length = sh.length
  bd : ∀ (k : Nat) (x : Dd), sh[k]? = some x → 0 ≤ gI l k ∧ gI l k ≤ x.c
  net : ∀ v : Nat, v < m → net (withA sh l) v = net sh v
theorem Cand.rev {l : List Int} (h : Cand m sh l) : Cand m sh.reverse l.reverse := by
  refine ⟨by simp [h.ll], bd_rev h.ll h.bd, fun v hv => ?_⟩
  rw [withA_rev (by simp [h.ll]), List.reverse_reverse, net_rev, net_rev, h.net v hv]
theorem Cand.least {l : List Int} {H : Int → Int} (hc : Cand m sh left) (h : Hts m sh left H) (hs : ∀ x ∈ sh, x.In (m : Int)) (c : Cand m sh l) : left.sum ≤ l.sum :=
  h.least hs hc.ll hc.bd c.ll c.bd fun v hv => (hc.net v hv).trans (c.net v hv).symm
theorem Cand.again {l : List Int} {H : Int → Int} (hc : Cand m sh left) (h : Hts m sh left H) (hs : ∀ x ∈ sh, x.In (m : Int)) (c : Cand m (withA sh left) l) : l.sum = left.sum := by
  have ll := c.ll
  rw [withA_len hc.ll] at ll
  have e : ∀ (k : Nat) (x : Dd), sh[k]? = some x → 0 ≤ gI l k ∧ gI l k ≤ gI left k := fun k x e => by
    have := c.bd k _ (withA_get e (by rw [hc.ll]; exact (List.getElem?_eq_some_iff.mp e).1))
    exact this
  have c2 : Cand m sh l := ⟨ll, fun k x e2 => ⟨(e k x e2).1, Int.le_trans (e k x e2).2 (hc.bd k x e2).2⟩, fun v hv => by
    have := c.net v hv
    rw [withA_twice hc.ll ll] at this
    rw [this, hc.net v hv]⟩
  have h1 := hc.least h hs c2
  have h2 := sum_le_at (f := fun z : Int => z) (g := fun z : Int => z) (l := l) (r := left) (by rw [ll, hc.ll]) fun k x y hx hy => by
    have hk := (List.getElem?_eq_some_iff.mp hx).1
    have := (e k _ (List.getElem?_eq_getElem (by omega))).2
    rw [gI_at hx, gI_at hy] at this
    exact this
  rw [List.map_id', List.map_id'] at h2
  omega
def tri (x : Dd) : Dd := ⟨x.a, x.b, x.r, 3 * x.c⟩
theorem sum_tri : ∀ l : List Int, (l.map fun z => 3 * z).sum = 3 * l.sum
  | [] => rfl
  | x :: l => by rw [List.map_cons, List.sum_cons, List.sum_cons, sum_tri l]; omega
theorem gI_tri {l : List Int} {k : Nat} : gI (l.map fun z => 3 * z) k = 3 * gI l k := by
  unfold gI
  rw [List.getD_eq_getElem?_getD, List.getElem?_map, List.getD_eq_getElem?_getD]
  cases l[((k : Int)).toNat]? with
  | none => rfl
  | some z => rfl
theorem net_tri {v : Int} : ∀ l : List Dd, net (l.map tri) v = 3 * net l v
  | [] => rfl
  | x :: l => by
    have := net_tri (v := v) l
    unfold net at *
    rw [List.map_cons, List.map_cons, List.sum_cons, List.map_cons, List.sum_cons, this]
    show 3 * x.c * dl x v + _ = _
    grind
theorem withA_tri {l : List Int} (hl : l.length = sh.length) : withA (sh.map tri) (l.map fun z => 3 * z) = (withA sh l).map tri := by
  refine list_eq (by rw [withA_len (by simpa using hl), List.length_map, List.length_map, withA_len hl]) fun n x y e1 e2 => ?_
  have hn := (List.getElem?_eq_some_iff.mp e2).1
  rw [List.length_map, withA_len hl] at hn
  have e := List.getElem?_eq_getElem hn
  rw [withA_get (x := tri sh[n]) (by rw [List.getElem?_map, e]; rfl) (by rw [List.length_map]; omega), gI_tri] at e1
  rw [List.getElem?_map, withA_get e (by omega)] at e2
  exact (Option.some.inj e1).symm.trans (Option.some.inj e2)
theorem Cand.thrice {l : List Int} {H H2 : Int → Int} (hc : Cand m sh left) (h : Hts m sh left H) (hs : ∀ x ∈ sh, x.In (m : Int)) (c : Cand m (sh.map tri) l) (h2 : Hts m (sh.map tri) l H2) : l.sum = 3 * left.sum := by
  have hs3 : ∀ x ∈ sh.map tri, x.In (m : Int) := fun x hx => by
    obtain ⟨y, hy, rfl⟩ := List.mem_map.mp hx
    have := hs y hy
    unfold Dd.In tri at *
    dsimp only
    omega
  have g3 : ∀ (k : Nat) (x : Dd), (sh.map tri)[k]? = some x → ∃ y, sh[k]? = some y ∧ x = tri y := fun k x e => by
    rw [List.getElem?_map] at e
    cases e2 : sh[k]? with
    | none => rw [e2] at e; cases e
    | some y => rw [e2] at e; exact ⟨y, rfl, (Option.some.inj e).symm⟩
  have c3 : Cand m (sh.map tri) (left.map fun z => 3 * z) := ⟨by simp [hc.ll], fun k x e => by
    obtain ⟨y, e2, rfl⟩ := g3 k x e
    have := hc.bd k y e2
    rw [gI_tri]
    show _ ∧ _ ≤ 3 * y.c
    omega, fun v hv => by
    rw [withA_tri hc.ll, net_tri, net_tri, hc.net v hv]⟩
  have h3 : Hts m (sh.map tri) (left.map fun z => 3 * z) H := ⟨fun k x e z => by
    obtain ⟨y, e2, rfl⟩ := g3 k x e
    rw [gI_tri] at z
    exact h.up k y e2 (by omega), fun k x e z => by
    obtain ⟨y, e2, rfl⟩ := g3 k x e
    rw [gI_tri] at z
    exact h.dn k y e2 (by change 3 * gI left k < 3 * y.c at z; omega), h.bd⟩
  have a1 := c.least h2 hs3 c3
  have a2 := c3.least h3 hs3 c
  rw [sum_tri] at a1 a2
  omega
def Pth (sh : List Dd) : Int → List Int → Int → Prop
  | u, [], w => u = w
  | u, n :: g, w => (nthD sh n).a = u ∧ Pth sh (nthD sh n).b g w
theorem pth_app : ∀ {g : List Int} {u w n : Int}, Pth sh u g w → (nthD sh n).a = w → Pth sh u (g ++ [n]) (nthD sh n).b
  | [], u, w, n, h, e => by have h : u = w := h; exact ⟨e.trans h.symm, rfl⟩
  | k :: g, u, w, n, h, e => ⟨h.1, pth_app h.2 e⟩
theorem pth_drop : ∀ {g : List Int} {u w z : Int} {j : Nat}, Pth sh u g w → (g.map fun n => (nthD sh n).a)[j]? = some z → Pth sh z (g.drop j) w
  | [], u, w, z, j, h, e => by simp at e
  | k :: g, u, w, z, 0, h, e => by
    have e : some _ = some z := e
    have e2 : (nthD sh k).a = z := Option.some.inj e
    exact ⟨e2, h.2⟩
  | k :: g, u, w, z, j + 1, h, e => pth_drop (g := g) h.2 (by simpa using e)
theorem pth_sum {v : Int} : ∀ {g : List Int} {u w : Int}, Pth sh u g w → (g.map fun n => dl (nthD sh n) v).sum = ind w v - ind u v
  | [], u, w, h => by have h : u = w := h; subst h; simp
  | k :: g, u, w, h => by
    rw [List.map_cons, List.sum_cons, pth_sum h.2, ← h.1]
    unfold dl
    omega
theorem nthD_get {n : Nat} (h : n < sh.length) : sh[n]? = some (nthD sh n) := by
  unfold nthD
  rw [List.getD_eq_getElem?_getD, Int.toNat_natCast, List.getElem?_eq_getElem h]
  rfl
theorem subR_net {c v : Int} : ∀ {rg l : List Int}, l.length = sh.length → (∀ n ∈ rg, 0 ≤ n ∧ n < (sh.length : Int)) → net (withA sh (subR c l rg)) v = net (withA sh l) v - c * (rg.map fun n => dl (nthD sh n) v).sum
  | [], l, _, _ => by simp [subR]
  | n :: rg, l, hl, hr => by
    show net (withA sh (subR c (l.set n.toNat (gI l n - c)) rg)) v = _
    have h0 := hr n List.mem_cons_self
    rw [subR_net (by rw [List.length_set]; exact hl) fun x hx => hr x (List.mem_cons_of_mem _ hx)]
    have e := nthD_get (sh := sh) (n := n.toNat) (by omega)
    rw [show ((n.toNat : Nat) : Int) = n by omega] at e
    rw [net_set hl e, List.map_cons, List.sum_cons, show ((n.toNat : Nat) : Int) = n by omega]
    grind
structure Rnd (sh : List Dd) (l rg : List Int) : Prop where
  nd : rg.Nodup
  rng : ∀ n ∈ rg, 0 ≤ n ∧ n < (sh.length : Int) ∧ 0 < gI l n
  bal : ∀ v, (rg.map fun n => dl (nthD sh n) v).sum = 0
theorem Cand.sub {l rg : List Int} {c : Int} (h : Cand m sh l) (r : Rnd sh l rg) (c0 : 0 ≤ c) (c1 : ∀ n ∈ rg, c ≤ gI l n) : Cand m sh (subR c l rg) := by
  have rr : ∀ n ∈ rg, 0 ≤ n ∧ n < (l.length : Int) := fun n hn => by have := r.rng n hn; rw [h.ll]; exact ⟨this.1, this.2.1⟩
  refine ⟨by rw [subR_len]; exact h.ll, fun k x e => ?_, fun v hv => ?_⟩
  · have hk := (List.getElem?_eq_some_iff.mp e).1
    have hb := h.bd k x e
    rw [subR_get r.nd rr k (by rw [h.ll]; exact hk)]
    split
    · rename_i hm
      have := c1 _ hm
      omega
    · exact hb
  · rw [subR_net h.ll fun n hn => ⟨(r.rng n hn).1, (r.rng n hn).2.1⟩, r.bal, h.net v hv]
    omega
theorem rnd_of {l g : List Int} {u w : Int} {j : Nat} (h : Pth sh u g w) (nd : (g.map fun n => (nthD sh n).a).Nodup) (hr : ∀ n ∈ g, 0 ≤ n ∧ n < (sh.length : Int) ∧ 0 < gI l n) (e : (g.map fun n => (nthD sh n).a)[j]? = some w) : Rnd sh l (g.drop j) := by
  refine ⟨?_, fun n hn => hr n (List.mem_of_mem_drop hn), fun v => ?_⟩
  · have : g.Nodup := List.Pairwise.of_map _ (fun a b h e => h (by rw [e])) nd
    exact this.sublist (List.drop_sublist _ _)
  · rw [pth_sum (pth_drop h e)]
    omega
theorem Cand.self : Cand m sh (sh.map Dd.c) → True := fun _ => trivial
theorem cand_self (hs : ∀ x ∈ sh, x.In (m : Int)) : Cand m sh (sh.map Dd.c) := by
  refine ⟨by simp, fun k x e => ?_, fun v hv => by rw [withA_self]⟩
  have := hs x (List.mem_of_getElem? e)
  rw [gI_at (by rw [List.getElem?_map, e]; rfl)]
  exact ⟨this.2.2.2.2.2.2.2, Int.le_refl _⟩
end
end Ab.Th

namespace Lw
open PySem PySem.Spec PyProof.Rows L2 Ab
theorem seq_e {a b : WS} {Dk : Kd} {s : Ab.Env} {S : Sto} (h : a { Dk with nx := b Dk } s S) : vSeq a b Dk s S := vseq_e h
theorem seq_cut {a b : WS} {Dk : Kd} {s : Ab.Env} {S : Sto} (M : Ab.Env → Sto → Prop) (h1 : ∀ R : Ab.Env → Sto → Prop, (∀ s' S', M s' S' → R s' S') → a { Dk with nx := R } s S) (h2 : ∀ s' S', M s' S' → b Dk s' S') : vSeq a b Dk s S := vseq_cut M h1 h2
theorem while_inv {wt : WT} {w : WS} {Dk : Kd} {s : Ab.Env} {S : Sto} (P : Nat → Ab.Env → Sto → Prop) (m0 : Nat) (h0 : P m0 s S)
    (hs : ∀ m s' S', P m s' S' → ∀ nx : Ab.Env → Sto → Prop, (∀ m' s2 S2, m' < m → P m' s2 S2 → nx s2 S2) → wt Dk.xc s' S' fun b S1 => if b = true then w { Dk with nx := nx } s' S1 else Dk.nx s' S1) : vWhile wt w Dk s S := vwhile_inv P m0 h0 hs
theorem lc_map {i : Nat} {vs : List Nat} {we : WE} {ds : List D} {gd : Sto → Prop} {s : Ab.Env} {S : Sto} {fin : List D → Sto → Prop} (f : D → D) (hl : ds.length < sizeLine) (hg : gd S)
    (he : ∀ x ∈ ds, ∀ k : KD, k (f x) S → we noXC ((wipeD s vs).set i (some x)) S k) (hf : fin (ds.map f) S) : lcW i vs vYes we ds gd s S fin := vlc_map f hl hg he hf
theorem lc_rel {i : Nat} {vs : List Nat} {we : WE} {ds : List D} {gd : Sto → Prop} {s : Ab.Env} {S : Sto} {fin : List D → Sto → Prop} (Q : Nat → D → D → Prop) (hl : ds.length < sizeLine) (hg : gd S)
    (he : ∀ n x, ds[n]? = some x → ∀ k : KD, (∀ y, Q n x y → k y S) → we noXC ((wipeD s vs).set i (some x)) S k)
    (hf : ∀ ys : List D, ys.length = ds.length → (∀ (n : Nat) (x y : D), ds[n]? = some x → ys[n]? = some y → Q n x y) → fin ys S) : lcW i vs vYes we ds gd s S fin := vlc_rel Q hl hg he hf
local macro_rules | `(tactic| walk_at "i") => `(tactic| first | refine vDef_i rfl ?_ | refine vTrim_i rfl ?_ | refine vTrimC_i rfl ?_ | refine vTrimM_i rfl ?_)
local macro_rules | `(tactic| walk_at "v") => `(tactic| simp only [vSlX_q, vUp_q, vJo_q, slX_s, upF_s, joF_s, vTryK_q, vNevE_q, isNW_x, vSortK_q, kSortK_i, vTryO_q, vDGet2_q, vDNew_q, vDPut_q, vKeysL_q, vLock_q, vPnil_q, vPcons_q, vDisp_q, vFld_q, vSetF_q, vMeth_q, vMake_q, vTrimM_q, vCallE_q, kFld_c, kSetF_c, isO_c, vVar_q, vC_q, vOp_q, vNeg_q, vTest_q, vChain_q, vAnd_q, vOr_q, vNot_q, vAndV_q, vOrV_q, vNotV_q, vIfE_q, vNoP_q, vSoP_q, vSl_q, vNil_q, vCons_q, vTup_q, vLst_q, vLstC_q, vFrz_q, vB_q, vIsi_q, vM_q, vM0_q, vCall_q, vSeqI_q, vRng1_q, vRng2_q, vYes_q, vLc_q, vLcC_q, vNx_q, vDrop_q, vRet_q, vRetN_q, vIf_q, vSet_q, vSto_q, vFor_q, vRaise_q, vDef_q, vTrim_q, vTrimC_q, vTry_q, vIsE_q, vFrzD_q, neW_q, slot, addW_ii, addW_ss, addW_tt, iiW_ii, ii0_ii, kNeg_i, eqW_ii, eqW_bb, eqW_ss, eqW_nn, eqW_ni, eqW_in, kNot_b, kBl_b, kOpt_s, isi_pR, ixD_t, ixD_l, ixD_r, ixD_c, isBW_bb, isNW_nn, isNW_i, isNW_t, isNW_l, kSoP_i, slW_t, slW_c, frzW_c, frzW_i, frzW_b, frzW_n, frzW_s, frzW_t, frzW_l, frzC_s, lview_0, lview_1, lview_2, lview_3, lview_4, lview_5, lenF_s, lenF_c, absF_i, maxF_ii, minF_ii, sumF_1, allF_1, sortedF_1, listF_1, listFC_1, tupleF_1, intF_i, intF_b, appF_c, popF_c, isi_due, isi_fr, Option.bind_some, wipeD, kRng1_i, kRng2_i, lview_l, lview_r, sview_c, sview_l, sview_r, sview_t, tview_t, gdOf_l, gdOf_r, gdOf_t, gdOf_c, isiD_i, isiD_b, isiD_n, isiD_s, isiD_t, isiD_l, List.map, List.length, List.replicate, List.append, List.cons_append, List.nil_append, Nat.reduceAdd, Nat.reduceSub, vLstRev_q, vLstRevC_q, vLstRg_q, vLstRgC_q, vRng3_q, vRem_q, kLstRev_i, kLstRevC_i, kRng3_i, kLstRg_i, kLstRgC_i, popAtF_i, clrF_i, setq_0, setq_s, List.getElem?_cons_zero, List.getElem?_cons_succ])
local macro_rules | `(tactic| walk_at "u") => `(tactic| simp only [addW_ll, addW_cl, addW_lc, ix_pR0, ix_pR1, len_pR, atI_0, atI_1, atI_2, atI_3, atI_4, atI_5, atI_6, atI_7, ixW_i, slW_l, slW_r, lenF_l, lenF_r, lenF_t, maxF_1, minF_1, stl_get, stl_set, stl_take, lview_top, rview_top, ix_due0, ix_fr0, ix_fr1, len_fr, frL_len, ratL_len, matL_len, ix_due1, ix_due2, ix_due3, len_due, vI_len, dueL_len, rngD_len, List.append_nil, Bool.not_eq_true', Bool.not_eq_true, decide_eq_true_eq, decide_eq_false_iff_not, Bool.and_eq_true, Bool.or_eq_true, Bool.not_true, Bool.not_false, if_true, if_false, true_and, and_true, ite_true, ite_false, reduceCtorEq, decide_true, decide_false, Bool.or_false, Bool.false_or, Bool.true_or, Bool.or_true, Int.cast_ofNat_Int, Int.natCast_zero, Int.natCast_one, fmod_pos, fdiv_pos, size_ok, size_ok2, div_lit, mul_litr, mul_litl, Int.reduceEq, Int.reduceNe, Nat.reduceEqDiff, Int.reduceToNat, Int.reduceAdd, Int.reduceMul, Int.reduceSub, Int.reduceNeg, Int.reduceLT, Int.reduceLE, ne_eq, not_false_eq_true, not_true_eq_false, Nat.reduceLeDiff, Bool.false_eq_true, exists_eq_left', exists_eq', Cel.lst.injEq, Option.some.injEq, exists_const, eq_self, List.length, Nat.reduceAdd, pw_10_6, pw_10_7, pw_10_8, pw_10_9, pw_10_11, pw_10_12, pw_10_14, pw_10_15, pw_10_18, pw_10_20, pw_10_29, pw_10_30, pw_10_50, pw_10_58, pw_10_59, pw_10_60, pw_m61_4])
local macro_rules | `(tactic| walk_at "w") => `(tactic| (try simp only [vSlX_q, vUp_q, vJo_q, slX_s, upF_s, joF_s, vTryK_q, vNevE_q, isNW_x, vSortK_q, kSortK_i, vTryO_q, vDGet2_q, vDNew_q, vDPut_q, vKeysL_q, vLock_q, vPnil_q, vPcons_q, vDisp_q, vFld_q, vSetF_q, vMeth_q, vMake_q, vTrimM_q, vCallE_q, kFld_c, kSetF_c, isO_c, vVar_q, vC_q, vOp_q, vNeg_q, vTest_q, vChain_q, vAnd_q, vOr_q, vNot_q, vAndV_q, vOrV_q, vNotV_q, vIfE_q, vNoP_q, vSoP_q, vSl_q, vNil_q, vCons_q, vTup_q, vLst_q, vLstC_q, vFrz_q, vB_q, vIsi_q, vM_q, vM0_q, vCall_q, vSeqI_q, vRng1_q, vRng2_q, vYes_q, vLc_q, vLcC_q, vNx_q, vDrop_q, vRet_q, vRetN_q, vIf_q, vSet_q, vSto_q, vFor_q, vRaise_q, vDef_q, vTrim_q, vTrimC_q, vTry_q, vIsE_q, vFrzD_q, neW_q, slot, addW_ii, addW_ss, addW_tt, iiW_ii, ii0_ii, kNeg_i, eqW_ii, eqW_bb, eqW_ss, eqW_nn, eqW_ni, eqW_in, kNot_b, kBl_b, kOpt_s, isi_pR, ixD_t, ixD_l, ixD_r, ixD_c, isBW_bb, isNW_nn, isNW_i, isNW_t, isNW_l, kSoP_i, slW_t, slW_c, frzW_c, frzW_i, frzW_b, frzW_n, frzW_s, frzW_t, frzW_l, frzC_s, lview_0, lview_1, lview_2, lview_3, lview_4, lview_5, lenF_s, lenF_c, absF_i, maxF_ii, minF_ii, sumF_1, allF_1, sortedF_1, listF_1, listFC_1, tupleF_1, intF_i, intF_b, appF_c, popF_c, isi_due, isi_fr, Option.bind_some, wipeD, kRng1_i, kRng2_i, lview_l, lview_r, sview_c, sview_l, sview_r, sview_t, tview_t, gdOf_l, gdOf_r, gdOf_t, gdOf_c, isiD_i, isiD_b, isiD_n, isiD_s, isiD_t, isiD_l, List.map, List.length, List.replicate, List.append, List.cons_append, List.nil_append, Nat.reduceAdd, Nat.reduceSub, vLstRev_q, vLstRevC_q, vLstRg_q, vLstRgC_q, vRng3_q, vRem_q, kLstRev_i, kLstRevC_i, kRng3_i, kLstRg_i, kLstRgC_i, popAtF_i, clrF_i, setq_0, setq_s, List.getElem?_cons_zero, List.getElem?_cons_succ, addW_ll, addW_cl, addW_lc, ix_pR0, ix_pR1, len_pR, atI_0, atI_1, atI_2, atI_3, atI_4, atI_5, atI_6, atI_7, ixW_i, slW_l, slW_r, lenF_l, lenF_r, lenF_t, maxF_1, minF_1, stl_get, stl_set, stl_take, lview_top, rview_top, ix_due0, ix_fr0, ix_fr1, len_fr, frL_len, ratL_len, matL_len, ix_due1, ix_due2, ix_due3, len_due, vI_len, dueL_len, rngD_len, List.append_nil, Bool.not_eq_true', Bool.not_eq_true, decide_eq_true_eq, decide_eq_false_iff_not, Bool.and_eq_true, Bool.or_eq_true, Bool.not_true, Bool.not_false, if_true, if_false, true_and, and_true, ite_true, ite_false, reduceCtorEq, decide_true, decide_false, Bool.or_false, Bool.false_or, Bool.true_or, Bool.or_true, Int.cast_ofNat_Int, Int.natCast_zero, Int.natCast_one, fmod_pos, fdiv_pos, size_ok, size_ok2, div_lit, mul_litr, mul_litl, Int.reduceEq, Int.reduceNe, Nat.reduceEqDiff, Int.reduceToNat, Int.reduceAdd, Int.reduceMul, Int.reduceSub, Int.reduceNeg, Int.reduceLT, Int.reduceLE, ne_eq, not_false_eq_true, not_true_eq_false, Nat.reduceLeDiff, Bool.false_eq_true, exists_eq_left', exists_eq', Cel.lst.injEq, Option.some.injEq, exists_const, eq_self, pw_10_6, pw_10_7, pw_10_8, pw_10_9, pw_10_11, pw_10_12, pw_10_14, pw_10_15, pw_10_18, pw_10_20, pw_10_29, pw_10_30, pw_10_50, pw_10_58, pw_10_59, pw_10_60, pw_m61_4]))
local macro_rules | `(tactic| walk_at "s") => `(tactic| (walk_at "w"; (try with_reducible refine seq_e ?_); walk_at "w"))

local macro_rules | `(tactic| walk_at "S") => `(tactic| (walk_at "w"; repeat ((with_reducible refine seq_e ?_); walk_at "w")))

noncomputable def w_reached : WF := vTrim (vDef 3 9 (vSeq (vSet 3 (vLcC 8 [8] (vRng1 (vCons (vVar 0) vNil)) vYes (vIfE (vTest (vOp (inW false) (vVar 8) (vVar 1))) (vC (.int 0)) (vC .non))))
  (vSeq (vSet 4 (vLcC 8 [8] (vRng1 (vCons (vVar 0) vNil)) vYes (vC .non)))
  (vSeq (vFor 5 (vRng1 (vCons (vVar 0) vNil))
  (vFor 6 (vSeqI (vVar 2))
  (vIf (vTest (vOp (isNW true) (vOp ixW (vVar 3) (vOp ixW (vVar 6) (vC (.int 0)))) (vC .non))) (vSeq (vSet 7 (vOp addW (vOp addW (vOp ixW (vVar 3) (vOp ixW (vVar 6) (vC (.int 0)))) (vOp mulW (vC (.int 100)) (vOp ixW (vVar 6) (vC (.int 2))))) (vC (.int 1))))
  (vIf (vOr (vTest (vOp (isNW false) (vOp ixW (vVar 3) (vOp ixW (vVar 6) (vC (.int 1)))) (vC .non))) (vTest (vOp ltW (vVar 7) (vOp ixW (vVar 3) (vOp ixW (vVar 6) (vC (.int 1))))))) (vSeq (vSto (vVar 7) (vVar 3) (vOp ixW (vVar 6) (vC (.int 1))))
  (vSto (vVar 6) (vVar 4) (vOp ixW (vVar 6) (vC (.int 1))))) vNx)) vNx)))
  (vRet (vFrzD (vTup (vCons (vVar 3) (vCons (vVar 4) vNil)))))))))
noncomputable def w_nearest : WF := vDef 2 4 (vSeq (vSet 2 (vC .non))
  (vSeq (vFor 3 (vRng1 (vCons (vB lenF (vCons (vVar 0) vNil)) vNil))
  (vIf (vAnd (vTest (vOp gtW (vOp ixW (vVar 1) (vVar 3)) (vC (.int 0)))) (vTest (vOp (isNW true) (vOp ixW (vVar 0) (vVar 3)) (vC .non)))) (vIf (vOr (vTest (vOp (isNW false) (vVar 2) (vC .non))) (vTest (vOp ltW (vOp ixW (vVar 0) (vVar 3)) (vOp ixW (vVar 0) (vVar 2))))) (vSet 2 (vVar 3)) vNx) vNx))
  (vRet (vVar 2))))
noncomputable def w_way_to : WF := vTrim (vDef 2 3 (vSeq (vSet 2 (vLstC vNil))
  (vSeq (vWhile (vTest (vOp (isNW true) (vOp ixW (vVar 1) (vVar 0)) (vC .non)))
  (vSeq (vDrop (vM appF (vVar 2) (vCons (vOp ixW (vVar 1) (vVar 0)) vNil)))
  (vSet 0 (vOp ixW (vOp ixW (vVar 1) (vVar 0)) (vC (.int 0))))))
  (vRet (vFrzD (vTup (vCons (vVar 0) (vCons (vVar 2) vNil))))))))
noncomputable def w_steps_of : WF := vTrim (vDef 2 5 (vSeq (vSet 2 (vLstC vNil))
  (vSeq (vFor 3 (vRng1 (vCons (vB lenF (vCons (vVar 0) vNil)) vNil))
  (vSeq (vSet 4 (vOp ixW (vVar 0) (vVar 3)))
  (vSeq (vIf (vTest (vOp ltW (vOp ixW (vVar 1) (vVar 3)) (vOp ixW (vVar 4) (vC (.int 3))))) (vDrop (vM appF (vVar 2) (vCons (vTup (vCons (vOp ixW (vVar 4) (vC (.int 0))) (vCons (vOp ixW (vVar 4) (vC (.int 1))) (vCons (vC (.int 1)) (vCons (vVar 3) vNil))))) vNil))) vNx)
  (vIf (vTest (vOp gtW (vOp ixW (vVar 1) (vVar 3)) (vC (.int 0)))) (vDrop (vM appF (vVar 2) (vCons (vTup (vCons (vOp ixW (vVar 4) (vC (.int 1))) (vCons (vOp ixW (vVar 4) (vC (.int 0))) (vCons (vNeg (vC (.int 1))) (vCons (vVar 3) vNil))))) vNil))) vNx))))
  (vRet (vFrz (vVar 2))))))
noncomputable def w_heights_of : WF := vTrim (vDef 3 8 (vSeq (vSet 3 (vLcC 7 [7] (vRng1 (vCons (vVar 0) vNil)) vYes (vC (.int 0))))
  (vSeq (vSet 4 (vCall w_steps_of (vCons (vVar 1) (vCons (vVar 2) vNil))))
  (vSeq (vFor 5 (vRng1 (vCons (vVar 0) vNil))
  (vFor 6 (vSeqI (vVar 4))
  (vSto (vB minF (vCons (vOp ixW (vVar 3) (vOp ixW (vVar 6) (vC (.int 1)))) (vCons (vOp addW (vOp ixW (vVar 3) (vOp ixW (vVar 6) (vC (.int 0)))) (vOp ixW (vVar 6) (vC (.int 2)))) vNil))) (vVar 3) (vOp ixW (vVar 6) (vC (.int 1))))))
  (vRet (vFrz (vVar 3)))))))
noncomputable def w_claims : WF := vTrim (vDef 2 5 (vSeq (vSet 2 (vLcC 4 [4] (vRng1 (vCons (vVar 0) vNil)) vYes (vC (.int 0))))
  (vSeq (vFor 3 (vSeqI (vVar 1))
  (vSto (vOp addW (vOp ixW (vVar 2) (vOp ixW (vVar 3) (vC (.int 1)))) (vOp ixW (vVar 3) (vC (.int 3)))) (vVar 2) (vOp ixW (vVar 3) (vC (.int 1)))))
  (vRet (vFrz (vVar 2))))))
noncomputable def w_claims_C : WF := vTrimC (vDef 2 5 (vSeq (vSet 2 (vLcC 4 [4] (vRng1 (vCons (vVar 0) vNil)) vYes (vC (.int 0))))
  (vSeq (vFor 3 (vSeqI (vVar 1))
  (vSto (vOp addW (vOp ixW (vVar 2) (vOp ixW (vVar 3) (vC (.int 1)))) (vOp ixW (vVar 3) (vC (.int 3)))) (vVar 2) (vOp ixW (vVar 3) (vC (.int 1)))))
  (vRet (vVar 2)))))
noncomputable def w_nets : WF := vTrim (vDef 2 4 (vSeq (vSet 2 (vCall w_claims_C (vCons (vVar 0) (vCons (vVar 1) vNil))))
  (vSeq (vFor 3 (vSeqI (vVar 1))
  (vSto (vOp subW (vOp ixW (vVar 2) (vOp ixW (vVar 3) (vC (.int 0)))) (vOp ixW (vVar 3) (vC (.int 3)))) (vVar 2) (vOp ixW (vVar 3) (vC (.int 0)))))
  (vRet (vFrz (vVar 2))))))
noncomputable def w_room_of : WF := vDef 3 3 (vSeq (vIf (vTest (vOp gtW (vOp ixW (vVar 0) (vC (.int 2))) (vC (.int 0)))) (vRet (vOp subW (vOp ixW (vOp ixW (vVar 1) (vOp ixW (vVar 0) (vC (.int 3)))) (vC (.int 3))) (vOp ixW (vVar 2) (vOp ixW (vVar 0) (vC (.int 3)))))) vNx)
  (vRet (vOp ixW (vVar 2) (vOp ixW (vVar 0) (vC (.int 3))))))
noncomputable def w_thinned : WF := vTrim (vDef 2 14 (vSeq (vSet 2 (vLcC 11 [11] (vSeqI (vVar 1)) vYes (vC (.int 0))))
  (vSeq (vSet 3 (vLcC 12 [12] (vSeqI (vCall w_nets (vCons (vVar 0) (vCons (vVar 1) vNil)))) vYes (vB maxF (vCons (vC (.int 0)) (vCons (vNeg (vVar 12)) vNil)))))
  (vSeq (vSet 4 (vLcC 12 [12] (vSeqI (vCall w_nets (vCons (vVar 0) (vCons (vVar 1) vNil)))) vYes (vB maxF (vCons (vC (.int 0)) (vCons (vVar 12) vNil)))))
  (vSeq (vWhile (vTest (vOp gtW (vB sumF (vCons (vVar 3) vNil)) (vC (.int 0))))
  (vSeq (vSet 5 (vLc 13 [13] (vRng1 (vCons (vVar 0) vNil)) (vTest (vOp gtW (vOp ixW (vVar 3) (vVar 13)) (vC (.int 0)))) (vVar 13)))
  (vSeq (vSet 6 (vCall w_reached (vCons (vVar 0) (vCons (vVar 5) (vCons (vCall w_steps_of (vCons (vVar 1) (vCons (vVar 2) vNil))) vNil)))))
  (vSeq (vSet 7 (vCall w_nearest (vCons (vOp ixW (vVar 6) (vC (.int 0))) (vCons (vVar 4) vNil))))
  (vSeq (vSet 8 (vCall w_way_to (vCons (vVar 7) (vCons (vOp ixW (vVar 6) (vC (.int 1))) vNil))))
  (vSeq (vSet 9 (vB minF (vCons (vLc 10 [10] (vSeqI (vOp ixW (vVar 8) (vC (.int 1)))) vYes (vCall w_room_of (vCons (vVar 10) (vCons (vVar 1) (vCons (vVar 2) vNil))))) vNil)))
  (vSeq (vSet 9 (vB minF (vCons (vLst (vCons (vVar 9) (vCons (vOp ixW (vVar 3) (vOp ixW (vVar 8) (vC (.int 0)))) (vCons (vOp ixW (vVar 4) (vVar 7)) vNil)))) vNil)))
  (vSeq (vSto (vOp subW (vOp ixW (vVar 3) (vOp ixW (vVar 8) (vC (.int 0)))) (vVar 9)) (vVar 3) (vOp ixW (vVar 8) (vC (.int 0))))
  (vSeq (vSto (vOp subW (vOp ixW (vVar 4) (vVar 7)) (vVar 9)) (vVar 4) (vVar 7))
  (vFor 10 (vSeqI (vOp ixW (vVar 8) (vC (.int 1))))
  (vSto (vOp addW (vOp ixW (vVar 2) (vOp ixW (vVar 10) (vC (.int 3)))) (vOp mulW (vVar 9) (vOp ixW (vVar 10) (vC (.int 2))))) (vVar 2) (vOp ixW (vVar 10) (vC (.int 3))))))))))))))
  (vRet (vFrzD (vTup (vCons (vVar 2) (vCons (vCall w_heights_of (vCons (vVar 0) (vCons (vVar 1) (vCons (vVar 2) vNil)))) vNil))))))))))
noncomputable def w__law_cell : WF := vDef 2 2 (vSeq (vIf (vTest (vOp ltW (vVar 1) (vB lenF (vCons (vVar 0) vNil)))) (vRet (vOp ixW (vVar 0) (vVar 1))) vNx)
  (vRet (vC (.int 0))))
noncomputable def w__law_amount : WF := vDef 2 3 (vSeq (vSet 2 (vOp modW (vOp modW (vOp mulW (vVar 0) (vC (.int 1226874159))) (vC (.int 2147483579))) (vC (.int 5))))
  (vSeq (vIf (vTest (vOp eqW (vVar 2) (vC (.int 0)))) (vRet (vOp modW (vOp modW (vOp mulW (vVar 0) (vC (.int 62089911))) (vC (.int 2147483399))) (vC (.int 4)))) vNx)
  (vSeq (vIf (vTest (vOp eqW (vVar 2) (vC (.int 1)))) (vRet (vOp modW (vVar 1) (vC (.int 1000)))) vNx)
  (vSeq (vIf (vTest (vOp eqW (vVar 2) (vC (.int 2)))) (vRet (vOp modW (vOp modW (vOp mulW (vVar 0) (vC (.int 62089911))) (vC (.int 2147483399))) (vC (.int 1000)))) vNx)
  (vSeq (vIf (vTest (vOp eqW (vVar 2) (vC (.int 3)))) (vRet (vOp subW (vOp powW (vC (.int 10)) (vC (.int 12))) (vOp modW (vOp modW (vOp mulW (vVar 0) (vC (.int 62089911))) (vC (.int 2147483399))) (vC (.int 3))))) vNx)
  (vRet (vOp modW (vOp mulW (vVar 0) (vC (.int 1343714438))) (vOp addW (vOp powW (vC (.int 10)) (vC (.int 12))) (vC (.int 1))))))))))
noncomputable def w__law_due : WF := vDef 3 6 (vSeq (vSet 3 (vOp modW (vOp modW (vOp mulW (vVar 0) (vC (.int 1103515245))) (vC (.int 2147483647))) (vVar 1)))
  (vSeq (vSet 4 (vOp modW (vOp addW (vOp addW (vVar 3) (vC (.int 1))) (vOp modW (vOp modW (vOp mulW (vVar 0) (vC (.int 742938285))) (vC (.int 2147483629))) (vOp subW (vVar 1) (vC (.int 1))))) (vVar 1)))
  (vSeq (vSet 5 (vOp modW (vOp modW (vOp mulW (vVar 0) (vC (.int 950706376))) (vC (.int 2147483587))) (vC (.int 3))))
  (vRet (vTup (vCons (vVar 3) (vCons (vVar 4) (vCons (vVar 5) (vCons (vCall w__law_amount (vCons (vVar 0) (vCons (vVar 2) vNil))) vNil)))))))))
noncomputable def w__law_drawn : WF := vDef 3 3 (vRet (vOp addW (vC (.int 1)) (vOp modW (vOp addW (vCall w__law_cell (vCons (vVar 0) (vCons (vVar 1) vNil))) (vOp mulW (vVar 2) (vOp addW (vOp mulW (vVar 1) (vVar 1)) (vC (.int 1))))) (vOp powW (vC (.int 10)) (vC (.int 15))))))
noncomputable def w__law_sheet : WF := vDef 3 6 (vSeq (vIf (vTest (vOp eqW (vVar 1) (vC (.int 1)))) (vRet (vLst vNil)) vNx)
  (vSeq (vSet 3 (vOp modW (vCall w__law_cell (vCons (vVar 0) (vCons (vC (.int 1)) vNil))) (vOp powW (vC (.int 10)) (vC (.int 9)))))
  (vSeq (vSet 4 (vB maxF (vCons (vB lenF (vCons (vSl (vVar 0) (vSoP (vC (.int 3))) (vSoP (vOp addW (vC (.int 3)) (vVar 2)))) vNil)) (vCons (vOp modW (vCall w__law_cell (vCons (vVar 0) (vCons (vC (.int 2)) vNil))) (vOp addW (vVar 2) (vC (.int 1)))) vNil))))
  (vRet (vLc 5 [5] (vRng1 (vCons (vVar 4) vNil)) vYes (vCall w__law_due (vCons (vCall w__law_drawn (vCons (vVar 0) (vCons (vOp addW (vC (.int 3)) (vVar 5)) (vCons (vVar 3) vNil)))) (vCons (vVar 1) (vCons (vVar 3) vNil)))))))))
noncomputable def w__law_whole : WF := vDef 1 1 (vRet (vAndV (vIsi .int (vVar 0)) (vNotV (vIsi .bool (vVar 0)))))
noncomputable def w__law_wholes : WF := vDef 2 3 (vSeq (vIf (vOr (vNot (vTest (vIsi .list (vVar 0)))) (vTest (vOp neW (vB lenF (vCons (vVar 0) vNil)) (vVar 1)))) (vRet (vC (.bl false))) vNx)
  (vSeq (vFor 2 (vSeqI (vVar 0))
  (vIf (vNot (vTest (vCall w__law_whole (vCons (vVar 2) vNil)))) (vRet (vC (.bl false))) vNx))
  (vRet (vC (.bl true)))))
noncomputable def w__law_paid_by : WF := vDef 4 5 (vSeq (vFor 4 (vRng1 (vCons (vB lenF (vCons (vVar 2) vNil)) vNil))
  (vIf (vAnd (vTest (vOp gtW (vOp ixW (vVar 3) (vVar 4)) (vC (.int 0)))) (vAnd (vTest (vOp eqW (vOp ixW (vOp ixW (vVar 2) (vVar 4)) (vC (.int 1))) (vVar 0))) (vTest (vOp (inW false) (vOp ixW (vOp ixW (vVar 2) (vVar 4)) (vC (.int 0))) (vVar 1))))) (vRet (vC (.bl true))) vNx))
  (vRet (vC (.bl false))))
noncomputable def w__law_ringless : WF := vDef 3 7 (vSeq (vSet 3 (vLstRg (vVar 0)))
  (vSeq (vFor 4 (vRng1 (vCons (vVar 0) vNil))
  (vSeq (vSet 5 (vLc 6 [6] (vSeqI (vVar 3)) (vTest (vCall w__law_paid_by (vCons (vVar 6) (vCons (vVar 3) (vCons (vVar 1) (vCons (vVar 2) vNil)))))) (vVar 6)))
  (vSet 3 (vVar 5))))
  (vRet (vOp eqW (vB lenF (vCons (vVar 3) vNil)) (vC (.int 0))))))
noncomputable def w__law_on : WF := vDef 3 4 (vSeq (vFor 3 (vRng1 (vCons (vB lenF (vCons (vVar 1) vNil)) vNil))
  (vIf (vAnd (vTest (vOp gtW (vOp ixW (vVar 2) (vVar 3)) (vC (.int 0)))) (vTest (vOp eqW (vOp ixW (vOp ixW (vVar 1) (vVar 3)) (vC (.int 0))) (vVar 0)))) (vRet (vVar 3)) vNx))
  (vRet (vC .non)))
noncomputable def w__law_round : WF := vTrim (vDef 4 8 (vSeq (vSet 4 (vLstC vNil))
  (vSeq (vSet 5 (vLstC vNil))
  (vSeq (vFor 6 (vRng1 (vCons (vVar 1) vNil))
  (vSeq (vDrop (vM appF (vVar 4) (vCons (vVar 0) vNil)))
  (vSeq (vSet 7 (vCall w__law_on (vCons (vVar 0) (vCons (vVar 2) (vCons (vVar 3) vNil)))))
  (vSeq (vIf (vTest (vOp (isNW false) (vVar 7) (vC .non))) (vRet (vLst vNil)) vNx)
  (vSeq (vDrop (vM appF (vVar 5) (vCons (vVar 7) vNil)))
  (vSeq (vSet 0 (vOp ixW (vOp ixW (vVar 2) (vVar 7)) (vC (.int 1))))
  (vIf (vTest (vOp (inW false) (vVar 0) (vVar 4))) (vRet (vSl (vVar 5) (vSoP (vM idxF (vVar 4) (vCons (vVar 0) vNil))) vNoP)) vNx)))))))
  (vRet (vLst vNil))))))
noncomputable def w__law_other : WF := vTrim (vDef 3 10 (vSeq (vSet 3 (vLcC 9 [9] (vSeqI (vVar 2)) vYes (vOp ixW (vVar 9) (vC (.int 3)))))
  (vSeq (vFor 4 (vRng1 (vCons (vC (.int 12)) vNil))
  (vSeq (vSet 5 (vOp modW (vOp addW (vCall w__law_cell (vCons (vVar 0) (vCons (vOp addW (vC (.int 3)) (vVar 4)) vNil))) (vVar 4)) (vVar 1)))
  (vSeq (vSet 6 (vCall w__law_round (vCons (vVar 5) (vCons (vVar 1) (vCons (vVar 2) (vCons (vVar 3) vNil))))))
  (vIf (vTest (vOp gtW (vB lenF (vCons (vVar 6) vNil)) (vC (.int 0)))) (vSeq (vSet 7 (vB minF (vCons (vLc 8 [8] (vSeqI (vVar 6)) vYes (vOp ixW (vVar 3) (vVar 8))) vNil)))
  (vSeq (vIf (vTest (vOp eqW (vOp modW (vCall w__law_cell (vCons (vVar 0) (vCons (vOp addW (vC (.int 4)) (vVar 4)) vNil))) (vC (.int 2))) (vC (.int 1)))) (vSet 7 (vOp fdivW (vVar 7) (vC (.int 2)))) vNx)
  (vFor 8 (vSeqI (vVar 6))
  (vSto (vOp subW (vOp ixW (vVar 3) (vVar 8)) (vVar 7)) (vVar 3) (vVar 8))))) vNx))))
  (vRet (vFrz (vVar 3))))))
noncomputable def w_amounts_of : WF := vDef 1 2 (vRet (vLc 1 [1] (vSeqI (vVar 0)) vYes (vOp ixW (vVar 1) (vC (.int 3)))))
noncomputable def w_amounts_of_C : WF := vTrimC (vDef 1 2 (vRet (vLcC 1 [1] (vSeqI (vVar 0)) vYes (vOp ixW (vVar 1) (vC (.int 3))))))
noncomputable def w_payer_due : WF := vDef 3 5 (vSeq (vFor 3 (vRng1 (vCons (vB lenF (vCons (vVar 2) vNil)) vNil))
  (vSeq (vSet 4 (vOp ixW (vVar 2) (vVar 3)))
  (vIf (vAnd (vTest (vOp gtW (vOp ixW (vVar 4) (vC (.int 3))) (vC (.int 0)))) (vAnd (vTest (vOp eqW (vOp ixW (vVar 4) (vC (.int 1))) (vVar 0))) (vTest (vOp (inW false) (vOp ixW (vVar 4) (vC (.int 0))) (vVar 1))))) (vRet (vVar 3)) vNx)))
  (vRet (vC .non)))
noncomputable def w_unpaid_one : WF := vDef 2 3 (vSeq (vFor 2 (vSeqI (vVar 0))
  (vIf (vTest (vOp (isNW false) (vCall w_payer_due (vCons (vVar 2) (vCons (vVar 0) (vCons (vVar 1) vNil)))) (vC .non))) (vRet (vVar 2)) vNx))
  (vRet (vC .non)))
noncomputable def w_peeled : WF := vTrim (vDef 2 5 (vSeq (vSet 2 (vLstC vNil))
  (vSeq (vSet 3 (vLstRgC (vVar 0)))
  (vSeq (vSet 4 (vCall w_unpaid_one (vCons (vVar 3) (vCons (vVar 1) vNil))))
  (vSeq (vWhile (vTest (vOp (isNW true) (vVar 4) (vC .non)))
  (vSeq (vDrop (vM appF (vVar 2) (vCons (vVar 4) vNil)))
  (vSeq (vDrop (vRem (vVar 3) (vVar 4)))
  (vSet 4 (vCall w_unpaid_one (vCons (vVar 3) (vCons (vVar 1) vNil)))))))
  (vRet (vFrzD (vTup (vCons (vVar 2) (vCons (vVar 3) vNil))))))))))
noncomputable def w_a_ring : WF := vTrim (vDef 2 7 (vSeq (vSet 2 (vOp ixW (vCall w_peeled (vCons (vVar 0) (vCons (vVar 1) vNil))) (vC (.int 1))))
  (vSeq (vIf (vTest (vOp eqW (vB lenF (vCons (vVar 2) vNil)) (vC (.int 0)))) (vRet (vLst vNil)) vNx)
  (vSeq (vSet 3 (vLstC vNil))
  (vSeq (vSet 4 (vLstC vNil))
  (vSeq (vSet 5 (vOp ixW (vVar 2) (vC (.int 0))))
  (vSeq (vWhile (vTest (vOp (inW true) (vVar 5) (vVar 3)))
  (vSeq (vSet 6 (vCall w_payer_due (vCons (vVar 5) (vCons (vVar 2) (vCons (vVar 1) vNil)))))
  (vSeq (vDrop (vM appF (vVar 3) (vCons (vVar 5) vNil)))
  (vSeq (vDrop (vM appF (vVar 4) (vCons (vVar 6) vNil)))
  (vSet 5 (vOp ixW (vOp ixW (vVar 1) (vVar 6)) (vC (.int 0))))))))
  (vRet (vLstRev (vSl (vVar 4) (vSoP (vM idxF (vVar 3) (vCons (vVar 5) vNil))) vNoP))))))))))
noncomputable def w_with_amounts : WF := vTrim (vDef 2 5 (vSeq (vSet 2 (vLstC vNil))
  (vSeq (vFor 3 (vRng1 (vCons (vB lenF (vCons (vVar 0) vNil)) vNil))
  (vSeq (vSet 4 (vOp ixW (vVar 0) (vVar 3)))
  (vDrop (vM appF (vVar 2) (vCons (vTup (vCons (vOp ixW (vVar 4) (vC (.int 0))) (vCons (vOp ixW (vVar 4) (vC (.int 1))) (vCons (vOp ixW (vVar 4) (vC (.int 2))) (vCons (vOp ixW (vVar 1) (vVar 3)) vNil))))) vNil)))))
  (vRet (vFrz (vVar 2))))))
noncomputable def w_cut : WF := vTrim (vDef 2 7 (vSeq (vSet 2 (vCall w_amounts_of_C (vCons (vVar 1) vNil)))
  (vSeq (vSet 3 (vLstC vNil))
  (vSeq (vSet 4 (vCall w_a_ring (vCons (vVar 0) (vCons (vVar 1) vNil))))
  (vSeq (vWhile (vTest (vOp gtW (vB lenF (vCons (vVar 4) vNil)) (vC (.int 0))))
  (vSeq (vSet 5 (vB minF (vCons (vLc 6 [6] (vSeqI (vVar 4)) vYes (vOp ixW (vVar 2) (vVar 6))) vNil)))
  (vSeq (vFor 6 (vSeqI (vVar 4))
  (vSto (vOp subW (vOp ixW (vVar 2) (vVar 6)) (vVar 5)) (vVar 2) (vVar 6)))
  (vSeq (vDrop (vM appF (vVar 3) (vCons (vTup (vCons (vVar 4) (vCons (vVar 5) vNil))) vNil)))
  (vSet 4 (vCall w_a_ring (vCons (vVar 0) (vCons (vCall w_with_amounts (vCons (vVar 1) (vCons (vVar 2) vNil))) vNil))))))))
  (vRet (vFrzD (vTup (vCons (vVar 2) (vCons (vVar 3) vNil))))))))))
noncomputable def w__law_with : WF := vDef 2 3 (vRet (vLc 2 [2] (vRng1 (vCons (vB lenF (vCons (vVar 0) vNil)) vNil)) vYes (vTup (vCons (vOp ixW (vOp ixW (vVar 0) (vVar 2)) (vC (.int 0))) (vCons (vOp ixW (vOp ixW (vVar 0) (vVar 2)) (vC (.int 1))) (vCons (vOp ixW (vOp ixW (vVar 0) (vVar 2)) (vC (.int 2))) (vCons (vOp ixW (vVar 1) (vVar 2)) vNil)))))))
noncomputable def w_law : WF := vDef 1 7 (vSeq (vSet 1 (vOp addW (vC (.int 1)) (vOp modW (vCall w__law_cell (vCons (vVar 0) (vCons (vC (.int 0)) vNil))) (vC (.int 6)))))
  (vSeq (vSet 2 (vLc 6 [6] (vSeqI (vCall w__law_sheet (vCons (vVar 0) (vCons (vVar 1) (vCons (vC (.int 10)) vNil))))) vYes (vTup (vCons (vOp ixW (vVar 6) (vC (.int 0))) (vCons (vOp ixW (vVar 6) (vC (.int 1))) (vCons (vOp ixW (vVar 6) (vC (.int 2))) (vCons (vOp fdivW (vOp ixW (vVar 6) (vC (.int 3))) (vC (.int 10))) vNil)))))))
  (vSeq (vSet 3 (vOp ixW (vCall w_thinned (vCons (vVar 1) (vCons (vB listF (vCons (vVar 2) vNil)) vNil))) (vC (.int 0))))
  (vSeq (vIf (vOr (vNot (vTest (vCall w__law_wholes (vCons (vVar 3) (vCons (vB lenF (vCons (vVar 2) vNil)) vNil))))) (vNot (vTest (vCall w__law_ringless (vCons (vVar 1) (vCons (vVar 2) (vCons (vVar 3) vNil))))))) (vRet (vC (.bl false))) vNx)
  (vSeq (vSet 4 (vB sumF (vCons (vVar 3) vNil)))
  (vSeq (vIf (vOr (vTest (vOp gtW (vVar 4) (vB sumF (vCons (vOp ixW (vCall w_cut (vCons (vVar 1) (vCons (vB listF (vCons (vVar 2) vNil)) vNil))) (vC (.int 0))) vNil)))) (vTest (vOp gtW (vVar 4) (vB sumF (vCons (vCall w__law_other (vCons (vVar 0) (vCons (vVar 1) (vCons (vVar 2) vNil)))) vNil))))) (vRet (vC (.bl false))) vNx)
  (vSeq (vIf (vTest (vOp neW (vB sumF (vCons (vOp ixW (vCall w_thinned (vCons (vVar 1) (vCons (vCall w__law_with (vCons (vVar 2) (vCons (vVar 3) vNil))) vNil))) (vC (.int 0))) vNil)) (vVar 4))) (vRet (vC (.bl false))) vNx)
  (vSeq (vIf (vTest (vOp neW (vB sumF (vCons (vOp ixW (vCall w_thinned (vCons (vVar 1) (vCons (vLstRev (vVar 2)) vNil))) (vC (.int 0))) vNil)) (vVar 4))) (vRet (vC (.bl false))) vNx)
  (vSeq (vSet 5 (vLc 6 [6] (vSeqI (vVar 2)) vYes (vTup (vCons (vOp ixW (vVar 6) (vC (.int 0))) (vCons (vOp ixW (vVar 6) (vC (.int 1))) (vCons (vOp ixW (vVar 6) (vC (.int 2))) (vCons (vOp mulW (vC (.int 3)) (vOp ixW (vVar 6) (vC (.int 3)))) vNil)))))))
  (vRet (vOp eqW (vB sumF (vCons (vOp ixW (vCall w_thinned (vCons (vVar 1) (vCons (vVar 5) vNil))) (vC (.int 0))) vNil)) (vOp mulW (vC (.int 3)) (vVar 4)))))))))))))


theorem cell_sp (ns : List Int) (i : Int) (S : Sto) (k : KD) (xk : XD) (hi : 0 ≤ i) (hl : ns.length ≤ 63) (h : k (.int (cellv ns i)) S) : w__law_cell [.scr (ns.map .int), .int i] S k xk := by
  walk_at "i"
  walk_at "s"
  rw [List.length_map]
  unfold cellv at h
  split
  · rename_i h1
    rw [if_pos h1] at h
    exact ⟨_, at_ints hi h1, h⟩
  · rename_i h1
    rw [if_neg h1] at h
    exact h
theorem whole_sp (i : Int) (S : Sto) (k : KD) (xk : XD) (h : k (.bl true) S) : w__law_whole [.int i] S k xk := by
  walk_at "i"
  walk_at "w"
  exact h
local macro_rules | `(tactic| walk_at "c") => `(tactic| repeat ((first | (with_reducible refine cell_sp _ _ _ _ _ ?_ ?_ ?_; decide; assumption) | (with_reducible refine whole_sp _ _ _ _ ?_)) ; walk_at "w"))

theorem lamount_sp (n s : Int) (S : Sto) (k : KD) (xk : XD) (h : ∀ c : Int, 0 ≤ c → c ≤ 1000000000000 → k (.int c) S) : w__law_amount [.int n, .int s] S k xk := by
  walk_at "i"
  walk_at "s"
  generalize n * 1226874159 % 2147483579 % 5 = way
  walk_at "s"
  generalize n * 62089911 % 2147483399 = z
  split
  · exact h _ (emod_lo (by decide)) (Int.le_trans (Int.le_of_lt (emod_hi (by decide))) (by decide))
  walk_at "s"
  split
  · exact h _ (emod_lo (by decide)) (Int.le_trans (Int.le_of_lt (emod_hi (by decide))) (by decide))
  walk_at "s"
  split
  · exact h _ (emod_lo (by decide)) (Int.le_trans (Int.le_of_lt (emod_hi (by decide))) (by decide))
  walk_at "s"
  split
  · have h1 := @emod_lo z 3 (by decide)
    have h2 := @emod_hi z 3 (by decide)
    exact h _ (by omega) (by omega)
  walk_at "w"
  have h1 := @emod_lo (n * 1343714438) 1000000000001 (by decide)
  have h2 := @emod_hi (n * 1343714438) 1000000000001 (by decide)
  exact h _ h1 (by omega)

theorem ldue_sp (n m s : Int) (S : Sto) (k : KD) (xk : XD) (hm : 2 ≤ m) (h : ∀ x : Dd, x.Ok m → k x.d S) : w__law_due [.int n, .int m, .int s] S k xk := by
  walk_at "i"
  have m0 : 0 < m := by omega
  have m1 : 0 < m - 1 := by omega
  walk_at "s"
  refine ⟨by omega, ?_⟩
  walk_at "s"
  refine ⟨by omega, by omega, ?_⟩
  walk_at "s"
  walk_at "w"
  refine lamount_sp _ _ _ _ _ fun c c0 c1 => ?_
  walk_at "w"
  simp only [fmod_pos m0, fmod_pos m1]
  have r0 := @ring_ne (n * 1103515245 % 2147483647 % m) (n * 742938285 % 2147483629 % (m - 1)) m (emod_lo m0) (emod_hi m0) (emod_lo m1) (emod_hi m1)
  exact h ⟨_, _, _, c⟩ ⟨emod_lo m0, emod_hi m0, r0.1, r0.2.1, r0.2.2, emod_lo (by decide), emod_hi (by decide), c0, c1⟩

theorem ldrawn3_sp (ns : List Int) (i s : Int) (S : Sto) (k : KD) (xk : XD) (hl : ns.length ≤ 63) (h0 : 0 ≤ i) (h1 : i ≤ 1000000) (h : ∀ c : Int, 1 ≤ c → c ≤ 1000000000000000 → k (.int c) S) : w__law_drawn [.scr (ns.map .int), .int i, .int s] S k xk := by
  walk_at "i"
  have hi : Sz 20 i := sz_le 1000000 (by omega) (by decide)
  have hj : Sz 41 (i * i + 1) := Sz.add (hi.mul hi) (sz_le 1 (by decide) (by decide))
  walk_at "w"
  refine cell_sp _ _ _ _ _ h0 hl ?_
  walk_at "w"
  refine ⟨hi.okl (by decide) (by decide), hj.okr (by decide) (by decide), ?_⟩
  have h1 := @emod_lo (cellv ns i + s * (i * i + 1)) 1000000000000000 (by omega)
  have h2 := @emod_hi (cellv ns i + s * (i * i + 1)) 1000000000000000 (by omega)
  exact h _ (by omega) (by omega)

theorem lsheet_sp (ns : List Int) (m t : Int) (S : Sto) (k : KD) (xk : XD) (hl : ns.length ≤ 63) (hm : 1 ≤ m) (ht : 0 ≤ t) (ht1 : t ≤ 1000) (h : ∀ sh : List Dd, (sh.length : Int) ≤ t → (∀ x ∈ sh, x.Ok m) → (m = 1 → sh = []) → k (.lst (dueL sh)) S) : w__law_sheet [.scr (ns.map .int), .int m, .int t] S k xk := by
  walk_at "i"
  walk_at "s"
  split
  · exact h [] (by simpa using ht) (by simp) (fun _ => rfl)
  rename_i m1
  walk_at "s"
  walk_at "c"
  walk_at "s"
  walk_at "c"
  have t0 : 0 < t + 1 := by omega
  simp only [fmod_pos t0]
  have c1 := @cutD_le (ns.map D.int) 3 t (by decide) ht
  have c2 := @emod_lo (cellv ns 2) (t + 1) t0
  have c3 := @emod_hi (cellv ns 2) (t + 1) t0
  generalize e : (if cellv ns 2 % (t + 1) > ((cutD (ns.map D.int) (some 3) (some (3 + t))).length : Int) then cellv ns 2 % (t + 1) else ((cutD (ns.map D.int) (some 3) (some (3 + t))).length : Int)) = count
  have k0 : 0 ≤ count ∧ count ≤ t := by
    rw [← e]
    constructor <;> split <;> omega
  refine ⟨by omega, ⟨by omega, by omega, ?_⟩⟩
  refine lc_rel (fun _ _ y => ∃ x : Dd, y = x.d ∧ x.Ok m) (by rw [rngD_len]; exact Nat.lt_of_le_of_lt (m := 1000) (by omega) (by decide +kernel)) trivial (fun n x hx k' hk => ?_) fun ys hl' hy => ?_
  · obtain ⟨hn, rfl⟩ := rngD_get hx
    walk_at "w"
    refine ldrawn3_sp _ _ _ _ _ _ hl (by omega) (by omega) fun c _ _ => ?_
    walk_at "w"
    exact ldue_sp _ _ _ _ _ _ (by omega) fun x hx => hk _ ⟨x, rfl, hx⟩
  · rw [rngD_len] at hl'
    obtain ⟨sh, rfl, hs⟩ := lift_dues ys fun y hy' => by
      obtain ⟨n, hn⟩ := List.mem_iff_getElem?.mp hy'
      have : n < ys.length := by
        rcases Nat.lt_or_ge n ys.length with l | l
        · exact l
        · rw [List.getElem?_eq_none l] at hn; cases hn
      exact hy n _ y (List.getElem?_eq_getElem (by rw [rngD_len]; omega)) hn
    rw [dueL_len] at hl'
    exact h sh (by omega) hs (fun z => absurd z m1)

theorem payerdue_sp (b : Int) (dR : D) (R : List Int) (sh : List Dd) (S : Sto) (k : KD) (xk : XD) (hR : lview S dR = some (vI R)) (hl : sh.length ≤ 1000) (h1 : (∀ x ∈ sh, ¬ PdP b R x) → k .non S) (h2 : ∀ (i : Nat) (x : Dd), sh[i]? = some x → PdP b R x → k (.int (i : Int)) S) : w_payer_due [.int b, dR, .lst (dueL sh)] S k xk := by
  walk_at "i"
  refine seq_cut (fun s' S' => S' = S ∧ ∀ x ∈ sh, ¬ PdP b R x) (fun Q hQ => ?_) ?_
  · walk_at "w"
    refine ⟨by omega, by omega, ?_⟩
    refine for_rng (fun i s' S' => S' = S ∧ (∀ x ∈ sh.take i, ¬ PdP b R x) ∧ ∃ o3 o4, s' = [some (.int b), some dR, some (.lst (dueL sh)), o3, o4]) ⟨rfl, by simp, _, _, rfl⟩ (fun i hi s' S' ⟨e1, e3, o3, o4, e2⟩ nx hnx => ?_) fun s' S' ⟨e1, e3, _⟩ => ?_
    · have hi : i < sh.length := by omega
      subst e1 e2
      have ex : sh[i]? = some sh[i] := List.getElem?_eq_getElem hi
      have et := take_succ_of ex
      have g2 := h2 i _ ex
      rw [et] at hnx
      generalize sh[i] = x at ex g2 hnx
      have nxt : ¬ PdP b R x → nx [some (.int b), some dR, some (.lst (dueL sh)), some (.int (i : Int)), some x.d] S' := fun hn => hnx _ _ ⟨rfl, fun y hy => by
        rcases List.mem_append.mp hy with hy | hy
        · exact e3 y hy
        · rw [List.mem_singleton] at hy
          subst hy
          exact hn, _, _, rfl⟩
      walk_at "s"
      refine ⟨_, at_dueL ex, ?_⟩
      walk_at "s"
      by_cases c1 : 0 < x.c
      · rw [if_pos c1]
        by_cases c2 : x.b = b
        · rw [if_pos c2]
          refine inW_vI hR ?_
          walk_at "w"
          by_cases c3 : x.a ∈ R
          · rw [if_pos c3]
            exact g2 ⟨c1, c2, c3⟩
          · rw [if_neg c3]
            exact nxt fun z => c3 z.2.2
        · rw [if_neg c2]
          exact nxt fun z => c2 z.2.1
      · rw [if_neg c1]
        exact nxt fun z => c1 z.1
    · refine hQ _ _ ⟨e1, ?_⟩
      rwa [show ((sh.length : Int)).toNat = sh.length by omega, List.take_length] at e3
  rintro _ _ ⟨rfl, e⟩
  walk_at "w"
  exact h1 e
theorem unpaid_sp (dR : D) (R : List Int) (sh : List Dd) (S : Sto) (k : KD) (xk : XD) (hR : lview S dR = some (vI R)) (hl : sh.length ≤ 1000) (h1 : Stuck sh R → k .non S) (h2 : ∀ b ∈ R, (∀ x ∈ sh, ¬ PdP b R x) → k (.int b) S) : w_unpaid_one [dR, .lst (dueL sh)] S k xk := by
  walk_at "i"
  refine seq_cut (fun s' S' => S' = S ∧ Stuck sh R) (fun Q hQ => ?_) ?_
  · walk_at "w"
    refine ⟨_, lv_sview hR, ?_⟩
    refine for_list D.int R (fun i s' S' => S' = S ∧ (∀ b ∈ R.take i, ∃ x ∈ sh, PdP b R x) ∧ ∃ o2, s' = [some dR, some (.lst (dueL sh)), o2]) ⟨rfl, by simp, _, rfl⟩ (fun _ _ _ ⟨e, _⟩ => by rw [e]; exact gd_self) (fun i b hi s' S' ⟨e1, e3, o2, e2⟩ nx hnx => ?_) fun s' S' ⟨e1, e3, _⟩ => ?_
    · subst e1 e2
      have et := take_succ_of hi
      have g2 := h2 b (List.mem_of_getElem? hi)
      rw [et] at hnx
      walk_at "w"
      refine payerdue_sp b dR R sh _ _ _ hR hl (fun hn => ?_) fun j x hj hx => ?_
      · walk_at "w"
        exact g2 hn
      · walk_at "w"
        exact hnx _ _ ⟨rfl, fun c hc => by
          rcases List.mem_append.mp hc with hc | hc
          · exact e3 c hc
          · rw [List.mem_singleton] at hc
            subst hc
            exact ⟨x, List.mem_of_getElem? hj, hx⟩, _, rfl⟩
    · refine hQ _ _ ⟨e1, ?_⟩
      rwa [List.take_length] at e3
  rintro _ _ ⟨rfl, e⟩
  walk_at "w"
  exact h1 e
theorem peeled_in (m : Int) (sh : List Dd) (S : Sto) (k : KD) (xk : XD) (hm : 0 ≤ m) (m1 : m ≤ 1000) (hl : sh.length ≤ 1000) (hs : ∀ x ∈ sh, x.In m) (h : ∀ L R, Peel m sh L R → Stuck sh R → k (.tup [.lst (vI L), .lst (vI R)]) S) : w_peeled [.int m, .lst (dueL sh)] S k xk := by
  walk_at "i"
  walk_at "s"
  walk_at "s"
  refine ⟨by omega, by omega, ?_⟩
  rw [rngD_vI, List.append_assoc, List.length_append]
  simp only [List.cons_append, List.nil_append, List.length_cons, List.length_nil, Nat.zero_add]
  walk_at "s"
  have st : S ++ [Cel.lst [], Cel.lst (vI (intsL m))] = S ++ [Cel.lst (vI []), Cel.lst (vI (intsL m))] := rfl
  rw [st]
  have key : ∀ (L R : List Int) (nx : Ab.Env → Sto → Prop), Peel m sh L R → (∀ o : Option Int, (o = none → Stuck sh R) → (∀ b, o = some b → b ∈ R ∧ ∀ x ∈ sh, ¬ PdP b R x) → nx [some (.int m), some (.lst (dueL sh)), some (.cell S.length), some (.cell (S.length + 1)), some (optD o)] (S ++ [.lst (vI L), .lst (vI R)])) → ∀ xk2, w_unpaid_one [.cell (S.length + 1), .lst (dueL sh)] (S ++ [.lst (vI L), .lst (vI R)]) (fun d S1 => nx [some (.int m), some (.lst (dueL sh)), some (.cell S.length), some (.cell (S.length + 1)), some d] S1) xk2 := fun L R nx hp hnx xk2 => by
    refine unpaid_sp _ R sh _ _ _ (lview_c app_get1) hl (fun hst => hnx none (fun _ => hst) fun b e => by cases e) fun b hb hu => hnx (some b) (fun e => by cases e) fun b' e => by cases e; exact ⟨hb, hu⟩
  refine key [] (intsL m) (fun s' S' => vSeq _ _ _ s' S') .start (fun o o1 o2 => ?_) _
  refine seq_cut (fun s' S' => ∃ (L R : List Int) (o : Option D), s' = [some (.int m), some (.lst (dueL sh)), some (.cell S.length), some (.cell (S.length + 1)), o] ∧ S' = S ++ [.lst (vI L), .lst (vI R)] ∧ Peel m sh L R ∧ Stuck sh R) (fun Q hQ => ?_) ?_
  · refine while_inv (fun n s' S' => ∃ (L R : List Int) (o : Option Int), s' = [some (.int m), some (.lst (dueL sh)), some (.cell S.length), some (.cell (S.length + 1)), some (optD o)] ∧ S' = S ++ [.lst (vI L), .lst (vI R)] ∧ Peel m sh L R ∧ (o = none → Stuck sh R) ∧ (∀ b, o = some b → b ∈ R ∧ ∀ x ∈ sh, ¬ PdP b R x) ∧ n = R.length) _ ⟨[], intsL m, o, rfl, rfl, .start, o1, o2, rfl⟩ ?_
    rintro n s' S' ⟨L, R, o, rfl, rfl, hp, p1, p2, rfl⟩ nx hnx
    cases o with
    | none =>
      unfold optD
      walk_at "w"
      exact hQ _ _ ⟨L, R, _, rfl, rfl, hp, p1 rfl⟩
    | some b =>
      obtain ⟨hb, hu⟩ := p2 b rfl
      have hlen := hp.perm.length_eq
      rw [List.length_append, intsL_len] at hlen
      unfold optD
      walk_at "s"
      refine ⟨⟨_, lview_c app_get0⟩, _, app_get0, szlt (by rw [vI_len]; omega), ?_⟩
      rw [app_set0]
      walk_at "s"
      refine ⟨⟨_, lview_c app_get1⟩, _, R, rfl, app_get1, hb, ?_⟩
      rw [app_set1]
      have e5 : vI L ++ [D.int b] = vI (L ++ [b]) := by unfold vI; simp
      have e6 : List.map D.int (R.erase b) = vI (R.erase b) := rfl
      rw [e5, e6]
      walk_at "w"
      refine key (L ++ [b]) (R.erase b) nx (hp.step hs hb hu) (fun o o1 o2 => ?_) _
      refine hnx _ _ _ ?_ ⟨_, _, o, rfl, rfl, hp.step hs hb hu, o1, o2, rfl⟩
      rw [List.length_erase_of_mem hb]
      have : 0 < R.length := List.length_pos_of_mem hb
      omega
  rintro _ _ ⟨L, R, o, rfl, rfl, hp, hst⟩
  walk_at "w"
  refine ⟨_, _, FzR.tup (.cons (.cellP app_get0) (.cons (.cellP (by rw [app_set0]; exact app_get1)) .nil)), ?_⟩
  refine ⟨by
    unfold D.pure pureAll
    rw [lst_pure (vI_pure _)]
    unfold pureAll
    rw [lst_pure (vI_pure _)]
    rfl, ?_, h L R hp hst⟩
  rw [app_set0, app_set1]
  exact List.take_left' rfl
theorem aring_in (m : Int) (sh : List Dd) (S : Sto) (k : KD) (xk : XD) (hm : 0 ≤ m) (m1 : m ≤ 1000) (hl : sh.length ≤ 1000) (hs : ∀ x ∈ sh, x.In m) (h1 : ∀ L, Peel m sh L [] → k (.lst (vI [])) S) (h2 : ∀ L R rg, Peel m sh L R → Stuck sh R → R ≠ [] → IsRing sh rg → rg.length ≤ 1000 → k (.lst (vI rg)) S) : w_a_ring [.int m, .lst (dueL sh)] S k xk := by
  walk_at "i"
  walk_at "s"
  refine peeled_in m sh _ _ _ hm m1 hl hs fun L R hp hst => ?_
  walk_at "S"
  split
  · rename_i hR
    have : R = [] := List.length_eq_zero_iff.mp (by omega)
    subst this
    exact ⟨by unfold D.pure pureAll; rfl, List.take_length, h1 L hp⟩
  rename_i hR
  have hR : R ≠ [] := fun e => hR (by rw [e]; rfl)
  have hRl : 0 < R.length := List.length_pos_iff.mpr hR
  have hlen := hp.perm.length_eq
  rw [List.length_append, intsL_len] at hlen
  walk_at "s"
  walk_at "s"
  rw [List.append_assoc, List.length_append]
  simp only [List.cons_append, List.nil_append, List.length_cons, List.length_nil, Nat.zero_add]
  walk_at "s"
  refine ⟨_, at_vI (v := R) (k := 0) (by omega) (by omega), ?_⟩
  have st : S ++ [Cel.lst [], Cel.lst []] = S ++ [Cel.lst (vI []), Cel.lst (vI [])] := rfl
  rw [st]
  refine seq_cut (fun s' S' => ∃ (came back : List Int) (mem : Int) (o6 : Option D), s' = [some (.int m), some (.lst (dueL sh)), some (.lst (vI R)), some (.cell S.length), some (.cell (S.length + 1)), some (.int mem), o6] ∧ S' = S ++ [.lst (vI came), .lst (vI back)] ∧ Back sh came back mem ∧ mem ∈ came ∧ came.length ≤ 1000) (fun Q hQ => ?_) ?_
  · refine while_inv (fun n s' S' => ∃ (came back : List Int) (mem : Int) (o6 : Option D), s' = [some (.int m), some (.lst (dueL sh)), some (.lst (vI R)), some (.cell S.length), some (.cell (S.length + 1)), some (.int mem), o6] ∧ S' = S ++ [.lst (vI came), .lst (vI back)] ∧ Back sh came back mem ∧ mem ∈ R ∧ (∀ z ∈ came, z ∈ R) ∧ n = R.length - came.length) _ ⟨[], [], gI R 0, _, rfl, rfl, .start, gI_mem (v := R) (k := 0) hRl, by simp, rfl⟩ ?_
    rintro n s' S' ⟨came, back, mem, o6, rfl, rfl, hb, hmR, hsub, rfl⟩ nx hnx
    have hcl := len_le_of_subset hb.nodup hsub
    walk_at "w"
    refine inW_vI (lview_c app_get0) ?_
    walk_at "w"
    by_cases hc : mem ∈ came
    · rw [if_neg (fun z => z hc)]
      exact hQ _ _ ⟨came, back, mem, o6, rfl, rfl, hb, hc, by omega⟩
    · rw [if_pos hc]
      walk_at "s"
      refine payerdue_sp mem _ R sh _ _ _ rfl hl (fun hn => ?_) fun i x hi hx => ?_
      · obtain ⟨x, hx, hx2⟩ := hst mem hmR
        exact absurd hx2 (hn x hx)
      have hlt := len_le_of_subset (a := came ++ [mem]) (b := R) (List.nodup_append.mpr ⟨hb.nodup, by simp, fun a ha b hb' => by
        rw [List.mem_singleton] at hb'
        subst hb'
        exact fun e => hc (e ▸ ha)⟩) fun z hz => by
          rcases List.mem_append.mp hz with hz | hz
          · exact hsub z hz
          · rw [List.mem_singleton] at hz
            rw [hz]; exact hmR
      rw [List.length_append, List.length_singleton] at hlt
      have hbl := hb.len
      walk_at "s"
      refine ⟨⟨_, lview_c app_get0⟩, _, app_get0, szlt (by rw [vI_len]; omega), ?_⟩
      rw [app_set0]
      walk_at "s"
      refine ⟨⟨_, lview_c app_get1⟩, _, app_get1, szlt (by rw [vI_len]; omega), ?_⟩
      rw [app_set1]
      have e5 : vI came ++ [D.int mem] = vI (came ++ [mem]) := by unfold vI; simp
      have e6 : vI back ++ [D.int (i : Int)] = vI (back ++ [(i : Int)]) := by unfold vI; simp
      rw [e5, e6]
      walk_at "w"
      refine ⟨_, at_dueL hi, ?_⟩
      walk_at "w"
      refine hnx _ _ _ ?_ ⟨_, _, x.a, _, rfl, rfl, hb.next hc hi hx.1 hx.2.1, hx.2.2, fun z hz => ?_, rfl⟩
      · rw [List.length_append, List.length_singleton]
        omega
      · rcases List.mem_append.mp hz with hz | hz
        · exact hsub z hz
        · rw [List.mem_singleton] at hz
          rw [hz]; exact hmR
  rintro _ _ ⟨came, back, mem, o6, rfl, rfl, hb, hc, hcl⟩
  obtain ⟨j, hj⟩ := List.mem_iff_getElem?.mp hc
  have hjl := (List.getElem?_eq_some_iff.mp hj).1
  have hbl := hb.len
  walk_at "w"
  refine ⟨⟨_, lview_c app_get0⟩, ?_⟩
  refine ⟨_, j, .int mem, lview_c app_get0, rfl, flat_vI, by unfold vI; rw [List.getElem?_map, hj]; rfl, by simp [eqF], fun i z' hi hz' => ?_, ?_⟩
  · obtain ⟨z, hz, rfl⟩ := vI_get hz'
    have hne : z ≠ mem := fun e => by
      subst e
      have hil := (List.getElem?_eq_some_iff.mp hz).1
      have := (List.getElem_inj hb.nodup (i := i) (j := j) (h₀ := hil) (h₁ := hjl)).mp (by rw [(List.getElem?_eq_some_iff.mp hz).2, (List.getElem?_eq_some_iff.mp hj).2])
      omega
    unfold eqF
    simp [hne]
  walk_at "w"
  refine ⟨_, lview_c app_get1, ?_⟩
  walk_at "w"
  have ec : (cutD (vI back) (some (j : Int)) none).reverse = vI (back.drop j).reverse := by
    rw [cut_drop (by omega)]
    unfold vI
    rw [Int.toNat_natCast, List.map_reverse, List.map_drop]
  rw [ec]
  refine ⟨lst_pure (vI_pure _), List.take_left' rfl, h2 L R _ hp hst hR (hb.ring hj) ?_⟩
  rw [List.length_reverse, List.length_drop]
  omega
theorem lpaidby_c (ds dl : D) (b : Int) (R : List Int) (sh : List Dd) (left : List Int) (S : Sto) (k : KD) (xk : XD) (hv : lview S ds = some (dueL sh)) (hd : lview S dl = some (vI left)) (hll : left.length = sh.length) (hl : sh.length ≤ 1000) (h : k (.bl (pb (withA sh left) R b)) S) : w__law_paid_by [.int b, .lst (vI R), ds, dl] S k xk := by
  walk_at "i"
  refine seq_cut (fun s' S' => S = S' ∧ ∀ x ∈ withA sh left, ¬ PdP b R x) (fun Q hQ => ?_) ?_
  · walk_at "w"
    simp only [lv_len hv]
    walk_at "w"
    refine ⟨by omega, by omega, ?_⟩
    refine for_rng (fun i s' S' => S = S' ∧ (∀ x ∈ (withA sh left).take i, ¬ PdP b R x) ∧ ∃ o4, s' = [some (.int b), some (.lst (vI R)), some (ds), some (dl), o4]) ⟨rfl, by simp, _, rfl⟩ (fun i hi s' S' ⟨e1, e3, o4, e2⟩ nx hnx => ?_) fun s' S' ⟨e1, e3, _⟩ => ?_
    · have hi : i < sh.length := by omega
      subst e1 e2
      have ex : sh[i]? = some sh[i] := List.getElem?_eq_getElem hi
      have ew := withA_get ex (as := left) (by omega)
      have et := take_succ_of ew
      have hmem := List.mem_of_getElem? ew
      have al := (lv_ix hd).trans (at_vI (v := left) (k := (i : Int)) (by omega) (by omega))
      rw [et] at hnx
      have yes : PdP b R ⟨sh[i].a, sh[i].b, sh[i].r, gI left i⟩ → k (.bl true) S := fun hp => by
        rw [pb_iff.mpr ⟨_, hmem, hp⟩] at h
        exact h
      generalize sh[i] = x at ex hnx yes
      generalize gI left i = c at al hnx yes
      have nxt : ¬ PdP b R ⟨x.a, x.b, x.r, c⟩ → nx [some (.int b), some (.lst (vI R)), some (ds), some (dl), some (.int (i : Int))] S := fun hn => hnx _ _ ⟨rfl, fun y hy => by
        rcases List.mem_append.mp hy with hy | hy
        · exact e3 y hy
        · rw [List.mem_singleton] at hy
          subst hy
          exact hn, _, rfl⟩
      walk_at "w"
      refine ⟨_, al, ?_⟩
      walk_at "w"
      by_cases c1 : 0 < c
      · rw [if_pos c1]
        refine ⟨_, (lv_ix hv).trans (at_dueL ex), ?_⟩
        walk_at "w"
        by_cases c2 : x.b = b
        · rw [if_pos c2]
          refine ⟨_, (lv_ix hv).trans (at_dueL ex), ?_⟩
          walk_at "w"
          refine inW_vI rfl ?_
          walk_at "w"
          by_cases c3 : x.a ∈ R
          · rw [if_pos c3]
            exact yes ⟨c1, c2, c3⟩
          · rw [if_neg c3]
            exact nxt fun z => c3 z.2.2
        · rw [if_neg c2]
          exact nxt fun z => c2 z.2.1
      · rw [if_neg c1]
        exact nxt fun z => c1 z.1
    · refine hQ _ _ ⟨e1, ?_⟩
      rwa [show ((sh.length : Int)).toNat = (withA sh left).length by rw [withA_len hll]; omega, List.take_length] at e3
  rintro _ _ ⟨rfl, e⟩
  walk_at "w"
  have : pb (withA sh left) R b = false := by
    cases hp : pb (withA sh left) R b with
    | false => rfl
    | true =>
      obtain ⟨x, hx, hx2⟩ := pb_iff.mp hp
      exact absurd hx2 (e x hx)
  rw [this] at h
  exact h
def pbD (sh : List Dd) (R : List Int) : D → Bool
  | .int b => pb sh R b
  | _ => false
theorem fil_vI {sh : List Dd} {R v : List Int} : ((vI v).filter (pbD sh R)).map id = vI (v.filter (pb sh R)) := by
  rw [List.map_id]
  unfold vI
  rw [List.filter_map]
  rfl
theorem lringless_c (ds dl : D) (m : Int) (sh : List Dd) (left : List Int) (S : Sto) (k : KD) (xk : XD) (hv : lview S ds = some (dueL sh)) (hd : lview S dl = some (vI left)) (hm : 0 ≤ m) (m1 : m ≤ 1000) (hll : left.length = sh.length) (hl : sh.length ≤ 1000) (h : k (.bl (decide (filN (withA sh left) (intsL m) m.toNat = []))) S) : w__law_ringless [.int m, ds, dl] S k xk := by
  walk_at "i"
  walk_at "s"
  refine ⟨by omega, by omega, ?_⟩
  rw [rngD_vI]
  refine seq_cut (fun s' S' => S = S' ∧ ∃ o4 o5 : Option D, s' = [some (.int m), some (ds), some (dl), some (.lst (vI (filN (withA sh left) (intsL m) m.toNat))), o4, o5, none]) (fun Q hQ => ?_) ?_
  · walk_at "w"
    refine ⟨by omega, by omega, ?_⟩
    refine for_rng (fun i s' S' => S = S' ∧ ∃ o4 o5 : Option D, s' = [some (.int m), some (ds), some (dl), some (.lst (vI (filN (withA sh left) (intsL m) i))), o4, o5, none]) ⟨rfl, _, _, rfl⟩ (fun i hi s' S' ⟨e1, o4, o5, e2⟩ nx hnx => ?_) fun s' S' hp => hQ s' S' hp
    subst e1 e2
    have hlen := filN_len (sh := withA sh left) (R0 := intsL m) i
    rw [intsL_len] at hlen
    have e4 : filN (withA sh left) (intsL m) (i + 1) = (filN (withA sh left) (intsL m) i).filter (pb (withA sh left) (filN (withA sh left) (intsL m) i)) := rfl
    rw [e4] at hnx
    generalize filN (withA sh left) (intsL m) i = R at hnx hlen
    walk_at "s"
    refine lc_filter (pbD (withA sh left) R) id (szlt (by rw [vI_len]; omega)) trivial (fun x hx k' hk => ?_) (fun x hx hp k' hk => ?_) ?_
    · unfold vI at hx
      obtain ⟨b, _, rfl⟩ := List.mem_map.mp hx
      walk_at "w"
      refine lpaidby_c _ _ b R sh left _ _ _ hv hd hll hl ?_
      walk_at "w"
      exact hk
    · walk_at "w"
      exact hk
    · rw [fil_vI]
      walk_at "w"
      exact hnx _ _ ⟨rfl, _, _, rfl⟩
  rintro _ _ ⟨rfl, o4, o5, rfl⟩
  walk_at "w"
  have e : ((filN (withA sh left) (intsL m) m.toNat).length : Int) = 0 ↔ filN (withA sh left) (intsL m) m.toNat = [] := by
    rw [← List.length_eq_zero_iff]
    omega
  rw [decide_eq_decide.mpr e]
  exact h
theorem lringless_in (dl : D) (m : Int) (sh : List Dd) (left : List Int) (S : Sto) (k : KD) (xk : XD) (hd : lview S dl = some (vI left)) (hm : 0 ≤ m) (m1 : m ≤ 1000) (hll : left.length = sh.length) (hl : sh.length ≤ 1000) (h : k (.bl (decide (filN (withA sh left) (intsL m) m.toNat = []))) S) : w__law_ringless [.int m, .lst (dueL sh), dl] S k xk := lringless_c _ dl m sh left S k xk rfl hd hm m1 hll hl h
theorem lwholes_sp (v : List Int) (n : Int) (S : Sto) (k : KD) (xk : XD) (hn : n = v.length) (h : k (.bl true) S) : w__law_wholes [.lst (vI v), .int n] S k xk := by
  subst hn
  walk_at "i"
  walk_at "s"
  walk_at "w"
  refine seq_cut (fun s' S' => S' = S) (fun R hR => ?_) ?_
  · walk_at "w"
    refine for_inv (fun _ s' S' => S' = S ∧ s'.length = 3 ∧ s'[1]? = s'[1]?) ⟨rfl, rfl, rfl⟩ (fun n x s' S' hx ⟨e1, e2, _⟩ => ⟨trivial, fun nx hnx => ?_⟩) fun s' S' ⟨e1, _⟩ => ⟨trivial, hR _ _ e1⟩
    obtain ⟨z, _, rfl⟩ := vI_get hx
    subst e1
    match s', e2 with
    | [a, b, c], _ =>
      walk_at "w"
      walk_at "c"
      exact hnx _ _ ⟨rfl, rfl, rfl⟩
  rintro _ _ rfl
  walk_at "w"
  exact h

theorem amountsofC_sp (d : D) (sh : List Dd) (S : Sto) (k : KD) (xk : XD) (hd : lview S d = some (dueL sh)) (hl : sh.length ≤ 1000) (h : k (.cell S.length) (S ++ [.lst (vI (sh.map Dd.c))])) : w_amounts_of_C [d] S k xk := by
  walk_at "i"
  walk_at "w"
  refine ⟨_, lv_sview hd, ?_⟩
  refine vlc_list D.int Dd.d sh (fun _ x c => c = x.c) (by omega) gd_self (fun n b hb k' hk => ?_) fun as h1 h2 => ?_
  · walk_at "w"
    exact hk _ rfl
  · obtain rfl : as = sh.map Dd.c := list_eq (by simpa using h1) fun n x y e1 e2 => by
      rw [List.getElem?_map] at e2
      cases e : sh[n]? with
      | none => rw [e] at e2; cases e2
      | some z =>
        rw [e] at e2
        cases e2
        exact h2 n z x e e1
    have el : (sh.map Dd.c).map D.int = vI (sh.map Dd.c) := rfl
    rw [el]
    walk_at "w"
    exact ⟨_, _, rfl, Nat.le_refl _, stl_get, vI_pure _, h⟩

theorem witham_sp (d e : D) (sh : List Dd) (as : List Int) (S : Sto) (k : KD) (xk : XD) (hd : lview S d = some (dueL sh)) (he : lview S e = some (vI as)) (hl : as.length = sh.length) (hl2 : sh.length ≤ 1000) (h : k (.lst (dueL (withA sh as))) S) : w_with_amounts [d, e] S k xk := by
  walk_at "i"
  walk_at "s"
  have hd2 : ∀ T : Sto, lview (S ++ T) d = some (dueL sh) := fun T => lv_app hd
  have he2 : ∀ T : Sto, lview (S ++ T) e = some (vI as) := fun T => lv_app he
  refine seq_cut (fun s' S' => ∃ o3 o4 : Option D, s' = [some d, some e, some (.cell S.length), o3, o4] ∧ S' = S ++ [.lst (dueL (withA sh as))]) (fun R hR => ?_) ?_
  · walk_at "w"
    simp only [lv_len (hd2 _)]
    walk_at "w"
    refine ⟨by omega, by omega, ?_⟩
    refine for_rng (fun n s' S' => ∃ o3 o4 : Option D, s' = [some d, some e, some (.cell S.length), o3, o4] ∧ S' = S ++ [.lst (dueL ((withA sh as).take n))]) ⟨_, _, rfl, rfl⟩ (fun n hn s' S' ⟨o3, o4, e1, e2⟩ nx hnx => ?_) fun s' S' ⟨o3, o4, e1, e2⟩ => ?_
    · subst e1 e2
      have hn : n < sh.length := by omega
      have ez : sh[n]? = some sh[n] := List.getElem?_eq_getElem hn
      have ad := at_dueL ez
      have aa := at_vI (v := as) (k := (n : Int)) (by omega) (by omega)
      have eg := withA_get ez (by omega : n < as.length)
      generalize sh[n] = z at ez ad eg
      walk_at "s"
      refine ⟨_, (lv_ix (hd2 _)).trans ad, ?_⟩
      walk_at "w"
      refine ⟨_, (lv_ix (he2 _)).trans aa, ?_⟩
      walk_at "w"
      refine ⟨szlt (by rw [List.length_take]; omega), hnx _ _ ⟨_, _, rfl, ?_⟩⟩
      rw [take_succ_of eg, ← dueL_app]
      rfl
    · refine hR _ _ ⟨o3, o4, e1, ?_⟩
      rw [e2, show ((sh.length : Int)).toNat = (withA sh as).length by rw [withA_len hl]; omega, List.take_length]
  rintro _ _ ⟨o3, o4, rfl, rfl⟩
  walk_at "w"
  exact ⟨lst_pure (dueL_pure _), h⟩

theorem cut_sp (m : Int) (sh : List Dd) (S : Sto) (k : KD) (xk : XD) (hm : 0 ≤ m) (m1 : m ≤ 1000) (hl : sh.length ≤ 1000) (hs : ∀ x ∈ sh, x.In m) (h : ∀ (cs : List (List Int × Int)) (L : List Int), CutsOk sh (sh.map Dd.c) cs → cs.length ≤ 1000 → Peel m (withA sh (runC (sh.map Dd.c) cs)) L [] → k (.tup [.lst (vI (runC (sh.map Dd.c) cs)), .lst (cutsD cs)]) S) : w_cut [.int m, .lst (dueL sh)] S k xk := by
  walk_at "i"
  walk_at "s"
  refine amountsofC_sp _ sh _ _ _ rfl hl ?_
  have l0 : (sh.map Dd.c).length = sh.length := by simp
  have n0 : ∀ z ∈ sh.map Dd.c, 0 ≤ z := fun z hz => by
    obtain ⟨x, hx, rfl⟩ := List.mem_map.mp hz
    exact (hs x hx).2.2.2.2.2.2.2
  have w0 := @withA_self sh
  generalize hl0 : sh.map Dd.c = left0 at h l0 n0 w0
  walk_at "s"
  rw [List.append_assoc, List.length_append]
  simp only [List.cons_append, List.nil_append, List.length_cons, List.length_nil, Nat.zero_add]
  have st : S ++ [Cel.lst (vI left0), Cel.lst []] = S ++ [Cel.lst (vI left0), Cel.lst (cutsD [])] := rfl
  rw [st]
  have key : ∀ (l : List Int) (cs : List (List Int × Int)) (nx : Ab.Env → Sto → Prop) (o5 o6 : Option D), l.length = sh.length → (∀ z ∈ l, 0 ≤ z) → (∀ rg : List Int, (rg = [] → ∃ L, Peel m (withA sh l) L []) → (rg ≠ [] → IsRing (withA sh l) rg ∧ rg.length ≤ 1000) → nx [some (.int m), some (.lst (dueL sh)), some (.cell S.length), some (.cell (S.length + 1)), some (.lst (vI rg)), o5, o6] (S ++ [.lst (vI l), .lst (cutsD cs)])) → ∀ xk2, w_a_ring [.int m, .lst (dueL (withA sh l))] (S ++ [.lst (vI l), .lst (cutsD cs)]) (fun d S1 => nx [some (.int m), some (.lst (dueL sh)), some (.cell S.length), some (.cell (S.length + 1)), some d, o5, o6] S1) xk2 := fun l cs nx o5 o6 hll hln hnx xk2 => by
    have wl := withA_len hll
    refine aring_in m _ _ _ _ hm m1 (by omega) (withA_in hs hln) (fun L hp => hnx [] (fun _ => ⟨L, hp⟩) fun e => absurd rfl e) fun L R rg hp hst hR hrg rgl => hnx rg (fun e => absurd e hrg.ne) fun _ => ⟨hrg, rgl⟩
  walk_at "s"
  have k0 := fun nx => key left0 [] nx none none l0 n0
  rw [w0] at k0
  refine k0 (fun s' S' => vSeq _ _ _ s' S') (fun rg r1 r2 => ?_) _
  clear k0
  have p0 : pos left0 ≤ 1000 := by
    have := List.countP_le_length (p := fun z : Int => decide (0 < z)) (l := left0)
    unfold pos
    omega
  refine seq_cut (fun s' S' => ∃ (cs : List (List Int × Int)) (L : List Int) (o4 o5 o6 : Option D), s' = [some (.int m), some (.lst (dueL sh)), some (.cell S.length), some (.cell (S.length + 1)), o4, o5, o6] ∧ S' = S ++ [.lst (vI (runC left0 cs)), .lst (cutsD cs)] ∧ CutsOk sh left0 cs ∧ cs.length ≤ 1000 ∧ Peel m (withA sh (runC left0 cs)) L []) (fun Q hQ => ?_) ?_
  · refine while_inv (fun n s' S' => ∃ (cs : List (List Int × Int)) (rg : List Int) (o5 o6 : Option D), s' = [some (.int m), some (.lst (dueL sh)), some (.cell S.length), some (.cell (S.length + 1)), some (.lst (vI rg)), o5, o6] ∧ S' = S ++ [.lst (vI (runC left0 cs)), .lst (cutsD cs)] ∧ CutsOk sh left0 cs ∧ cs.length + pos (runC left0 cs) ≤ pos left0 ∧ (rg = [] → ∃ L, Peel m (withA sh (runC left0 cs)) L []) ∧ (rg ≠ [] → IsRing (withA sh (runC left0 cs)) rg ∧ rg.length ≤ 1000) ∧ n = pos (runC left0 cs)) _ ⟨[], rg, _, _, rfl, rfl, .nil, by simp [runC], by rw [show runC left0 [] = left0 from rfl, w0]; exact r1, by rw [show runC left0 [] = left0 from rfl, w0]; exact r2, rfl⟩ ?_
    rintro n s' S' ⟨cs, rg, o5, o6, rfl, rfl, hc, hcl, g1, g2, rfl⟩ nx hnx
    obtain ⟨q1, q2⟩ := hc.ok l0 n0 cs.length
    rw [List.take_length] at q1 q2
    walk_at "w"
    by_cases hrg : rg = []
    · obtain ⟨L, hp⟩ := g1 hrg
      subst hrg
      rw [if_neg (by decide)]
      exact hQ _ _ ⟨cs, L, _, _, _, rfl, rfl, hc, by omega, hp⟩
    obtain ⟨hr, hrl⟩ := g2 hrg
    have hr0 : 0 < rg.length := List.length_pos_iff.mpr hrg
    rw [if_pos (by omega)]
    have hrr : ∀ n ∈ rg, 0 ≤ n ∧ n < ((runC left0 cs).length : Int) := fun n hn => by
      have := hr.rng n hn
      rw [withA_len q1] at this
      omega
    generalize hl1 : runC left0 cs = l1 at hr hrr q1 q2
    walk_at "s"
    refine vlc_list D.int D.int rg (fun _ n c => c = gI l1 n) (by omega) trivial (fun i n hn k' hk => ?_) fun as a1 a2 => ?_
    · have h0 := hrr n (List.mem_of_getElem? hn)
      walk_at "w"
      exact ⟨_, (lv_ix (lview_c app_get0)).trans (at_vI h0.1 h0.2), hk _ rfl⟩
    obtain rfl : as = rg.map (gI l1) := list_eq (by simpa using a1) fun n x y e1 e2 => by
      rw [List.getElem?_map] at e2
      cases e : rg[n]? with
      | none => rw [e] at e2; cases e2
      | some z =>
        rw [e] at e2
        cases e2
        exact a2 n z x e e1
    walk_at "w"
    refine ⟨rg.map (gI l1), rfl, by rw [List.length_map]; exact hr0, fun c c1 c2 => ?_⟩
    have hcut : CutAt sh l1 (rg, c) := ⟨hr, hrl, c1, c2⟩
    have ok := hcut.ok q1 q2
    refine seq_cut (fun s' S' => ∃ (o6 : Option D), s' = [some (.int m), some (.lst (dueL sh)), some (.cell S.length), some (.cell (S.length + 1)), some (.lst (vI rg)), some (.int c), o6] ∧ S' = S ++ [.lst (vI (subR c l1 rg)), .lst (cutsD cs)]) (fun Q2 hQ2 => ?_) ?_
    · walk_at "w"
      refine for_list D.int rg (fun i s' S' => ∃ (o6 : Option D), s' = [some (.int m), some (.lst (dueL sh)), some (.cell S.length), some (.cell (S.length + 1)), some (.lst (vI rg)), some (.int c), o6] ∧ S' = S ++ [.lst (vI (subR c l1 (rg.take i))), .lst (cutsD cs)]) ⟨_, rfl, rfl⟩ (fun _ _ _ _ => trivial) (fun i n hn s' S' ⟨o6, e1, e2⟩ nx hnx => ?_) fun s' S' ⟨o6, e1, e2⟩ => ?_
      · subst e1 e2
        have h0 := hrr n (List.mem_of_getElem? hn)
        rw [take_succ_of hn, subR_one] at hnx
        have hsl := @subR_len c (rg.take i) l1
        generalize subR c l1 (rg.take i) = l2 at hnx hsl
        walk_at "w"
        refine ⟨_, (lv_ix (lview_c app_get0)).trans (at_vI h0.1 (by omega)), ?_⟩
        walk_at "w"
        refine sto_vI app_get0 h0.1 (by omega) ?_
        rw [app_set0]
        exact hnx _ _ ⟨_, rfl, rfl⟩
      · rw [List.take_length] at e2
        exact hQ2 _ _ ⟨_, e1, e2⟩
    rintro _ _ ⟨o7, rfl, rfl⟩
    have hn2 := hc.one (p := (rg, c)) (by rw [hl1]; exact hcut)
    have hl2 : runC left0 (cs ++ [(rg, c)]) = subR c l1 rg := by rw [runC_one, hl1]
    rw [hl1] at hcl hnx
    have op := ok.pos
    have ol := ok.len
    have on := ok.nn
    dsimp only at op ol on
    generalize hl3 : subR c l1 rg = l3 at hl2 op ol on
    walk_at "s"
    refine ⟨⟨_, lview_c app_get1⟩, _, app_get1, szlt (by unfold cutsD; rw [List.length_map]; omega), ?_⟩
    rw [app_set1]
    have e5 : cutsD cs ++ [D.tup [.lst (vI rg), .int c]] = cutsD (cs ++ [(rg, c)]) := by unfold cutsD; simp
    rw [e5]
    walk_at "w"
    refine witham_sp _ _ sh l3 _ _ _ rfl (lview_c app_get0) (by omega) hl ?_
    walk_at "w"
    refine key l3 (cs ++ [(rg, c)]) nx _ _ (by omega) on (fun rg2 t1 t2 => ?_) _
    refine hnx _ _ _ ?_ ⟨cs ++ [(rg, c)], rg2, _, _, rfl, by rw [hl2], hn2, by rw [List.length_append, List.length_singleton, hl2]; omega, by rw [hl2]; exact t1, by rw [hl2]; exact t2, rfl⟩
    rw [hl2]
    exact op
  rintro _ _ ⟨cs, L, o4, o5, o6, rfl, rfl, hc, hcl, hp⟩
  walk_at "w"
  refine ⟨_, _, FzR.tup (.cons (.cellP app_get0) (.cons (.cellP (by rw [app_set0]; exact app_get1)) .nil)), ?_⟩
  refine ⟨by
    unfold D.pure pureAll
    rw [lst_pure (vI_pure _)]
    unfold pureAll
    rw [lst_pure (cutsD_pure _)]
    rfl, ?_, h cs L hc hcl hp⟩
  rw [app_set0, app_set1]
  exact List.take_left' rfl

theorem claimsC_in (m : Int) (sh : List Dd) (S : Sto) (k : KD) (xk : XD) (h0 : 0 ≤ m) (h1 : m ≤ 1000) (hs : ∀ x ∈ sh, x.In m) (h : k (.cell S.length) (S ++ [.lst (vI (claimsI m sh))])) : w_claims_C [.int m, .lst (dueL sh)] S k xk := by
  walk_at "i"
  walk_at "s"
  refine ⟨by omega, by omega, ?_⟩
  refine lc_map (fun _ => .int 0) (by rw [rngD_len]; exact Nat.lt_of_le_of_lt (m := 1000) (by omega) (by decide +kernel)) trivial (fun x hx k' hk => by walk_at "w"; exact hk) ?_
  rw [zerosD]
  walk_at "w"
  refine seq_cut (fun s' S' => s' = s' ∧ S' = S ++ [.lst (vI (bumps Dd.b Dd.c (zeros m.toNat) sh))] ∧ s'[2]? = some (some (.cell S.length)) ∧ s'.length = 5) (fun R hR => ?_) ?_
  · walk_at "w"
    refine for_inv (fun n s' S' => S' = S ++ [.lst (vI (bumps Dd.b Dd.c (zeros m.toNat) (sh.take n)))] ∧ s'[2]? = some (some (.cell S.length)) ∧ s'.length = 5) ⟨rfl, rfl, rfl⟩ (fun n x s' S' hx ⟨e1, e2, e3⟩ => ⟨trivial, fun nx hnx => ?_⟩) fun s' S' ⟨e1, e2, e3⟩ => ⟨trivial, hR _ _ ⟨rfl, ?_, e2, e3⟩⟩
    · obtain ⟨z, hz, rfl⟩ := dueL_get hx
      subst e1
      match s', e2, e3 with
      | [a, b, c, d, e], e2, _ =>
        obtain rfl : c = some (.cell S.length) := by simpa using e2
        have hzo := hs z (List.mem_of_getElem? hz)
        have l1 : ((bumps Dd.b Dd.c (zeros m.toNat) (sh.take n)).length : Int) = m := by rw [bumps_len, zeros_len]; omega
        walk_at "w"
        refine ⟨_, at_vI hzo.2.2.1 (by rw [l1]; exact hzo.2.2.2.1), ?_⟩
        walk_at "w"
        refine sto_vI stl_get hzo.2.2.1 (by rw [l1]; exact hzo.2.2.2.1) ?_
        walk_at "w"
        refine hnx _ _ ⟨?_, rfl, rfl⟩
        rw [take_succ_of hz, bumps_snoc]
        rfl
    · rw [e1, dueL_len, List.take_length]
  rintro s' _ ⟨-, rfl, e2, e3⟩
  match s', e2, e3 with
  | [a, b, c, d, e], e2, _ =>
    obtain rfl : c = some (.cell S.length) := by simpa using e2
    walk_at "w"
    exact ⟨_, _, rfl, Nat.le_refl _, stl_get, vI_pure _, h⟩
theorem nets_in (m : Int) (sh : List Dd) (S : Sto) (k : KD) (xk : XD) (h0 : 0 ≤ m) (h1 : m ≤ 1000) (hs : ∀ x ∈ sh, x.In m) (h : k (.lst (vI (netsI m sh))) S) : w_nets [.int m, .lst (dueL sh)] S k xk := by
  walk_at "i"
  walk_at "s"
  refine claimsC_in m sh _ _ _ h0 h1 hs ?_
  walk_at "w"
  refine seq_cut (fun s' S' => S' = S ++ [.lst (vI (netsI m sh))] ∧ s'[2]? = some (some (.cell S.length)) ∧ s'.length = 4) (fun R hR => ?_) ?_
  · walk_at "w"
    refine for_inv (fun n s' S' => S' = S ++ [.lst (vI (bumps Dd.a (fun x => -x.c) (claimsI m sh) (sh.take n)))] ∧ s'[2]? = some (some (.cell S.length)) ∧ s'.length = 4) ⟨rfl, rfl, rfl⟩ (fun n x s' S' hx ⟨e1, e2, e3⟩ => ⟨trivial, fun nx hnx => ?_⟩) fun s' S' ⟨e1, e2, e3⟩ => ⟨trivial, hR _ _ ⟨?_, e2, e3⟩⟩
    · obtain ⟨z, hz, rfl⟩ := dueL_get hx
      subst e1
      match s', e2, e3 with
      | [a, b, c, d], e2, _ =>
        obtain rfl : c = some (.cell S.length) := by simpa using e2
        have hzo := hs z (List.mem_of_getElem? hz)
        have l1 : ((bumps Dd.a (fun x => -x.c) (claimsI m sh) (sh.take n)).length : Int) = m := by rw [bumps_len, claimsI_len]; omega
        walk_at "w"
        refine ⟨_, at_vI hzo.1 (by rw [l1]; exact hzo.2.1), ?_⟩
        walk_at "w"
        refine sto_vI stl_get hzo.1 (by rw [l1]; exact hzo.2.1) ?_
        walk_at "w"
        refine hnx _ _ ⟨?_, rfl, rfl⟩
        rw [take_succ_of hz, bumps_snoc]
        rfl
    · rw [e1, dueL_len, List.take_length]; rfl
  rintro s' _ ⟨rfl, e2, e3⟩
  match s', e2, e3 with
  | [a, b, c, d], e2, _ =>
    obtain rfl : c = some (.cell S.length) := by simpa using e2
    walk_at "w"
    exact ⟨lst_pure (vI_pure _), h⟩
theorem lwith_sp (d e : D) (sh : List Dd) (as : List Int) (S : Sto) (k : KD) (xk : XD) (hd : lview S d = some (dueL sh)) (he : lview S e = some (vI as)) (hl : as.length = sh.length) (hl2 : sh.length ≤ 1000) (h : k (.lst (dueL (withA sh as))) S) : w__law_with [d, e] S k xk := by
  walk_at "i"
  walk_at "w"
  simp only [lv_len hd]
  walk_at "w"
  refine ⟨by omega, by omega, ?_⟩
  refine vlc_rng Dd.d _ (fun n x => (withA sh as)[n]? = some x) (by omega) trivial (fun n hn k' hk => ?_) fun bs b1 b2 => ?_
  · have hn : n < sh.length := by omega
    have ez : sh[n]? = some sh[n] := List.getElem?_eq_getElem hn
    have eg := withA_get ez (by omega : n < as.length)
    generalize sh[n] = z at ez eg
    walk_at "w"
    refine ⟨_, (lv_ix hd).trans (at_dueL ez), ?_⟩
    walk_at "w"
    refine ⟨_, (lv_ix hd).trans (at_dueL ez), ?_⟩
    walk_at "w"
    refine ⟨_, (lv_ix hd).trans (at_dueL ez), ?_⟩
    walk_at "w"
    refine ⟨_, (lv_ix he).trans (at_vI (by omega) (by omega)), ?_⟩
    exact hk _ eg
  · obtain rfl : bs = withA sh as := List.ext_getElem? fun n => by
      by_cases hn : n < bs.length
      · rw [b2 n _ (List.getElem?_eq_getElem hn), List.getElem?_eq_getElem hn]
      · rw [List.getElem?_eq_none (by omega), List.getElem?_eq_none (by rw [withA_len hl]; omega)]
    exact h

theorem st2_0 {S : Sto} {a b : Cel} : (S ++ [a, b])[S.length]? = some a := by rw [List.getElem?_append_right (Nat.le_refl _), Nat.sub_self]; rfl
theorem st2_1 {S : Sto} {a b : Cel} : (S ++ [a, b])[S.length + 1]? = some b := by rw [List.getElem?_append_right (by omega), show S.length + 1 - S.length = 1 by omega]; rfl
theorem st2_s0 {S : Sto} {a b c : Cel} : (S ++ [a, b]).set S.length c = S ++ [c, b] := by rw [List.set_append_right _ _ (Nat.le_refl _), Nat.sub_self]; rfl
theorem st2_s1 {S : Sto} {a b c : Cel} : (S ++ [a, b]).set (S.length + 1) c = S ++ [a, c] := by rw [List.set_append_right _ _ (by omega), show S.length + 1 - S.length = 1 by omega]; rfl
theorem st2_tk {S : Sto} {a b : Cel} : (S ++ [a, b]).take S.length = S := by rw [List.take_append_of_le_length (Nat.le_refl _), List.take_length]

def camD : Option Dd → D
  | none => .non
  | some x => x.d
def camL (v : List (Option Dd)) : List D := v.map camD
structure Rep (m : Nat) (Ll : List (Option Int)) (Cl : List (Option Dd)) (s : Th.BS) : Prop where
  l : Ll.length = m
  c : Cl.length = m
  g : ∀ v : Nat, v < m → Ll[v]? = some (s.L v) ∧ Cl[v]? = some (s.C v)
theorem Rep.atL {m : Nat} {Ll : List (Option Int)} {Cl : List (Option Dd)} {s : Th.BS} (R : Rep m Ll Cl s) {i : Int} (h0 : 0 ≤ i) (h1 : i < (m : Int)) : L2.atI (optL Ll) i = some (optD (s.L i)) := by
  obtain ⟨n, rfl⟩ : ∃ n : Nat, i = (n : Int) := ⟨i.toNat, by omega⟩
  exact L2.atI_nat (by unfold optL; rw [List.getElem?_map, (R.g n (by omega)).1]; rfl)
theorem Rep.set {m : Nat} {Ll : List (Option Int)} {Cl : List (Option Dd)} {s : Th.BS} (R : Rep m Ll Cl s) {n : Nat} (hn : n < m) {u : Option Int} {x : Option Dd} : Rep m (Ll.set n u) (Cl.set n x) ⟨Th.upd s.L n u, Th.upd s.C n x⟩ := by
  refine ⟨by rw [List.length_set]; exact R.l, by rw [List.length_set]; exact R.c, fun v hv => ?_⟩
  have h := R.g v hv
  by_cases e : v = n
  · subst e
    rw [List.getElem?_set_self (by rw [R.l]; exact hv), List.getElem?_set_self (by rw [R.c]; exact hv)]
    exact ⟨congrArg some Th.upd_at.symm, congrArg some Th.upd_at.symm⟩
  · rw [List.getElem?_set_ne (Ne.symm e), List.getElem?_set_ne (Ne.symm e), h.1, h.2]
    exact ⟨congrArg some (Th.upd_ne (by omega)).symm, congrArg some (Th.upd_ne (by omega)).symm⟩
theorem optL_set {v : List (Option Int)} {n : Nat} {o : Option Int} : (optL v).set n (optD o) = optL (v.set n o) := by unfold optL; rw [List.map_set]
theorem camL_set {v : List (Option Dd)} {n : Nat} {o : Option Dd} : (camL v).set n (camD o) = camL (v.set n o) := by unfold camL; rw [List.map_set]
theorem camL_pure (v : List (Option Dd)) : pureAll (camL v) = true := pureAll_iff.mpr fun x hx => by
  unfold camL at hx
  obtain ⟨z, _, rfl⟩ := List.mem_map.mp hx
  cases z with
  | none => rfl
  | some x => exact plain_pure _ (by unfold camD Dd.d D.plain plainAll D.plain plainAll D.plain plainAll D.plain plainAll D.plain plainAll; rfl)
theorem steps_sp (m : Int) (sh : List Dd) (left : List Int) (d : D) (S : Sto) (k : KD) (xk : XD) (hd : lview S d = some (vI left)) (ll : left.length = sh.length) (hl : sh.length ≤ 1000) (h : k (.lst (dueL (Th.stepsL sh left sh.length))) S) : w_steps_of [.lst (dueL sh), d] S k xk := by
  walk_at "i"
  walk_at "s"
  refine seq_cut (fun s' S' => ∃ o3 o4 : Option D, s' = [some (.lst (dueL sh)), some d, some (.cell S.length), o3, o4] ∧ S' = S ++ [.lst (dueL (Th.stepsL sh left sh.length))]) (fun R hR => ?_) ?_
  · walk_at "w"
    refine ⟨by omega, by omega, ?_⟩
    rw [Int.toNat_natCast]
    refine for_rng (fun t s' S' => ∃ o3 o4 : Option D, s' = [some (.lst (dueL sh)), some d, some (.cell S.length), o3, o4] ∧ S' = S ++ [.lst (dueL (Th.stepsL sh left t))]) ⟨_, _, rfl, rfl⟩ (fun t ht s' S' ⟨o3, o4, e1, e2⟩ nx hnx => ?_) fun s' S' ⟨o3, o4, e1, e2⟩ => hR _ _ ⟨o3, o4, e1, e2⟩
    subst e1 e2
    have e := List.getElem?_eq_getElem ht
    have hsl := Th.steps_len (sh := sh) (left := left) t (by omega)
    rw [Th.steps_succ e] at hnx
    have hat := at_dueL e
    generalize sh[t] = x at e hat hnx
    generalize Th.stepsL sh left t = E at hnx hsl
    have hl2 : ∀ T : Sto, lview (S ++ T) d = some (vI left) := fun T => lv_app hd
    have hv := at_vI (v := left) (k := (t : Int)) (by omega) (by omega)
    unfold Th.stp1 at hnx
    walk_at "s"
    refine ⟨_, hat, ?_⟩
    refine seq_cut (fun s' S' => s' = [some (.lst (dueL sh)), some d, some (.cell S.length), some (.int (t : Int)), some x.d] ∧ S' = S ++ [.lst (dueL (E ++ if gI left t < x.c then [⟨x.a, x.b, 1, (t : Int)⟩] else []))]) (fun R hR => ?_) ?_
    · walk_at "w"
      refine ⟨_, (lv_ix (hl2 _)).trans hv, ?_⟩
      walk_at "w"
      by_cases c : gI left t < x.c
      · simp only [if_pos c] at hR ⊢
        walk_at "w"
        refine ⟨szlt (by omega), hR _ _ ⟨rfl, ?_⟩⟩
        unfold dueL
        rw [List.map_append]
        rfl
      · simp only [if_neg c] at hR ⊢
        exact hR _ _ ⟨rfl, by rw [List.append_nil]⟩
    rintro _ _ ⟨rfl, rfl⟩
    have hsl2 : (E ++ if gI left t < x.c then [(⟨x.a, x.b, 1, (t : Int)⟩ : Dd)] else []).length ≤ 2001 := by
      rw [List.length_append]
      split <;> simp <;> omega
    rw [← List.append_assoc] at hnx
    generalize (E ++ if gI left t < x.c then [(⟨x.a, x.b, 1, (t : Int)⟩ : Dd)] else []) = E2 at hnx hsl2
    walk_at "w"
    refine ⟨_, (lv_ix (hl2 _)).trans hv, ?_⟩
    walk_at "w"
    by_cases c : 0 < gI left t
    · simp only [if_pos c] at hnx ⊢
      walk_at "w"
      refine ⟨szlt (by omega), hnx _ _ ⟨_, _, rfl, ?_⟩⟩
      unfold dueL
      rw [List.map_append]
      rfl
    · simp only [if_neg c] at hnx ⊢
      exact hnx _ _ ⟨_, _, rfl, by rw [List.append_nil]⟩
  rintro _ _ ⟨o3, o4, rfl, rfl⟩
  walk_at "w"
  exact ⟨lst_pure (dueL_pure _), h⟩
theorem optD_some {i : Int} : optD (some i) = .int i := rfl
theorem optD_none : optD none = .non := rfl
def s0B (m : Nat) (st : List Int) : Th.BS := ⟨fun v => if 0 ≤ v ∧ v < (m : Int) ∧ v ∈ st then some 0 else none, fun _ => none⟩
theorem reached_sp (m : Nat) (st : List Int) (E : List Dd) (S : Sto) (k : KD) (xk : XD) (hm : m ≤ 1000) (hE : ∀ x ∈ E, 0 ≤ x.a ∧ x.a < (m : Int) ∧ 0 ≤ x.b ∧ x.b < (m : Int)) (h : ∀ Ll Cl, Rep m Ll Cl (Th.rnds Th.w1 E m (s0B m st)) → k (.tup [.lst (optL Ll), .lst (camL Cl)]) S) : w_reached [.int m, .lst (vI st), .lst (dueL E)] S k xk := by
  walk_at "i"
  walk_at "s"
  refine ⟨by omega, by omega, ?_⟩
  rw [Int.toNat_natCast]
  refine vlc_rng optD m (fun v o => o = (s0B m st).L v) (by omega) trivial (fun v hv k' hk => ?_) fun Ll lL hL => ?_
  · walk_at "w"
    refine inW_vI rfl ?_
    walk_at "w"
    by_cases c : (v : Int) ∈ st
    · rw [if_pos c]
      exact hk (some 0) (by unfold s0B; dsimp only; rw [if_pos ⟨by omega, by omega, c⟩])
    · rw [if_neg c]
      exact hk none (by unfold s0B; dsimp only; rw [if_neg fun z => c z.2.2])
  walk_at "s"
  refine ⟨by omega, by omega, ?_⟩
  rw [Int.toNat_natCast]
  refine vlc_rng camD m (fun v o => o = none) (by omega) trivial (fun v hv k' hk => ?_) fun Cl lC hC => ?_
  · walk_at "w"
    exact hk none rfl
  have eL : Ll.map optD = optL Ll := rfl
  have eC : Cl.map camD = camL Cl := rfl
  rw [eL, eC]
  have R0 : Rep m Ll Cl (s0B m st) := ⟨lL, lC, fun v hv => by
    have e1 := List.getElem?_eq_getElem (l := Ll) (i := v) (by omega)
    have e2 := List.getElem?_eq_getElem (l := Cl) (i := v) (by omega)
    rw [e1, e2, hL v _ e1, hC v _ e2]
    exact ⟨rfl, rfl⟩⟩
  clear hL hC lL lC eL eC
  generalize s0B m st = s0 at *
  rw [show (S ++ [Cel.lst (optL Ll)]).length = S.length + 1 by rw [List.length_append]; rfl, List.append_assoc]
  show vSeq _ _ _ _ (S ++ [Cel.lst (optL Ll), Cel.lst (camL Cl)])
  refine seq_cut (fun s' S' => ∃ (o5 o6 o7 : Option D) (Ll : List (Option Int)) (Cl : List (Option Dd)), s' = [some (.int m), some (.lst (vI st)), some (.lst (dueL E)), some (.cell S.length), some (.cell (S.length + 1)), o5, o6, o7, none] ∧ S' = S ++ [.lst (optL Ll), .lst (camL Cl)] ∧ Rep m Ll Cl (Th.rnds Th.w1 E m s0)) (fun Q hQ => ?_) ?_
  · walk_at "w"
    refine ⟨by omega, by omega, ?_⟩
    rw [Int.toNat_natCast]
    refine for_rng (fun t s' S' => ∃ (o5 o6 o7 : Option D) (Ll : List (Option Int)) (Cl : List (Option Dd)), s' = [some (.int m), some (.lst (vI st)), some (.lst (dueL E)), some (.cell S.length), some (.cell (S.length + 1)), o5, o6, o7, none] ∧ S' = S ++ [.lst (optL Ll), .lst (camL Cl)] ∧ Rep m Ll Cl (Th.rnds Th.w1 E t s0)) ⟨_, _, _, Ll, Cl, rfl, rfl, R0⟩ (fun t ht s' S' ⟨o5, o6, o7, Ll, Cl, e1, e2, R⟩ nx hnx => ?_) fun s' S' ⟨o5, o6, o7, Ll, Cl, e1, e2, R⟩ => hQ _ _ ⟨o5, o6, o7, Ll, Cl, e1, e2, R⟩
    subst e1 e2
    have eE : dueL E = E.map Dd.d := rfl
    walk_at "w"
    rw [eE]
    refine for_list Dd.d E (fun j s' S' => ∃ (o5 o6 o7 : Option D) (Ll : List (Option Int)) (Cl : List (Option Dd)), s' = [some (.int m), some (.lst (vI st)), some (.lst (dueL E)), some (.cell S.length), some (.cell (S.length + 1)), o5, o6, o7, none] ∧ S' = S ++ [.lst (optL Ll), .lst (camL Cl)] ∧ Rep m Ll Cl (Th.rnd Th.w1 (E.take j) (Th.rnds Th.w1 E t s0))) ⟨_, _, _, Ll, Cl, rfl, rfl, R⟩ (fun _ _ _ _ => trivial) (fun j x hx s' S' ⟨o5, o6, o7, Ll, Cl, e1, e2, R⟩ nx2 hnx2 => ?_) fun s' S' ⟨o5, o6, o7, Ll, Cl, e1, e2, R⟩ => hnx _ _ ⟨o5, o6, o7, Ll, Cl, e1, e2, by rw [List.take_length] at R; exact R⟩
    subst e1 e2
    have hxE := hE x (List.mem_of_getElem? hx)
    rw [take_succ_of hx] at hnx2
    have er : Th.rnd Th.w1 (E.take j ++ [x]) (Th.rnds Th.w1 E t s0) = Th.rlx Th.w1 (Th.rnd Th.w1 (E.take j) (Th.rnds Th.w1 E t s0)) x := by unfold Th.rnd; rw [List.foldl_append]; rfl
    rw [er] at hnx2
    generalize Th.rnd Th.w1 (E.take j) (Th.rnds Th.w1 E t s0) = s at R hnx2
    have gL : lview (S ++ [.lst (optL Ll), .lst (camL Cl)]) (.cell S.length) = some (optL Ll) := lview_c st2_0
    have ga := R.atL hxE.1 hxE.2.1
    have gb := R.atL hxE.2.2.1 hxE.2.2.2
    obtain ⟨nb, hnb⟩ : ∃ nb : Nat, x.b = (nb : Int) := ⟨x.b.toNat, by omega⟩
    walk_at "w"
    refine ⟨_, (lv_ix gL).trans ga, ?_⟩
    cases ea : s.L x.a with
    | none =>
      rw [Th.rlx_none ea] at hnx2
      rw [optD_none]
      walk_at "w"
      exact hnx2 _ _ ⟨_, _, _, Ll, Cl, rfl, rfl, R⟩
    | some u =>
      rw [Th.rlx_some ea] at hnx2
      rw [ea] at ga
      rw [optD_some]
      walk_at "w"
      walk_at "s"
      refine ⟨_, (lv_ix gL).trans ga, ?_⟩
      rw [optD_some]
      walk_at "w"
      have ew : u + 100 * x.r + 1 = u + Th.w1 x := by unfold Th.w1; omega
      rw [ew]
      have put : ∀ nx' : Sto → Prop, (nx' (S ++ [.lst (optL (Ll.set nb (some (u + Th.w1 x)))), .lst (camL Cl)])) → kSto (.int (u + Th.w1 x)) nx' (.cell S.length) (.int x.b) (S ++ [.lst (optL Ll), .lst (camL Cl)]) := fun nx' hn => by
        rw [hnb]
        refine sto_put (y := optD (s.L x.b)) st2_0 ?_ ?_
        · unfold optL
          rw [List.getElem?_map, (R.g nb (by omega)).1, hnb]
          rfl
        · rw [st2_s0, ← optD_some, optL_set]
          exact hn
      have put2 : ∀ (Ll : List (Option Int)) (nx' : Sto → Prop), (nx' (S ++ [.lst (optL Ll), .lst (camL (Cl.set nb (some x)))])) → kSto x.d nx' (.cell (S.length + 1)) (.int x.b) (S ++ [.lst (optL Ll), .lst (camL Cl)]) := fun Ll nx' hn => by
        rw [hnb]
        refine sto_put (y := camD (s.C x.b)) st2_1 ?_ ?_
        · unfold camL
          rw [List.getElem?_map, (R.g nb (by omega)).2, hnb]
          rfl
        · have ed : x.d = camD (some x) := rfl
          rw [st2_s1, ed, camL_set]
          exact hn
      have go : Th.betr (s.L x.b) (u + Th.w1 x) = true → Rep m (Ll.set nb (some (u + Th.w1 x))) (Cl.set nb (some x)) (if Th.betr (s.L x.b) (u + Th.w1 x) = true then ⟨Th.upd s.L x.b (some (u + Th.w1 x)), Th.upd s.C x.b (some x)⟩ else s) := fun hb => by
        rw [if_pos hb, hnb]
        exact R.set (by omega)
      refine ⟨_, (lv_ix gL).trans gb, ?_⟩
      cases eb : s.L x.b with
      | none =>
        rw [optD_none]
        walk_at "w"
        walk_at "s"
        refine put _ ?_
        walk_at "w"
        refine put2 _ _ ?_
        exact hnx2 _ _ ⟨_, _, _, _, _, rfl, rfl, go (by rw [eb]; rfl)⟩
      | some v =>
        rw [eb] at gb go
        rw [optD_some]
        walk_at "w"
        refine ⟨_, (lv_ix gL).trans gb, ?_⟩
        rw [optD_some]
        walk_at "w"
        by_cases c : u + Th.w1 x < v
        · rw [if_pos c]
          walk_at "s"
          refine put _ ?_
          walk_at "w"
          refine put2 _ _ ?_
          rw [eb] at hnx2
          exact hnx2 _ _ ⟨_, _, _, _, _, rfl, rfl, go (decide_eq_true c)⟩
        · rw [if_neg c]
          refine hnx2 _ _ ⟨_, _, _, Ll, Cl, rfl, rfl, ?_⟩
          rw [eb, if_neg fun z : Th.betr (some v) (u + Th.w1 x) = true => c (of_decide_eq_true z)]
          exact R
  rintro _ _ ⟨o5, o6, o7, Ll, Cl, rfl, rfl, R⟩
  walk_at "w"
  refine ⟨_, _, FzR.tup (.cons (.cellP st2_0) (.cons (.cellP (by rw [st2_s0]; exact st2_1)) .nil)), ?_⟩
  rw [st2_s0, st2_s1]
  refine ⟨?_, st2_tk, h Ll Cl R⟩
  unfold D.pure pureAll
  rw [lst_pure (optL_pure _)]
  unfold pureAll
  rw [lst_pure (camL_pure _)]
  rfl
theorem Rep.atC {m : Nat} {Ll : List (Option Int)} {Cl : List (Option Dd)} {s : Th.BS} (R : Rep m Ll Cl s) {i : Int} (h0 : 0 ≤ i) (h1 : i < (m : Int)) : L2.atI (camL Cl) i = some (camD (s.C i)) := by
  obtain ⟨n, rfl⟩ : ∃ n : Nat, i = (n : Int) := ⟨i.toNat, by omega⟩
  exact L2.atI_nat (by unfold camL; rw [List.getElem?_map, (R.g n (by omega)).2]; rfl)
theorem nearest_sp (m : Nat) (Ll : List (Option Int)) (Cl : List (Option Dd)) (s : Th.BS) (want : List Int) (d : D) (S : Sto) (k : KD) (xk : XD) (hm : m ≤ 1000) (R : Rep m Ll Cl s) (hd : lview S d = some (vI want)) (hw : want.length = m) (he : ∃ v : Nat, v < m ∧ 0 < gI want v ∧ ∃ u, s.L v = some u) (h : ∀ v : Nat, v < m → 0 < gI want v → (∃ u, s.L v = some u) → k (.int (v : Int)) S) : w_nearest [.lst (optL Ll), d] S k xk := by
  have ll : (optL Ll).length = m := by unfold optL; rw [List.length_map]; exact R.l
  walk_at "i"
  walk_at "s"
  refine seq_cut (fun s' S' => ∃ (n : Nat) (o3 : Option D), s' = [some (.lst (optL Ll)), some d, some (.int (n : Int)), o3] ∧ S' = S ∧ n < m ∧ 0 < gI want n ∧ ∃ u, s.L n = some u) (fun Q hQ => ?_) ?_
  · walk_at "w"
    rw [ll]
    refine ⟨by omega, by omega, ?_⟩
    rw [Int.toNat_natCast]
    refine for_rng (fun t s' S' => ∃ (o : Option Nat) (o3 : Option D), s' = [some (.lst (optL Ll)), some d, some (optD (o.map fun (n : Nat) => (n : Int))), o3] ∧ S' = S ∧ match o with | none => ∀ v : Nat, v < t → 0 < gI want v → s.L v = none | some n => n < m ∧ 0 < gI want n ∧ ∃ u, s.L n = some u) ⟨none, _, rfl, rfl, fun v hv => absurd hv (by omega)⟩ (fun t ht s' S' ⟨o, o3, e1, e2, hP⟩ nx hnx => ?_) fun s' S' ⟨o, o3, e1, e2, hP⟩ => ?_
    · subst e1; replace e2 := e2.symm; subst e2
      have hv := at_vI (v := want) (k := (t : Int)) (by omega) (by omega)
      have gt := R.atL (i := (t : Int)) (by omega) (by omega)
      have keep : ¬ (0 < gI want t ∧ ∃ u, s.L t = some u) → nx [some (.lst (optL Ll)), some d, some (optD (o.map fun (n : Nat) => (n : Int))), some (.int (t : Int))] S := fun z => by
        refine hnx _ _ ⟨o, _, rfl, rfl, ?_⟩
        cases o with
        | some n => exact hP
        | none =>
          intro v hv h0
          by_cases c : v = t
          · subst c
            cases e : s.L v with
            | none => rfl
            | some u => exact absurd ⟨h0, u, e⟩ z
          · exact hP v (by omega) h0
      walk_at "w"
      refine ⟨_, (lv_ix hd).trans hv, ?_⟩
      walk_at "w"
      by_cases c : 0 < gI want t
      · rw [if_pos c]
        walk_at "w"
        refine ⟨_, gt, ?_⟩
        cases e : s.L t with
        | none =>
          rw [optD_none]
          walk_at "w"
          exact keep fun z => by obtain ⟨_, u, z⟩ := z; rw [e] at z; cases z
        | some u =>
          rw [e] at gt
          have new : nx [some (.lst (optL Ll)), some d, some (.int (t : Int)), some (.int (t : Int))] S := hnx _ _ ⟨some t, _, rfl, rfl, ht, c, u, e⟩
          rw [optD_some]
          walk_at "w"
          cases o with
          | none =>
            walk_at "w"
            exact new
          | some n =>
            obtain ⟨h1, h2, u2, h3⟩ := hP
            have gn := R.atL (i := (n : Int)) (by omega) (by omega)
            rw [h3] at gn
            simp only [Option.map_some, optD_some]
            walk_at "w"
            refine ⟨_, gt, ?_⟩
            rw [optD_some]
            refine ⟨_, gn, ?_⟩
            rw [optD_some]
            walk_at "w"
            by_cases c2 : u < u2
            · rw [if_pos c2]
              walk_at "w"
              exact new
            · rw [if_neg c2]
              walk_at "w"
              exact hnx _ _ ⟨some n, _, rfl, rfl, h1, h2, u2, h3⟩
      · rw [if_neg c]
        exact keep fun z => c z.1
    · subst e1; replace e2 := e2.symm; subst e2
      cases o with
      | none =>
        obtain ⟨v, v1, v2, u, v3⟩ := he
        rw [hP v v1 v2] at v3
        cases v3
      | some n => exact hQ _ _ ⟨n, _, rfl, rfl, hP⟩
  rintro _ _ ⟨n, o3, rfl, rfl, h1, h2, h3⟩
  walk_at "w"
  exact h n h1 h2 h3
theorem wayto_sp (m : Nat) (Ll : List (Option Int)) (Cl : List (Option Dd)) (s : Th.BS) (μ : Int → Nat) (v : Nat) (S : Sto) (k : KD) (xk : XD) (hm : m ≤ 1000) (R : Rep m Ll Cl s) (hv : v < m) (hc : ∀ v x, s.C v = some x → 0 ≤ x.a ∧ x.a < (m : Int) ∧ 0 ≤ x.b ∧ x.b < (m : Int) ∧ x.b = v ∧ μ x.a < μ v) (h : ∀ (W : List Dd) (z : Nat), Th.Bck s.C v W z → s.C z = none → z < m → W.length ≤ m → k (.tup [.int (z : Int), .lst (dueL W)]) S) : w_way_to [.int (v : Int), .lst (camL Cl)] S k xk := by
  have wl : ∀ (W : List Dd) (z : Int), Th.Bck s.C v W z → W.length ≤ m := fun W z hb => by
    have hp := (Th.bck_pair (fun v x hx => ⟨(hc v x hx).2.2.2.2.1, (hc v x hx).2.2.2.2.2⟩) hb).2
    have nd : (W.map Dd.b).Nodup := by
      refine List.Pairwise.map _ (fun x y h => ?_) hp
      intro e
      rw [e] at h
      exact absurd h (by omega)
    have := _root_.Ab.Cl.nodup_len (s := intsL (m : Int)) nd fun z hz => by
      obtain ⟨x, hx, rfl⟩ := List.mem_map.mp hz
      obtain ⟨u, hu⟩ := Th.bck_mem hb x hx
      exact intsL_mem.mpr ⟨(hc u x hu).2.2.1, (hc u x hu).2.2.2.1⟩
    rw [List.length_map, intsL_len] at this
    omega
  walk_at "i"
  walk_at "s"
  refine seq_cut (fun s' S' => ∃ (W : List Dd) (z : Nat), s' = [some (.int (z : Int)), some (.lst (camL Cl)), some (.cell S.length)] ∧ S' = S ++ [.lst (dueL W)] ∧ z < m ∧ Th.Bck s.C v W z ∧ s.C z = none) (fun Q hQ => ?_) ?_
  · walk_at "w"
    refine while_inv (fun n s' S' => ∃ (W : List Dd) (z : Nat), n = μ z ∧ s' = [some (.int (z : Int)), some (.lst (camL Cl)), some (.cell S.length)] ∧ S' = S ++ [.lst (dueL W)] ∧ z < m ∧ Th.Bck s.C v W z) (μ v) ⟨[], v, rfl, rfl, rfl, hv, rfl⟩ fun n s' S' ⟨W, z, en, e1, e2, hz, hb⟩ nx hnx => ?_
    subst e1 e2 en
    have gz := R.atC (i := (z : Int)) (by omega) (by omega)
    have hwl := wl _ _ hb
    walk_at "w"
    refine ⟨_, gz, ?_⟩
    cases e : s.C z with
    | none =>
      have ed : camD none = .non := rfl
      rw [ed]
      walk_at "w"
      exact hQ _ _ ⟨W, z, rfl, rfl, hz, hb, e⟩
    | some x =>
      rw [e] at gz
      obtain ⟨h1, h2, h3, h4, h5, h6⟩ := hc _ _ e
      obtain ⟨na, hna⟩ : ∃ na : Nat, x.a = (na : Int) := ⟨x.a.toNat, by omega⟩
      have ed : camD (some x) = x.d := rfl
      rw [ed] at gz ⊢
      walk_at "w"
      refine seq_e ?_
      walk_at "w"
      refine ⟨_, gz, ?_⟩
      walk_at "w"
      refine ⟨szlt (by omega), ?_⟩
      walk_at "w"
      refine ⟨_, gz, ?_⟩
      walk_at "w"
      rw [hna]
      refine hnx (μ na) _ _ (by rw [← hna]; exact h6) ⟨W ++ [x], na, rfl, rfl, ?_, by omega, ?_⟩
      · unfold dueL
        rw [List.map_append]
        rfl
      · rw [← hna]
        exact Th.bck_app hb e
  rintro _ _ ⟨W, z, rfl, rfl, hz, hb, he⟩
  walk_at "w"
  refine ⟨_, _, FzR.tup (.cons .same (.cons (.cellP stl_get) .nil)), ?_⟩
  refine ⟨?_, ?_, h W z hb he hz (wl _ _ hb)⟩
  · unfold D.pure pureAll
    unfold pureAll
    rw [lst_pure (dueL_pure _)]
    rfl
  · rw [List.set_append_right _ _ (Nat.le_refl _), List.take_append_of_le_length (Nat.le_refl _), List.take_length]
theorem roomof_sp (sh : List Dd) (left : List Int) (x : Dd) (d : D) (S : Sto) (k : KD) (xk : XD) (hd : lview S d = some (vI left)) (ll : left.length = sh.length) (h0 : 0 ≤ x.c) (h1 : x.c < (sh.length : Int)) (h : k (.int (Th.room sh left x)) S) : w_room_of [x.d, .lst (dueL sh), d] S k xk := by
  obtain ⟨n, hn⟩ : ∃ n : Nat, x.c = (n : Int) := ⟨x.c.toNat, by omega⟩
  have hv := at_vI (v := left) (k := x.c) (by omega) (by omega)
  have e := List.getElem?_eq_getElem (l := sh) (i := n) (by omega)
  have hat := at_dueL e
  rw [← hn] at hat
  walk_at "i"
  walk_at "s"
  unfold Th.room at h
  by_cases c : 0 < x.r
  · rw [if_pos c] at h
    rw [if_pos c]
    walk_at "w"
    refine ⟨_, hat, ?_⟩
    walk_at "w"
    refine ⟨_, (lv_ix hd).trans hv, ?_⟩
    walk_at "w"
    rw [List.getD_eq_getElem?_getD, List.getElem?_map, show x.c.toNat = n by omega, e] at h
    exact h
  · rw [if_neg c] at h
    rw [if_neg c]
    walk_at "w"
    exact ⟨_, (lv_ix hd).trans hv, h⟩
def s0H (m : Nat) : Th.BS := ⟨fun v => if 0 ≤ v ∧ v < (m : Int) then some 0 else none, fun _ => none⟩
theorem heights_sp (m : Nat) (sh : List Dd) (left : List Int) (d : D) (S : Sto) (k : KD) (xk : XD) (hd : lview S d = some (vI left)) (hm : m ≤ 1000) (ll : left.length = sh.length) (hl : sh.length ≤ 1000) (hs : ∀ x ∈ sh, x.In (m : Int)) (hp : ∃ h : Int → Int, ∀ y ∈ Th.stepsL sh left sh.length, h y.b ≤ h y.a + y.r) (h : ∀ Hl : List Int, Hl.length = m → Th.Hts m sh left (gI Hl) → k (.lst (vI Hl)) S) : w_heights_of [.int m, .lst (dueL sh), d] S k xk := by
  have hE : ∀ x ∈ Th.stepsL sh left sh.length, 0 ≤ x.a ∧ x.a < (m : Int) ∧ 0 ≤ x.b ∧ x.b < (m : Int) := fun x hx => by
    have := Th.steps_in hs hx
    omega
  walk_at "i"
  walk_at "s"
  refine ⟨by omega, by omega, ?_⟩
  rw [Int.toNat_natCast]
  refine vlc_rng D.int m (fun _ o => o = 0) (by omega) trivial (fun v hv k' hk => ?_) fun H0 l0 h0 => ?_
  · walk_at "w"
    exact hk 0 rfl
  have eH : H0.map D.int = vI H0 := rfl
  rw [eH]
  walk_at "s"
  refine steps_sp m sh left d _ _ _ (lv_app hd) ll hl ?_
  have fin := fun H : Int → Int => Th.hts_of (s0 := s0H m) (H := H) hs hp (fun z z0 z1 => by unfold s0H; exact if_pos ⟨z0, z1⟩) (fun v u hv => by
    unfold s0H at hv
    dsimp only at hv
    split at hv
    · exact ⟨(Option.some.inj hv).symm, by assumption⟩
    · cases hv) (fun v => rfl)
  have R0 : ∀ v : Nat, v < m → (s0H m).L v = some (gI H0 v) := fun v hv => by
    have e := List.getElem?_eq_getElem (l := H0) (i := v) (by omega)
    have e0 := h0 v _ e
    rw [gI_nat (by omega), e0]
    exact if_pos ⟨by omega, by omega⟩
  generalize Th.stepsL sh left sh.length = E at hE fin
  generalize s0H m = s0 at fin R0
  walk_at "w"
  refine seq_cut (fun s' S' => ∃ (o5 o6 : Option D) (Hl : List Int), s' = [some (.int m), some (.lst (dueL sh)), some d, some (.cell S.length), some (.lst (dueL E)), o5, o6, none] ∧ S' = S ++ [.lst (vI Hl)] ∧ Hl.length = m ∧ ∀ v : Nat, v < m → (Th.rnds Th.w2 E m s0).L v = some (gI Hl v)) (fun Q hQ => ?_) ?_
  · walk_at "w"
    refine ⟨by omega, by omega, ?_⟩
    rw [Int.toNat_natCast]
    refine for_rng (fun t s' S' => ∃ (o5 o6 : Option D) (Hl : List Int), s' = [some (.int m), some (.lst (dueL sh)), some d, some (.cell S.length), some (.lst (dueL E)), o5, o6, none] ∧ S' = S ++ [.lst (vI Hl)] ∧ Hl.length = m ∧ ∀ v : Nat, v < m → (Th.rnds Th.w2 E t s0).L v = some (gI Hl v)) ⟨_, _, H0, rfl, rfl, l0, R0⟩ (fun t ht s' S' ⟨o5, o6, Hl, e1, e2, hl1, R⟩ nx hnx => ?_) fun s' S' ⟨o5, o6, Hl, e1, e2, R⟩ => hQ _ _ ⟨o5, o6, Hl, e1, e2, R⟩
    subst e1 e2
    have eE : dueL E = E.map Dd.d := rfl
    walk_at "w"
    rw [eE]
    refine for_list Dd.d E (fun j s' S' => ∃ (o5 o6 : Option D) (Hl : List Int), s' = [some (.int m), some (.lst (dueL sh)), some d, some (.cell S.length), some (.lst (dueL E)), o5, o6, none] ∧ S' = S ++ [.lst (vI Hl)] ∧ Hl.length = m ∧ ∀ v : Nat, v < m → (Th.rnd Th.w2 (E.take j) (Th.rnds Th.w2 E t s0)).L v = some (gI Hl v)) ⟨_, _, Hl, rfl, rfl, hl1, R⟩ (fun _ _ _ _ => trivial) (fun j x hx s' S' ⟨o5, o6, Hl, e1, e2, hl1, R⟩ nx2 hnx2 => ?_) fun s' S' ⟨o5, o6, Hl, e1, e2, hl1, R⟩ => hnx _ _ ⟨o5, o6, Hl, e1, e2, hl1, by rw [List.take_length] at R; exact R⟩
    subst e1 e2
    have hxE := hE x (List.mem_of_getElem? hx)
    rw [take_succ_of hx] at hnx2
    have er : Th.rnd Th.w2 (E.take j ++ [x]) (Th.rnds Th.w2 E t s0) = Th.rlx Th.w2 (Th.rnd Th.w2 (E.take j) (Th.rnds Th.w2 E t s0)) x := by unfold Th.rnd; rw [List.foldl_append]; rfl
    rw [er] at hnx2
    generalize Th.rnd Th.w2 (E.take j) (Th.rnds Th.w2 E t s0) = s at R hnx2
    have ga := at_vI (v := Hl) (k := x.a) (by omega) (by omega)
    have gb := at_vI (v := Hl) (k := x.b) (by omega) (by omega)
    obtain ⟨na, hna⟩ : ∃ na : Nat, x.a = (na : Int) := ⟨x.a.toNat, by omega⟩
    obtain ⟨nb, hnb⟩ : ∃ nb : Nat, x.b = (nb : Int) := ⟨x.b.toNat, by omega⟩
    have ra := R na (by omega)
    have rb := R nb (by omega)
    rw [← hna] at ra
    rw [← hnb] at rb
    rw [Th.rlx_some ra, rb] at hnx2
    walk_at "w"
    refine ⟨_, gb, _, ga, ?_⟩
    walk_at "w"
    refine sto_vI stl_get hxE.2.2.1 (by omega) ?_
    have eset : ∀ c : Cel, (S ++ [Cel.lst (vI Hl)]).set S.length c = S ++ [c] := fun c => by rw [List.set_append_right _ _ (Nat.le_refl _), Nat.sub_self]; rfl
    rw [eset]
    refine hnx2 _ _ ⟨_, _, _, rfl, rfl, by rw [List.length_set]; exact hl1, fun v hv => ?_⟩
    rw [Th.gI_set (by omega)]
    have ew : gI Hl x.a + Th.w2 x = gI Hl x.a + x.r := rfl
    rw [ew]
    by_cases c : gI Hl x.a + x.r < gI Hl x.b
    · rw [if_pos (show Th.betr (some (gI Hl x.b)) (gI Hl x.a + x.r) = true from decide_eq_true c), if_pos c]
      by_cases e : v = nb
      · rw [if_pos (by omega)]
        show Th.upd s.L x.b _ _ = _
        rw [hnb, ← e]
        exact Th.upd_at
      · rw [if_neg (by omega)]
        show Th.upd s.L x.b _ _ = _
        rw [Th.upd_ne (by omega)]
        exact R v hv
    · rw [if_neg fun z : Th.betr (some (gI Hl x.b)) (gI Hl x.a + x.r) = true => c (of_decide_eq_true z), if_neg c]
      by_cases e : v = nb
      · rw [if_pos (by omega), e, ← hnb]
        exact rb
      · rw [if_neg (by omega)]
        exact R v hv
  rintro _ _ ⟨o5, o6, Hl, rfl, rfl, hl1, R⟩
  walk_at "w"
  refine ⟨lst_pure (vI_pure _), h Hl hl1 (fin _ fun v v0 v1 => ?_)⟩
  obtain ⟨n, rfl⟩ : ∃ n : Nat, v = (n : Int) := ⟨v.toNat, by omega⟩
  exact R n (by omega)
theorem st3_0 {S : Sto} {a b c : Cel} : (S ++ [a, b, c])[S.length]? = some a := by rw [List.getElem?_append_right (Nat.le_refl _), Nat.sub_self]; rfl
theorem st3_1 {S : Sto} {a b c : Cel} : (S ++ [a, b, c])[S.length + 1]? = some b := by rw [List.getElem?_append_right (by omega), show S.length + 1 - S.length = 1 by omega]; rfl
theorem st3_2 {S : Sto} {a b c : Cel} : (S ++ [a, b, c])[S.length + 2]? = some c := by rw [List.getElem?_append_right (by omega), show S.length + 2 - S.length = 2 by omega]; rfl
theorem st3_s0 {S : Sto} {a b c d : Cel} : (S ++ [a, b, c]).set S.length d = S ++ [d, b, c] := by rw [List.set_append_right _ _ (Nat.le_refl _), Nat.sub_self]; rfl
theorem st3_s1 {S : Sto} {a b c d : Cel} : (S ++ [a, b, c]).set (S.length + 1) d = S ++ [a, d, c] := by rw [List.set_append_right _ _ (by omega), show S.length + 1 - S.length = 1 by omega]; rfl
theorem st3_s2 {S : Sto} {a b c d : Cel} : (S ++ [a, b, c]).set (S.length + 2) d = S ++ [a, b, d] := by rw [List.set_append_right _ _ (by omega), show S.length + 2 - S.length = 2 by omega]; rfl
theorem st3_tk {S : Sto} {a b c : Cel} : (S ++ [a, b, c]).take S.length = S := by rw [List.take_append_of_le_length (Nat.le_refl _), List.take_length]
theorem bck_L {C : Int → Option Dd} {L : Int → Option Int} (h : ∀ v x, C v = some x → ∃ u, L x.a = some u) : ∀ {W : List Dd} {v z : Int}, Th.Bck C v W z → (∃ u, L v = some u) → ∃ u, L z = some u
  | [], _, _, hb, hv => by have hb : _ = _ := hb; subst hb; exact hv
  | y :: W, v, z, hb, hv => bck_L h hb.2 (h _ _ hb.1)
theorem aug_one {c : Int} {W : List Dd} {x : Dd} {left : List Int} : Th.augL c (W ++ [x]) left = (Th.augL c W left).set x.c.toNat (gI (Th.augL c W left) x.c + c * x.r) := by
  unfold Th.augL
  rw [List.foldl_append]
  rfl
theorem vI_map {n : List Int} {f : Int → Int} {as : List Int} (h1 : as.length = n.length) (h2 : ∀ (i : Nat) (b a : Int), n[i]? = some b → as[i]? = some a → a = f b) : as = n.map f := list_eq (by simpa using h1) fun i x y e1 e2 => by
  rw [List.getElem?_map] at e2
  cases e : n[i]? with
  | none => rw [e] at e2; cases e2
  | some z =>
    rw [e] at e2
    cases e2
    exact h2 i z x e e1
theorem thinned_sp (m : Nat) (sh : List Dd) (S : Sto) (k : KD) (xk : XD) (hm : m ≤ 90) (hl : sh.length ≤ 1000) (hs : ∀ x ∈ sh, x.In (m : Int)) (h : ∀ left Hl : List Int, left.length = sh.length → Hl.length = m → (∀ (k : Nat) (x : Dd), sh[k]? = some x → 0 ≤ gI left k ∧ gI left k ≤ x.c) → Th.Hts m sh left (gI Hl) → (∀ v : Nat, v < m → Th.net (withA sh left) v = Th.net sh v) → k (.tup [.lst (vI left), .lst (vI Hl)]) S) : w_thinned [.int m, .lst (dueL sh)] S k xk := by
  walk_at "i"
  walk_at "s"
  refine vlc_list D.int Dd.d sh (fun _ _ c => c = 0) (by omega) trivial (fun n b hb k' hk => ?_) fun as h1 h2 => ?_
  · walk_at "w"
    exact hk _ rfl
  obtain rfl : as = zeros sh.length := list_eq (by unfold zeros; simpa using h1) fun n x y e1 e2 => by
    unfold zeros at e2
    rw [List.getElem?_replicate] at e2
    split at e2
    · cases e2
      exact h2 n _ x (List.getElem?_eq_getElem (by omega)) e1
    · cases e2
  have e0 : ∀ v : List Int, v.map D.int = vI v := fun _ => rfl
  rw [e0]
  clear h1 h2
  walk_at "s"
  have nl : (netsI (m : Int) sh).length = m := by rw [netsI_len]; omega
  refine nets_in m sh _ _ _ (by omega) (by omega) hs ?_
  walk_at "w"
  refine vlc_list D.int D.int (netsI m sh) (fun _ z c => c = if 0 < -z then -z else 0) (by omega) trivial (fun n b hb k' hk => ?_) fun as h1 h2 => ?_
  · walk_at "w"
    exact hk _ rfl
  obtain rfl := vI_map h1 h2
  rw [e0]
  clear h1 h2
  walk_at "s"
  refine nets_in m sh _ _ _ (by omega) (by omega) hs ?_
  walk_at "w"
  refine vlc_list D.int D.int (netsI m sh) (fun _ z c => c = if 0 < z then z else 0) (by omega) trivial (fun n b hb k' hk => ?_) fun as h1 h2 => ?_
  · walk_at "w"
    exact hk _ rfl
  obtain rfl := vI_map h1 h2
  rw [e0]
  clear h1 h2
  have F0 := Th.FI.init hs
  generalize ((netsI (m : Int) sh).map fun z => if 0 < -z then -z else 0) = spare0 at F0
  generalize ((netsI (m : Int) sh).map fun z => if 0 < z then z else 0) = want0 at F0
  generalize zeros sh.length = left0 at F0
  rw [show (S ++ [Cel.lst (vI left0)] ++ [Cel.lst (vI spare0)]).length = S.length + 2 by simp, show (S ++ [Cel.lst (vI left0)]).length = S.length + 1 by simp, show S ++ [Cel.lst (vI left0)] ++ [Cel.lst (vI spare0)] ++ [Cel.lst (vI want0)] = S ++ [Cel.lst (vI left0), Cel.lst (vI spare0), Cel.lst (vI want0)] by simp]
  refine seq_cut (fun s' S' => ∃ (o5 o6 o7 o8 o9 o10 : Option D) (left spare want : List Int), s' = [some (.int m), some (.lst (dueL sh)), some (.cell S.length), some (.cell (S.length + 1)), some (.cell (S.length + 2)), o5, o6, o7, o8, o9, o10, none, none, none] ∧ S' = S ++ [.lst (vI left), .lst (vI spare), .lst (vI want)] ∧ Th.FI m sh left spare want ∧ ¬ 0 < spare.sum) (fun Q hQ => ?_) ?_
  · refine while_inv (fun n s' S' => ∃ (o5 o6 o7 o8 o9 o10 : Option D) (left spare want : List Int), s' = [some (.int m), some (.lst (dueL sh)), some (.cell S.length), some (.cell (S.length + 1)), some (.cell (S.length + 2)), o5, o6, o7, o8, o9, o10, none, none, none] ∧ S' = S ++ [.lst (vI left), .lst (vI spare), .lst (vI want)] ∧ Th.FI m sh left spare want ∧ n = spare.sum.toNat) _ ⟨_, _, _, _, _, _, left0, spare0, want0, rfl, rfl, F0, rfl⟩ fun n s' S' ⟨o5, o6, o7, o8, o9, o10, left, spare, want, e1, e2, F, en⟩ nx hnx => ?_
    subst e1 e2 en
    have gl : lview (S ++ [Cel.lst (vI left), Cel.lst (vI spare), Cel.lst (vI want)]) (.cell S.length) = some (vI left) := lview_c st3_0
    have gs : lview (S ++ [Cel.lst (vI left), Cel.lst (vI spare), Cel.lst (vI want)]) (.cell (S.length + 1)) = some (vI spare) := lview_c st3_1
    have gw : lview (S ++ [Cel.lst (vI left), Cel.lst (vI spare), Cel.lst (vI want)]) (.cell (S.length + 2)) = some (vI want) := lview_c st3_2
    walk_at "w"
    refine ⟨spare, gs, ?_⟩
    walk_at "w"
    by_cases c : 0 < spare.sum
    · rw [if_pos c]
      walk_at "s"
      refine ⟨by omega, by omega, ?_⟩
      rw [Int.toNat_natCast]
      have gat : ∀ (v : List Int) (n : Nat), v.length = m → n < m → L2.atI (vI v) (n : Int) = some (.int (gI v n)) := fun v n h1 h2 => at_vI (by omega) (by omega)
      refine vlc_rngf (fun (n : Nat) => decide (0 < gI spare (n : Int))) (fun n => .int n) m (by omega) trivial (fun n hn k' hk => ?_) (fun n hn hp k' hk => ?_) ?_
      · walk_at "w"
        refine ⟨_, (lv_ix gs).trans (gat _ _ F.ls hn), ?_⟩
        walk_at "w"
        exact hk
      · walk_at "w"
        exact hk
      have est : (((List.range m).filter fun (n : Nat) => decide (0 < gI spare (n : Int))).map fun (n : Nat) => D.int (n : Int)) = vI (((List.range m).filter fun (n : Nat) => decide (0 < gI spare (n : Int))).map fun (n : Nat) => (n : Int)) := by unfold vI; rw [List.map_map]; rfl
      rw [est]
      have hst : ∀ v : Int, v ∈ (((List.range m).filter fun (n : Nat) => decide (0 < gI spare (n : Int))).map fun (n : Nat) => (n : Int)) ↔ Th.stt m spare v := fun v => by
        rw [List.mem_map]
        constructor
        · rintro ⟨n, hn, rfl⟩
          obtain ⟨h1, h2⟩ := List.mem_filter.mp hn
          have := List.mem_range.mp h1
          exact ⟨by omega, by omega, of_decide_eq_true h2⟩
        · rintro ⟨h1, h2, h3⟩
          exact ⟨v.toNat, List.mem_filter.mpr ⟨List.mem_range.mpr (by omega), by rw [show ((v.toNat : Nat) : Int) = v by omega]; exact decide_eq_true h3⟩, by omega⟩
      clear est
      generalize (((List.range m).filter fun (n : Nat) => decide (0 < gI spare (n : Int))).map fun (n : Nat) => (n : Int)) = st at hst
      walk_at "s"
      refine steps_sp m sh left _ _ _ _ gl F.ll hl ?_
      walk_at "w"
      refine reached_sp m st _ _ _ _ (by omega) (fun x hx => by have := Th.steps_in hs hx; omega) fun Ll Cl R => ?_
      obtain ⟨ht, hht⟩ := F.pot
      have hD : Th.Done Th.w1 (Th.stepsL sh left sh.length) (Th.stt m spare) m (Th.rnds Th.w1 (Th.stepsL sh left sh.length) m (s0B m st)) := Th.rnds_done (g := fun v => 100 * ht v) (fun x hx => by
        have := hht x hx
        unfold Th.w1
        omega) (fun x hx => by have := Th.steps_in hs hx; exact ⟨this.1, this.2.2.2⟩) (fun z hz => ⟨hz.1, hz.2.1⟩) (fun z hz => if_pos ⟨hz.1, hz.2.1, (hst z).mpr hz⟩) (fun v u hv => by
          unfold s0B at hv
          dsimp only at hv
          split at hv
          · rename_i hh
            exact ⟨(Option.some.inj hv).symm, (hst v).mp hh.2.2⟩
          · cases hv) fun v => rfl
      obtain ⟨μ, hμ⟩ := Th.msr (fun z hz => ⟨hz.1, hz.2.1⟩) hD hht
      have hgo := F.goal hs hD c
      have stp := @F.step
      have hin : ∀ y ∈ Th.stepsL sh left sh.length, y.a ≠ y.b ∧ 0 ≤ y.a ∧ y.a < (m : Int) ∧ 0 ≤ y.b ∧ y.b < (m : Int) := fun y hy => Th.steps_in hs hy
      have hpos : ∀ y ∈ Th.stepsL sh left sh.length, 0 < Th.room sh left y ∧ 0 ≤ y.c ∧ y.c < (sh.length : Int) ∧ (y.r = 1 ∨ y.r = -1) := fun y hy => ⟨Th.room_pos hy, by
        obtain ⟨k, x, e, ⟨_, rfl⟩ | ⟨_, rfl⟩⟩ := Th.steps_mem.mp hy
        · have := (List.getElem?_eq_some_iff.mp e).1
          exact ⟨Int.natCast_nonneg _, by dsimp only; omega, .inl rfl⟩
        · have := (List.getElem?_eq_some_iff.mp e).1
          exact ⟨Int.natCast_nonneg _, by dsimp only; omega, .inr rfl⟩⟩
      have step := fun (v z : Nat) (W : List Dd) (c : Int) => F.step (v := v) (z := z) (W := W) (c := c) hm hs hD
      generalize Th.stepsL sh left sh.length = E at R hD hgo hin hpos step hμ
      generalize Th.rnds Th.w1 E m (s0B m st) = s at R hD hgo hin hpos step hμ
      clear stp
      walk_at "s"
      refine nearest_sp m Ll Cl s want _ _ _ _ (by omega) R gw F.lw hgo fun v hv hwv hLv => ?_
      walk_at "s"
      refine wayto_sp m Ll Cl s μ v _ _ _ (by omega) R hv (fun v x hx => ?_) fun W z hb hz hzm hWl => ?_
      · obtain ⟨h1, h2, _⟩ := hD.cam v x hx
        have := hin x h1
        exact ⟨this.2.1, this.2.2.1, this.2.2.2.1, this.2.2.2.2, h2, hμ v x hx⟩
      have hzs : Th.stt m spare z := by
        obtain ⟨u, hu⟩ := bck_L (fun v x hx => by
          obtain ⟨_, _, ua, h3, _⟩ := hD.cam v x hx
          exact ⟨ua, h3⟩) hb hLv
        exact hD.end_ z u hu hz
      have hWE : ∀ x ∈ W, x ∈ E := fun x hx => by
        obtain ⟨u, hu⟩ := Th.bck_mem hb x hx
        exact (hD.cam u x hu).1
      have hWp : 0 < W.length := by
        cases W with
        | cons _ _ => exact Nat.succ_pos _
        | nil =>
          have hb : (v : Int) = (z : Int) := hb
          have := F.sp v hv
          have := hzs.2.2
          rw [← hb] at this
          omega
      walk_at "s"
      have edW : dueL W = W.map Dd.d := rfl
      rw [edW]
      refine vlc_list D.int Dd.d W (fun _ x c => c = Th.room sh left x) (by omega) trivial (fun i x hx k' hk => ?_) fun as a1 a2 => ?_
      · have hp := hpos x (hWE x (List.mem_of_getElem? hx))
        walk_at "w"
        exact roomof_sp sh left x _ _ _ _ gl F.ll hp.2.1 hp.2.2.1 (hk _ rfl)
      rw [← edW]
      refine ⟨as, rfl, by omega, fun c1 hc1 hc2 => ?_⟩
      have r1 : 0 < c1 ∧ ∀ x ∈ W, c1 ≤ Th.room sh left x := ⟨by
        obtain ⟨i, hi⟩ := List.mem_iff_getElem?.mp hc1
        have hil := (List.getElem?_eq_some_iff.mp hi).1
        have e := List.getElem?_eq_getElem (l := W) (i := i) (by omega)
        rw [a2 i _ _ e hi]
        exact (hpos _ (hWE _ (List.mem_of_getElem? e))).1, fun x hx => by
        obtain ⟨i, hi⟩ := List.mem_iff_getElem?.mp hx
        have hil := (List.getElem?_eq_some_iff.mp hi).1
        have e := List.getElem?_eq_getElem (l := as) (i := i) (by omega)
        rw [← a2 i _ _ hi e]
        exact hc2 _ (List.mem_of_getElem? e)⟩
      clear hc1 hc2 a1 a2
      have az := gat spare z F.ls hzm
      have av := gat want v F.lw hv
      walk_at "s"
      refine ⟨_, (lv_ix gs).trans az, _, (lv_ix gw).trans av, ?_⟩
      walk_at "w"
      refine ⟨[c1, gI spare z, gI want v], rfl, Nat.succ_pos _, fun c2 hc1 hc2 => ?_⟩
      have q1 := hc2 c1 (by simp)
      have q2 := hc2 (gI spare z) (by simp)
      have q3 := hc2 (gI want v) (by simp)
      have q0 : 1 ≤ c2 := by
        have := hzs.2.2
        rcases List.mem_cons.mp hc1 with e | hc1
        · omega
        rcases List.mem_cons.mp hc1 with e | hc1
        · omega
        rcases List.mem_cons.mp hc1 with e | hc1
        · omega
        · cases hc1
      clear hc1 hc2
      have F2 := step v z W c2 hv hwv hb hzs q0 (fun x hx => Int.le_trans q1 (r1.2 x hx)) q2 q3
      walk_at "s"
      refine ⟨_, (lv_ix gs).trans az, ?_⟩
      walk_at "w"
      refine sto_vI st3_1 (by omega) (by have := F.ls; omega) ?_
      rw [st3_s1, Int.toNat_natCast]
      walk_at "s"
      have gw2 : lview (S ++ [Cel.lst (vI left), Cel.lst (vI (spare.set z (gI spare z - c2))), Cel.lst (vI want)]) (.cell (S.length + 2)) = some (vI want) := lview_c st3_2
      refine ⟨_, (lv_ix gw2).trans av, ?_⟩
      walk_at "w"
      refine sto_vI st3_2 (by omega) (by have := F.lw; omega) ?_
      rw [st3_s2, Int.toNat_natCast]
      have hsum : (spare.set z (gI spare z - c2)).sum = spare.sum - c2 := by
        rw [sum_setI (by have := F.ls; omega)]
        omega
      have mlt : ∀ m', m' = (spare.set z (gI spare z - c2)).sum.toNat → m' < spare.sum.toNat := fun m' e => by omega
      generalize spare.set z (gI spare z - c2) = spare2 at F2 mlt
      generalize want.set v (gI want v - c2) = want2 at F2
      walk_at "w"
      rw [edW]
      refine for_list Dd.d W (fun j s' S' => ∃ (o10 : Option D), s' = [some (.int m), some (.lst (dueL sh)), some (.cell S.length), some (.cell (S.length + 1)), some (.cell (S.length + 2)), some (.lst (vI st)), some (.tup [.lst (optL Ll), .lst (camL Cl)]), some (.int v), some (.tup [.int z, .lst (W.map Dd.d)]), some (.int c2), o10, none, none, none] ∧ S' = S ++ [.lst (vI (Th.augL c2 (W.take j) left)), .lst (vI spare2), .lst (vI want2)]) ⟨_, rfl, rfl⟩ (fun _ _ _ _ => trivial) (fun j x hx s' S' ⟨o10, e1, e2⟩ nx2 hnx2 => ?_) fun s' S' ⟨o10, e1, e2⟩ => ?_
      · subst e1 e2
        have hp := hpos x (hWE x (List.mem_of_getElem? hx))
        have hll := Th.augL_len (c := c2) (W := W.take j) (left := left)
        rw [take_succ_of hx, aug_one] at hnx2
        generalize Th.augL c2 (W.take j) left = l2 at hnx2 hll
        have gl2 : lview (S ++ [Cel.lst (vI l2), Cel.lst (vI spare2), Cel.lst (vI want2)]) (.cell S.length) = some (vI l2) := lview_c st3_0
        have hl3 : x.c < (l2.length : Int) := by rw [hll, F.ll]; exact hp.2.2.1
        walk_at "w"
        refine ⟨_, (lv_ix gl2).trans (at_vI hp.2.1 hl3), ?_⟩
        walk_at "w"
        refine ⟨mul_r (by have := hp.2.2.2; omega) (by have := hp.2.2.2; omega), ?_⟩
        refine sto_vI st3_0 hp.2.1 hl3 ?_
        rw [st3_s0]
        exact hnx2 _ _ ⟨_, rfl, rfl⟩
      · rw [List.take_length] at e2
        exact hnx _ _ _ (mlt _ rfl) ⟨_, _, _, _, _, _, _, _, _, e1, e2, F2, rfl⟩
    · rw [if_neg c]
      exact hQ _ _ ⟨_, _, _, _, _, _, left, spare, want, rfl, rfl, F, c⟩
  rintro _ _ ⟨o5, o6, o7, o8, o9, o10, left, spare, want, rfl, rfl, F, hz⟩
  walk_at "w"
  refine heights_sp m sh left _ _ _ _ (lview_c st3_0) (by omega) F.ll hl hs F.pot fun Hl hl1 hH => ?_
  walk_at "w"
  refine ⟨_, _, FzR.tup (.cons (.cellP st3_0) (.cons .same .nil)), ?_⟩
  refine ⟨?_, ?_, h left Hl F.ll hl1 F.bd hH (F.fin hs hz)⟩
  · unfold D.pure pureAll
    rw [lst_pure (vI_pure _)]
    unfold pureAll
    rw [lst_pure (vI_pure _)]
    rfl
  · rw [st3_s0, st3_tk]

theorem lawon_sp (mem : Int) (sh : List Dd) (left : List Int) (d : D) (S : Sto) (k : KD) (xk : XD) (hd : lview S d = some (vI left)) (ll : left.length = sh.length) (hl : sh.length ≤ 1000) (h0 : k .non S) (h1 : ∀ n : Nat, n < sh.length → 0 < gI left n → (nthD sh n).a = mem → k (.int (n : Int)) S) : w__law_on [.int mem, .lst (dueL sh), d] S k xk := by
  walk_at "i"
  refine seq_cut (fun s' S' => S' = S) (fun Q hQ => ?_) ?_
  · walk_at "w"
    refine ⟨by omega, by omega, ?_⟩
    refine for_rng (fun i s' S' => S' = S ∧ ∃ o3, s' = [some (.int mem), some (.lst (dueL sh)), some d, o3]) ⟨rfl, _, rfl⟩ (fun i hi s' S' ⟨e1, o3, e2⟩ nx hnx => ?_) fun s' S' ⟨e1, o3, e2⟩ => hQ _ _ e1
    have hi : i < sh.length := by omega
    subst e1 e2
    have gl := at_vI (v := left) (k := (i : Int)) (by omega) (by omega)
    have ex := Th.nthD_get hi
    have g1 := h1 i hi
    generalize nthD sh (i : Int) = x at ex g1
    have nxt : nx [some (.int mem), some (.lst (dueL sh)), some d, some (.int (i : Int))] S' := hnx _ _ ⟨rfl, _, rfl⟩
    walk_at "w"
    refine ⟨_, (lv_ix hd).trans gl, ?_⟩
    walk_at "w"
    by_cases c1 : 0 < gI left i
    · rw [if_pos c1]
      refine ⟨_, at_dueL ex, ?_⟩
      walk_at "w"
      by_cases c2 : x.a = mem
      · rw [if_pos c2]
        exact g1 c1 c2
      · rw [if_neg c2]
        exact nxt
    · rw [if_neg c1]
      exact nxt
  rintro _ _ rfl
  walk_at "w"
  exact h0
theorem lawround_sp (m : Nat) (mem0 : Int) (sh : List Dd) (left : List Int) (d : D) (S : Sto) (k : KD) (xk : XD) (hd : lview S d = some (vI left)) (ll : left.length = sh.length) (hl : sh.length ≤ 1000) (hm : m ≤ 1000) (h0 : k (.lst (vI [])) S) (h1 : ∀ rg : List Int, Th.Rnd sh left rg → rg.length ≤ m → k (.lst (vI rg)) S) : w__law_round [.int mem0, .int m, .lst (dueL sh), d] S k xk := by
  walk_at "i"
  walk_at "s"
  walk_at "s"
  rw [List.append_assoc, List.length_append]
  simp only [List.cons_append, List.nil_append, List.length_cons, List.length_nil, Nat.zero_add]
  have st : S ++ [Cel.lst [], Cel.lst []] = S ++ [Cel.lst (vI []), Cel.lst (vI [])] := rfl
  rw [st]
  have dn : ∀ (k' : KD) (T : List Cel), k (.lst (vI [])) S → (D.lst (vI [])).pure = true ∧ List.take S.length (S ++ T) = S ∧ k (.lst (vI [])) S := fun _ T hk => ⟨lst_pure (vI_pure _), List.take_left' rfl, hk⟩
  refine seq_cut (fun s' S' => ∃ T, S' = S ++ T) (fun Q hQ => ?_) ?_
  · walk_at "w"
    refine ⟨by omega, by omega, ?_⟩
    rw [Int.toNat_natCast]
    refine for_rng (fun t s' S' => ∃ (g : List Int) (mem : Int) (o6 o7 : Option D), s' = [some (.int mem), some (.int m), some (.lst (dueL sh)), some d, some (.cell S.length), some (.cell (S.length + 1)), o6, o7] ∧ S' = S ++ [.lst (vI (g.map fun n => (nthD sh n).a)), .lst (vI g)] ∧ g.length = t ∧ Th.Pth sh mem0 g mem ∧ (g.map fun n => (nthD sh n).a).Nodup ∧ mem ∉ (g.map fun n => (nthD sh n).a) ∧ ∀ n ∈ g, 0 ≤ n ∧ n < (sh.length : Int) ∧ 0 < gI left n) ⟨[], mem0, _, _, rfl, rfl, rfl, rfl, by simp, by simp, by simp⟩ (fun t ht s' S' ⟨g, mem, o6, o7, e1, e2, hgl, hp, nd, hno, hrg⟩ nx hnx => ?_) fun s' S' ⟨g, mem, o6, o7, e1, e2, _⟩ => hQ _ _ ⟨_, e2⟩
    subst e1 e2
    have hcl : (g.map fun n => (nthD sh n).a).length = t := by rw [List.length_map]; exact hgl
    walk_at "s"
    refine ⟨⟨_, lview_c app_get0⟩, _, app_get0, szlt (by rw [vI_len]; omega), ?_⟩
    rw [app_set0]
    walk_at "s"
    refine lawon_sp mem sh left d _ _ _ (lv_app hd) ll hl ?_ fun n hn hpos ha => ?_
    · walk_at "s"
      exact dn k _ h0
    have hx := Th.nthD_get hn
    have pa := Th.pth_app hp ha
    have ec : (g.map fun n => (nthD sh n).a) ++ [mem] = (g ++ [(n : Int)]).map fun n => (nthD sh n).a := by rw [List.map_append, List.map_singleton, ha]
    have nd2 : ((g ++ [(n : Int)]).map fun n => (nthD sh n).a).Nodup := by
      rw [← ec]
      exact List.nodup_append.mpr ⟨nd, by simp, fun a ha' b hb => by
        rw [List.mem_singleton] at hb
        subst hb
        exact fun e => hno (e ▸ ha')⟩
    have hrg2 : ∀ k ∈ g ++ [(n : Int)], 0 ≤ k ∧ k < (sh.length : Int) ∧ 0 < gI left k := fun k hk => by
      rcases List.mem_append.mp hk with hk | hk
      · exact hrg k hk
      · rw [List.mem_singleton] at hk
        subst hk
        exact ⟨by omega, by omega, hpos⟩
    have e5 : vI (g.map fun n => (nthD sh n).a) ++ [D.int mem] = vI ((g ++ [(n : Int)]).map fun n => (nthD sh n).a) := by rw [← ec]; unfold vI; simp
    have e6 : vI g ++ [D.int (n : Int)] = vI (g ++ [(n : Int)]) := by unfold vI; simp
    have hl2 : (g ++ [(n : Int)]).length = t + 1 := by rw [List.length_append, List.length_singleton, hgl]
    walk_at "s"
    walk_at "s"
    refine ⟨⟨_, lview_c app_get1⟩, _, app_get1, szlt (by rw [vI_len]; omega), ?_⟩
    rw [app_set1, e5, e6]
    generalize nthD sh (n : Int) = x at hx pa
    generalize g ++ [(n : Int)] = g2 at pa nd2 hrg2 hl2
    walk_at "s"
    refine ⟨_, at_dueL hx, ?_⟩
    walk_at "w"
    refine inW_vI (lview_c app_get0) ?_
    walk_at "w"
    by_cases c : x.b ∈ g2.map fun n => (nthD sh n).a
    · rw [if_pos c]
      obtain ⟨j, hj⟩ := List.mem_iff_getElem?.mp c
      have hjl := (List.getElem?_eq_some_iff.mp hj).1
      walk_at "w"
      refine ⟨⟨_, lview_c app_get0⟩, ?_⟩
      refine ⟨_, j, .int x.b, lview_c app_get0, rfl, flat_vI, by unfold vI; rw [List.getElem?_map, hj]; rfl, by simp [eqF], fun i z' hi hz' => ?_, ?_⟩
      · obtain ⟨z, hz, rfl⟩ := vI_get hz'
        have hne : z ≠ x.b := fun e => by
          subst e
          have hil := (List.getElem?_eq_some_iff.mp hz).1
          have := (List.getElem_inj nd2 (i := i) (j := j) (h₀ := hil) (h₁ := hjl)).mp (by rw [(List.getElem?_eq_some_iff.mp hz).2, (List.getElem?_eq_some_iff.mp hj).2])
          omega
        unfold eqF
        simp [hne]
      walk_at "w"
      refine ⟨_, lview_c app_get1, ?_⟩
      walk_at "w"
      rw [List.length_map] at hjl
      have ec2 : cutD (vI g2) (some (j : Int)) none = vI (g2.drop j) := by
        rw [cut_drop (by omega)]
        unfold vI
        rw [Int.toNat_natCast, List.map_drop]
      rw [ec2]
      exact ⟨lst_pure (vI_pure _), List.take_left' rfl, h1 _ (Th.rnd_of pa nd2 hrg2 hj) (by rw [List.length_drop]; omega)⟩
    · rw [if_neg c]
      exact hnx _ _ ⟨g2, x.b, _, _, rfl, rfl, hl2, pa, nd2, c, hrg2⟩
  rintro s' S' ⟨T, rfl⟩
  walk_at "w"
  exact dn k _ h0

theorem lawother_sp (ns : List Int) (m : Nat) (sh : List Dd) (S : Sto) (k : KD) (xk : XD) (hns : ns.length ≤ 63) (hm : 1 ≤ m) (m1 : m ≤ 1000) (hl : sh.length ≤ 1000) (hs : ∀ x ∈ sh, x.In (m : Int)) (h : ∀ l : List Int, Th.Cand m sh l → k (.lst (vI l)) S) : w__law_other [.scr (ns.map .int), .int m, .lst (dueL sh)] S k xk := by
  walk_at "i"
  walk_at "s"
  refine vlc_list D.int Dd.d sh (fun _ x c => c = x.c) (by omega) trivial (fun n b hb k' hk => ?_) fun as h1 h2 => ?_
  · walk_at "w"
    exact hk _ rfl
  obtain rfl : as = sh.map Dd.c := list_eq (by simpa using h1) fun n x y e1 e2 => by
    rw [List.getElem?_map] at e2
    cases e : sh[n]? with
    | none => rw [e] at e2; cases e2
    | some z =>
      rw [e] at e2
      cases e2
      exact h2 n z x e e1
  have e0 : ∀ v : List Int, v.map D.int = vI v := fun _ => rfl
  rw [e0]
  clear h1 h2
  refine seq_cut (fun s' S' => ∃ (o4 o5 o6 o7 o8 : Option D) (l : List Int), s' = [some (.scr (ns.map .int)), some (.int m), some (.lst (dueL sh)), some (.cell S.length), o4, o5, o6, o7, o8, none] ∧ S' = S ++ [.lst (vI l)] ∧ Th.Cand m sh l) (fun Q hQ => ?_) ?_
  · walk_at "w"
    refine ⟨by decide, by decide, ?_⟩
    refine for_rng (fun t s' S' => ∃ (o4 o5 o6 o7 o8 : Option D) (l : List Int), s' = [some (.scr (ns.map .int)), some (.int m), some (.lst (dueL sh)), some (.cell S.length), o4, o5, o6, o7, o8, none] ∧ S' = S ++ [.lst (vI l)] ∧ Th.Cand m sh l) ⟨_, _, _, _, _, sh.map Dd.c, rfl, rfl, Th.cand_self hs⟩ (fun t ht s' S' ⟨o4, o5, o6, o7, o8, l, e1, e2, hc⟩ nx hnx => ?_) fun s' S' z => hQ _ _ z
    subst e1 e2
    have hll := hc.ll
    walk_at "s"
    refine cell_sp _ _ _ _ _ (by omega) hns ?_
    walk_at "w"
    refine ⟨by omega, ?_⟩
    generalize (cellv ns (3 + t) + t).fmod (m : Int) = mem
    walk_at "s"
    have fin0 := fun s' => hnx s' (S ++ [.lst (vI l)])
    refine lawround_sp m mem sh l _ _ _ _ (lview_c stl_get) hll hl m1 ?_ fun rg hr hrl => ?_
    · walk_at "w"
      exact fin0 _ ⟨_, _, _, _, _, l, rfl, rfl, hc⟩
    have gl : lview (S ++ [Cel.lst (vI l)]) (.cell S.length) = some (vI l) := lview_c stl_get
    walk_at "w"
    by_cases c : 0 < rg.length
    · rw [if_pos (by omega)]
      walk_at "s"
      refine vlc_list D.int D.int rg (fun _ n c => c = gI l n) (by omega) trivial (fun i n hn k' hk => ?_) fun as a1 a2 => ?_
      · have h0 := hr.rng n (List.mem_of_getElem? hn)
        walk_at "w"
        exact ⟨_, at_vI h0.1 (by omega), hk _ rfl⟩
      have ea : as = rg.map (gI l) := list_eq (by simpa using a1) fun n x y e1 e2 => by
        rw [List.getElem?_map] at e2
        cases e : rg[n]? with
        | none => rw [e] at e2; cases e2
        | some z =>
          rw [e] at e2
          cases e2
          exact a2 n z x e e1
      subst ea
      clear a1 a2
      walk_at "w"
      refine ⟨rg.map (gI l), rfl, by rw [List.length_map]; exact c, fun c1 h1 h2 => ?_⟩
      have hc1 : 0 ≤ c1 ∧ ∀ n ∈ rg, c1 ≤ gI l n := ⟨by
        obtain ⟨n, hn, rfl⟩ := List.mem_map.mp h1
        have := (hr.rng n hn).2.2
        omega, fun n hn => h2 _ (List.mem_map.mpr ⟨n, hn, rfl⟩)⟩
      clear h1 h2
      walk_at "s"
      refine cell_sp _ _ _ _ _ (by omega) hns ?_
      walk_at "w"
      have hh : 0 ≤ c1 / 2 ∧ ∀ n ∈ rg, c1 / 2 ≤ gI l n := ⟨by have := hc1.1; omega, fun n hn => by have := hc1.1; have := hc1.2 n hn; omega⟩
      split
      case isTrue =>
        clear hc1
        generalize c1 / 2 = c2 at hh
        have erg : vI rg = rg.map D.int := rfl
        rw [erg]
        refine for_list D.int rg (fun j s' S' => ∃ (o8 : Option D), s' = [some (.scr (ns.map .int)), some (.int m), some (.lst (dueL sh)), some (.cell S.length), some (.int t), some (.int mem), some (.lst (rg.map D.int)), some (.int c2), o8, none] ∧ S' = S ++ [.lst (vI (subR c2 l (rg.take j)))]) ⟨_, rfl, rfl⟩ (fun _ _ _ _ => trivial) (fun j n hn s' S' ⟨o8, e1, e2⟩ nx2 hnx2 => ?_) fun s' S' ⟨o8, e1, e2⟩ => ?_
        · subst e1 e2
          have h0 := hr.rng n (List.mem_of_getElem? hn)
          rw [take_succ_of hn, subR_one] at hnx2
          have hsl := @subR_len c2 (rg.take j) l
          generalize subR c2 l (rg.take j) = l2 at hnx2 hsl
          walk_at "w"
          refine ⟨_, at_vI h0.1 (by omega), ?_⟩
          walk_at "w"
          refine sto_vI stl_get h0.1 (by omega) ?_
          rw [stl_set]
          exact hnx2 _ _ ⟨_, rfl, rfl⟩
        · rw [List.take_length] at e2
          exact hnx _ _ ⟨_, _, _, _, _, _, e1, e2, hc.sub hr hh.1 hh.2⟩
      case isFalse =>
        clear hh
        have hh := hc1
        clear hc1
        generalize c1 = c2 at hh
        have erg : vI rg = rg.map D.int := rfl
        rw [erg]
        refine for_list D.int rg (fun j s' S' => ∃ (o8 : Option D), s' = [some (.scr (ns.map .int)), some (.int m), some (.lst (dueL sh)), some (.cell S.length), some (.int t), some (.int mem), some (.lst (rg.map D.int)), some (.int c2), o8, none] ∧ S' = S ++ [.lst (vI (subR c2 l (rg.take j)))]) ⟨_, rfl, rfl⟩ (fun _ _ _ _ => trivial) (fun j n hn s' S' ⟨o8, e1, e2⟩ nx2 hnx2 => ?_) fun s' S' ⟨o8, e1, e2⟩ => ?_
        · subst e1 e2
          have h0 := hr.rng n (List.mem_of_getElem? hn)
          rw [take_succ_of hn, subR_one] at hnx2
          have hsl := @subR_len c2 (rg.take j) l
          generalize subR c2 l (rg.take j) = l2 at hnx2 hsl
          walk_at "w"
          refine ⟨_, at_vI h0.1 (by omega), ?_⟩
          walk_at "w"
          refine sto_vI stl_get h0.1 (by omega) ?_
          rw [stl_set]
          exact hnx2 _ _ ⟨_, rfl, rfl⟩
        · rw [List.take_length] at e2
          exact hnx _ _ ⟨_, _, _, _, _, _, e1, e2, hc.sub hr hh.1 hh.2⟩
    · rw [if_neg (by omega)]
      exact fin0 _ ⟨_, _, _, _, _, l, rfl, rfl, hc⟩
  rintro _ _ ⟨o4, o5, o6, o7, o8, l, rfl, rfl, hc⟩
  walk_at "w"
  exact ⟨lst_pure (vI_pure _), h l hc⟩


theorem law_true (ns : List Int) (hl : ns.length ≤ 63) (hb : ∀ z ∈ ns, Builtin.Int.intBits z ≤ 1048576) : w_law [.scr (ns.map .int)] [] (fun d _ => d = .bl true) fun _ _ => False := by
  walk_at "i"
  walk_at "s"
  walk_at "c"
  have z0 := @emod_lo (cellv ns 0) 6 (by decide)
  have z1 := @emod_hi (cellv ns 0) 6 (by decide)
  generalize (cellv ns 0 % 6) = z at z0 z1
  obtain ⟨m, hm⟩ : ∃ m : Nat, (m : Int) = 1 + z := ⟨(1 + z).toNat, by omega⟩
  rw [← hm]
  walk_at "s"
  refine lsheet_sp ns m 10 _ _ _ hl (by omega) (by decide) (by decide) fun sh0 sl0 hs0 _ => ?_
  walk_at "w"
  have ed : ∀ v : List Dd, v.map Dd.d = dueL v := fun _ => rfl
  rw [← ed]
  refine vlc_list Dd.d Dd.d sh0 (fun _ _ y => y.In (m : Int)) (by omega) trivial (fun n x hx k' hk => ?_) fun sh b1 hs1 => ?_
  · have hx := hs0 x (List.mem_of_getElem? hx)
    walk_at "w"
    refine hk ⟨x.a, x.b, x.r, x.c / 10⟩ ?_
    unfold Dd.Ok at hx
    unfold Dd.In
    dsimp only
    omega
  rw [ed]
  have sl : sh.length ≤ 10 := by omega
  have hs : ∀ x ∈ sh, x.In (m : Int) := fun x hx => by
    obtain ⟨n, hn⟩ := List.mem_iff_getElem?.mp hx
    have hnl := (List.getElem?_eq_some_iff.mp hn).1
    exact hs1 n sh0[n] x (List.getElem?_eq_getElem (by omega)) hn
  clear hs1 b1 hs0 sl0 ed
  walk_at "s"
  refine thinned_sp m sh _ _ _ (by omega) (by omega) hs fun left Hl ll hl1 hbd hH hnet => ?_
  have hc : Th.Cand m sh left := ⟨ll, hbd, hnet⟩
  walk_at "s"
  refine lwholes_sp _ _ _ _ _ (by omega) ?_
  walk_at "w"
  refine lringless_in _ m sh left _ _ _ rfl (by omega) (by omega) ll (by omega) ?_
  rw [decide_eq_true (Th.hts_none hH hs ll)]
  walk_at "s"
  walk_at "w"
  refine ⟨left, rfl, ?_⟩
  walk_at "s"
  refine cut_sp m sh _ _ _ (by omega) (by omega) (by omega) hs fun cs L hcs hcl hp => ?_
  have hcut : Th.Cand m sh (runC (sh.map Dd.c) cs) := by
    have l0 : (sh.map Dd.c).length = sh.length := by simp
    have n0 : ∀ z ∈ sh.map Dd.c, 0 ≤ z := fun z hz => by
      obtain ⟨x, hx, rfl⟩ := List.mem_map.mp hz
      exact (hs x hx).2.2.2.2.2.2.2
    have hok := hcs.ok l0 n0 cs.length
    have hle := cuts_le hcs l0 n0 cs.length
    have hfl := fun j => @cuts_flows sh _ cs j hcs l0 n0 cs.length
    rw [List.take_length] at hok hle
    simp only [List.take_length] at hfl
    refine ⟨hok.1, fun k x e => ?_, fun v hv => ?_⟩
    · have hk := (List.getElem?_eq_some_iff.mp e).1
      have := hle k (by omega)
      rw [gI_at (l := sh.map Dd.c) (z := x.c) (by rw [List.getElem?_map, e]; rfl)] at this
      refine ⟨?_, this⟩
      rw [gI_nat (by rw [hok.1]; exact hk)]
      exact hok.2 _ (List.getElem_mem _)
    · rw [← Th.net_flow, ← Th.net_flow]
      have := hfl v
      unfold flows at this
      rw [withA_self] at this
      exact this
  have hq := hc.least hH hs hcut
  walk_at "w"
  refine ⟨_, rfl, ?_⟩
  walk_at "w"
  rw [if_neg (by omega)]
  refine lawother_sp ns m sh _ _ _ hl (by omega) (by omega) (by omega) hs fun l2 hc2 => ?_
  have hq2 := hc.least hH hs hc2
  walk_at "w"
  refine ⟨_, rfl, ?_⟩
  walk_at "w"
  rw [if_neg (by omega)]
  clear hq2 hc2 l2 hq hcut hp hcl hcs
  have hwa : ∀ x ∈ withA sh left, x.In (m : Int) := fun x hx => by
    obtain ⟨k, hk⟩ := List.mem_iff_getElem?.mp hx
    have hkl := (List.getElem?_eq_some_iff.mp hk).1
    rw [withA_len ll] at hkl
    have e := List.getElem?_eq_getElem hkl
    rw [withA_get e (by omega)] at hk
    have h1 := hs _ (List.mem_of_getElem? e)
    have h2 := hbd k _ e
    rw [← Option.some.inj hk]
    exact ⟨h1.1, h1.2.1, h1.2.2.1, h1.2.2.2.1, h1.2.2.2.2.1, h1.2.2.2.2.2.1, h1.2.2.2.2.2.2.1, h2.1⟩
  walk_at "s"
  refine lwith_sp _ _ sh left _ _ _ rfl rfl ll (by omega) ?_
  walk_at "w"
  refine thinned_sp m (withA sh left) _ _ _ (by omega) (by rw [withA_len ll]; omega) hwa fun l2 _ ll2 _ hbd2 _ hnet2 => ?_
  walk_at "w"
  refine ⟨l2, rfl, ?_⟩
  rw [hc.again hH hs ⟨ll2, hbd2, hnet2⟩]
  walk_at "w"
  clear hnet2 hbd2 ll2
  walk_at "s"
  have er : (dueL sh).reverse = dueL sh.reverse := by unfold dueL; rw [List.map_reverse]
  rw [er]
  have hsr : ∀ x ∈ sh.reverse, x.In (m : Int) := fun x hx => hs x (List.mem_reverse.mp hx)
  refine thinned_sp m sh.reverse _ _ _ (by omega) (by rw [List.length_reverse]; omega) hsr fun l3 H3 ll3 _ hbd3 hH3 hnet3 => ?_
  have h3 : l3.sum = left.sum := by
    have c3 : Th.Cand m sh.reverse l3 := ⟨ll3, hbd3, hnet3⟩
    have a1 := c3.least hH3 hsr hc.rev
    have c4 := c3.rev
    rw [List.reverse_reverse] at c4
    have a2 := hc.least hH hs c4
    rw [List.sum_reverse] at a1 a2
    omega
  walk_at "w"
  refine ⟨l3, rfl, ?_⟩
  rw [h3]
  walk_at "s"
  have ed : ∀ v : List Dd, v.map Dd.d = dueL v := fun _ => rfl
  rw [← ed]
  refine vlc_list Dd.d Dd.d sh (fun _ x y => y = Th.tri x) (by omega) trivial (fun n x hx k' hk => ?_) fun s3 b1 b2 => ?_
  · walk_at "w"
    exact hk (Th.tri x) rfl
  obtain rfl : s3 = sh.map Th.tri := list_eq (by simpa using b1) fun n x y e1 e2 => by
    rw [List.getElem?_map] at e2
    cases e : sh[n]? with
    | none => rw [e] at e2; cases e2
    | some z =>
      rw [e] at e2
      cases e2
      exact b2 n z x e e1
  rw [ed]
  have hs3 : ∀ x ∈ sh.map Th.tri, x.In (m : Int) := fun x hx => by
    obtain ⟨y, hy, rfl⟩ := List.mem_map.mp hx
    have := hs y hy
    unfold Dd.In Th.tri at *
    dsimp only
    omega
  walk_at "w"
  refine thinned_sp m (sh.map Th.tri) _ _ _ (by omega) (by rw [List.length_map]; omega) hs3 fun l4 H4 ll4 _ hbd4 hH4 hnet4 => ?_
  walk_at "w"
  refine ⟨l4, rfl, ?_⟩
  rw [hc.thrice hH hs ⟨ll4, hbd4, hnet4⟩ hH4, decide_eq_true rfl]

end Lw
namespace Lw
open PySem PySem.Spec PyProof.Rows L2 Ab
def u_reached : WF := wTrim (wDef 3 9 (wSeq (wSet 3 (wLcC 8 [8] (wRng1 (wCons (wVar 0) wNil)) wYes (wIfE (wTest (wOp (inW false) (wVar 8) (wVar 1))) (wC (.int 0)) (wC .non))))
  (wSeq (wSet 4 (wLcC 8 [8] (wRng1 (wCons (wVar 0) wNil)) wYes (wC .non)))
  (wSeq (wFor 5 (wRng1 (wCons (wVar 0) wNil))
  (wFor 6 (wSeqI (wVar 2))
  (wIf (wTest (wOp (isNW true) (wOp ixW (wVar 3) (wOp ixW (wVar 6) (wC (.int 0)))) (wC .non))) (wSeq (wSet 7 (wOp addW (wOp addW (wOp ixW (wVar 3) (wOp ixW (wVar 6) (wC (.int 0)))) (wOp mulW (wC (.int 100)) (wOp ixW (wVar 6) (wC (.int 2))))) (wC (.int 1))))
  (wIf (wOr (wTest (wOp (isNW false) (wOp ixW (wVar 3) (wOp ixW (wVar 6) (wC (.int 1)))) (wC .non))) (wTest (wOp ltW (wVar 7) (wOp ixW (wVar 3) (wOp ixW (wVar 6) (wC (.int 1))))))) (wSeq (wSto (wVar 7) (wVar 3) (wOp ixW (wVar 6) (wC (.int 1))))
  (wSto (wVar 6) (wVar 4) (wOp ixW (wVar 6) (wC (.int 1))))) wNx)) wNx)))
  (wRet (wFrzD (wTup (wCons (wVar 3) (wCons (wVar 4) wNil)))))))))
theorem l_reached : ∀ ds S kk xk, u_reached ds S kk xk → ds.length = 3 := fun _ _ _ _ h => h.1
theorem uw_reached : u_reached = w_reached := by
  unfold u_reached w_reached
  simp only [vVar_s, vC_s, vOp_s, vNeg_s, vTest_s, vChain_s, vAnd_s, vOr_s, vNot_s, vAndV_s, vOrV_s, vNotV_s, vIfE_s, vNoP_s, vSoP_s, vSl_s, vNil_s, vCons_s, vTup_s, vLst_s, vLstC_s, vFrz_s, vB_s, vIsi_s, vM_s, vM0_s, vCall_s, vSeqI_s, vRng1_s, vRng2_s, vYes_s, vLc_s, vLcC_s, vNx_s, vSeq_s, vNever_s, vDrop_s, vRet_s, vRetN_s, vIf_s, vSet_s, vSto_s, vFor_s, vWhile_s, vRaise_s, vDef_s, vTrim_s, vTrimC_s, vTry_s, vIsE_s, vFrzD_s, vLstRev_s, vLstRevC_s, vLstRg_s, vLstRgC_s, vRng3_s, vRem_s, vFld_s, vSetF_s, vMeth_s, vMake_s, vTrimM_s, vCallE_s, vDGet2_s, vDNew_s, vDPut_s, vKeysL_s, vLock_s, vPnil_s, vPcons_s, vDisp_s, vTryO_s, vSortK_s, vTryK_s, vNevE_s, vSlX_s, vUp_s, vJo_s]
def u_nearest : WF := wDef 2 4 (wSeq (wSet 2 (wC .non))
  (wSeq (wFor 3 (wRng1 (wCons (wB lenF (wCons (wVar 0) wNil)) wNil))
  (wIf (wAnd (wTest (wOp gtW (wOp ixW (wVar 1) (wVar 3)) (wC (.int 0)))) (wTest (wOp (isNW true) (wOp ixW (wVar 0) (wVar 3)) (wC .non)))) (wIf (wOr (wTest (wOp (isNW false) (wVar 2) (wC .non))) (wTest (wOp ltW (wOp ixW (wVar 0) (wVar 3)) (wOp ixW (wVar 0) (wVar 2))))) (wSet 2 (wVar 3)) wNx) wNx))
  (wRet (wVar 2))))
theorem l_nearest : ∀ ds S kk xk, u_nearest ds S kk xk → ds.length = 2 := fun _ _ _ _ h => h.1
theorem uw_nearest : u_nearest = w_nearest := by
  unfold u_nearest w_nearest
  simp only [vVar_s, vC_s, vOp_s, vNeg_s, vTest_s, vChain_s, vAnd_s, vOr_s, vNot_s, vAndV_s, vOrV_s, vNotV_s, vIfE_s, vNoP_s, vSoP_s, vSl_s, vNil_s, vCons_s, vTup_s, vLst_s, vLstC_s, vFrz_s, vB_s, vIsi_s, vM_s, vM0_s, vCall_s, vSeqI_s, vRng1_s, vRng2_s, vYes_s, vLc_s, vLcC_s, vNx_s, vSeq_s, vNever_s, vDrop_s, vRet_s, vRetN_s, vIf_s, vSet_s, vSto_s, vFor_s, vWhile_s, vRaise_s, vDef_s, vTrim_s, vTrimC_s, vTry_s, vIsE_s, vFrzD_s, vLstRev_s, vLstRevC_s, vLstRg_s, vLstRgC_s, vRng3_s, vRem_s, vFld_s, vSetF_s, vMeth_s, vMake_s, vTrimM_s, vCallE_s, vDGet2_s, vDNew_s, vDPut_s, vKeysL_s, vLock_s, vPnil_s, vPcons_s, vDisp_s, vTryO_s, vSortK_s, vTryK_s, vNevE_s, vSlX_s, vUp_s, vJo_s]
def u_way_to : WF := wTrim (wDef 2 3 (wSeq (wSet 2 (wLstC wNil))
  (wSeq (wWhile (wTest (wOp (isNW true) (wOp ixW (wVar 1) (wVar 0)) (wC .non)))
  (wSeq (wDrop (wM appF (wVar 2) (wCons (wOp ixW (wVar 1) (wVar 0)) wNil)))
  (wSet 0 (wOp ixW (wOp ixW (wVar 1) (wVar 0)) (wC (.int 0))))))
  (wRet (wFrzD (wTup (wCons (wVar 0) (wCons (wVar 2) wNil))))))))
theorem l_way_to : ∀ ds S kk xk, u_way_to ds S kk xk → ds.length = 2 := fun _ _ _ _ h => h.1
theorem uw_way_to : u_way_to = w_way_to := by
  unfold u_way_to w_way_to
  simp only [vVar_s, vC_s, vOp_s, vNeg_s, vTest_s, vChain_s, vAnd_s, vOr_s, vNot_s, vAndV_s, vOrV_s, vNotV_s, vIfE_s, vNoP_s, vSoP_s, vSl_s, vNil_s, vCons_s, vTup_s, vLst_s, vLstC_s, vFrz_s, vB_s, vIsi_s, vM_s, vM0_s, vCall_s, vSeqI_s, vRng1_s, vRng2_s, vYes_s, vLc_s, vLcC_s, vNx_s, vSeq_s, vNever_s, vDrop_s, vRet_s, vRetN_s, vIf_s, vSet_s, vSto_s, vFor_s, vWhile_s, vRaise_s, vDef_s, vTrim_s, vTrimC_s, vTry_s, vIsE_s, vFrzD_s, vLstRev_s, vLstRevC_s, vLstRg_s, vLstRgC_s, vRng3_s, vRem_s, vFld_s, vSetF_s, vMeth_s, vMake_s, vTrimM_s, vCallE_s, vDGet2_s, vDNew_s, vDPut_s, vKeysL_s, vLock_s, vPnil_s, vPcons_s, vDisp_s, vTryO_s, vSortK_s, vTryK_s, vNevE_s, vSlX_s, vUp_s, vJo_s]
def u_steps_of : WF := wTrim (wDef 2 5 (wSeq (wSet 2 (wLstC wNil))
  (wSeq (wFor 3 (wRng1 (wCons (wB lenF (wCons (wVar 0) wNil)) wNil))
  (wSeq (wSet 4 (wOp ixW (wVar 0) (wVar 3)))
  (wSeq (wIf (wTest (wOp ltW (wOp ixW (wVar 1) (wVar 3)) (wOp ixW (wVar 4) (wC (.int 3))))) (wDrop (wM appF (wVar 2) (wCons (wTup (wCons (wOp ixW (wVar 4) (wC (.int 0))) (wCons (wOp ixW (wVar 4) (wC (.int 1))) (wCons (wC (.int 1)) (wCons (wVar 3) wNil))))) wNil))) wNx)
  (wIf (wTest (wOp gtW (wOp ixW (wVar 1) (wVar 3)) (wC (.int 0)))) (wDrop (wM appF (wVar 2) (wCons (wTup (wCons (wOp ixW (wVar 4) (wC (.int 1))) (wCons (wOp ixW (wVar 4) (wC (.int 0))) (wCons (wNeg (wC (.int 1))) (wCons (wVar 3) wNil))))) wNil))) wNx))))
  (wRet (wFrz (wVar 2))))))
theorem l_steps_of : ∀ ds S kk xk, u_steps_of ds S kk xk → ds.length = 2 := fun _ _ _ _ h => h.1
theorem uw_steps_of : u_steps_of = w_steps_of := by
  unfold u_steps_of w_steps_of
  simp only [vVar_s, vC_s, vOp_s, vNeg_s, vTest_s, vChain_s, vAnd_s, vOr_s, vNot_s, vAndV_s, vOrV_s, vNotV_s, vIfE_s, vNoP_s, vSoP_s, vSl_s, vNil_s, vCons_s, vTup_s, vLst_s, vLstC_s, vFrz_s, vB_s, vIsi_s, vM_s, vM0_s, vCall_s, vSeqI_s, vRng1_s, vRng2_s, vYes_s, vLc_s, vLcC_s, vNx_s, vSeq_s, vNever_s, vDrop_s, vRet_s, vRetN_s, vIf_s, vSet_s, vSto_s, vFor_s, vWhile_s, vRaise_s, vDef_s, vTrim_s, vTrimC_s, vTry_s, vIsE_s, vFrzD_s, vLstRev_s, vLstRevC_s, vLstRg_s, vLstRgC_s, vRng3_s, vRem_s, vFld_s, vSetF_s, vMeth_s, vMake_s, vTrimM_s, vCallE_s, vDGet2_s, vDNew_s, vDPut_s, vKeysL_s, vLock_s, vPnil_s, vPcons_s, vDisp_s, vTryO_s, vSortK_s, vTryK_s, vNevE_s, vSlX_s, vUp_s, vJo_s]
def u_heights_of : WF := wTrim (wDef 3 8 (wSeq (wSet 3 (wLcC 7 [7] (wRng1 (wCons (wVar 0) wNil)) wYes (wC (.int 0))))
  (wSeq (wSet 4 (wCall u_steps_of (wCons (wVar 1) (wCons (wVar 2) wNil))))
  (wSeq (wFor 5 (wRng1 (wCons (wVar 0) wNil))
  (wFor 6 (wSeqI (wVar 4))
  (wSto (wB minF (wCons (wOp ixW (wVar 3) (wOp ixW (wVar 6) (wC (.int 1)))) (wCons (wOp addW (wOp ixW (wVar 3) (wOp ixW (wVar 6) (wC (.int 0)))) (wOp ixW (wVar 6) (wC (.int 2)))) wNil))) (wVar 3) (wOp ixW (wVar 6) (wC (.int 1))))))
  (wRet (wFrz (wVar 3)))))))
theorem l_heights_of : ∀ ds S kk xk, u_heights_of ds S kk xk → ds.length = 3 := fun _ _ _ _ h => h.1
theorem uw_heights_of : u_heights_of = w_heights_of := by
  unfold u_heights_of w_heights_of
  simp only [vVar_s, vC_s, vOp_s, vNeg_s, vTest_s, vChain_s, vAnd_s, vOr_s, vNot_s, vAndV_s, vOrV_s, vNotV_s, vIfE_s, vNoP_s, vSoP_s, vSl_s, vNil_s, vCons_s, vTup_s, vLst_s, vLstC_s, vFrz_s, vB_s, vIsi_s, vM_s, vM0_s, vCall_s, vSeqI_s, vRng1_s, vRng2_s, vYes_s, vLc_s, vLcC_s, vNx_s, vSeq_s, vNever_s, vDrop_s, vRet_s, vRetN_s, vIf_s, vSet_s, vSto_s, vFor_s, vWhile_s, vRaise_s, vDef_s, vTrim_s, vTrimC_s, vTry_s, vIsE_s, vFrzD_s, vLstRev_s, vLstRevC_s, vLstRg_s, vLstRgC_s, vRng3_s, vRem_s, vFld_s, vSetF_s, vMeth_s, vMake_s, vTrimM_s, vCallE_s, vDGet2_s, vDNew_s, vDPut_s, vKeysL_s, vLock_s, vPnil_s, vPcons_s, vDisp_s, vTryO_s, vSortK_s, vTryK_s, vNevE_s, vSlX_s, vUp_s, vJo_s, uw_steps_of]
def u_claims : WF := wTrim (wDef 2 5 (wSeq (wSet 2 (wLcC 4 [4] (wRng1 (wCons (wVar 0) wNil)) wYes (wC (.int 0))))
  (wSeq (wFor 3 (wSeqI (wVar 1))
  (wSto (wOp addW (wOp ixW (wVar 2) (wOp ixW (wVar 3) (wC (.int 1)))) (wOp ixW (wVar 3) (wC (.int 3)))) (wVar 2) (wOp ixW (wVar 3) (wC (.int 1)))))
  (wRet (wFrz (wVar 2))))))
def u_claims_C : WF := wTrimC (wDef 2 5 (wSeq (wSet 2 (wLcC 4 [4] (wRng1 (wCons (wVar 0) wNil)) wYes (wC (.int 0))))
  (wSeq (wFor 3 (wSeqI (wVar 1))
  (wSto (wOp addW (wOp ixW (wVar 2) (wOp ixW (wVar 3) (wC (.int 1)))) (wOp ixW (wVar 3) (wC (.int 3)))) (wVar 2) (wOp ixW (wVar 3) (wC (.int 1)))))
  (wRet (wVar 2)))))
theorem l_claims_C : ∀ ds S kk xk, u_claims_C ds S kk xk → ds.length = 2 := fun _ _ _ _ h => h.1
theorem uw_claims_C : u_claims_C = w_claims_C := by
  unfold u_claims_C w_claims_C
  simp only [vVar_s, vC_s, vOp_s, vNeg_s, vTest_s, vChain_s, vAnd_s, vOr_s, vNot_s, vAndV_s, vOrV_s, vNotV_s, vIfE_s, vNoP_s, vSoP_s, vSl_s, vNil_s, vCons_s, vTup_s, vLst_s, vLstC_s, vFrz_s, vB_s, vIsi_s, vM_s, vM0_s, vCall_s, vSeqI_s, vRng1_s, vRng2_s, vYes_s, vLc_s, vLcC_s, vNx_s, vSeq_s, vNever_s, vDrop_s, vRet_s, vRetN_s, vIf_s, vSet_s, vSto_s, vFor_s, vWhile_s, vRaise_s, vDef_s, vTrim_s, vTrimC_s, vTry_s, vIsE_s, vFrzD_s, vLstRev_s, vLstRevC_s, vLstRg_s, vLstRgC_s, vRng3_s, vRem_s, vFld_s, vSetF_s, vMeth_s, vMake_s, vTrimM_s, vCallE_s, vDGet2_s, vDNew_s, vDPut_s, vKeysL_s, vLock_s, vPnil_s, vPcons_s, vDisp_s, vTryO_s, vSortK_s, vTryK_s, vNevE_s, vSlX_s, vUp_s, vJo_s]
def u_nets : WF := wTrim (wDef 2 4 (wSeq (wSet 2 (wCall u_claims_C (wCons (wVar 0) (wCons (wVar 1) wNil))))
  (wSeq (wFor 3 (wSeqI (wVar 1))
  (wSto (wOp subW (wOp ixW (wVar 2) (wOp ixW (wVar 3) (wC (.int 0)))) (wOp ixW (wVar 3) (wC (.int 3)))) (wVar 2) (wOp ixW (wVar 3) (wC (.int 0)))))
  (wRet (wFrz (wVar 2))))))
theorem l_nets : ∀ ds S kk xk, u_nets ds S kk xk → ds.length = 2 := fun _ _ _ _ h => h.1
theorem uw_nets : u_nets = w_nets := by
  unfold u_nets w_nets
  simp only [vVar_s, vC_s, vOp_s, vNeg_s, vTest_s, vChain_s, vAnd_s, vOr_s, vNot_s, vAndV_s, vOrV_s, vNotV_s, vIfE_s, vNoP_s, vSoP_s, vSl_s, vNil_s, vCons_s, vTup_s, vLst_s, vLstC_s, vFrz_s, vB_s, vIsi_s, vM_s, vM0_s, vCall_s, vSeqI_s, vRng1_s, vRng2_s, vYes_s, vLc_s, vLcC_s, vNx_s, vSeq_s, vNever_s, vDrop_s, vRet_s, vRetN_s, vIf_s, vSet_s, vSto_s, vFor_s, vWhile_s, vRaise_s, vDef_s, vTrim_s, vTrimC_s, vTry_s, vIsE_s, vFrzD_s, vLstRev_s, vLstRevC_s, vLstRg_s, vLstRgC_s, vRng3_s, vRem_s, vFld_s, vSetF_s, vMeth_s, vMake_s, vTrimM_s, vCallE_s, vDGet2_s, vDNew_s, vDPut_s, vKeysL_s, vLock_s, vPnil_s, vPcons_s, vDisp_s, vTryO_s, vSortK_s, vTryK_s, vNevE_s, vSlX_s, vUp_s, vJo_s, uw_claims_C]
def u_room_of : WF := wDef 3 3 (wSeq (wIf (wTest (wOp gtW (wOp ixW (wVar 0) (wC (.int 2))) (wC (.int 0)))) (wRet (wOp subW (wOp ixW (wOp ixW (wVar 1) (wOp ixW (wVar 0) (wC (.int 3)))) (wC (.int 3))) (wOp ixW (wVar 2) (wOp ixW (wVar 0) (wC (.int 3)))))) wNx)
  (wRet (wOp ixW (wVar 2) (wOp ixW (wVar 0) (wC (.int 3))))))
theorem l_room_of : ∀ ds S kk xk, u_room_of ds S kk xk → ds.length = 3 := fun _ _ _ _ h => h.1
theorem uw_room_of : u_room_of = w_room_of := by
  unfold u_room_of w_room_of
  simp only [vVar_s, vC_s, vOp_s, vNeg_s, vTest_s, vChain_s, vAnd_s, vOr_s, vNot_s, vAndV_s, vOrV_s, vNotV_s, vIfE_s, vNoP_s, vSoP_s, vSl_s, vNil_s, vCons_s, vTup_s, vLst_s, vLstC_s, vFrz_s, vB_s, vIsi_s, vM_s, vM0_s, vCall_s, vSeqI_s, vRng1_s, vRng2_s, vYes_s, vLc_s, vLcC_s, vNx_s, vSeq_s, vNever_s, vDrop_s, vRet_s, vRetN_s, vIf_s, vSet_s, vSto_s, vFor_s, vWhile_s, vRaise_s, vDef_s, vTrim_s, vTrimC_s, vTry_s, vIsE_s, vFrzD_s, vLstRev_s, vLstRevC_s, vLstRg_s, vLstRgC_s, vRng3_s, vRem_s, vFld_s, vSetF_s, vMeth_s, vMake_s, vTrimM_s, vCallE_s, vDGet2_s, vDNew_s, vDPut_s, vKeysL_s, vLock_s, vPnil_s, vPcons_s, vDisp_s, vTryO_s, vSortK_s, vTryK_s, vNevE_s, vSlX_s, vUp_s, vJo_s]
def u_thinned : WF := wTrim (wDef 2 14 (wSeq (wSet 2 (wLcC 11 [11] (wSeqI (wVar 1)) wYes (wC (.int 0))))
  (wSeq (wSet 3 (wLcC 12 [12] (wSeqI (wCall u_nets (wCons (wVar 0) (wCons (wVar 1) wNil)))) wYes (wB maxF (wCons (wC (.int 0)) (wCons (wNeg (wVar 12)) wNil)))))
  (wSeq (wSet 4 (wLcC 12 [12] (wSeqI (wCall u_nets (wCons (wVar 0) (wCons (wVar 1) wNil)))) wYes (wB maxF (wCons (wC (.int 0)) (wCons (wVar 12) wNil)))))
  (wSeq (wWhile (wTest (wOp gtW (wB sumF (wCons (wVar 3) wNil)) (wC (.int 0))))
  (wSeq (wSet 5 (wLc 13 [13] (wRng1 (wCons (wVar 0) wNil)) (wTest (wOp gtW (wOp ixW (wVar 3) (wVar 13)) (wC (.int 0)))) (wVar 13)))
  (wSeq (wSet 6 (wCall u_reached (wCons (wVar 0) (wCons (wVar 5) (wCons (wCall u_steps_of (wCons (wVar 1) (wCons (wVar 2) wNil))) wNil)))))
  (wSeq (wSet 7 (wCall u_nearest (wCons (wOp ixW (wVar 6) (wC (.int 0))) (wCons (wVar 4) wNil))))
  (wSeq (wSet 8 (wCall u_way_to (wCons (wVar 7) (wCons (wOp ixW (wVar 6) (wC (.int 1))) wNil))))
  (wSeq (wSet 9 (wB minF (wCons (wLc 10 [10] (wSeqI (wOp ixW (wVar 8) (wC (.int 1)))) wYes (wCall u_room_of (wCons (wVar 10) (wCons (wVar 1) (wCons (wVar 2) wNil))))) wNil)))
  (wSeq (wSet 9 (wB minF (wCons (wLst (wCons (wVar 9) (wCons (wOp ixW (wVar 3) (wOp ixW (wVar 8) (wC (.int 0)))) (wCons (wOp ixW (wVar 4) (wVar 7)) wNil)))) wNil)))
  (wSeq (wSto (wOp subW (wOp ixW (wVar 3) (wOp ixW (wVar 8) (wC (.int 0)))) (wVar 9)) (wVar 3) (wOp ixW (wVar 8) (wC (.int 0))))
  (wSeq (wSto (wOp subW (wOp ixW (wVar 4) (wVar 7)) (wVar 9)) (wVar 4) (wVar 7))
  (wFor 10 (wSeqI (wOp ixW (wVar 8) (wC (.int 1))))
  (wSto (wOp addW (wOp ixW (wVar 2) (wOp ixW (wVar 10) (wC (.int 3)))) (wOp mulW (wVar 9) (wOp ixW (wVar 10) (wC (.int 2))))) (wVar 2) (wOp ixW (wVar 10) (wC (.int 3))))))))))))))
  (wRet (wFrzD (wTup (wCons (wVar 2) (wCons (wCall u_heights_of (wCons (wVar 0) (wCons (wVar 1) (wCons (wVar 2) wNil)))) wNil))))))))))
theorem l_thinned : ∀ ds S kk xk, u_thinned ds S kk xk → ds.length = 2 := fun _ _ _ _ h => h.1
theorem uw_thinned : u_thinned = w_thinned := by
  unfold u_thinned w_thinned
  simp only [vVar_s, vC_s, vOp_s, vNeg_s, vTest_s, vChain_s, vAnd_s, vOr_s, vNot_s, vAndV_s, vOrV_s, vNotV_s, vIfE_s, vNoP_s, vSoP_s, vSl_s, vNil_s, vCons_s, vTup_s, vLst_s, vLstC_s, vFrz_s, vB_s, vIsi_s, vM_s, vM0_s, vCall_s, vSeqI_s, vRng1_s, vRng2_s, vYes_s, vLc_s, vLcC_s, vNx_s, vSeq_s, vNever_s, vDrop_s, vRet_s, vRetN_s, vIf_s, vSet_s, vSto_s, vFor_s, vWhile_s, vRaise_s, vDef_s, vTrim_s, vTrimC_s, vTry_s, vIsE_s, vFrzD_s, vLstRev_s, vLstRevC_s, vLstRg_s, vLstRgC_s, vRng3_s, vRem_s, vFld_s, vSetF_s, vMeth_s, vMake_s, vTrimM_s, vCallE_s, vDGet2_s, vDNew_s, vDPut_s, vKeysL_s, vLock_s, vPnil_s, vPcons_s, vDisp_s, vTryO_s, vSortK_s, vTryK_s, vNevE_s, vSlX_s, vUp_s, vJo_s, uw_reached, uw_nearest, uw_way_to, uw_steps_of, uw_heights_of, uw_nets, uw_room_of]
def u__law_cell : WF := wDef 2 2 (wSeq (wIf (wTest (wOp ltW (wVar 1) (wB lenF (wCons (wVar 0) wNil)))) (wRet (wOp ixW (wVar 0) (wVar 1))) wNx)
  (wRet (wC (.int 0))))
theorem l__law_cell : ∀ ds S kk xk, u__law_cell ds S kk xk → ds.length = 2 := fun _ _ _ _ h => h.1
theorem uw__law_cell : u__law_cell = w__law_cell := by
  unfold u__law_cell w__law_cell
  simp only [vVar_s, vC_s, vOp_s, vNeg_s, vTest_s, vChain_s, vAnd_s, vOr_s, vNot_s, vAndV_s, vOrV_s, vNotV_s, vIfE_s, vNoP_s, vSoP_s, vSl_s, vNil_s, vCons_s, vTup_s, vLst_s, vLstC_s, vFrz_s, vB_s, vIsi_s, vM_s, vM0_s, vCall_s, vSeqI_s, vRng1_s, vRng2_s, vYes_s, vLc_s, vLcC_s, vNx_s, vSeq_s, vNever_s, vDrop_s, vRet_s, vRetN_s, vIf_s, vSet_s, vSto_s, vFor_s, vWhile_s, vRaise_s, vDef_s, vTrim_s, vTrimC_s, vTry_s, vIsE_s, vFrzD_s, vLstRev_s, vLstRevC_s, vLstRg_s, vLstRgC_s, vRng3_s, vRem_s, vFld_s, vSetF_s, vMeth_s, vMake_s, vTrimM_s, vCallE_s, vDGet2_s, vDNew_s, vDPut_s, vKeysL_s, vLock_s, vPnil_s, vPcons_s, vDisp_s, vTryO_s, vSortK_s, vTryK_s, vNevE_s, vSlX_s, vUp_s, vJo_s]
def u__law_amount : WF := wDef 2 3 (wSeq (wSet 2 (wOp modW (wOp modW (wOp mulW (wVar 0) (wC (.int 1226874159))) (wC (.int 2147483579))) (wC (.int 5))))
  (wSeq (wIf (wTest (wOp eqW (wVar 2) (wC (.int 0)))) (wRet (wOp modW (wOp modW (wOp mulW (wVar 0) (wC (.int 62089911))) (wC (.int 2147483399))) (wC (.int 4)))) wNx)
  (wSeq (wIf (wTest (wOp eqW (wVar 2) (wC (.int 1)))) (wRet (wOp modW (wVar 1) (wC (.int 1000)))) wNx)
  (wSeq (wIf (wTest (wOp eqW (wVar 2) (wC (.int 2)))) (wRet (wOp modW (wOp modW (wOp mulW (wVar 0) (wC (.int 62089911))) (wC (.int 2147483399))) (wC (.int 1000)))) wNx)
  (wSeq (wIf (wTest (wOp eqW (wVar 2) (wC (.int 3)))) (wRet (wOp subW (wOp powW (wC (.int 10)) (wC (.int 12))) (wOp modW (wOp modW (wOp mulW (wVar 0) (wC (.int 62089911))) (wC (.int 2147483399))) (wC (.int 3))))) wNx)
  (wRet (wOp modW (wOp mulW (wVar 0) (wC (.int 1343714438))) (wOp addW (wOp powW (wC (.int 10)) (wC (.int 12))) (wC (.int 1))))))))))
theorem l__law_amount : ∀ ds S kk xk, u__law_amount ds S kk xk → ds.length = 2 := fun _ _ _ _ h => h.1
theorem uw__law_amount : u__law_amount = w__law_amount := by
  unfold u__law_amount w__law_amount
  simp only [vVar_s, vC_s, vOp_s, vNeg_s, vTest_s, vChain_s, vAnd_s, vOr_s, vNot_s, vAndV_s, vOrV_s, vNotV_s, vIfE_s, vNoP_s, vSoP_s, vSl_s, vNil_s, vCons_s, vTup_s, vLst_s, vLstC_s, vFrz_s, vB_s, vIsi_s, vM_s, vM0_s, vCall_s, vSeqI_s, vRng1_s, vRng2_s, vYes_s, vLc_s, vLcC_s, vNx_s, vSeq_s, vNever_s, vDrop_s, vRet_s, vRetN_s, vIf_s, vSet_s, vSto_s, vFor_s, vWhile_s, vRaise_s, vDef_s, vTrim_s, vTrimC_s, vTry_s, vIsE_s, vFrzD_s, vLstRev_s, vLstRevC_s, vLstRg_s, vLstRgC_s, vRng3_s, vRem_s, vFld_s, vSetF_s, vMeth_s, vMake_s, vTrimM_s, vCallE_s, vDGet2_s, vDNew_s, vDPut_s, vKeysL_s, vLock_s, vPnil_s, vPcons_s, vDisp_s, vTryO_s, vSortK_s, vTryK_s, vNevE_s, vSlX_s, vUp_s, vJo_s]
def u__law_due : WF := wDef 3 6 (wSeq (wSet 3 (wOp modW (wOp modW (wOp mulW (wVar 0) (wC (.int 1103515245))) (wC (.int 2147483647))) (wVar 1)))
  (wSeq (wSet 4 (wOp modW (wOp addW (wOp addW (wVar 3) (wC (.int 1))) (wOp modW (wOp modW (wOp mulW (wVar 0) (wC (.int 742938285))) (wC (.int 2147483629))) (wOp subW (wVar 1) (wC (.int 1))))) (wVar 1)))
  (wSeq (wSet 5 (wOp modW (wOp modW (wOp mulW (wVar 0) (wC (.int 950706376))) (wC (.int 2147483587))) (wC (.int 3))))
  (wRet (wTup (wCons (wVar 3) (wCons (wVar 4) (wCons (wVar 5) (wCons (wCall u__law_amount (wCons (wVar 0) (wCons (wVar 2) wNil))) wNil)))))))))
theorem l__law_due : ∀ ds S kk xk, u__law_due ds S kk xk → ds.length = 3 := fun _ _ _ _ h => h.1
theorem uw__law_due : u__law_due = w__law_due := by
  unfold u__law_due w__law_due
  simp only [vVar_s, vC_s, vOp_s, vNeg_s, vTest_s, vChain_s, vAnd_s, vOr_s, vNot_s, vAndV_s, vOrV_s, vNotV_s, vIfE_s, vNoP_s, vSoP_s, vSl_s, vNil_s, vCons_s, vTup_s, vLst_s, vLstC_s, vFrz_s, vB_s, vIsi_s, vM_s, vM0_s, vCall_s, vSeqI_s, vRng1_s, vRng2_s, vYes_s, vLc_s, vLcC_s, vNx_s, vSeq_s, vNever_s, vDrop_s, vRet_s, vRetN_s, vIf_s, vSet_s, vSto_s, vFor_s, vWhile_s, vRaise_s, vDef_s, vTrim_s, vTrimC_s, vTry_s, vIsE_s, vFrzD_s, vLstRev_s, vLstRevC_s, vLstRg_s, vLstRgC_s, vRng3_s, vRem_s, vFld_s, vSetF_s, vMeth_s, vMake_s, vTrimM_s, vCallE_s, vDGet2_s, vDNew_s, vDPut_s, vKeysL_s, vLock_s, vPnil_s, vPcons_s, vDisp_s, vTryO_s, vSortK_s, vTryK_s, vNevE_s, vSlX_s, vUp_s, vJo_s, uw__law_amount]
def u__law_drawn : WF := wDef 3 3 (wRet (wOp addW (wC (.int 1)) (wOp modW (wOp addW (wCall u__law_cell (wCons (wVar 0) (wCons (wVar 1) wNil))) (wOp mulW (wVar 2) (wOp addW (wOp mulW (wVar 1) (wVar 1)) (wC (.int 1))))) (wOp powW (wC (.int 10)) (wC (.int 15))))))
theorem l__law_drawn : ∀ ds S kk xk, u__law_drawn ds S kk xk → ds.length = 3 := fun _ _ _ _ h => h.1
theorem uw__law_drawn : u__law_drawn = w__law_drawn := by
  unfold u__law_drawn w__law_drawn
  simp only [vVar_s, vC_s, vOp_s, vNeg_s, vTest_s, vChain_s, vAnd_s, vOr_s, vNot_s, vAndV_s, vOrV_s, vNotV_s, vIfE_s, vNoP_s, vSoP_s, vSl_s, vNil_s, vCons_s, vTup_s, vLst_s, vLstC_s, vFrz_s, vB_s, vIsi_s, vM_s, vM0_s, vCall_s, vSeqI_s, vRng1_s, vRng2_s, vYes_s, vLc_s, vLcC_s, vNx_s, vSeq_s, vNever_s, vDrop_s, vRet_s, vRetN_s, vIf_s, vSet_s, vSto_s, vFor_s, vWhile_s, vRaise_s, vDef_s, vTrim_s, vTrimC_s, vTry_s, vIsE_s, vFrzD_s, vLstRev_s, vLstRevC_s, vLstRg_s, vLstRgC_s, vRng3_s, vRem_s, vFld_s, vSetF_s, vMeth_s, vMake_s, vTrimM_s, vCallE_s, vDGet2_s, vDNew_s, vDPut_s, vKeysL_s, vLock_s, vPnil_s, vPcons_s, vDisp_s, vTryO_s, vSortK_s, vTryK_s, vNevE_s, vSlX_s, vUp_s, vJo_s, uw__law_cell]
def u__law_sheet : WF := wDef 3 6 (wSeq (wIf (wTest (wOp eqW (wVar 1) (wC (.int 1)))) (wRet (wLst wNil)) wNx)
  (wSeq (wSet 3 (wOp modW (wCall u__law_cell (wCons (wVar 0) (wCons (wC (.int 1)) wNil))) (wOp powW (wC (.int 10)) (wC (.int 9)))))
  (wSeq (wSet 4 (wB maxF (wCons (wB lenF (wCons (wSl (wVar 0) (wSoP (wC (.int 3))) (wSoP (wOp addW (wC (.int 3)) (wVar 2)))) wNil)) (wCons (wOp modW (wCall u__law_cell (wCons (wVar 0) (wCons (wC (.int 2)) wNil))) (wOp addW (wVar 2) (wC (.int 1)))) wNil))))
  (wRet (wLc 5 [5] (wRng1 (wCons (wVar 4) wNil)) wYes (wCall u__law_due (wCons (wCall u__law_drawn (wCons (wVar 0) (wCons (wOp addW (wC (.int 3)) (wVar 5)) (wCons (wVar 3) wNil)))) (wCons (wVar 1) (wCons (wVar 3) wNil)))))))))
theorem l__law_sheet : ∀ ds S kk xk, u__law_sheet ds S kk xk → ds.length = 3 := fun _ _ _ _ h => h.1
theorem uw__law_sheet : u__law_sheet = w__law_sheet := by
  unfold u__law_sheet w__law_sheet
  simp only [vVar_s, vC_s, vOp_s, vNeg_s, vTest_s, vChain_s, vAnd_s, vOr_s, vNot_s, vAndV_s, vOrV_s, vNotV_s, vIfE_s, vNoP_s, vSoP_s, vSl_s, vNil_s, vCons_s, vTup_s, vLst_s, vLstC_s, vFrz_s, vB_s, vIsi_s, vM_s, vM0_s, vCall_s, vSeqI_s, vRng1_s, vRng2_s, vYes_s, vLc_s, vLcC_s, vNx_s, vSeq_s, vNever_s, vDrop_s, vRet_s, vRetN_s, vIf_s, vSet_s, vSto_s, vFor_s, vWhile_s, vRaise_s, vDef_s, vTrim_s, vTrimC_s, vTry_s, vIsE_s, vFrzD_s, vLstRev_s, vLstRevC_s, vLstRg_s, vLstRgC_s, vRng3_s, vRem_s, vFld_s, vSetF_s, vMeth_s, vMake_s, vTrimM_s, vCallE_s, vDGet2_s, vDNew_s, vDPut_s, vKeysL_s, vLock_s, vPnil_s, vPcons_s, vDisp_s, vTryO_s, vSortK_s, vTryK_s, vNevE_s, vSlX_s, vUp_s, vJo_s, uw__law_cell, uw__law_due, uw__law_drawn]
def u__law_whole : WF := wDef 1 1 (wRet (wAndV (wIsi .int (wVar 0)) (wNotV (wIsi .bool (wVar 0)))))
theorem l__law_whole : ∀ ds S kk xk, u__law_whole ds S kk xk → ds.length = 1 := fun _ _ _ _ h => h.1
theorem uw__law_whole : u__law_whole = w__law_whole := by
  unfold u__law_whole w__law_whole
  simp only [vVar_s, vC_s, vOp_s, vNeg_s, vTest_s, vChain_s, vAnd_s, vOr_s, vNot_s, vAndV_s, vOrV_s, vNotV_s, vIfE_s, vNoP_s, vSoP_s, vSl_s, vNil_s, vCons_s, vTup_s, vLst_s, vLstC_s, vFrz_s, vB_s, vIsi_s, vM_s, vM0_s, vCall_s, vSeqI_s, vRng1_s, vRng2_s, vYes_s, vLc_s, vLcC_s, vNx_s, vSeq_s, vNever_s, vDrop_s, vRet_s, vRetN_s, vIf_s, vSet_s, vSto_s, vFor_s, vWhile_s, vRaise_s, vDef_s, vTrim_s, vTrimC_s, vTry_s, vIsE_s, vFrzD_s, vLstRev_s, vLstRevC_s, vLstRg_s, vLstRgC_s, vRng3_s, vRem_s, vFld_s, vSetF_s, vMeth_s, vMake_s, vTrimM_s, vCallE_s, vDGet2_s, vDNew_s, vDPut_s, vKeysL_s, vLock_s, vPnil_s, vPcons_s, vDisp_s, vTryO_s, vSortK_s, vTryK_s, vNevE_s, vSlX_s, vUp_s, vJo_s]
def u__law_wholes : WF := wDef 2 3 (wSeq (wIf (wOr (wNot (wTest (wIsi .list (wVar 0)))) (wTest (wOp neW (wB lenF (wCons (wVar 0) wNil)) (wVar 1)))) (wRet (wC (.bl false))) wNx)
  (wSeq (wFor 2 (wSeqI (wVar 0))
  (wIf (wNot (wTest (wCall u__law_whole (wCons (wVar 2) wNil)))) (wRet (wC (.bl false))) wNx))
  (wRet (wC (.bl true)))))
theorem l__law_wholes : ∀ ds S kk xk, u__law_wholes ds S kk xk → ds.length = 2 := fun _ _ _ _ h => h.1
theorem uw__law_wholes : u__law_wholes = w__law_wholes := by
  unfold u__law_wholes w__law_wholes
  simp only [vVar_s, vC_s, vOp_s, vNeg_s, vTest_s, vChain_s, vAnd_s, vOr_s, vNot_s, vAndV_s, vOrV_s, vNotV_s, vIfE_s, vNoP_s, vSoP_s, vSl_s, vNil_s, vCons_s, vTup_s, vLst_s, vLstC_s, vFrz_s, vB_s, vIsi_s, vM_s, vM0_s, vCall_s, vSeqI_s, vRng1_s, vRng2_s, vYes_s, vLc_s, vLcC_s, vNx_s, vSeq_s, vNever_s, vDrop_s, vRet_s, vRetN_s, vIf_s, vSet_s, vSto_s, vFor_s, vWhile_s, vRaise_s, vDef_s, vTrim_s, vTrimC_s, vTry_s, vIsE_s, vFrzD_s, vLstRev_s, vLstRevC_s, vLstRg_s, vLstRgC_s, vRng3_s, vRem_s, vFld_s, vSetF_s, vMeth_s, vMake_s, vTrimM_s, vCallE_s, vDGet2_s, vDNew_s, vDPut_s, vKeysL_s, vLock_s, vPnil_s, vPcons_s, vDisp_s, vTryO_s, vSortK_s, vTryK_s, vNevE_s, vSlX_s, vUp_s, vJo_s, uw__law_whole]
def u__law_paid_by : WF := wDef 4 5 (wSeq (wFor 4 (wRng1 (wCons (wB lenF (wCons (wVar 2) wNil)) wNil))
  (wIf (wAnd (wTest (wOp gtW (wOp ixW (wVar 3) (wVar 4)) (wC (.int 0)))) (wAnd (wTest (wOp eqW (wOp ixW (wOp ixW (wVar 2) (wVar 4)) (wC (.int 1))) (wVar 0))) (wTest (wOp (inW false) (wOp ixW (wOp ixW (wVar 2) (wVar 4)) (wC (.int 0))) (wVar 1))))) (wRet (wC (.bl true))) wNx))
  (wRet (wC (.bl false))))
theorem l__law_paid_by : ∀ ds S kk xk, u__law_paid_by ds S kk xk → ds.length = 4 := fun _ _ _ _ h => h.1
theorem uw__law_paid_by : u__law_paid_by = w__law_paid_by := by
  unfold u__law_paid_by w__law_paid_by
  simp only [vVar_s, vC_s, vOp_s, vNeg_s, vTest_s, vChain_s, vAnd_s, vOr_s, vNot_s, vAndV_s, vOrV_s, vNotV_s, vIfE_s, vNoP_s, vSoP_s, vSl_s, vNil_s, vCons_s, vTup_s, vLst_s, vLstC_s, vFrz_s, vB_s, vIsi_s, vM_s, vM0_s, vCall_s, vSeqI_s, vRng1_s, vRng2_s, vYes_s, vLc_s, vLcC_s, vNx_s, vSeq_s, vNever_s, vDrop_s, vRet_s, vRetN_s, vIf_s, vSet_s, vSto_s, vFor_s, vWhile_s, vRaise_s, vDef_s, vTrim_s, vTrimC_s, vTry_s, vIsE_s, vFrzD_s, vLstRev_s, vLstRevC_s, vLstRg_s, vLstRgC_s, vRng3_s, vRem_s, vFld_s, vSetF_s, vMeth_s, vMake_s, vTrimM_s, vCallE_s, vDGet2_s, vDNew_s, vDPut_s, vKeysL_s, vLock_s, vPnil_s, vPcons_s, vDisp_s, vTryO_s, vSortK_s, vTryK_s, vNevE_s, vSlX_s, vUp_s, vJo_s]
def u__law_ringless : WF := wDef 3 7 (wSeq (wSet 3 (wLstRg (wVar 0)))
  (wSeq (wFor 4 (wRng1 (wCons (wVar 0) wNil))
  (wSeq (wSet 5 (wLc 6 [6] (wSeqI (wVar 3)) (wTest (wCall u__law_paid_by (wCons (wVar 6) (wCons (wVar 3) (wCons (wVar 1) (wCons (wVar 2) wNil)))))) (wVar 6)))
  (wSet 3 (wVar 5))))
  (wRet (wOp eqW (wB lenF (wCons (wVar 3) wNil)) (wC (.int 0))))))
theorem l__law_ringless : ∀ ds S kk xk, u__law_ringless ds S kk xk → ds.length = 3 := fun _ _ _ _ h => h.1
theorem uw__law_ringless : u__law_ringless = w__law_ringless := by
  unfold u__law_ringless w__law_ringless
  simp only [vVar_s, vC_s, vOp_s, vNeg_s, vTest_s, vChain_s, vAnd_s, vOr_s, vNot_s, vAndV_s, vOrV_s, vNotV_s, vIfE_s, vNoP_s, vSoP_s, vSl_s, vNil_s, vCons_s, vTup_s, vLst_s, vLstC_s, vFrz_s, vB_s, vIsi_s, vM_s, vM0_s, vCall_s, vSeqI_s, vRng1_s, vRng2_s, vYes_s, vLc_s, vLcC_s, vNx_s, vSeq_s, vNever_s, vDrop_s, vRet_s, vRetN_s, vIf_s, vSet_s, vSto_s, vFor_s, vWhile_s, vRaise_s, vDef_s, vTrim_s, vTrimC_s, vTry_s, vIsE_s, vFrzD_s, vLstRev_s, vLstRevC_s, vLstRg_s, vLstRgC_s, vRng3_s, vRem_s, vFld_s, vSetF_s, vMeth_s, vMake_s, vTrimM_s, vCallE_s, vDGet2_s, vDNew_s, vDPut_s, vKeysL_s, vLock_s, vPnil_s, vPcons_s, vDisp_s, vTryO_s, vSortK_s, vTryK_s, vNevE_s, vSlX_s, vUp_s, vJo_s, uw__law_paid_by]
def u__law_on : WF := wDef 3 4 (wSeq (wFor 3 (wRng1 (wCons (wB lenF (wCons (wVar 1) wNil)) wNil))
  (wIf (wAnd (wTest (wOp gtW (wOp ixW (wVar 2) (wVar 3)) (wC (.int 0)))) (wTest (wOp eqW (wOp ixW (wOp ixW (wVar 1) (wVar 3)) (wC (.int 0))) (wVar 0)))) (wRet (wVar 3)) wNx))
  (wRet (wC .non)))
theorem l__law_on : ∀ ds S kk xk, u__law_on ds S kk xk → ds.length = 3 := fun _ _ _ _ h => h.1
theorem uw__law_on : u__law_on = w__law_on := by
  unfold u__law_on w__law_on
  simp only [vVar_s, vC_s, vOp_s, vNeg_s, vTest_s, vChain_s, vAnd_s, vOr_s, vNot_s, vAndV_s, vOrV_s, vNotV_s, vIfE_s, vNoP_s, vSoP_s, vSl_s, vNil_s, vCons_s, vTup_s, vLst_s, vLstC_s, vFrz_s, vB_s, vIsi_s, vM_s, vM0_s, vCall_s, vSeqI_s, vRng1_s, vRng2_s, vYes_s, vLc_s, vLcC_s, vNx_s, vSeq_s, vNever_s, vDrop_s, vRet_s, vRetN_s, vIf_s, vSet_s, vSto_s, vFor_s, vWhile_s, vRaise_s, vDef_s, vTrim_s, vTrimC_s, vTry_s, vIsE_s, vFrzD_s, vLstRev_s, vLstRevC_s, vLstRg_s, vLstRgC_s, vRng3_s, vRem_s, vFld_s, vSetF_s, vMeth_s, vMake_s, vTrimM_s, vCallE_s, vDGet2_s, vDNew_s, vDPut_s, vKeysL_s, vLock_s, vPnil_s, vPcons_s, vDisp_s, vTryO_s, vSortK_s, vTryK_s, vNevE_s, vSlX_s, vUp_s, vJo_s]
def u__law_round : WF := wTrim (wDef 4 8 (wSeq (wSet 4 (wLstC wNil))
  (wSeq (wSet 5 (wLstC wNil))
  (wSeq (wFor 6 (wRng1 (wCons (wVar 1) wNil))
  (wSeq (wDrop (wM appF (wVar 4) (wCons (wVar 0) wNil)))
  (wSeq (wSet 7 (wCall u__law_on (wCons (wVar 0) (wCons (wVar 2) (wCons (wVar 3) wNil)))))
  (wSeq (wIf (wTest (wOp (isNW false) (wVar 7) (wC .non))) (wRet (wLst wNil)) wNx)
  (wSeq (wDrop (wM appF (wVar 5) (wCons (wVar 7) wNil)))
  (wSeq (wSet 0 (wOp ixW (wOp ixW (wVar 2) (wVar 7)) (wC (.int 1))))
  (wIf (wTest (wOp (inW false) (wVar 0) (wVar 4))) (wRet (wSl (wVar 5) (wSoP (wM idxF (wVar 4) (wCons (wVar 0) wNil))) wNoP)) wNx)))))))
  (wRet (wLst wNil))))))
theorem l__law_round : ∀ ds S kk xk, u__law_round ds S kk xk → ds.length = 4 := fun _ _ _ _ h => h.1
theorem uw__law_round : u__law_round = w__law_round := by
  unfold u__law_round w__law_round
  simp only [vVar_s, vC_s, vOp_s, vNeg_s, vTest_s, vChain_s, vAnd_s, vOr_s, vNot_s, vAndV_s, vOrV_s, vNotV_s, vIfE_s, vNoP_s, vSoP_s, vSl_s, vNil_s, vCons_s, vTup_s, vLst_s, vLstC_s, vFrz_s, vB_s, vIsi_s, vM_s, vM0_s, vCall_s, vSeqI_s, vRng1_s, vRng2_s, vYes_s, vLc_s, vLcC_s, vNx_s, vSeq_s, vNever_s, vDrop_s, vRet_s, vRetN_s, vIf_s, vSet_s, vSto_s, vFor_s, vWhile_s, vRaise_s, vDef_s, vTrim_s, vTrimC_s, vTry_s, vIsE_s, vFrzD_s, vLstRev_s, vLstRevC_s, vLstRg_s, vLstRgC_s, vRng3_s, vRem_s, vFld_s, vSetF_s, vMeth_s, vMake_s, vTrimM_s, vCallE_s, vDGet2_s, vDNew_s, vDPut_s, vKeysL_s, vLock_s, vPnil_s, vPcons_s, vDisp_s, vTryO_s, vSortK_s, vTryK_s, vNevE_s, vSlX_s, vUp_s, vJo_s, uw__law_on]
def u__law_other : WF := wTrim (wDef 3 10 (wSeq (wSet 3 (wLcC 9 [9] (wSeqI (wVar 2)) wYes (wOp ixW (wVar 9) (wC (.int 3)))))
  (wSeq (wFor 4 (wRng1 (wCons (wC (.int 12)) wNil))
  (wSeq (wSet 5 (wOp modW (wOp addW (wCall u__law_cell (wCons (wVar 0) (wCons (wOp addW (wC (.int 3)) (wVar 4)) wNil))) (wVar 4)) (wVar 1)))
  (wSeq (wSet 6 (wCall u__law_round (wCons (wVar 5) (wCons (wVar 1) (wCons (wVar 2) (wCons (wVar 3) wNil))))))
  (wIf (wTest (wOp gtW (wB lenF (wCons (wVar 6) wNil)) (wC (.int 0)))) (wSeq (wSet 7 (wB minF (wCons (wLc 8 [8] (wSeqI (wVar 6)) wYes (wOp ixW (wVar 3) (wVar 8))) wNil)))
  (wSeq (wIf (wTest (wOp eqW (wOp modW (wCall u__law_cell (wCons (wVar 0) (wCons (wOp addW (wC (.int 4)) (wVar 4)) wNil))) (wC (.int 2))) (wC (.int 1)))) (wSet 7 (wOp fdivW (wVar 7) (wC (.int 2)))) wNx)
  (wFor 8 (wSeqI (wVar 6))
  (wSto (wOp subW (wOp ixW (wVar 3) (wVar 8)) (wVar 7)) (wVar 3) (wVar 8))))) wNx))))
  (wRet (wFrz (wVar 3))))))
theorem l__law_other : ∀ ds S kk xk, u__law_other ds S kk xk → ds.length = 3 := fun _ _ _ _ h => h.1
theorem uw__law_other : u__law_other = w__law_other := by
  unfold u__law_other w__law_other
  simp only [vVar_s, vC_s, vOp_s, vNeg_s, vTest_s, vChain_s, vAnd_s, vOr_s, vNot_s, vAndV_s, vOrV_s, vNotV_s, vIfE_s, vNoP_s, vSoP_s, vSl_s, vNil_s, vCons_s, vTup_s, vLst_s, vLstC_s, vFrz_s, vB_s, vIsi_s, vM_s, vM0_s, vCall_s, vSeqI_s, vRng1_s, vRng2_s, vYes_s, vLc_s, vLcC_s, vNx_s, vSeq_s, vNever_s, vDrop_s, vRet_s, vRetN_s, vIf_s, vSet_s, vSto_s, vFor_s, vWhile_s, vRaise_s, vDef_s, vTrim_s, vTrimC_s, vTry_s, vIsE_s, vFrzD_s, vLstRev_s, vLstRevC_s, vLstRg_s, vLstRgC_s, vRng3_s, vRem_s, vFld_s, vSetF_s, vMeth_s, vMake_s, vTrimM_s, vCallE_s, vDGet2_s, vDNew_s, vDPut_s, vKeysL_s, vLock_s, vPnil_s, vPcons_s, vDisp_s, vTryO_s, vSortK_s, vTryK_s, vNevE_s, vSlX_s, vUp_s, vJo_s, uw__law_cell, uw__law_round]
def u_amounts_of : WF := wDef 1 2 (wRet (wLc 1 [1] (wSeqI (wVar 0)) wYes (wOp ixW (wVar 1) (wC (.int 3)))))
def u_amounts_of_C : WF := wTrimC (wDef 1 2 (wRet (wLcC 1 [1] (wSeqI (wVar 0)) wYes (wOp ixW (wVar 1) (wC (.int 3))))))
theorem l_amounts_of_C : ∀ ds S kk xk, u_amounts_of_C ds S kk xk → ds.length = 1 := fun _ _ _ _ h => h.1
theorem uw_amounts_of_C : u_amounts_of_C = w_amounts_of_C := by
  unfold u_amounts_of_C w_amounts_of_C
  simp only [vVar_s, vC_s, vOp_s, vNeg_s, vTest_s, vChain_s, vAnd_s, vOr_s, vNot_s, vAndV_s, vOrV_s, vNotV_s, vIfE_s, vNoP_s, vSoP_s, vSl_s, vNil_s, vCons_s, vTup_s, vLst_s, vLstC_s, vFrz_s, vB_s, vIsi_s, vM_s, vM0_s, vCall_s, vSeqI_s, vRng1_s, vRng2_s, vYes_s, vLc_s, vLcC_s, vNx_s, vSeq_s, vNever_s, vDrop_s, vRet_s, vRetN_s, vIf_s, vSet_s, vSto_s, vFor_s, vWhile_s, vRaise_s, vDef_s, vTrim_s, vTrimC_s, vTry_s, vIsE_s, vFrzD_s, vLstRev_s, vLstRevC_s, vLstRg_s, vLstRgC_s, vRng3_s, vRem_s, vFld_s, vSetF_s, vMeth_s, vMake_s, vTrimM_s, vCallE_s, vDGet2_s, vDNew_s, vDPut_s, vKeysL_s, vLock_s, vPnil_s, vPcons_s, vDisp_s, vTryO_s, vSortK_s, vTryK_s, vNevE_s, vSlX_s, vUp_s, vJo_s]
def u_payer_due : WF := wDef 3 5 (wSeq (wFor 3 (wRng1 (wCons (wB lenF (wCons (wVar 2) wNil)) wNil))
  (wSeq (wSet 4 (wOp ixW (wVar 2) (wVar 3)))
  (wIf (wAnd (wTest (wOp gtW (wOp ixW (wVar 4) (wC (.int 3))) (wC (.int 0)))) (wAnd (wTest (wOp eqW (wOp ixW (wVar 4) (wC (.int 1))) (wVar 0))) (wTest (wOp (inW false) (wOp ixW (wVar 4) (wC (.int 0))) (wVar 1))))) (wRet (wVar 3)) wNx)))
  (wRet (wC .non)))
theorem l_payer_due : ∀ ds S kk xk, u_payer_due ds S kk xk → ds.length = 3 := fun _ _ _ _ h => h.1
theorem uw_payer_due : u_payer_due = w_payer_due := by
  unfold u_payer_due w_payer_due
  simp only [vVar_s, vC_s, vOp_s, vNeg_s, vTest_s, vChain_s, vAnd_s, vOr_s, vNot_s, vAndV_s, vOrV_s, vNotV_s, vIfE_s, vNoP_s, vSoP_s, vSl_s, vNil_s, vCons_s, vTup_s, vLst_s, vLstC_s, vFrz_s, vB_s, vIsi_s, vM_s, vM0_s, vCall_s, vSeqI_s, vRng1_s, vRng2_s, vYes_s, vLc_s, vLcC_s, vNx_s, vSeq_s, vNever_s, vDrop_s, vRet_s, vRetN_s, vIf_s, vSet_s, vSto_s, vFor_s, vWhile_s, vRaise_s, vDef_s, vTrim_s, vTrimC_s, vTry_s, vIsE_s, vFrzD_s, vLstRev_s, vLstRevC_s, vLstRg_s, vLstRgC_s, vRng3_s, vRem_s, vFld_s, vSetF_s, vMeth_s, vMake_s, vTrimM_s, vCallE_s, vDGet2_s, vDNew_s, vDPut_s, vKeysL_s, vLock_s, vPnil_s, vPcons_s, vDisp_s, vTryO_s, vSortK_s, vTryK_s, vNevE_s, vSlX_s, vUp_s, vJo_s]
def u_unpaid_one : WF := wDef 2 3 (wSeq (wFor 2 (wSeqI (wVar 0))
  (wIf (wTest (wOp (isNW false) (wCall u_payer_due (wCons (wVar 2) (wCons (wVar 0) (wCons (wVar 1) wNil)))) (wC .non))) (wRet (wVar 2)) wNx))
  (wRet (wC .non)))
theorem l_unpaid_one : ∀ ds S kk xk, u_unpaid_one ds S kk xk → ds.length = 2 := fun _ _ _ _ h => h.1
theorem uw_unpaid_one : u_unpaid_one = w_unpaid_one := by
  unfold u_unpaid_one w_unpaid_one
  simp only [vVar_s, vC_s, vOp_s, vNeg_s, vTest_s, vChain_s, vAnd_s, vOr_s, vNot_s, vAndV_s, vOrV_s, vNotV_s, vIfE_s, vNoP_s, vSoP_s, vSl_s, vNil_s, vCons_s, vTup_s, vLst_s, vLstC_s, vFrz_s, vB_s, vIsi_s, vM_s, vM0_s, vCall_s, vSeqI_s, vRng1_s, vRng2_s, vYes_s, vLc_s, vLcC_s, vNx_s, vSeq_s, vNever_s, vDrop_s, vRet_s, vRetN_s, vIf_s, vSet_s, vSto_s, vFor_s, vWhile_s, vRaise_s, vDef_s, vTrim_s, vTrimC_s, vTry_s, vIsE_s, vFrzD_s, vLstRev_s, vLstRevC_s, vLstRg_s, vLstRgC_s, vRng3_s, vRem_s, vFld_s, vSetF_s, vMeth_s, vMake_s, vTrimM_s, vCallE_s, vDGet2_s, vDNew_s, vDPut_s, vKeysL_s, vLock_s, vPnil_s, vPcons_s, vDisp_s, vTryO_s, vSortK_s, vTryK_s, vNevE_s, vSlX_s, vUp_s, vJo_s, uw_payer_due]
def u_peeled : WF := wTrim (wDef 2 5 (wSeq (wSet 2 (wLstC wNil))
  (wSeq (wSet 3 (wLstRgC (wVar 0)))
  (wSeq (wSet 4 (wCall u_unpaid_one (wCons (wVar 3) (wCons (wVar 1) wNil))))
  (wSeq (wWhile (wTest (wOp (isNW true) (wVar 4) (wC .non)))
  (wSeq (wDrop (wM appF (wVar 2) (wCons (wVar 4) wNil)))
  (wSeq (wDrop (wRem (wVar 3) (wVar 4)))
  (wSet 4 (wCall u_unpaid_one (wCons (wVar 3) (wCons (wVar 1) wNil)))))))
  (wRet (wFrzD (wTup (wCons (wVar 2) (wCons (wVar 3) wNil))))))))))
theorem l_peeled : ∀ ds S kk xk, u_peeled ds S kk xk → ds.length = 2 := fun _ _ _ _ h => h.1
theorem uw_peeled : u_peeled = w_peeled := by
  unfold u_peeled w_peeled
  simp only [vVar_s, vC_s, vOp_s, vNeg_s, vTest_s, vChain_s, vAnd_s, vOr_s, vNot_s, vAndV_s, vOrV_s, vNotV_s, vIfE_s, vNoP_s, vSoP_s, vSl_s, vNil_s, vCons_s, vTup_s, vLst_s, vLstC_s, vFrz_s, vB_s, vIsi_s, vM_s, vM0_s, vCall_s, vSeqI_s, vRng1_s, vRng2_s, vYes_s, vLc_s, vLcC_s, vNx_s, vSeq_s, vNever_s, vDrop_s, vRet_s, vRetN_s, vIf_s, vSet_s, vSto_s, vFor_s, vWhile_s, vRaise_s, vDef_s, vTrim_s, vTrimC_s, vTry_s, vIsE_s, vFrzD_s, vLstRev_s, vLstRevC_s, vLstRg_s, vLstRgC_s, vRng3_s, vRem_s, vFld_s, vSetF_s, vMeth_s, vMake_s, vTrimM_s, vCallE_s, vDGet2_s, vDNew_s, vDPut_s, vKeysL_s, vLock_s, vPnil_s, vPcons_s, vDisp_s, vTryO_s, vSortK_s, vTryK_s, vNevE_s, vSlX_s, vUp_s, vJo_s, uw_unpaid_one]
def u_a_ring : WF := wTrim (wDef 2 7 (wSeq (wSet 2 (wOp ixW (wCall u_peeled (wCons (wVar 0) (wCons (wVar 1) wNil))) (wC (.int 1))))
  (wSeq (wIf (wTest (wOp eqW (wB lenF (wCons (wVar 2) wNil)) (wC (.int 0)))) (wRet (wLst wNil)) wNx)
  (wSeq (wSet 3 (wLstC wNil))
  (wSeq (wSet 4 (wLstC wNil))
  (wSeq (wSet 5 (wOp ixW (wVar 2) (wC (.int 0))))
  (wSeq (wWhile (wTest (wOp (inW true) (wVar 5) (wVar 3)))
  (wSeq (wSet 6 (wCall u_payer_due (wCons (wVar 5) (wCons (wVar 2) (wCons (wVar 1) wNil)))))
  (wSeq (wDrop (wM appF (wVar 3) (wCons (wVar 5) wNil)))
  (wSeq (wDrop (wM appF (wVar 4) (wCons (wVar 6) wNil)))
  (wSet 5 (wOp ixW (wOp ixW (wVar 1) (wVar 6)) (wC (.int 0))))))))
  (wRet (wLstRev (wSl (wVar 4) (wSoP (wM idxF (wVar 3) (wCons (wVar 5) wNil))) wNoP))))))))))
theorem l_a_ring : ∀ ds S kk xk, u_a_ring ds S kk xk → ds.length = 2 := fun _ _ _ _ h => h.1
theorem uw_a_ring : u_a_ring = w_a_ring := by
  unfold u_a_ring w_a_ring
  simp only [vVar_s, vC_s, vOp_s, vNeg_s, vTest_s, vChain_s, vAnd_s, vOr_s, vNot_s, vAndV_s, vOrV_s, vNotV_s, vIfE_s, vNoP_s, vSoP_s, vSl_s, vNil_s, vCons_s, vTup_s, vLst_s, vLstC_s, vFrz_s, vB_s, vIsi_s, vM_s, vM0_s, vCall_s, vSeqI_s, vRng1_s, vRng2_s, vYes_s, vLc_s, vLcC_s, vNx_s, vSeq_s, vNever_s, vDrop_s, vRet_s, vRetN_s, vIf_s, vSet_s, vSto_s, vFor_s, vWhile_s, vRaise_s, vDef_s, vTrim_s, vTrimC_s, vTry_s, vIsE_s, vFrzD_s, vLstRev_s, vLstRevC_s, vLstRg_s, vLstRgC_s, vRng3_s, vRem_s, vFld_s, vSetF_s, vMeth_s, vMake_s, vTrimM_s, vCallE_s, vDGet2_s, vDNew_s, vDPut_s, vKeysL_s, vLock_s, vPnil_s, vPcons_s, vDisp_s, vTryO_s, vSortK_s, vTryK_s, vNevE_s, vSlX_s, vUp_s, vJo_s, uw_payer_due, uw_peeled]
def u_with_amounts : WF := wTrim (wDef 2 5 (wSeq (wSet 2 (wLstC wNil))
  (wSeq (wFor 3 (wRng1 (wCons (wB lenF (wCons (wVar 0) wNil)) wNil))
  (wSeq (wSet 4 (wOp ixW (wVar 0) (wVar 3)))
  (wDrop (wM appF (wVar 2) (wCons (wTup (wCons (wOp ixW (wVar 4) (wC (.int 0))) (wCons (wOp ixW (wVar 4) (wC (.int 1))) (wCons (wOp ixW (wVar 4) (wC (.int 2))) (wCons (wOp ixW (wVar 1) (wVar 3)) wNil))))) wNil)))))
  (wRet (wFrz (wVar 2))))))
theorem l_with_amounts : ∀ ds S kk xk, u_with_amounts ds S kk xk → ds.length = 2 := fun _ _ _ _ h => h.1
theorem uw_with_amounts : u_with_amounts = w_with_amounts := by
  unfold u_with_amounts w_with_amounts
  simp only [vVar_s, vC_s, vOp_s, vNeg_s, vTest_s, vChain_s, vAnd_s, vOr_s, vNot_s, vAndV_s, vOrV_s, vNotV_s, vIfE_s, vNoP_s, vSoP_s, vSl_s, vNil_s, vCons_s, vTup_s, vLst_s, vLstC_s, vFrz_s, vB_s, vIsi_s, vM_s, vM0_s, vCall_s, vSeqI_s, vRng1_s, vRng2_s, vYes_s, vLc_s, vLcC_s, vNx_s, vSeq_s, vNever_s, vDrop_s, vRet_s, vRetN_s, vIf_s, vSet_s, vSto_s, vFor_s, vWhile_s, vRaise_s, vDef_s, vTrim_s, vTrimC_s, vTry_s, vIsE_s, vFrzD_s, vLstRev_s, vLstRevC_s, vLstRg_s, vLstRgC_s, vRng3_s, vRem_s, vFld_s, vSetF_s, vMeth_s, vMake_s, vTrimM_s, vCallE_s, vDGet2_s, vDNew_s, vDPut_s, vKeysL_s, vLock_s, vPnil_s, vPcons_s, vDisp_s, vTryO_s, vSortK_s, vTryK_s, vNevE_s, vSlX_s, vUp_s, vJo_s]
def u_cut : WF := wTrim (wDef 2 7 (wSeq (wSet 2 (wCall u_amounts_of_C (wCons (wVar 1) wNil)))
  (wSeq (wSet 3 (wLstC wNil))
  (wSeq (wSet 4 (wCall u_a_ring (wCons (wVar 0) (wCons (wVar 1) wNil))))
  (wSeq (wWhile (wTest (wOp gtW (wB lenF (wCons (wVar 4) wNil)) (wC (.int 0))))
  (wSeq (wSet 5 (wB minF (wCons (wLc 6 [6] (wSeqI (wVar 4)) wYes (wOp ixW (wVar 2) (wVar 6))) wNil)))
  (wSeq (wFor 6 (wSeqI (wVar 4))
  (wSto (wOp subW (wOp ixW (wVar 2) (wVar 6)) (wVar 5)) (wVar 2) (wVar 6)))
  (wSeq (wDrop (wM appF (wVar 3) (wCons (wTup (wCons (wVar 4) (wCons (wVar 5) wNil))) wNil)))
  (wSet 4 (wCall u_a_ring (wCons (wVar 0) (wCons (wCall u_with_amounts (wCons (wVar 1) (wCons (wVar 2) wNil))) wNil))))))))
  (wRet (wFrzD (wTup (wCons (wVar 2) (wCons (wVar 3) wNil))))))))))
theorem l_cut : ∀ ds S kk xk, u_cut ds S kk xk → ds.length = 2 := fun _ _ _ _ h => h.1
theorem uw_cut : u_cut = w_cut := by
  unfold u_cut w_cut
  simp only [vVar_s, vC_s, vOp_s, vNeg_s, vTest_s, vChain_s, vAnd_s, vOr_s, vNot_s, vAndV_s, vOrV_s, vNotV_s, vIfE_s, vNoP_s, vSoP_s, vSl_s, vNil_s, vCons_s, vTup_s, vLst_s, vLstC_s, vFrz_s, vB_s, vIsi_s, vM_s, vM0_s, vCall_s, vSeqI_s, vRng1_s, vRng2_s, vYes_s, vLc_s, vLcC_s, vNx_s, vSeq_s, vNever_s, vDrop_s, vRet_s, vRetN_s, vIf_s, vSet_s, vSto_s, vFor_s, vWhile_s, vRaise_s, vDef_s, vTrim_s, vTrimC_s, vTry_s, vIsE_s, vFrzD_s, vLstRev_s, vLstRevC_s, vLstRg_s, vLstRgC_s, vRng3_s, vRem_s, vFld_s, vSetF_s, vMeth_s, vMake_s, vTrimM_s, vCallE_s, vDGet2_s, vDNew_s, vDPut_s, vKeysL_s, vLock_s, vPnil_s, vPcons_s, vDisp_s, vTryO_s, vSortK_s, vTryK_s, vNevE_s, vSlX_s, vUp_s, vJo_s, uw_amounts_of_C, uw_a_ring, uw_with_amounts]
def u__law_with : WF := wDef 2 3 (wRet (wLc 2 [2] (wRng1 (wCons (wB lenF (wCons (wVar 0) wNil)) wNil)) wYes (wTup (wCons (wOp ixW (wOp ixW (wVar 0) (wVar 2)) (wC (.int 0))) (wCons (wOp ixW (wOp ixW (wVar 0) (wVar 2)) (wC (.int 1))) (wCons (wOp ixW (wOp ixW (wVar 0) (wVar 2)) (wC (.int 2))) (wCons (wOp ixW (wVar 1) (wVar 2)) wNil)))))))
theorem l__law_with : ∀ ds S kk xk, u__law_with ds S kk xk → ds.length = 2 := fun _ _ _ _ h => h.1
theorem uw__law_with : u__law_with = w__law_with := by
  unfold u__law_with w__law_with
  simp only [vVar_s, vC_s, vOp_s, vNeg_s, vTest_s, vChain_s, vAnd_s, vOr_s, vNot_s, vAndV_s, vOrV_s, vNotV_s, vIfE_s, vNoP_s, vSoP_s, vSl_s, vNil_s, vCons_s, vTup_s, vLst_s, vLstC_s, vFrz_s, vB_s, vIsi_s, vM_s, vM0_s, vCall_s, vSeqI_s, vRng1_s, vRng2_s, vYes_s, vLc_s, vLcC_s, vNx_s, vSeq_s, vNever_s, vDrop_s, vRet_s, vRetN_s, vIf_s, vSet_s, vSto_s, vFor_s, vWhile_s, vRaise_s, vDef_s, vTrim_s, vTrimC_s, vTry_s, vIsE_s, vFrzD_s, vLstRev_s, vLstRevC_s, vLstRg_s, vLstRgC_s, vRng3_s, vRem_s, vFld_s, vSetF_s, vMeth_s, vMake_s, vTrimM_s, vCallE_s, vDGet2_s, vDNew_s, vDPut_s, vKeysL_s, vLock_s, vPnil_s, vPcons_s, vDisp_s, vTryO_s, vSortK_s, vTryK_s, vNevE_s, vSlX_s, vUp_s, vJo_s]
def u_law : WF := wDef 1 7 (wSeq (wSet 1 (wOp addW (wC (.int 1)) (wOp modW (wCall u__law_cell (wCons (wVar 0) (wCons (wC (.int 0)) wNil))) (wC (.int 6)))))
  (wSeq (wSet 2 (wLc 6 [6] (wSeqI (wCall u__law_sheet (wCons (wVar 0) (wCons (wVar 1) (wCons (wC (.int 10)) wNil))))) wYes (wTup (wCons (wOp ixW (wVar 6) (wC (.int 0))) (wCons (wOp ixW (wVar 6) (wC (.int 1))) (wCons (wOp ixW (wVar 6) (wC (.int 2))) (wCons (wOp fdivW (wOp ixW (wVar 6) (wC (.int 3))) (wC (.int 10))) wNil)))))))
  (wSeq (wSet 3 (wOp ixW (wCall u_thinned (wCons (wVar 1) (wCons (wB listF (wCons (wVar 2) wNil)) wNil))) (wC (.int 0))))
  (wSeq (wIf (wOr (wNot (wTest (wCall u__law_wholes (wCons (wVar 3) (wCons (wB lenF (wCons (wVar 2) wNil)) wNil))))) (wNot (wTest (wCall u__law_ringless (wCons (wVar 1) (wCons (wVar 2) (wCons (wVar 3) wNil))))))) (wRet (wC (.bl false))) wNx)
  (wSeq (wSet 4 (wB sumF (wCons (wVar 3) wNil)))
  (wSeq (wIf (wOr (wTest (wOp gtW (wVar 4) (wB sumF (wCons (wOp ixW (wCall u_cut (wCons (wVar 1) (wCons (wB listF (wCons (wVar 2) wNil)) wNil))) (wC (.int 0))) wNil)))) (wTest (wOp gtW (wVar 4) (wB sumF (wCons (wCall u__law_other (wCons (wVar 0) (wCons (wVar 1) (wCons (wVar 2) wNil)))) wNil))))) (wRet (wC (.bl false))) wNx)
  (wSeq (wIf (wTest (wOp neW (wB sumF (wCons (wOp ixW (wCall u_thinned (wCons (wVar 1) (wCons (wCall u__law_with (wCons (wVar 2) (wCons (wVar 3) wNil))) wNil))) (wC (.int 0))) wNil)) (wVar 4))) (wRet (wC (.bl false))) wNx)
  (wSeq (wIf (wTest (wOp neW (wB sumF (wCons (wOp ixW (wCall u_thinned (wCons (wVar 1) (wCons (wLstRev (wVar 2)) wNil))) (wC (.int 0))) wNil)) (wVar 4))) (wRet (wC (.bl false))) wNx)
  (wSeq (wSet 5 (wLc 6 [6] (wSeqI (wVar 2)) wYes (wTup (wCons (wOp ixW (wVar 6) (wC (.int 0))) (wCons (wOp ixW (wVar 6) (wC (.int 1))) (wCons (wOp ixW (wVar 6) (wC (.int 2))) (wCons (wOp mulW (wC (.int 3)) (wOp ixW (wVar 6) (wC (.int 3)))) wNil)))))))
  (wRet (wOp eqW (wB sumF (wCons (wOp ixW (wCall u_thinned (wCons (wVar 1) (wCons (wVar 5) wNil))) (wC (.int 0))) wNil)) (wOp mulW (wC (.int 3)) (wVar 4)))))))))))))
theorem uw_law : u_law = w_law := by
  unfold u_law w_law
  simp only [vVar_s, vC_s, vOp_s, vNeg_s, vTest_s, vChain_s, vAnd_s, vOr_s, vNot_s, vAndV_s, vOrV_s, vNotV_s, vIfE_s, vNoP_s, vSoP_s, vSl_s, vNil_s, vCons_s, vTup_s, vLst_s, vLstC_s, vFrz_s, vB_s, vIsi_s, vM_s, vM0_s, vCall_s, vSeqI_s, vRng1_s, vRng2_s, vYes_s, vLc_s, vLcC_s, vNx_s, vSeq_s, vNever_s, vDrop_s, vRet_s, vRetN_s, vIf_s, vSet_s, vSto_s, vFor_s, vWhile_s, vRaise_s, vDef_s, vTrim_s, vTrimC_s, vTry_s, vIsE_s, vFrzD_s, vLstRev_s, vLstRevC_s, vLstRg_s, vLstRgC_s, vRng3_s, vRem_s, vFld_s, vSetF_s, vMeth_s, vMake_s, vTrimM_s, vCallE_s, vDGet2_s, vDNew_s, vDPut_s, vKeysL_s, vLock_s, vPnil_s, vPcons_s, vDisp_s, vTryO_s, vSortK_s, vTryK_s, vNevE_s, vSlX_s, vUp_s, vJo_s, uw_thinned, uw__law_cell, uw__law_sheet, uw__law_wholes, uw__law_ringless, uw__law_other, uw_cut, uw__law_with]
def top (i : Nat) : Stmt := PySem.Challenge.pw_quits_k17_whole_the_least_is_left.main.body.getD i (.Pass ⟨0, 0, 0, 0⟩)
abbrev s_reached : Stmt := top 7
abbrev n_reached : List Str := ["many", "starts", "steps", "lengths", "came", "turn", "step", "far", "member"]
theorem sc_reached : FnScope n_reached ["many", "starts", "steps"] (defScope s_reached) := ⟨rfl, rfl, rfl, by decide +kernel, rfl, by decide +kernel, by decide +kernel⟩
abbrev s_nearest : Stmt := top 8
abbrev n_nearest : List Str := ["lengths", "wanting", "best", "member"]
theorem sc_nearest : FnScope n_nearest ["lengths", "wanting"] (defScope s_nearest) := ⟨rfl, rfl, rfl, by decide +kernel, rfl, by decide +kernel, by decide +kernel⟩
abbrev s_way_to : Stmt := top 9
abbrev n_way_to : List Str := ["goal", "came", "way"]
theorem sc_way_to : FnScope n_way_to ["goal", "came"] (defScope s_way_to) := ⟨rfl, rfl, rfl, by decide +kernel, rfl, by decide +kernel, by decide +kernel⟩
abbrev s_steps_of : Stmt := top 6
abbrev n_steps_of : List Str := ["sheet", "left", "steps", "number", "due"]
theorem sc_steps_of : FnScope n_steps_of ["sheet", "left"] (defScope s_steps_of) := ⟨rfl, rfl, rfl, by decide +kernel, rfl, by decide +kernel, by decide +kernel⟩
abbrev s_heights_of : Stmt := top 11
abbrev n_heights_of : List Str := ["many", "sheet", "left", "heights", "steps", "turn", "step", "member"]
theorem sc_heights_of : FnScope n_heights_of ["many", "sheet", "left"] (defScope s_heights_of) := ⟨rfl, rfl, rfl, by decide +kernel, rfl, by decide +kernel, by decide +kernel⟩
abbrev s_claims : Stmt := top 1
abbrev n_claims : List Str := ["many", "sheet", "sums", "due", "member"]
theorem sc_claims : FnScope n_claims ["many", "sheet"] (defScope s_claims) := ⟨rfl, rfl, rfl, by decide +kernel, rfl, by decide +kernel, by decide +kernel⟩
abbrev s_nets : Stmt := top 2
abbrev n_nets : List Str := ["many", "sheet", "sums", "due"]
theorem sc_nets : FnScope n_nets ["many", "sheet"] (defScope s_nets) := ⟨rfl, rfl, rfl, by decide +kernel, rfl, by decide +kernel, by decide +kernel⟩
abbrev s_room_of : Stmt := top 10
abbrev n_room_of : List Str := ["step", "sheet", "left"]
theorem sc_room_of : FnScope n_room_of ["step", "sheet", "left"] (defScope s_room_of) := ⟨rfl, rfl, rfl, by decide +kernel, rfl, by decide +kernel, by decide +kernel⟩
abbrev s_thinned : Stmt := top 12
abbrev n_thinned : List Str := ["many", "sheet", "left", "spare", "wanting", "starts", "found", "goal", "way", "coins", "step", "due", "net", "member"]
theorem sc_thinned : FnScope n_thinned ["many", "sheet"] (defScope s_thinned) := ⟨rfl, rfl, rfl, by decide +kernel, rfl, by decide +kernel, by decide +kernel⟩
abbrev s__law_cell : Stmt := top 21
abbrev n__law_cell : List Str := ["script", "k"]
theorem sc__law_cell : FnScope n__law_cell ["script", "k"] (defScope s__law_cell) := ⟨rfl, rfl, rfl, by decide +kernel, rfl, by decide +kernel, by decide +kernel⟩
abbrev s__law_amount : Stmt := top 25
abbrev n__law_amount : List Str := ["number", "seed", "way"]
theorem sc__law_amount : FnScope n__law_amount ["number", "seed"] (defScope s__law_amount) := ⟨rfl, rfl, rfl, by decide +kernel, rfl, by decide +kernel, by decide +kernel⟩
abbrev s__law_due : Stmt := top 26
abbrev n__law_due : List Str := ["number", "many", "seed", "payer", "payee", "rank"]
theorem sc__law_due : FnScope n__law_due ["number", "many", "seed"] (defScope s__law_due) := ⟨rfl, rfl, rfl, by decide +kernel, rfl, by decide +kernel, by decide +kernel⟩
abbrev s__law_drawn : Stmt := top 24
abbrev n__law_drawn : List Str := ["script", "k", "seed"]
theorem sc__law_drawn : FnScope n__law_drawn ["script", "k", "seed"] (defScope s__law_drawn) := ⟨rfl, rfl, rfl, by decide +kernel, rfl, by decide +kernel, by decide +kernel⟩
abbrev s__law_sheet : Stmt := top 27
abbrev n__law_sheet : List Str := ["script", "many", "most", "seed", "count", "k"]
theorem sc__law_sheet : FnScope n__law_sheet ["script", "many", "most"] (defScope s__law_sheet) := ⟨rfl, rfl, rfl, by decide +kernel, rfl, by decide +kernel, by decide +kernel⟩
abbrev s__law_whole : Stmt := top 22
abbrev n__law_whole : List Str := ["thing"]
theorem sc__law_whole : FnScope n__law_whole ["thing"] (defScope s__law_whole) := ⟨rfl, rfl, rfl, by decide +kernel, rfl, by decide +kernel, by decide +kernel⟩
abbrev s__law_wholes : Stmt := top 23
abbrev n__law_wholes : List Str := ["told", "size", "thing"]
theorem sc__law_wholes : FnScope n__law_wholes ["told", "size"] (defScope s__law_wholes) := ⟨rfl, rfl, rfl, by decide +kernel, rfl, by decide +kernel, by decide +kernel⟩
abbrev s__law_paid_by : Stmt := top 28
abbrev n__law_paid_by : List Str := ["member", "rest", "sheet", "left", "k"]
theorem sc__law_paid_by : FnScope n__law_paid_by ["member", "rest", "sheet", "left"] (defScope s__law_paid_by) := ⟨rfl, rfl, rfl, by decide +kernel, rfl, by decide +kernel, by decide +kernel⟩
abbrev s__law_ringless : Stmt := top 29
abbrev n__law_ringless : List Str := ["many", "sheet", "left", "rest", "turn", "kept", "member"]
theorem sc__law_ringless : FnScope n__law_ringless ["many", "sheet", "left"] (defScope s__law_ringless) := ⟨rfl, rfl, rfl, by decide +kernel, rfl, by decide +kernel, by decide +kernel⟩
abbrev s__law_on : Stmt := top 31
abbrev n__law_on : List Str := ["member", "sheet", "left", "k"]
theorem sc__law_on : FnScope n__law_on ["member", "sheet", "left"] (defScope s__law_on) := ⟨rfl, rfl, rfl, by decide +kernel, rfl, by decide +kernel, by decide +kernel⟩
abbrev s__law_round : Stmt := top 32
abbrev n__law_round : List Str := ["member", "many", "sheet", "left", "came", "gone", "turn", "number"]
theorem sc__law_round : FnScope n__law_round ["member", "many", "sheet", "left"] (defScope s__law_round) := ⟨rfl, rfl, rfl, by decide +kernel, rfl, by decide +kernel, by decide +kernel⟩
abbrev s__law_other : Stmt := top 33
abbrev n__law_other : List Str := ["script", "many", "sheet", "left", "turn", "start", "ring", "coins", "number", "due"]
theorem sc__law_other : FnScope n__law_other ["script", "many", "sheet"] (defScope s__law_other) := ⟨rfl, rfl, rfl, by decide +kernel, rfl, by decide +kernel, by decide +kernel⟩
abbrev s_amounts_of : Stmt := top 3
abbrev n_amounts_of : List Str := ["sheet", "due"]
theorem sc_amounts_of : FnScope n_amounts_of ["sheet"] (defScope s_amounts_of) := ⟨rfl, rfl, rfl, by decide +kernel, rfl, by decide +kernel, by decide +kernel⟩
abbrev s_payer_due : Stmt := top 14
abbrev n_payer_due : List Str := ["member", "rest", "sheet", "number", "due"]
theorem sc_payer_due : FnScope n_payer_due ["member", "rest", "sheet"] (defScope s_payer_due) := ⟨rfl, rfl, rfl, by decide +kernel, rfl, by decide +kernel, by decide +kernel⟩
abbrev s_unpaid_one : Stmt := top 15
abbrev n_unpaid_one : List Str := ["rest", "sheet", "member"]
theorem sc_unpaid_one : FnScope n_unpaid_one ["rest", "sheet"] (defScope s_unpaid_one) := ⟨rfl, rfl, rfl, by decide +kernel, rfl, by decide +kernel, by decide +kernel⟩
abbrev s_peeled : Stmt := top 16
abbrev n_peeled : List Str := ["many", "sheet", "line", "rest", "member"]
theorem sc_peeled : FnScope n_peeled ["many", "sheet"] (defScope s_peeled) := ⟨rfl, rfl, rfl, by decide +kernel, rfl, by decide +kernel, by decide +kernel⟩
abbrev s_a_ring : Stmt := top 17
abbrev n_a_ring : List Str := ["many", "sheet", "rest", "came", "back", "member", "number"]
theorem sc_a_ring : FnScope n_a_ring ["many", "sheet"] (defScope s_a_ring) := ⟨rfl, rfl, rfl, by decide +kernel, rfl, by decide +kernel, by decide +kernel⟩
abbrev s_with_amounts : Stmt := top 4
abbrev n_with_amounts : List Str := ["sheet", "amounts", "made", "k", "due"]
theorem sc_with_amounts : FnScope n_with_amounts ["sheet", "amounts"] (defScope s_with_amounts) := ⟨rfl, rfl, rfl, by decide +kernel, rfl, by decide +kernel, by decide +kernel⟩
abbrev s_cut : Stmt := top 19
abbrev n_cut : List Str := ["many", "sheet", "left", "cuts", "ring", "coins", "number"]
theorem sc_cut : FnScope n_cut ["many", "sheet"] (defScope s_cut) := ⟨rfl, rfl, rfl, by decide +kernel, rfl, by decide +kernel, by decide +kernel⟩
abbrev s__law_with : Stmt := top 30
abbrev n__law_with : List Str := ["sheet", "left", "k"]
theorem sc__law_with : FnScope n__law_with ["sheet", "left"] (defScope s__law_with) := ⟨rfl, rfl, rfl, by decide +kernel, rfl, by decide +kernel, by decide +kernel⟩
abbrev s_law : Stmt := top 34
abbrev n_law : List Str := ["script", "many", "sheet", "left", "coins", "thrice", "due"]
theorem sc_law : FnScope n_law ["script"] (defScope s_law) := ⟨rfl, rfl, rfl, by decide +kernel, rfl, by decide +kernel, by decide +kernel⟩
structure Tx (K : PySem.W.Frag) (mg : Str → Option Value) (g : Gi) where
  a_reached : Addr
  f_reached : FuncData
  F_reached : Fun K "reached" "reached" s_reached a_reached f_reached
  b_reached : Binds K f_reached ["many", "starts", "steps"] []
  m_reached : mg "reached" = some (.ref a_reached)
  a_nearest : Addr
  f_nearest : FuncData
  F_nearest : Fun K "nearest" "nearest" s_nearest a_nearest f_nearest
  b_nearest : Binds K f_nearest ["lengths", "wanting"] []
  m_nearest : mg "nearest" = some (.ref a_nearest)
  a_way_to : Addr
  f_way_to : FuncData
  F_way_to : Fun K "way_to" "way_to" s_way_to a_way_to f_way_to
  b_way_to : Binds K f_way_to ["goal", "came"] []
  m_way_to : mg "way_to" = some (.ref a_way_to)
  a_steps_of : Addr
  f_steps_of : FuncData
  F_steps_of : Fun K "steps_of" "steps_of" s_steps_of a_steps_of f_steps_of
  b_steps_of : Binds K f_steps_of ["sheet", "left"] []
  m_steps_of : mg "steps_of" = some (.ref a_steps_of)
  a_heights_of : Addr
  f_heights_of : FuncData
  F_heights_of : Fun K "heights_of" "heights_of" s_heights_of a_heights_of f_heights_of
  b_heights_of : Binds K f_heights_of ["many", "sheet", "left"] []
  m_heights_of : mg "heights_of" = some (.ref a_heights_of)
  a_claims : Addr
  f_claims : FuncData
  F_claims : Fun K "claims" "claims" s_claims a_claims f_claims
  b_claims : Binds K f_claims ["many", "sheet"] []
  m_claims : mg "claims" = some (.ref a_claims)
  a_nets : Addr
  f_nets : FuncData
  F_nets : Fun K "nets" "nets" s_nets a_nets f_nets
  b_nets : Binds K f_nets ["many", "sheet"] []
  m_nets : mg "nets" = some (.ref a_nets)
  a_room_of : Addr
  f_room_of : FuncData
  F_room_of : Fun K "room_of" "room_of" s_room_of a_room_of f_room_of
  b_room_of : Binds K f_room_of ["step", "sheet", "left"] []
  m_room_of : mg "room_of" = some (.ref a_room_of)
  a_thinned : Addr
  f_thinned : FuncData
  F_thinned : Fun K "thinned" "thinned" s_thinned a_thinned f_thinned
  b_thinned : Binds K f_thinned ["many", "sheet"] []
  m_thinned : mg "thinned" = some (.ref a_thinned)
  a__law_cell : Addr
  f__law_cell : FuncData
  F__law_cell : Fun K "_law_cell" "_law_cell" s__law_cell a__law_cell f__law_cell
  b__law_cell : Binds K f__law_cell ["script", "k"] []
  m__law_cell : mg "_law_cell" = some (.ref a__law_cell)
  a__law_amount : Addr
  f__law_amount : FuncData
  F__law_amount : Fun K "_law_amount" "_law_amount" s__law_amount a__law_amount f__law_amount
  b__law_amount : Binds K f__law_amount ["number", "seed"] []
  m__law_amount : mg "_law_amount" = some (.ref a__law_amount)
  a__law_due : Addr
  f__law_due : FuncData
  F__law_due : Fun K "_law_due" "_law_due" s__law_due a__law_due f__law_due
  b__law_due : Binds K f__law_due ["number", "many", "seed"] []
  m__law_due : mg "_law_due" = some (.ref a__law_due)
  a__law_drawn : Addr
  f__law_drawn : FuncData
  F__law_drawn : Fun K "_law_drawn" "_law_drawn" s__law_drawn a__law_drawn f__law_drawn
  b__law_drawn : Binds K f__law_drawn ["script", "k", "seed"] []
  m__law_drawn : mg "_law_drawn" = some (.ref a__law_drawn)
  a__law_sheet : Addr
  f__law_sheet : FuncData
  F__law_sheet : Fun K "_law_sheet" "_law_sheet" s__law_sheet a__law_sheet f__law_sheet
  b__law_sheet : Binds K f__law_sheet ["script", "many", "most"] []
  m__law_sheet : mg "_law_sheet" = some (.ref a__law_sheet)
  a__law_whole : Addr
  f__law_whole : FuncData
  F__law_whole : Fun K "_law_whole" "_law_whole" s__law_whole a__law_whole f__law_whole
  b__law_whole : Binds K f__law_whole ["thing"] []
  m__law_whole : mg "_law_whole" = some (.ref a__law_whole)
  a__law_wholes : Addr
  f__law_wholes : FuncData
  F__law_wholes : Fun K "_law_wholes" "_law_wholes" s__law_wholes a__law_wholes f__law_wholes
  b__law_wholes : Binds K f__law_wholes ["told", "size"] []
  m__law_wholes : mg "_law_wholes" = some (.ref a__law_wholes)
  a__law_paid_by : Addr
  f__law_paid_by : FuncData
  F__law_paid_by : Fun K "_law_paid_by" "_law_paid_by" s__law_paid_by a__law_paid_by f__law_paid_by
  b__law_paid_by : Binds K f__law_paid_by ["member", "rest", "sheet", "left"] []
  m__law_paid_by : mg "_law_paid_by" = some (.ref a__law_paid_by)
  a__law_ringless : Addr
  f__law_ringless : FuncData
  F__law_ringless : Fun K "_law_ringless" "_law_ringless" s__law_ringless a__law_ringless f__law_ringless
  b__law_ringless : Binds K f__law_ringless ["many", "sheet", "left"] []
  m__law_ringless : mg "_law_ringless" = some (.ref a__law_ringless)
  a__law_on : Addr
  f__law_on : FuncData
  F__law_on : Fun K "_law_on" "_law_on" s__law_on a__law_on f__law_on
  b__law_on : Binds K f__law_on ["member", "sheet", "left"] []
  m__law_on : mg "_law_on" = some (.ref a__law_on)
  a__law_round : Addr
  f__law_round : FuncData
  F__law_round : Fun K "_law_round" "_law_round" s__law_round a__law_round f__law_round
  b__law_round : Binds K f__law_round ["member", "many", "sheet", "left"] []
  m__law_round : mg "_law_round" = some (.ref a__law_round)
  a__law_other : Addr
  f__law_other : FuncData
  F__law_other : Fun K "_law_other" "_law_other" s__law_other a__law_other f__law_other
  b__law_other : Binds K f__law_other ["script", "many", "sheet"] []
  m__law_other : mg "_law_other" = some (.ref a__law_other)
  a_amounts_of : Addr
  f_amounts_of : FuncData
  F_amounts_of : Fun K "amounts_of" "amounts_of" s_amounts_of a_amounts_of f_amounts_of
  b_amounts_of : Binds K f_amounts_of ["sheet"] []
  m_amounts_of : mg "amounts_of" = some (.ref a_amounts_of)
  a_payer_due : Addr
  f_payer_due : FuncData
  F_payer_due : Fun K "payer_due" "payer_due" s_payer_due a_payer_due f_payer_due
  b_payer_due : Binds K f_payer_due ["member", "rest", "sheet"] []
  m_payer_due : mg "payer_due" = some (.ref a_payer_due)
  a_unpaid_one : Addr
  f_unpaid_one : FuncData
  F_unpaid_one : Fun K "unpaid_one" "unpaid_one" s_unpaid_one a_unpaid_one f_unpaid_one
  b_unpaid_one : Binds K f_unpaid_one ["rest", "sheet"] []
  m_unpaid_one : mg "unpaid_one" = some (.ref a_unpaid_one)
  a_peeled : Addr
  f_peeled : FuncData
  F_peeled : Fun K "peeled" "peeled" s_peeled a_peeled f_peeled
  b_peeled : Binds K f_peeled ["many", "sheet"] []
  m_peeled : mg "peeled" = some (.ref a_peeled)
  a_a_ring : Addr
  f_a_ring : FuncData
  F_a_ring : Fun K "a_ring" "a_ring" s_a_ring a_a_ring f_a_ring
  b_a_ring : Binds K f_a_ring ["many", "sheet"] []
  m_a_ring : mg "a_ring" = some (.ref a_a_ring)
  a_with_amounts : Addr
  f_with_amounts : FuncData
  F_with_amounts : Fun K "with_amounts" "with_amounts" s_with_amounts a_with_amounts f_with_amounts
  b_with_amounts : Binds K f_with_amounts ["sheet", "amounts"] []
  m_with_amounts : mg "with_amounts" = some (.ref a_with_amounts)
  a_cut : Addr
  f_cut : FuncData
  F_cut : Fun K "cut" "cut" s_cut a_cut f_cut
  b_cut : Binds K f_cut ["many", "sheet"] []
  m_cut : mg "cut" = some (.ref a_cut)
  a__law_with : Addr
  f__law_with : FuncData
  F__law_with : Fun K "_law_with" "_law_with" s__law_with a__law_with f__law_with
  b__law_with : Binds K f__law_with ["sheet", "left"] []
  m__law_with : mg "_law_with" = some (.ref a__law_with)
  a_law : Addr
  f_law : FuncData
  F_law : Fun K "law" "law" s_law a_law f_law
  b_law : Binds K f_law ["script"] []
  m_law : mg "law" = some (.ref a_law)
  z_bool : mg "bool" = none
  z_int : mg "int" = none
  z_isinstance : mg "isinstance" = none
  z_len : mg "len" = none
  z_list : mg "list" = none
  z_max : mg "max" = none
  z_min : mg "min" = none
  z_range : mg "range" = none
  z_reversed : mg "reversed" = none
  z_sum : mg "sum" = none
section
variable {P : Program} {w0 : World} {K : PySem.W.Frag} {mg : Str → Option Value} {base : Heap} {g : Gi}
theorem ok_reached (T : Tx K mg g) : FnOk P w0 K mg base (L2.CX P w0) 1 T.a_reached T.f_reached ["many", "starts", "steps"] (spW K g 3 u_reached) :=
  fn_trim (fn_ok (k := 0) (N := n_reached) T.F_reached sc_reached (fun cdv A outer s H E hr =>
    (ss_cons (ss_setLcC (j := 3) rfl sc_reached.nd rfl rfl (sw_true rfl rfl rfl (by decide +kernel)) (own := [("member", 8)]) (i := 8) (si_rng1 rfl T.z_range (sa_cons (se_var 0) sa_nil)) (blkOk_by (N := n_reached) (sc := defScope s_reached) (by decide +kernel)) (by decide) (fun _ _ _ _ _ => pg_name (i := 8) sc_reached.nd rfl (Or.inl rfl)) (fun _ _ _ _ _ => sts_nil) (fun _ _ _ _ _ => (se_ifE (st_cmp gc_in (se_var 8) (se_var 1)) se_int se_non)))
    (ss_cons (ss_setLcC (j := 4) rfl sc_reached.nd rfl rfl (sw_true rfl rfl rfl (by decide +kernel)) (own := [("member", 8)]) (i := 8) (si_rng1 rfl T.z_range (sa_cons (se_var 0) sa_nil)) (blkOk_by (N := n_reached) (sc := defScope s_reached) (by decide +kernel)) (by decide) (fun _ _ _ _ _ => pg_name (i := 8) sc_reached.nd rfl (Or.inl rfl)) (fun _ _ _ _ _ => sts_nil) (fun _ _ _ _ _ => se_non))
    (ss_cons (ss_for 5 (passes_of rfl) rfl sc_reached.nd (si_rng1 rfl T.z_range (sa_cons (se_var 0) sa_nil))
    (ss_one (ss_for 6 (passes_of rfl) rfl sc_reached.nd (si_seq (se_var 2))
    (ss_one (ss_if (st_cmp gc_notN (se_ix (se_var 3) (se_ix (se_var 6) se_int)) se_non)
    (ss_cons (ss_set 7 sc_reached.nd (se_add (se_add (se_ix (se_var 3) (se_ix (se_var 6) se_int)) (se_mul se_int (se_ix (se_var 6) se_int))) se_int))
    (ss_one (ss_if (SPw.st (sw_or (st_cmp gc_isN (se_ix (se_var 3) (se_ix (se_var 6) se_int)) se_non) (sw_one (st_cmp gc_lt (se_var 7) (se_ix (se_var 3) (se_ix (se_var 6) se_int))))))
    (ss_cons (ss_sto (se_var 7) (se_var 3) (se_ix (se_var 6) se_int))
    (ss_one (ss_sto (se_var 6) (se_var 4) (se_ix (se_var 6) se_int))))
    ss_nil)))
    ss_nil)))))
    (ss_one (ss_ret (se_frzD (se_tup (sa_cons (se_var 3) (sa_cons (se_var 4) sa_nil)))))))))))
theorem ok_nearest (T : Tx K mg g) : FnOk P w0 K mg base (L2.CX P w0) 1 T.a_nearest T.f_nearest ["lengths", "wanting"] (spW K g 2 u_nearest) :=
  fn_ok (k := 0) (N := n_nearest) T.F_nearest sc_nearest (fun cdv A outer s H E hr =>
    (ss_cons (ss_set 2 sc_nearest.nd se_non)
    (ss_cons (ss_for 3 (passes_of rfl) rfl sc_nearest.nd (si_rng1 rfl T.z_range (sa_cons (se_len rfl T.z_len (sa_cons (se_var 0) sa_nil)) sa_nil))
    (ss_one (ss_if (SPw.st (sw_and (st_cmp gc_gt (se_ix (se_var 1) (se_var 3)) se_int) (sw_one (st_cmp gc_notN (se_ix (se_var 0) (se_var 3)) se_non))))
    (ss_one (ss_if (SPw.st (sw_or (st_cmp gc_isN (se_var 2) se_non) (sw_one (st_cmp gc_lt (se_ix (se_var 0) (se_var 3)) (se_ix (se_var 0) (se_var 2))))))
    (ss_one (ss_set 2 sc_nearest.nd (se_var 3)))
    ss_nil))
    ss_nil)))
    (ss_one (ss_ret (se_var 2))))))
theorem ok_way_to (T : Tx K mg g) : FnOk P w0 K mg base (L2.CX P w0) 1 T.a_way_to T.f_way_to ["goal", "came"] (spW K g 2 u_way_to) :=
  fn_trim (fn_ok (k := 0) (N := n_way_to) T.F_way_to sc_way_to (fun cdv A outer s H E hr =>
    (ss_cons (ss_set 2 sc_way_to.nd (se_lstC sa_nil))
    (ss_cons (ss_while (passes_of rfl) (st_cmp gc_notN (se_ix (se_var 1) (se_var 0)) se_non)
    (ss_cons (ss_expr (se_app (se_var 2) (sa_cons (se_ix (se_var 1) (se_var 0)) sa_nil)))
    (ss_one (ss_set 0 sc_way_to.nd (se_ix (se_ix (se_var 1) (se_var 0)) se_int)))))
    (ss_one (ss_ret (se_frzD (se_tup (sa_cons (se_var 0) (sa_cons (se_var 2) sa_nil))))))))))
theorem ok_steps_of (T : Tx K mg g) : FnOk P w0 K mg base (L2.CX P w0) 1 T.a_steps_of T.f_steps_of ["sheet", "left"] (spW K g 2 u_steps_of) :=
  fn_trim (fn_ok (k := 0) (N := n_steps_of) T.F_steps_of sc_steps_of (fun cdv A outer s H E hr =>
    (ss_cons (ss_set 2 sc_steps_of.nd (se_lstC sa_nil))
    (ss_cons (ss_for 3 (passes_of rfl) rfl sc_steps_of.nd (si_rng1 rfl T.z_range (sa_cons (se_len rfl T.z_len (sa_cons (se_var 0) sa_nil)) sa_nil))
    (ss_cons (ss_set 4 sc_steps_of.nd (se_ix (se_var 0) (se_var 3)))
    (ss_cons (ss_if (st_cmp gc_lt (se_ix (se_var 1) (se_var 3)) (se_ix (se_var 4) se_int))
    (ss_one (ss_expr (se_app (se_var 2) (sa_cons (se_tup (sa_cons (se_ix (se_var 4) se_int) (sa_cons (se_ix (se_var 4) se_int) (sa_cons se_int (sa_cons (se_var 3) sa_nil))))) sa_nil))))
    ss_nil)
    (ss_one (ss_if (st_cmp gc_gt (se_ix (se_var 1) (se_var 3)) se_int)
    (ss_one (ss_expr (se_app (se_var 2) (sa_cons (se_tup (sa_cons (se_ix (se_var 4) se_int) (sa_cons (se_ix (se_var 4) se_int) (sa_cons (se_neg se_int) (sa_cons (se_var 3) sa_nil))))) sa_nil))))
    ss_nil)))))
    (ss_one (ss_ret (se_frz (se_var 2))))))))
theorem ok_heights_of (T : Tx K mg g) : FnOk P w0 K mg base (L2.CX P w0) 2 T.a_heights_of T.f_heights_of ["many", "sheet", "left"] (spW K g 3 u_heights_of) :=
  fn_trim (fn_ok (k := 1) (N := n_heights_of) T.F_heights_of sc_heights_of (fun cdv A outer s H E hr =>
    (ss_cons (ss_setLcC (j := 3) rfl sc_heights_of.nd rfl rfl (sw_true rfl rfl rfl (by decide +kernel)) (own := [("member", 7)]) (i := 7) (si_rng1 rfl T.z_range (sa_cons (se_var 0) sa_nil)) (blkOk_by (N := n_heights_of) (sc := defScope s_heights_of) (by decide +kernel)) (by decide) (fun _ _ _ _ _ => pg_name (i := 7) sc_heights_of.nd rfl (Or.inl rfl)) (fun _ _ _ _ _ => sts_nil) (fun _ _ _ _ _ => se_int))
    (ss_cons (ss_set 4 sc_heights_of.nd (se_call (ok_steps_of T) l_steps_of (hr.mono (by decide)) rfl T.m_steps_of T.F_steps_of.kp T.b_steps_of (takes_of rfl rfl rfl rfl) (sa_cons (se_var 1) (sa_cons (se_var 2) sa_nil))))
    (ss_cons (ss_for 5 (passes_of rfl) rfl sc_heights_of.nd (si_rng1 rfl T.z_range (sa_cons (se_var 0) sa_nil))
    (ss_one (ss_for 6 (passes_of rfl) rfl sc_heights_of.nd (si_seq (se_var 4))
    (ss_one (ss_sto (se_min rfl rfl T.z_min (sa_cons (se_ix (se_var 3) (se_ix (se_var 6) se_int)) (sa_cons (se_add (se_ix (se_var 3) (se_ix (se_var 6) se_int)) (se_ix (se_var 6) se_int)) sa_nil))) (se_var 3) (se_ix (se_var 6) se_int))))))
    (ss_one (ss_ret (se_frz (se_var 3)))))))))
theorem ok_claims_C (T : Tx K mg g) : FnOk P w0 K mg base (L2.CX P w0) 1 T.a_claims T.f_claims ["many", "sheet"] (spW K g 2 u_claims_C) :=
  fn_trimC (fn_ok (k := 0) (N := n_claims) T.F_claims sc_claims (fun cdv A outer s H E hr =>
    (ss_cons (ss_setLcC (j := 2) rfl sc_claims.nd rfl rfl (sw_true rfl rfl rfl (by decide +kernel)) (own := [("member", 4)]) (i := 4) (si_rng1 rfl T.z_range (sa_cons (se_var 0) sa_nil)) (blkOk_by (N := n_claims) (sc := defScope s_claims) (by decide +kernel)) (by decide) (fun _ _ _ _ _ => pg_name (i := 4) sc_claims.nd rfl (Or.inl rfl)) (fun _ _ _ _ _ => sts_nil) (fun _ _ _ _ _ => se_int))
    (ss_cons (ss_for 3 (passes_of rfl) rfl sc_claims.nd (si_seq (se_var 1))
    (ss_one (ss_sto (se_add (se_ix (se_var 2) (se_ix (se_var 3) se_int)) (se_ix (se_var 3) se_int)) (se_var 2) (se_ix (se_var 3) se_int))))
    (ss_one (ss_ret (se_var 2)))))))
theorem ok_nets (T : Tx K mg g) : FnOk P w0 K mg base (L2.CX P w0) 2 T.a_nets T.f_nets ["many", "sheet"] (spW K g 2 u_nets) :=
  fn_trim (fn_ok (k := 1) (N := n_nets) T.F_nets sc_nets (fun cdv A outer s H E hr =>
    (ss_cons (ss_set 2 sc_nets.nd (se_call (ok_claims_C T) l_claims_C (hr.mono (by decide)) rfl T.m_claims T.F_claims.kp T.b_claims (takes_of rfl rfl rfl rfl) (sa_cons (se_var 0) (sa_cons (se_var 1) sa_nil))))
    (ss_cons (ss_for 3 (passes_of rfl) rfl sc_nets.nd (si_seq (se_var 1))
    (ss_one (ss_sto (se_sub (se_ix (se_var 2) (se_ix (se_var 3) se_int)) (se_ix (se_var 3) se_int)) (se_var 2) (se_ix (se_var 3) se_int))))
    (ss_one (ss_ret (se_frz (se_var 2))))))))
theorem ok_room_of (T : Tx K mg g) : FnOk P w0 K mg base (L2.CX P w0) 1 T.a_room_of T.f_room_of ["step", "sheet", "left"] (spW K g 3 u_room_of) :=
  fn_ok (k := 0) (N := n_room_of) T.F_room_of sc_room_of (fun cdv A outer s H E hr =>
    (ss_cons (ss_if (st_cmp gc_gt (se_ix (se_var 0) se_int) se_int)
    (ss_one (ss_ret (se_sub (se_ix (se_ix (se_var 1) (se_ix (se_var 0) se_int)) se_int) (se_ix (se_var 2) (se_ix (se_var 0) se_int)))))
    ss_nil)
    (ss_one (ss_ret (se_ix (se_var 2) (se_ix (se_var 0) se_int))))))
theorem ok_thinned (T : Tx K mg g) : FnOk P w0 K mg base (L2.CX P w0) 3 T.a_thinned T.f_thinned ["many", "sheet"] (spW K g 2 u_thinned) :=
  fn_trim (fn_ok (k := 2) (N := n_thinned) T.F_thinned sc_thinned (fun cdv A outer s H E hr =>
    (ss_cons (ss_set 2 sc_thinned.nd (se_lcC (own := [("due", 11)]) (i := 11) rfl sc_thinned.nd (si_seq (se_var 1)) (blkOk_by (N := n_thinned) (sc := defScope s_thinned) (by decide +kernel)) (by decide) (fun _ _ _ _ _ => pg_name (i := 11) sc_thinned.nd rfl (Or.inl rfl)) (fun _ _ _ _ _ => sts_nil) (fun _ _ _ _ _ => se_int)))
    (ss_cons (ss_set 3 sc_thinned.nd (se_lcC (own := [("net", 12)]) (i := 12) rfl sc_thinned.nd (si_seq (se_call (ok_nets T) l_nets (hr.mono (by decide)) rfl T.m_nets T.F_nets.kp T.b_nets (takes_of rfl rfl rfl rfl) (sa_cons (se_var 0) (sa_cons (se_var 1) sa_nil)))) (blkOk_by (N := n_thinned) (sc := defScope s_thinned) (by decide +kernel)) (by decide) (fun _ _ _ _ _ => pg_name (i := 12) sc_thinned.nd rfl (Or.inl rfl)) (fun _ _ _ _ _ => sts_nil) (fun _ _ _ _ _ => (se_max rfl rfl T.z_max (sa_cons se_int (sa_cons (se_neg (se_var 12)) sa_nil))))))
    (ss_cons (ss_setLcC (j := 4) rfl sc_thinned.nd rfl rfl (sw_true rfl rfl rfl (by decide +kernel)) (own := [("net", 12)]) (i := 12) (si_seq (se_call (ok_nets T) l_nets (hr.mono (by decide)) rfl T.m_nets T.F_nets.kp T.b_nets (takes_of rfl rfl rfl rfl) (sa_cons (se_var 0) (sa_cons (se_var 1) sa_nil)))) (blkOk_by (N := n_thinned) (sc := defScope s_thinned) (by decide +kernel)) (by decide) (fun _ _ _ _ _ => pg_name (i := 12) sc_thinned.nd rfl (Or.inl rfl)) (fun _ _ _ _ _ => sts_nil) (fun _ _ _ _ _ => (se_max rfl rfl T.z_max (sa_cons se_int (sa_cons (se_var 12) sa_nil)))))
    (ss_cons (ss_while (passes_of rfl) (st_cmp gc_gt (se_sum rfl rfl T.z_sum (sa_cons (se_var 3) sa_nil)) se_int)
    (ss_cons (ss_setLc (j := 5) rfl sc_thinned.nd rfl rfl (sw_true rfl rfl rfl (by decide +kernel)) (own := [("member", 13)]) (i := 13) (si_rng1 rfl T.z_range (sa_cons (se_var 0) sa_nil)) (blkOk_by (N := n_thinned) (sc := defScope s_thinned) (by decide +kernel)) (by decide) (fun _ _ _ _ _ => pg_name (i := 13) sc_thinned.nd rfl (Or.inl rfl)) (fun _ _ _ _ _ => (sts_one (st_cmp gc_gt (se_ix (se_var 3) (se_var 13)) se_int))) (fun _ _ _ _ _ => (se_var 13)))
    (ss_cons (ss_set 6 sc_thinned.nd (se_call (ok_reached T) l_reached (hr.mono (by decide)) rfl T.m_reached T.F_reached.kp T.b_reached (takes_of rfl rfl rfl rfl) (sa_cons (se_var 0) (sa_cons (se_var 5) (sa_cons (se_call (ok_steps_of T) l_steps_of (hr.mono (by decide)) rfl T.m_steps_of T.F_steps_of.kp T.b_steps_of (takes_of rfl rfl rfl rfl) (sa_cons (se_var 1) (sa_cons (se_var 2) sa_nil))) sa_nil)))))
    (ss_cons (ss_set 7 sc_thinned.nd (se_call (ok_nearest T) l_nearest (hr.mono (by decide)) rfl T.m_nearest T.F_nearest.kp T.b_nearest (takes_of rfl rfl rfl rfl) (sa_cons (se_ix (se_var 6) se_int) (sa_cons (se_var 4) sa_nil))))
    (ss_cons (ss_set 8 sc_thinned.nd (se_call (ok_way_to T) l_way_to (hr.mono (by decide)) rfl T.m_way_to T.F_way_to.kp T.b_way_to (takes_of rfl rfl rfl rfl) (sa_cons (se_var 7) (sa_cons (se_ix (se_var 6) se_int) sa_nil))))
    (ss_cons (ss_set 9 sc_thinned.nd (se_min rfl rfl T.z_min (sa_cons (se_lc (own := [("step", 10)]) (i := 10) rfl sc_thinned.nd (si_seq (se_ix (se_var 8) se_int)) (blkOk_by (N := n_thinned) (sc := defScope s_thinned) (by decide +kernel)) (by decide) (fun _ _ _ _ _ => pg_name (i := 10) sc_thinned.nd rfl (Or.inl rfl)) (fun _ _ _ _ _ => sts_nil) (fun _ _ _ _ _ => (se_call (ok_room_of T) l_room_of (hr.mono (by decide)) rfl T.m_room_of T.F_room_of.kp T.b_room_of takes0 (sa_cons (se_var 10) (sa_cons (se_var 1) (sa_cons (se_var 2) sa_nil)))))) sa_nil)))
    (ss_cons (ss_set 9 sc_thinned.nd (se_min rfl rfl T.z_min (sa_cons (se_lst (sa_cons (se_var 9) (sa_cons (se_ix (se_var 3) (se_ix (se_var 8) se_int)) (sa_cons (se_ix (se_var 4) (se_var 7)) sa_nil)))) sa_nil)))
    (ss_cons (ss_sto (se_sub (se_ix (se_var 3) (se_ix (se_var 8) se_int)) (se_var 9)) (se_var 3) (se_ix (se_var 8) se_int))
    (ss_cons (ss_sto (se_sub (se_ix (se_var 4) (se_var 7)) (se_var 9)) (se_var 4) (se_var 7))
    (ss_one (ss_for 10 (passes_of rfl) rfl sc_thinned.nd (si_seq (se_ix (se_var 8) se_int))
    (ss_one (ss_sto (se_add (se_ix (se_var 2) (se_ix (se_var 10) se_int)) (se_mul (se_var 9) (se_ix (se_var 10) se_int))) (se_var 2) (se_ix (se_var 10) se_int))))))))))))))
    (ss_one (ss_ret (se_frzD (se_tup (sa_cons (se_var 2) (sa_cons (se_call (ok_heights_of T) l_heights_of (hr.mono (by decide)) rfl T.m_heights_of T.F_heights_of.kp T.b_heights_of (takes_of rfl rfl rfl rfl) (sa_cons (se_var 0) (sa_cons (se_var 1) (sa_cons (se_var 2) sa_nil)))) sa_nil))))))))))))
theorem ok__law_cell (T : Tx K mg g) : FnOk P w0 K mg base (L2.CX P w0) 1 T.a__law_cell T.f__law_cell ["script", "k"] (spW K g 2 u__law_cell) :=
  fn_ok (k := 0) (N := n__law_cell) T.F__law_cell sc__law_cell (fun cdv A outer s H E hr =>
    (ss_cons (ss_if (st_cmp gc_lt (se_var 1) (se_len rfl T.z_len (sa_cons (se_var 0) sa_nil)))
    (ss_one (ss_ret (se_ix (se_var 0) (se_var 1))))
    ss_nil)
    (ss_one (ss_ret se_int))))
theorem ok__law_amount (T : Tx K mg g) : FnOk P w0 K mg base (L2.CX P w0) 1 T.a__law_amount T.f__law_amount ["number", "seed"] (spW K g 2 u__law_amount) :=
  fn_ok (k := 0) (N := n__law_amount) T.F__law_amount sc__law_amount (fun cdv A outer s H E hr =>
    (ss_cons (ss_set 2 sc__law_amount.nd (se_mod (se_mod (se_mul (se_var 0) se_int) se_int) se_int))
    (ss_cons (ss_if (st_cmp (gc_eq hr.units) (se_var 2) se_int)
    (ss_one (ss_ret (se_mod (se_mod (se_mul (se_var 0) se_int) se_int) se_int)))
    ss_nil)
    (ss_cons (ss_if (st_cmp (gc_eq hr.units) (se_var 2) se_int)
    (ss_one (ss_ret (se_mod (se_var 1) se_int)))
    ss_nil)
    (ss_cons (ss_if (st_cmp (gc_eq hr.units) (se_var 2) se_int)
    (ss_one (ss_ret (se_mod (se_mod (se_mul (se_var 0) se_int) se_int) se_int)))
    ss_nil)
    (ss_cons (ss_if (st_cmp (gc_eq hr.units) (se_var 2) se_int)
    (ss_one (ss_ret (se_sub (se_pow se_int se_int) (se_mod (se_mod (se_mul (se_var 0) se_int) se_int) se_int))))
    ss_nil)
    (ss_one (ss_ret (se_mod (se_mul (se_var 0) se_int) (se_add (se_pow se_int se_int) se_int))))))))))
theorem ok__law_due (T : Tx K mg g) : FnOk P w0 K mg base (L2.CX P w0) 2 T.a__law_due T.f__law_due ["number", "many", "seed"] (spW K g 3 u__law_due) :=
  fn_ok (k := 1) (N := n__law_due) T.F__law_due sc__law_due (fun cdv A outer s H E hr =>
    (ss_cons (ss_set 3 sc__law_due.nd (se_mod (se_mod (se_mul (se_var 0) se_int) se_int) (se_var 1)))
    (ss_cons (ss_set 4 sc__law_due.nd (se_mod (se_add (se_add (se_var 3) se_int) (se_mod (se_mod (se_mul (se_var 0) se_int) se_int) (se_sub (se_var 1) se_int))) (se_var 1)))
    (ss_cons (ss_set 5 sc__law_due.nd (se_mod (se_mod (se_mul (se_var 0) se_int) se_int) se_int))
    (ss_one (ss_ret (se_tup (sa_cons (se_var 3) (sa_cons (se_var 4) (sa_cons (se_var 5) (sa_cons (se_call (ok__law_amount T) l__law_amount (hr.mono (by decide)) rfl T.m__law_amount T.F__law_amount.kp T.b__law_amount (takes_of rfl rfl rfl rfl) (sa_cons (se_var 0) (sa_cons (se_var 2) sa_nil))) sa_nil)))))))))))
theorem ok__law_drawn (T : Tx K mg g) : FnOk P w0 K mg base (L2.CX P w0) 2 T.a__law_drawn T.f__law_drawn ["script", "k", "seed"] (spW K g 3 u__law_drawn) :=
  fn_ok (k := 1) (N := n__law_drawn) T.F__law_drawn sc__law_drawn (fun cdv A outer s H E hr =>
    (ss_one (ss_ret (se_add se_int (se_mod (se_add (se_call (ok__law_cell T) l__law_cell (hr.mono (by decide)) rfl T.m__law_cell T.F__law_cell.kp T.b__law_cell (takes_of rfl rfl rfl rfl) (sa_cons (se_var 0) (sa_cons (se_var 1) sa_nil))) (se_mul (se_var 2) (se_add (se_mul (se_var 1) (se_var 1)) se_int))) (se_pow se_int se_int))))))
theorem ok__law_sheet (T : Tx K mg g) : FnOk P w0 K mg base (L2.CX P w0) 3 T.a__law_sheet T.f__law_sheet ["script", "many", "most"] (spW K g 3 u__law_sheet) :=
  fn_ok (k := 2) (N := n__law_sheet) T.F__law_sheet sc__law_sheet (fun cdv A outer s H E hr =>
    (ss_cons (ss_if (st_cmp (gc_eq hr.units) (se_var 1) se_int)
    (ss_one (ss_ret (se_lst sa_nil)))
    ss_nil)
    (ss_cons (ss_set 3 sc__law_sheet.nd (se_mod (se_call (ok__law_cell T) l__law_cell (hr.mono (by decide)) rfl T.m__law_cell T.F__law_cell.kp T.b__law_cell (takes_of rfl rfl rfl rfl) (sa_cons (se_var 0) (sa_cons se_int sa_nil))) (se_pow se_int se_int)))
    (ss_cons (ss_set 4 sc__law_sheet.nd (se_max rfl rfl T.z_max (sa_cons (se_len rfl T.z_len (sa_cons (se_slice (se_var 0) (so_some se_int) (so_some (se_add se_int (se_var 2)))) sa_nil)) (sa_cons (se_mod (se_call (ok__law_cell T) l__law_cell (hr.mono (by decide)) rfl T.m__law_cell T.F__law_cell.kp T.b__law_cell (takes_of rfl rfl rfl rfl) (sa_cons (se_var 0) (sa_cons se_int sa_nil))) (se_add (se_var 2) se_int)) sa_nil))))
    (ss_one (ss_ret (se_lc (own := [("k", 5)]) (i := 5) rfl sc__law_sheet.nd (si_rng1 rfl T.z_range (sa_cons (se_var 4) sa_nil)) (blkOk_by (N := n__law_sheet) (sc := defScope s__law_sheet) (by decide +kernel)) (by decide) (fun _ _ _ _ _ => pg_name (i := 5) sc__law_sheet.nd rfl (Or.inl rfl)) (fun _ _ _ _ _ => sts_nil) (fun _ _ _ _ _ => (se_call (ok__law_due T) l__law_due (hr.mono (by decide)) rfl T.m__law_due T.F__law_due.kp T.b__law_due takes0 (sa_cons (se_call (ok__law_drawn T) l__law_drawn (hr.mono (by decide)) rfl T.m__law_drawn T.F__law_drawn.kp T.b__law_drawn takes0 (sa_cons (se_var 0) (sa_cons (se_add se_int (se_var 5)) (sa_cons (se_var 3) sa_nil)))) (sa_cons (se_var 1) (sa_cons (se_var 3) sa_nil))))))))))))
theorem ok__law_whole (T : Tx K mg g) : FnOk P w0 K mg base (L2.CX P w0) 1 T.a__law_whole T.f__law_whole ["thing"] (spW K g 1 u__law_whole) :=
  fn_ok (k := 0) (N := n__law_whole) T.F__law_whole sc__law_whole (fun cdv A outer s H E hr =>
    (ss_one (ss_ret (se_and (se_isi .int rfl T.z_isinstance (se_var 0) rfl T.z_int) (se_one (se_not (se_isi .bool rfl T.z_isinstance (se_var 0) rfl T.z_bool)))))))
theorem ok__law_wholes (T : Tx K mg g) : FnOk P w0 K mg base (L2.CX P w0) 2 T.a__law_wholes T.f__law_wholes ["told", "size"] (spW K g 2 u__law_wholes) :=
  fn_ok (k := 1) (N := n__law_wholes) T.F__law_wholes sc__law_wholes (fun cdv A outer s H E hr =>
    (ss_cons (ss_if (SPw.st (sw_or (st_not (st_val (se_isi .list rfl T.z_isinstance (se_var 0) rfl T.z_list))) (sw_one (st_cmp (gc_ne hr.units) (se_len rfl T.z_len (sa_cons (se_var 0) sa_nil)) (se_var 1)))))
    (ss_one (ss_ret se_bl))
    ss_nil)
    (ss_cons (ss_for 2 (passes_of rfl) rfl sc__law_wholes.nd (si_seq (se_var 0))
    (ss_one (ss_if (st_not (st_val (se_call (ok__law_whole T) l__law_whole (hr.mono (by decide)) rfl T.m__law_whole T.F__law_whole.kp T.b__law_whole (takes_of rfl rfl rfl rfl) (sa_cons (se_var 2) sa_nil))))
    (ss_one (ss_ret se_bl))
    ss_nil)))
    (ss_one (ss_ret se_bl)))))
theorem ok__law_paid_by (T : Tx K mg g) : FnOk P w0 K mg base (L2.CX P w0) 1 T.a__law_paid_by T.f__law_paid_by ["member", "rest", "sheet", "left"] (spW K g 4 u__law_paid_by) :=
  fn_ok (k := 0) (N := n__law_paid_by) T.F__law_paid_by sc__law_paid_by (fun cdv A outer s H E hr =>
    (ss_cons (ss_for 4 (passes_of rfl) rfl sc__law_paid_by.nd (si_rng1 rfl T.z_range (sa_cons (se_len rfl T.z_len (sa_cons (se_var 2) sa_nil)) sa_nil))
    (ss_one (ss_if (SPw.st (sw_and (st_cmp gc_gt (se_ix (se_var 3) (se_var 4)) se_int) (sw_and (st_cmp (gc_eq hr.units) (se_ix (se_ix (se_var 2) (se_var 4)) se_int) (se_var 0)) (sw_one (st_cmp gc_in (se_ix (se_ix (se_var 2) (se_var 4)) se_int) (se_var 1))))))
    (ss_one (ss_ret se_bl))
    ss_nil)))
    (ss_one (ss_ret se_bl))))
theorem ok__law_ringless (T : Tx K mg g) : FnOk P w0 K mg base (L2.CX P w0) 2 T.a__law_ringless T.f__law_ringless ["many", "sheet", "left"] (spW K g 3 u__law_ringless) :=
  fn_ok (k := 1) (N := n__law_ringless) T.F__law_ringless sc__law_ringless (fun cdv A outer s H E hr =>
    (ss_cons (ss_set 3 sc__law_ringless.nd (se_lstRg rfl rfl T.z_list rfl T.z_range (se_var 0)))
    (ss_cons (ss_for 4 (passes_of rfl) rfl sc__law_ringless.nd (si_rng1 rfl T.z_range (sa_cons (se_var 0) sa_nil))
    (ss_cons (ss_setLc (j := 5) rfl sc__law_ringless.nd rfl rfl (sw_true rfl rfl rfl (by decide +kernel)) (own := [("member", 6)]) (i := 6) (si_seq (se_var 3)) (blkOk_by (N := n__law_ringless) (sc := defScope s__law_ringless) (by decide +kernel)) (by decide) (fun _ _ _ _ _ => pg_name (i := 6) sc__law_ringless.nd rfl (Or.inl rfl)) (fun _ _ _ _ _ => (sts_one (st_val (se_call (ok__law_paid_by T) l__law_paid_by (hr.mono (by decide)) rfl T.m__law_paid_by T.F__law_paid_by.kp T.b__law_paid_by takes0 (sa_cons (se_var 6) (sa_cons (se_var 3) (sa_cons (se_var 1) (sa_cons (se_var 2) sa_nil)))))))) (fun _ _ _ _ _ => (se_var 6)))
    (ss_one (ss_set 3 sc__law_ringless.nd (se_var 5)))))
    (ss_one (ss_ret (se_cmp (gc_eq hr.units) (se_len rfl T.z_len (sa_cons (se_var 3) sa_nil)) se_int))))))
theorem ok__law_on (T : Tx K mg g) : FnOk P w0 K mg base (L2.CX P w0) 1 T.a__law_on T.f__law_on ["member", "sheet", "left"] (spW K g 3 u__law_on) :=
  fn_ok (k := 0) (N := n__law_on) T.F__law_on sc__law_on (fun cdv A outer s H E hr =>
    (ss_cons (ss_for 3 (passes_of rfl) rfl sc__law_on.nd (si_rng1 rfl T.z_range (sa_cons (se_len rfl T.z_len (sa_cons (se_var 1) sa_nil)) sa_nil))
    (ss_one (ss_if (SPw.st (sw_and (st_cmp gc_gt (se_ix (se_var 2) (se_var 3)) se_int) (sw_one (st_cmp (gc_eq hr.units) (se_ix (se_ix (se_var 1) (se_var 3)) se_int) (se_var 0)))))
    (ss_one (ss_ret (se_var 3)))
    ss_nil)))
    (ss_one (ss_ret se_non))))
theorem ok__law_round (T : Tx K mg g) : FnOk P w0 K mg base (L2.CX P w0) 2 T.a__law_round T.f__law_round ["member", "many", "sheet", "left"] (spW K g 4 u__law_round) :=
  fn_trim (fn_ok (k := 1) (N := n__law_round) T.F__law_round sc__law_round (fun cdv A outer s H E hr =>
    (ss_cons (ss_set 4 sc__law_round.nd (se_lstC sa_nil))
    (ss_cons (ss_set 5 sc__law_round.nd (se_lstC sa_nil))
    (ss_cons (ss_for 6 (passes_of rfl) rfl sc__law_round.nd (si_rng1 rfl T.z_range (sa_cons (se_var 1) sa_nil))
    (ss_cons (ss_expr (se_app (se_var 4) (sa_cons (se_var 0) sa_nil)))
    (ss_cons (ss_set 7 sc__law_round.nd (se_call (ok__law_on T) l__law_on (hr.mono (by decide)) rfl T.m__law_on T.F__law_on.kp T.b__law_on (takes_of rfl rfl rfl rfl) (sa_cons (se_var 0) (sa_cons (se_var 2) (sa_cons (se_var 3) sa_nil)))))
    (ss_cons (ss_if (st_cmp gc_isN (se_var 7) se_non)
    (ss_one (ss_ret (se_lst sa_nil)))
    ss_nil)
    (ss_cons (ss_expr (se_app (se_var 5) (sa_cons (se_var 7) sa_nil)))
    (ss_cons (ss_set 0 sc__law_round.nd (se_ix (se_ix (se_var 2) (se_var 7)) se_int))
    (ss_one (ss_if (st_cmp gc_in (se_var 0) (se_var 4))
    (ss_one (ss_ret (se_slice (se_var 5) (so_some (se_idx (se_var 4) (sa_cons (se_var 0) sa_nil))) so_none)))
    ss_nil))))))))
    (ss_one (ss_ret (se_lst sa_nil))))))))
theorem ok__law_other (T : Tx K mg g) : FnOk P w0 K mg base (L2.CX P w0) 3 T.a__law_other T.f__law_other ["script", "many", "sheet"] (spW K g 3 u__law_other) :=
  fn_trim (fn_ok (k := 2) (N := n__law_other) T.F__law_other sc__law_other (fun cdv A outer s H E hr =>
    (ss_cons (ss_set 3 sc__law_other.nd (se_lcC (own := [("due", 9)]) (i := 9) rfl sc__law_other.nd (si_seq (se_var 2)) (blkOk_by (N := n__law_other) (sc := defScope s__law_other) (by decide +kernel)) (by decide) (fun _ _ _ _ _ => pg_name (i := 9) sc__law_other.nd rfl (Or.inl rfl)) (fun _ _ _ _ _ => sts_nil) (fun _ _ _ _ _ => (se_ix (se_var 9) se_int))))
    (ss_cons (ss_for 4 (passes_of rfl) rfl sc__law_other.nd (si_rng1 rfl T.z_range (sa_cons se_int sa_nil))
    (ss_cons (ss_set 5 sc__law_other.nd (se_mod (se_add (se_call (ok__law_cell T) l__law_cell (hr.mono (by decide)) rfl T.m__law_cell T.F__law_cell.kp T.b__law_cell (takes_of rfl rfl rfl rfl) (sa_cons (se_var 0) (sa_cons (se_add se_int (se_var 4)) sa_nil))) (se_var 4)) (se_var 1)))
    (ss_cons (ss_set 6 sc__law_other.nd (se_call (ok__law_round T) l__law_round (hr.mono (by decide)) rfl T.m__law_round T.F__law_round.kp T.b__law_round (takes_of rfl rfl rfl rfl) (sa_cons (se_var 5) (sa_cons (se_var 1) (sa_cons (se_var 2) (sa_cons (se_var 3) sa_nil))))))
    (ss_one (ss_if (st_cmp gc_gt (se_len rfl T.z_len (sa_cons (se_var 6) sa_nil)) se_int)
    (ss_cons (ss_set 7 sc__law_other.nd (se_min rfl rfl T.z_min (sa_cons (se_lc (own := [("number", 8)]) (i := 8) rfl sc__law_other.nd (si_seq (se_var 6)) (blkOk_by (N := n__law_other) (sc := defScope s__law_other) (by decide +kernel)) (by decide) (fun _ _ _ _ _ => pg_name (i := 8) sc__law_other.nd rfl (Or.inl rfl)) (fun _ _ _ _ _ => sts_nil) (fun _ _ _ _ _ => (se_ix (se_var 3) (se_var 8)))) sa_nil)))
    (ss_cons (ss_if (st_cmp (gc_eq hr.units) (se_mod (se_call (ok__law_cell T) l__law_cell (hr.mono (by decide)) rfl T.m__law_cell T.F__law_cell.kp T.b__law_cell (takes_of rfl rfl rfl rfl) (sa_cons (se_var 0) (sa_cons (se_add se_int (se_var 4)) sa_nil))) se_int) se_int)
    (ss_one (ss_set 7 sc__law_other.nd (se_fdiv (se_var 7) se_int)))
    ss_nil)
    (ss_one (ss_for 8 (passes_of rfl) rfl sc__law_other.nd (si_seq (se_var 6))
    (ss_one (ss_sto (se_sub (se_ix (se_var 3) (se_var 8)) (se_var 7)) (se_var 3) (se_var 8)))))))
    ss_nil)))))
    (ss_one (ss_ret (se_frz (se_var 3))))))))
theorem ok_amounts_of_C (T : Tx K mg g) : FnOk P w0 K mg base (L2.CX P w0) 1 T.a_amounts_of T.f_amounts_of ["sheet"] (spW K g 1 u_amounts_of_C) :=
  fn_trimC (fn_ok (k := 0) (N := n_amounts_of) T.F_amounts_of sc_amounts_of (fun cdv A outer s H E hr =>
    (ss_one (ss_ret (se_lcC (own := [("due", 1)]) (i := 1) rfl sc_amounts_of.nd (si_seq (se_var 0)) (blkOk_by (N := n_amounts_of) (sc := defScope s_amounts_of) (by decide +kernel)) (by decide) (fun _ _ _ _ _ => pg_name (i := 1) sc_amounts_of.nd rfl (Or.inl rfl)) (fun _ _ _ _ _ => sts_nil) (fun _ _ _ _ _ => (se_ix (se_var 1) se_int)))))))
theorem ok_payer_due (T : Tx K mg g) : FnOk P w0 K mg base (L2.CX P w0) 1 T.a_payer_due T.f_payer_due ["member", "rest", "sheet"] (spW K g 3 u_payer_due) :=
  fn_ok (k := 0) (N := n_payer_due) T.F_payer_due sc_payer_due (fun cdv A outer s H E hr =>
    (ss_cons (ss_for 3 (passes_of rfl) rfl sc_payer_due.nd (si_rng1 rfl T.z_range (sa_cons (se_len rfl T.z_len (sa_cons (se_var 2) sa_nil)) sa_nil))
    (ss_cons (ss_set 4 sc_payer_due.nd (se_ix (se_var 2) (se_var 3)))
    (ss_one (ss_if (SPw.st (sw_and (st_cmp gc_gt (se_ix (se_var 4) se_int) se_int) (sw_and (st_cmp (gc_eq hr.units) (se_ix (se_var 4) se_int) (se_var 0)) (sw_one (st_cmp gc_in (se_ix (se_var 4) se_int) (se_var 1))))))
    (ss_one (ss_ret (se_var 3)))
    ss_nil))))
    (ss_one (ss_ret se_non))))
theorem ok_unpaid_one (T : Tx K mg g) : FnOk P w0 K mg base (L2.CX P w0) 2 T.a_unpaid_one T.f_unpaid_one ["rest", "sheet"] (spW K g 2 u_unpaid_one) :=
  fn_ok (k := 1) (N := n_unpaid_one) T.F_unpaid_one sc_unpaid_one (fun cdv A outer s H E hr =>
    (ss_cons (ss_for 2 (passes_of rfl) rfl sc_unpaid_one.nd (si_seq (se_var 0))
    (ss_one (ss_if (st_cmp gc_isN (se_call (ok_payer_due T) l_payer_due (hr.mono (by decide)) rfl T.m_payer_due T.F_payer_due.kp T.b_payer_due (takes_of rfl rfl rfl rfl) (sa_cons (se_var 2) (sa_cons (se_var 0) (sa_cons (se_var 1) sa_nil)))) se_non)
    (ss_one (ss_ret (se_var 2)))
    ss_nil)))
    (ss_one (ss_ret se_non))))
theorem ok_peeled (T : Tx K mg g) : FnOk P w0 K mg base (L2.CX P w0) 3 T.a_peeled T.f_peeled ["many", "sheet"] (spW K g 2 u_peeled) :=
  fn_trim (fn_ok (k := 2) (N := n_peeled) T.F_peeled sc_peeled (fun cdv A outer s H E hr =>
    (ss_cons (ss_set 2 sc_peeled.nd (se_lstC sa_nil))
    (ss_cons (ss_set 3 sc_peeled.nd (se_lstRgC rfl rfl T.z_list rfl T.z_range (se_var 0)))
    (ss_cons (ss_set 4 sc_peeled.nd (se_call (ok_unpaid_one T) l_unpaid_one (hr.mono (by decide)) rfl T.m_unpaid_one T.F_unpaid_one.kp T.b_unpaid_one (takes_of rfl rfl rfl rfl) (sa_cons (se_var 3) (sa_cons (se_var 1) sa_nil))))
    (ss_cons (ss_while (passes_of rfl) (st_cmp gc_notN (se_var 4) se_non)
    (ss_cons (ss_expr (se_app (se_var 2) (sa_cons (se_var 4) sa_nil)))
    (ss_cons (ss_expr (se_rem rfl (takes_of rfl rfl rfl rfl) (se_var 3) (se_var 4)))
    (ss_one (ss_set 4 sc_peeled.nd (se_call (ok_unpaid_one T) l_unpaid_one (hr.mono (by decide)) rfl T.m_unpaid_one T.F_unpaid_one.kp T.b_unpaid_one (takes_of rfl rfl rfl rfl) (sa_cons (se_var 3) (sa_cons (se_var 1) sa_nil))))))))
    (ss_one (ss_ret (se_frzD (se_tup (sa_cons (se_var 2) (sa_cons (se_var 3) sa_nil))))))))))))
theorem ok_a_ring (T : Tx K mg g) : FnOk P w0 K mg base (L2.CX P w0) 4 T.a_a_ring T.f_a_ring ["many", "sheet"] (spW K g 2 u_a_ring) :=
  fn_trim (fn_ok (k := 3) (N := n_a_ring) T.F_a_ring sc_a_ring (fun cdv A outer s H E hr =>
    (ss_cons (ss_set 2 sc_a_ring.nd (se_ix (se_call (ok_peeled T) l_peeled (hr.mono (by decide)) rfl T.m_peeled T.F_peeled.kp T.b_peeled (takes_of rfl rfl rfl rfl) (sa_cons (se_var 0) (sa_cons (se_var 1) sa_nil))) se_int))
    (ss_cons (ss_if (st_cmp (gc_eq hr.units) (se_len rfl T.z_len (sa_cons (se_var 2) sa_nil)) se_int)
    (ss_one (ss_ret (se_lst sa_nil)))
    ss_nil)
    (ss_cons (ss_set 3 sc_a_ring.nd (se_lstC sa_nil))
    (ss_cons (ss_set 4 sc_a_ring.nd (se_lstC sa_nil))
    (ss_cons (ss_set 5 sc_a_ring.nd (se_ix (se_var 2) se_int))
    (ss_cons (ss_while (passes_of rfl) (st_cmp gc_notIn (se_var 5) (se_var 3))
    (ss_cons (ss_set 6 sc_a_ring.nd (se_call (ok_payer_due T) l_payer_due (hr.mono (by decide)) rfl T.m_payer_due T.F_payer_due.kp T.b_payer_due (takes_of rfl rfl rfl rfl) (sa_cons (se_var 5) (sa_cons (se_var 2) (sa_cons (se_var 1) sa_nil)))))
    (ss_cons (ss_expr (se_app (se_var 3) (sa_cons (se_var 5) sa_nil)))
    (ss_cons (ss_expr (se_app (se_var 4) (sa_cons (se_var 6) sa_nil)))
    (ss_one (ss_set 5 sc_a_ring.nd (se_ix (se_ix (se_var 1) (se_var 6)) se_int)))))))
    (ss_one (ss_ret (se_lstRev rfl rfl T.z_list rfl T.z_reversed (se_slice (se_var 4) (so_some (se_idx (se_var 3) (sa_cons (se_var 5) sa_nil))) so_none))))))))))))
theorem ok_with_amounts (T : Tx K mg g) : FnOk P w0 K mg base (L2.CX P w0) 1 T.a_with_amounts T.f_with_amounts ["sheet", "amounts"] (spW K g 2 u_with_amounts) :=
  fn_trim (fn_ok (k := 0) (N := n_with_amounts) T.F_with_amounts sc_with_amounts (fun cdv A outer s H E hr =>
    (ss_cons (ss_set 2 sc_with_amounts.nd (se_lstC sa_nil))
    (ss_cons (ss_for 3 (passes_of rfl) rfl sc_with_amounts.nd (si_rng1 rfl T.z_range (sa_cons (se_len rfl T.z_len (sa_cons (se_var 0) sa_nil)) sa_nil))
    (ss_cons (ss_set 4 sc_with_amounts.nd (se_ix (se_var 0) (se_var 3)))
    (ss_one (ss_expr (se_app (se_var 2) (sa_cons (se_tup (sa_cons (se_ix (se_var 4) se_int) (sa_cons (se_ix (se_var 4) se_int) (sa_cons (se_ix (se_var 4) se_int) (sa_cons (se_ix (se_var 1) (se_var 3)) sa_nil))))) sa_nil))))))
    (ss_one (ss_ret (se_frz (se_var 2))))))))
theorem ok_cut (T : Tx K mg g) : FnOk P w0 K mg base (L2.CX P w0) 5 T.a_cut T.f_cut ["many", "sheet"] (spW K g 2 u_cut) :=
  fn_trim (fn_ok (k := 4) (N := n_cut) T.F_cut sc_cut (fun cdv A outer s H E hr =>
    (ss_cons (ss_set 2 sc_cut.nd (se_call (ok_amounts_of_C T) l_amounts_of_C (hr.mono (by decide)) rfl T.m_amounts_of T.F_amounts_of.kp T.b_amounts_of (takes_of rfl rfl rfl rfl) (sa_cons (se_var 1) sa_nil)))
    (ss_cons (ss_set 3 sc_cut.nd (se_lstC sa_nil))
    (ss_cons (ss_set 4 sc_cut.nd (se_call (ok_a_ring T) l_a_ring (hr.mono (by decide)) rfl T.m_a_ring T.F_a_ring.kp T.b_a_ring (takes_of rfl rfl rfl rfl) (sa_cons (se_var 0) (sa_cons (se_var 1) sa_nil))))
    (ss_cons (ss_while (passes_of rfl) (st_cmp gc_gt (se_len rfl T.z_len (sa_cons (se_var 4) sa_nil)) se_int)
    (ss_cons (ss_set 5 sc_cut.nd (se_min rfl rfl T.z_min (sa_cons (se_lc (own := [("number", 6)]) (i := 6) rfl sc_cut.nd (si_seq (se_var 4)) (blkOk_by (N := n_cut) (sc := defScope s_cut) (by decide +kernel)) (by decide) (fun _ _ _ _ _ => pg_name (i := 6) sc_cut.nd rfl (Or.inl rfl)) (fun _ _ _ _ _ => sts_nil) (fun _ _ _ _ _ => (se_ix (se_var 2) (se_var 6)))) sa_nil)))
    (ss_cons (ss_for 6 (passes_of rfl) rfl sc_cut.nd (si_seq (se_var 4))
    (ss_one (ss_sto (se_sub (se_ix (se_var 2) (se_var 6)) (se_var 5)) (se_var 2) (se_var 6))))
    (ss_cons (ss_expr (se_app (se_var 3) (sa_cons (se_tup (sa_cons (se_var 4) (sa_cons (se_var 5) sa_nil))) sa_nil)))
    (ss_one (ss_set 4 sc_cut.nd (se_call (ok_a_ring T) l_a_ring (hr.mono (by decide)) rfl T.m_a_ring T.F_a_ring.kp T.b_a_ring (takes_of rfl rfl rfl rfl) (sa_cons (se_var 0) (sa_cons (se_call (ok_with_amounts T) l_with_amounts (hr.mono (by decide)) rfl T.m_with_amounts T.F_with_amounts.kp T.b_with_amounts (takes_of rfl rfl rfl rfl) (sa_cons (se_var 1) (sa_cons (se_var 2) sa_nil))) sa_nil)))))))))
    (ss_one (ss_ret (se_frzD (se_tup (sa_cons (se_var 2) (sa_cons (se_var 3) sa_nil))))))))))))
theorem ok__law_with (T : Tx K mg g) : FnOk P w0 K mg base (L2.CX P w0) 1 T.a__law_with T.f__law_with ["sheet", "left"] (spW K g 2 u__law_with) :=
  fn_ok (k := 0) (N := n__law_with) T.F__law_with sc__law_with (fun cdv A outer s H E hr =>
    (ss_one (ss_ret (se_lc (own := [("k", 2)]) (i := 2) rfl sc__law_with.nd (si_rng1 rfl T.z_range (sa_cons (se_len rfl T.z_len (sa_cons (se_var 0) sa_nil)) sa_nil)) (blkOk_by (N := n__law_with) (sc := defScope s__law_with) (by decide +kernel)) (by decide) (fun _ _ _ _ _ => pg_name (i := 2) sc__law_with.nd rfl (Or.inl rfl)) (fun _ _ _ _ _ => sts_nil) (fun _ _ _ _ _ => (se_tup (sa_cons (se_ix (se_ix (se_var 0) (se_var 2)) se_int) (sa_cons (se_ix (se_ix (se_var 0) (se_var 2)) se_int) (sa_cons (se_ix (se_ix (se_var 0) (se_var 2)) se_int) (sa_cons (se_ix (se_var 1) (se_var 2)) sa_nil))))))))))
theorem ok_law (T : Tx K mg g) : FnOk P w0 K mg base (L2.CX P w0) 6 T.a_law T.f_law ["script"] (spW K g 1 u_law) :=
  fn_ok (k := 5) (N := n_law) T.F_law sc_law (fun cdv A outer s H E hr =>
    (ss_cons (ss_set 1 sc_law.nd (se_add se_int (se_mod (se_call (ok__law_cell T) l__law_cell (hr.mono (by decide)) rfl T.m__law_cell T.F__law_cell.kp T.b__law_cell (takes_of rfl rfl rfl rfl) (sa_cons (se_var 0) (sa_cons se_int sa_nil))) se_int)))
    (ss_cons (ss_setLc (j := 2) rfl sc_law.nd rfl rfl (sw_true rfl rfl rfl (by decide +kernel)) (own := [("due", 6)]) (i := 6) (si_seq (se_call (ok__law_sheet T) l__law_sheet (hr.mono (by decide)) rfl T.m__law_sheet T.F__law_sheet.kp T.b__law_sheet (takes_of rfl rfl rfl rfl) (sa_cons (se_var 0) (sa_cons (se_var 1) (sa_cons se_int sa_nil))))) (blkOk_by (N := n_law) (sc := defScope s_law) (by decide +kernel)) (by decide) (fun _ _ _ _ _ => pg_name (i := 6) sc_law.nd rfl (Or.inl rfl)) (fun _ _ _ _ _ => sts_nil) (fun _ _ _ _ _ => (se_tup (sa_cons (se_ix (se_var 6) se_int) (sa_cons (se_ix (se_var 6) se_int) (sa_cons (se_ix (se_var 6) se_int) (sa_cons (se_fdiv (se_ix (se_var 6) se_int) se_int) sa_nil)))))))
    (ss_cons (ss_set 3 sc_law.nd (se_ix (se_call (ok_thinned T) l_thinned (hr.mono (by decide)) rfl T.m_thinned T.F_thinned.kp T.b_thinned (takes_of rfl rfl rfl rfl) (sa_cons (se_var 1) (sa_cons (se_list rfl T.z_list (sa_cons (se_var 2) sa_nil)) sa_nil))) se_int))
    (ss_cons (ss_if (SPw.st (sw_or (st_not (st_val (se_call (ok__law_wholes T) l__law_wholes (hr.mono (by decide)) rfl T.m__law_wholes T.F__law_wholes.kp T.b__law_wholes (takes_of rfl rfl rfl rfl) (sa_cons (se_var 3) (sa_cons (se_len rfl T.z_len (sa_cons (se_var 2) sa_nil)) sa_nil))))) (sw_one (st_not (st_val (se_call (ok__law_ringless T) l__law_ringless (hr.mono (by decide)) rfl T.m__law_ringless T.F__law_ringless.kp T.b__law_ringless (takes_of rfl rfl rfl rfl) (sa_cons (se_var 1) (sa_cons (se_var 2) (sa_cons (se_var 3) sa_nil)))))))))
    (ss_one (ss_ret se_bl))
    ss_nil)
    (ss_cons (ss_set 4 sc_law.nd (se_sum rfl rfl T.z_sum (sa_cons (se_var 3) sa_nil)))
    (ss_cons (ss_if (SPw.st (sw_or (st_cmp gc_gt (se_var 4) (se_sum rfl rfl T.z_sum (sa_cons (se_ix (se_call (ok_cut T) l_cut (hr.mono (by decide)) rfl T.m_cut T.F_cut.kp T.b_cut (takes_of rfl rfl rfl rfl) (sa_cons (se_var 1) (sa_cons (se_list rfl T.z_list (sa_cons (se_var 2) sa_nil)) sa_nil))) se_int) sa_nil))) (sw_one (st_cmp gc_gt (se_var 4) (se_sum rfl rfl T.z_sum (sa_cons (se_call (ok__law_other T) l__law_other (hr.mono (by decide)) rfl T.m__law_other T.F__law_other.kp T.b__law_other (takes_of rfl rfl rfl rfl) (sa_cons (se_var 0) (sa_cons (se_var 1) (sa_cons (se_var 2) sa_nil)))) sa_nil))))))
    (ss_one (ss_ret se_bl))
    ss_nil)
    (ss_cons (ss_if (st_cmp (gc_ne hr.units) (se_sum rfl rfl T.z_sum (sa_cons (se_ix (se_call (ok_thinned T) l_thinned (hr.mono (by decide)) rfl T.m_thinned T.F_thinned.kp T.b_thinned (takes_of rfl rfl rfl rfl) (sa_cons (se_var 1) (sa_cons (se_call (ok__law_with T) l__law_with (hr.mono (by decide)) rfl T.m__law_with T.F__law_with.kp T.b__law_with (takes_of rfl rfl rfl rfl) (sa_cons (se_var 2) (sa_cons (se_var 3) sa_nil))) sa_nil))) se_int) sa_nil)) (se_var 4))
    (ss_one (ss_ret se_bl))
    ss_nil)
    (ss_cons (ss_if (st_cmp (gc_ne hr.units) (se_sum rfl rfl T.z_sum (sa_cons (se_ix (se_call (ok_thinned T) l_thinned (hr.mono (by decide)) rfl T.m_thinned T.F_thinned.kp T.b_thinned (takes_of rfl rfl rfl rfl) (sa_cons (se_var 1) (sa_cons (se_lstRev rfl rfl T.z_list rfl T.z_reversed (se_var 2)) sa_nil))) se_int) sa_nil)) (se_var 4))
    (ss_one (ss_ret se_bl))
    ss_nil)
    (ss_cons (ss_setLc (j := 5) rfl sc_law.nd rfl rfl (sw_true rfl rfl rfl (by decide +kernel)) (own := [("due", 6)]) (i := 6) (si_seq (se_var 2)) (blkOk_by (N := n_law) (sc := defScope s_law) (by decide +kernel)) (by decide) (fun _ _ _ _ _ => pg_name (i := 6) sc_law.nd rfl (Or.inl rfl)) (fun _ _ _ _ _ => sts_nil) (fun _ _ _ _ _ => (se_tup (sa_cons (se_ix (se_var 6) se_int) (sa_cons (se_ix (se_var 6) se_int) (sa_cons (se_ix (se_var 6) se_int) (sa_cons (se_mul se_int (se_ix (se_var 6) se_int)) sa_nil)))))))
    (ss_one (ss_ret (se_cmp (gc_eq hr.units) (se_sum rfl rfl T.z_sum (sa_cons (se_ix (se_call (ok_thinned T) l_thinned (hr.mono (by decide)) rfl T.m_thinned T.F_thinned.kp T.b_thinned (takes_of rfl rfl rfl rfl) (sa_cons (se_var 1) (sa_cons (se_var 5) sa_nil))) se_int) sa_nil)) (se_mul se_int (se_var 4)))))))))))))))
end
theorem all_mk {l : PySem.W.OpenLaw} {w : World} {K : PySem.W.Frag} {h : Heap} {mg : Str → Option Value} {fa : Addr} (X : K.In h) (G : h.Ns mainGlobals mg) (hfa : mg "law" = some (.ref fa))
    {od0 an0 : Option Addr} {sl0 : Array (Option Value)} {oc0 kV0 dc0 pm0 cd0 ct0 : Value} {f0 : Addr}
    (a0 : PySem.W.nsIn K mainGlobals "reached" = some (some (.ref f0))) (l0 : K.lookup f0 = some ⟨oc0, od0, .func (PySem.W.fnOf "reached" "reached" (defArgs s_reached) (defBody s_reached) (defScope s_reached) .none kV0 dc0 pm0 an0 cd0 ct0), sl0⟩) (c0 : PySem.W.codeIn K cd0 "reached" = true) (k0 : PySem.W.keepIn K (.ref f0) = true)
    {od1 an1 : Option Addr} {sl1 : Array (Option Value)} {oc1 kV1 dc1 pm1 cd1 ct1 : Value} {f1 : Addr}
    (a1 : PySem.W.nsIn K mainGlobals "nearest" = some (some (.ref f1))) (l1 : K.lookup f1 = some ⟨oc1, od1, .func (PySem.W.fnOf "nearest" "nearest" (defArgs s_nearest) (defBody s_nearest) (defScope s_nearest) .none kV1 dc1 pm1 an1 cd1 ct1), sl1⟩) (c1 : PySem.W.codeIn K cd1 "nearest" = true) (k1 : PySem.W.keepIn K (.ref f1) = true)
    {od2 an2 : Option Addr} {sl2 : Array (Option Value)} {oc2 kV2 dc2 pm2 cd2 ct2 : Value} {f2 : Addr}
    (a2 : PySem.W.nsIn K mainGlobals "way_to" = some (some (.ref f2))) (l2 : K.lookup f2 = some ⟨oc2, od2, .func (PySem.W.fnOf "way_to" "way_to" (defArgs s_way_to) (defBody s_way_to) (defScope s_way_to) .none kV2 dc2 pm2 an2 cd2 ct2), sl2⟩) (c2 : PySem.W.codeIn K cd2 "way_to" = true) (k2 : PySem.W.keepIn K (.ref f2) = true)
    {od3 an3 : Option Addr} {sl3 : Array (Option Value)} {oc3 kV3 dc3 pm3 cd3 ct3 : Value} {f3 : Addr}
    (a3 : PySem.W.nsIn K mainGlobals "steps_of" = some (some (.ref f3))) (l3 : K.lookup f3 = some ⟨oc3, od3, .func (PySem.W.fnOf "steps_of" "steps_of" (defArgs s_steps_of) (defBody s_steps_of) (defScope s_steps_of) .none kV3 dc3 pm3 an3 cd3 ct3), sl3⟩) (c3 : PySem.W.codeIn K cd3 "steps_of" = true) (k3 : PySem.W.keepIn K (.ref f3) = true)
    {od4 an4 : Option Addr} {sl4 : Array (Option Value)} {oc4 kV4 dc4 pm4 cd4 ct4 : Value} {f4 : Addr}
    (a4 : PySem.W.nsIn K mainGlobals "heights_of" = some (some (.ref f4))) (l4 : K.lookup f4 = some ⟨oc4, od4, .func (PySem.W.fnOf "heights_of" "heights_of" (defArgs s_heights_of) (defBody s_heights_of) (defScope s_heights_of) .none kV4 dc4 pm4 an4 cd4 ct4), sl4⟩) (c4 : PySem.W.codeIn K cd4 "heights_of" = true) (k4 : PySem.W.keepIn K (.ref f4) = true)
    {od5 an5 : Option Addr} {sl5 : Array (Option Value)} {oc5 kV5 dc5 pm5 cd5 ct5 : Value} {f5 : Addr}
    (a5 : PySem.W.nsIn K mainGlobals "claims" = some (some (.ref f5))) (l5 : K.lookup f5 = some ⟨oc5, od5, .func (PySem.W.fnOf "claims" "claims" (defArgs s_claims) (defBody s_claims) (defScope s_claims) .none kV5 dc5 pm5 an5 cd5 ct5), sl5⟩) (c5 : PySem.W.codeIn K cd5 "claims" = true) (k5 : PySem.W.keepIn K (.ref f5) = true)
    {od6 an6 : Option Addr} {sl6 : Array (Option Value)} {oc6 kV6 dc6 pm6 cd6 ct6 : Value} {f6 : Addr}
    (a6 : PySem.W.nsIn K mainGlobals "nets" = some (some (.ref f6))) (l6 : K.lookup f6 = some ⟨oc6, od6, .func (PySem.W.fnOf "nets" "nets" (defArgs s_nets) (defBody s_nets) (defScope s_nets) .none kV6 dc6 pm6 an6 cd6 ct6), sl6⟩) (c6 : PySem.W.codeIn K cd6 "nets" = true) (k6 : PySem.W.keepIn K (.ref f6) = true)
    {od7 an7 : Option Addr} {sl7 : Array (Option Value)} {oc7 kV7 dc7 pm7 cd7 ct7 : Value} {f7 : Addr}
    (a7 : PySem.W.nsIn K mainGlobals "room_of" = some (some (.ref f7))) (l7 : K.lookup f7 = some ⟨oc7, od7, .func (PySem.W.fnOf "room_of" "room_of" (defArgs s_room_of) (defBody s_room_of) (defScope s_room_of) .none kV7 dc7 pm7 an7 cd7 ct7), sl7⟩) (c7 : PySem.W.codeIn K cd7 "room_of" = true) (k7 : PySem.W.keepIn K (.ref f7) = true)
    {od8 an8 : Option Addr} {sl8 : Array (Option Value)} {oc8 kV8 dc8 pm8 cd8 ct8 : Value} {f8 : Addr}
    (a8 : PySem.W.nsIn K mainGlobals "thinned" = some (some (.ref f8))) (l8 : K.lookup f8 = some ⟨oc8, od8, .func (PySem.W.fnOf "thinned" "thinned" (defArgs s_thinned) (defBody s_thinned) (defScope s_thinned) .none kV8 dc8 pm8 an8 cd8 ct8), sl8⟩) (c8 : PySem.W.codeIn K cd8 "thinned" = true) (k8 : PySem.W.keepIn K (.ref f8) = true)
    {od9 an9 : Option Addr} {sl9 : Array (Option Value)} {oc9 kV9 dc9 pm9 cd9 ct9 : Value} {f9 : Addr}
    (a9 : PySem.W.nsIn K mainGlobals "_law_cell" = some (some (.ref f9))) (l9 : K.lookup f9 = some ⟨oc9, od9, .func (PySem.W.fnOf "_law_cell" "_law_cell" (defArgs s__law_cell) (defBody s__law_cell) (defScope s__law_cell) .none kV9 dc9 pm9 an9 cd9 ct9), sl9⟩) (c9 : PySem.W.codeIn K cd9 "_law_cell" = true) (k9 : PySem.W.keepIn K (.ref f9) = true)
    {od10 an10 : Option Addr} {sl10 : Array (Option Value)} {oc10 kV10 dc10 pm10 cd10 ct10 : Value} {f10 : Addr}
    (a10 : PySem.W.nsIn K mainGlobals "_law_amount" = some (some (.ref f10))) (l10 : K.lookup f10 = some ⟨oc10, od10, .func (PySem.W.fnOf "_law_amount" "_law_amount" (defArgs s__law_amount) (defBody s__law_amount) (defScope s__law_amount) .none kV10 dc10 pm10 an10 cd10 ct10), sl10⟩) (c10 : PySem.W.codeIn K cd10 "_law_amount" = true) (k10 : PySem.W.keepIn K (.ref f10) = true)
    {od11 an11 : Option Addr} {sl11 : Array (Option Value)} {oc11 kV11 dc11 pm11 cd11 ct11 : Value} {f11 : Addr}
    (a11 : PySem.W.nsIn K mainGlobals "_law_due" = some (some (.ref f11))) (l11 : K.lookup f11 = some ⟨oc11, od11, .func (PySem.W.fnOf "_law_due" "_law_due" (defArgs s__law_due) (defBody s__law_due) (defScope s__law_due) .none kV11 dc11 pm11 an11 cd11 ct11), sl11⟩) (c11 : PySem.W.codeIn K cd11 "_law_due" = true) (k11 : PySem.W.keepIn K (.ref f11) = true)
    {od12 an12 : Option Addr} {sl12 : Array (Option Value)} {oc12 kV12 dc12 pm12 cd12 ct12 : Value} {f12 : Addr}
    (a12 : PySem.W.nsIn K mainGlobals "_law_drawn" = some (some (.ref f12))) (l12 : K.lookup f12 = some ⟨oc12, od12, .func (PySem.W.fnOf "_law_drawn" "_law_drawn" (defArgs s__law_drawn) (defBody s__law_drawn) (defScope s__law_drawn) .none kV12 dc12 pm12 an12 cd12 ct12), sl12⟩) (c12 : PySem.W.codeIn K cd12 "_law_drawn" = true) (k12 : PySem.W.keepIn K (.ref f12) = true)
    {od13 an13 : Option Addr} {sl13 : Array (Option Value)} {oc13 kV13 dc13 pm13 cd13 ct13 : Value} {f13 : Addr}
    (a13 : PySem.W.nsIn K mainGlobals "_law_sheet" = some (some (.ref f13))) (l13 : K.lookup f13 = some ⟨oc13, od13, .func (PySem.W.fnOf "_law_sheet" "_law_sheet" (defArgs s__law_sheet) (defBody s__law_sheet) (defScope s__law_sheet) .none kV13 dc13 pm13 an13 cd13 ct13), sl13⟩) (c13 : PySem.W.codeIn K cd13 "_law_sheet" = true) (k13 : PySem.W.keepIn K (.ref f13) = true)
    {od14 an14 : Option Addr} {sl14 : Array (Option Value)} {oc14 kV14 dc14 pm14 cd14 ct14 : Value} {f14 : Addr}
    (a14 : PySem.W.nsIn K mainGlobals "_law_whole" = some (some (.ref f14))) (l14 : K.lookup f14 = some ⟨oc14, od14, .func (PySem.W.fnOf "_law_whole" "_law_whole" (defArgs s__law_whole) (defBody s__law_whole) (defScope s__law_whole) .none kV14 dc14 pm14 an14 cd14 ct14), sl14⟩) (c14 : PySem.W.codeIn K cd14 "_law_whole" = true) (k14 : PySem.W.keepIn K (.ref f14) = true)
    {od15 an15 : Option Addr} {sl15 : Array (Option Value)} {oc15 kV15 dc15 pm15 cd15 ct15 : Value} {f15 : Addr}
    (a15 : PySem.W.nsIn K mainGlobals "_law_wholes" = some (some (.ref f15))) (l15 : K.lookup f15 = some ⟨oc15, od15, .func (PySem.W.fnOf "_law_wholes" "_law_wholes" (defArgs s__law_wholes) (defBody s__law_wholes) (defScope s__law_wholes) .none kV15 dc15 pm15 an15 cd15 ct15), sl15⟩) (c15 : PySem.W.codeIn K cd15 "_law_wholes" = true) (k15 : PySem.W.keepIn K (.ref f15) = true)
    {od16 an16 : Option Addr} {sl16 : Array (Option Value)} {oc16 kV16 dc16 pm16 cd16 ct16 : Value} {f16 : Addr}
    (a16 : PySem.W.nsIn K mainGlobals "_law_paid_by" = some (some (.ref f16))) (l16 : K.lookup f16 = some ⟨oc16, od16, .func (PySem.W.fnOf "_law_paid_by" "_law_paid_by" (defArgs s__law_paid_by) (defBody s__law_paid_by) (defScope s__law_paid_by) .none kV16 dc16 pm16 an16 cd16 ct16), sl16⟩) (c16 : PySem.W.codeIn K cd16 "_law_paid_by" = true) (k16 : PySem.W.keepIn K (.ref f16) = true)
    {od17 an17 : Option Addr} {sl17 : Array (Option Value)} {oc17 kV17 dc17 pm17 cd17 ct17 : Value} {f17 : Addr}
    (a17 : PySem.W.nsIn K mainGlobals "_law_ringless" = some (some (.ref f17))) (l17 : K.lookup f17 = some ⟨oc17, od17, .func (PySem.W.fnOf "_law_ringless" "_law_ringless" (defArgs s__law_ringless) (defBody s__law_ringless) (defScope s__law_ringless) .none kV17 dc17 pm17 an17 cd17 ct17), sl17⟩) (c17 : PySem.W.codeIn K cd17 "_law_ringless" = true) (k17 : PySem.W.keepIn K (.ref f17) = true)
    {od18 an18 : Option Addr} {sl18 : Array (Option Value)} {oc18 kV18 dc18 pm18 cd18 ct18 : Value} {f18 : Addr}
    (a18 : PySem.W.nsIn K mainGlobals "_law_on" = some (some (.ref f18))) (l18 : K.lookup f18 = some ⟨oc18, od18, .func (PySem.W.fnOf "_law_on" "_law_on" (defArgs s__law_on) (defBody s__law_on) (defScope s__law_on) .none kV18 dc18 pm18 an18 cd18 ct18), sl18⟩) (c18 : PySem.W.codeIn K cd18 "_law_on" = true) (k18 : PySem.W.keepIn K (.ref f18) = true)
    {od19 an19 : Option Addr} {sl19 : Array (Option Value)} {oc19 kV19 dc19 pm19 cd19 ct19 : Value} {f19 : Addr}
    (a19 : PySem.W.nsIn K mainGlobals "_law_round" = some (some (.ref f19))) (l19 : K.lookup f19 = some ⟨oc19, od19, .func (PySem.W.fnOf "_law_round" "_law_round" (defArgs s__law_round) (defBody s__law_round) (defScope s__law_round) .none kV19 dc19 pm19 an19 cd19 ct19), sl19⟩) (c19 : PySem.W.codeIn K cd19 "_law_round" = true) (k19 : PySem.W.keepIn K (.ref f19) = true)
    {od20 an20 : Option Addr} {sl20 : Array (Option Value)} {oc20 kV20 dc20 pm20 cd20 ct20 : Value} {f20 : Addr}
    (a20 : PySem.W.nsIn K mainGlobals "_law_other" = some (some (.ref f20))) (l20 : K.lookup f20 = some ⟨oc20, od20, .func (PySem.W.fnOf "_law_other" "_law_other" (defArgs s__law_other) (defBody s__law_other) (defScope s__law_other) .none kV20 dc20 pm20 an20 cd20 ct20), sl20⟩) (c20 : PySem.W.codeIn K cd20 "_law_other" = true) (k20 : PySem.W.keepIn K (.ref f20) = true)
    {od21 an21 : Option Addr} {sl21 : Array (Option Value)} {oc21 kV21 dc21 pm21 cd21 ct21 : Value} {f21 : Addr}
    (a21 : PySem.W.nsIn K mainGlobals "amounts_of" = some (some (.ref f21))) (l21 : K.lookup f21 = some ⟨oc21, od21, .func (PySem.W.fnOf "amounts_of" "amounts_of" (defArgs s_amounts_of) (defBody s_amounts_of) (defScope s_amounts_of) .none kV21 dc21 pm21 an21 cd21 ct21), sl21⟩) (c21 : PySem.W.codeIn K cd21 "amounts_of" = true) (k21 : PySem.W.keepIn K (.ref f21) = true)
    {od22 an22 : Option Addr} {sl22 : Array (Option Value)} {oc22 kV22 dc22 pm22 cd22 ct22 : Value} {f22 : Addr}
    (a22 : PySem.W.nsIn K mainGlobals "payer_due" = some (some (.ref f22))) (l22 : K.lookup f22 = some ⟨oc22, od22, .func (PySem.W.fnOf "payer_due" "payer_due" (defArgs s_payer_due) (defBody s_payer_due) (defScope s_payer_due) .none kV22 dc22 pm22 an22 cd22 ct22), sl22⟩) (c22 : PySem.W.codeIn K cd22 "payer_due" = true) (k22 : PySem.W.keepIn K (.ref f22) = true)
    {od23 an23 : Option Addr} {sl23 : Array (Option Value)} {oc23 kV23 dc23 pm23 cd23 ct23 : Value} {f23 : Addr}
    (a23 : PySem.W.nsIn K mainGlobals "unpaid_one" = some (some (.ref f23))) (l23 : K.lookup f23 = some ⟨oc23, od23, .func (PySem.W.fnOf "unpaid_one" "unpaid_one" (defArgs s_unpaid_one) (defBody s_unpaid_one) (defScope s_unpaid_one) .none kV23 dc23 pm23 an23 cd23 ct23), sl23⟩) (c23 : PySem.W.codeIn K cd23 "unpaid_one" = true) (k23 : PySem.W.keepIn K (.ref f23) = true)
    {od24 an24 : Option Addr} {sl24 : Array (Option Value)} {oc24 kV24 dc24 pm24 cd24 ct24 : Value} {f24 : Addr}
    (a24 : PySem.W.nsIn K mainGlobals "peeled" = some (some (.ref f24))) (l24 : K.lookup f24 = some ⟨oc24, od24, .func (PySem.W.fnOf "peeled" "peeled" (defArgs s_peeled) (defBody s_peeled) (defScope s_peeled) .none kV24 dc24 pm24 an24 cd24 ct24), sl24⟩) (c24 : PySem.W.codeIn K cd24 "peeled" = true) (k24 : PySem.W.keepIn K (.ref f24) = true)
    {od25 an25 : Option Addr} {sl25 : Array (Option Value)} {oc25 kV25 dc25 pm25 cd25 ct25 : Value} {f25 : Addr}
    (a25 : PySem.W.nsIn K mainGlobals "a_ring" = some (some (.ref f25))) (l25 : K.lookup f25 = some ⟨oc25, od25, .func (PySem.W.fnOf "a_ring" "a_ring" (defArgs s_a_ring) (defBody s_a_ring) (defScope s_a_ring) .none kV25 dc25 pm25 an25 cd25 ct25), sl25⟩) (c25 : PySem.W.codeIn K cd25 "a_ring" = true) (k25 : PySem.W.keepIn K (.ref f25) = true)
    {od26 an26 : Option Addr} {sl26 : Array (Option Value)} {oc26 kV26 dc26 pm26 cd26 ct26 : Value} {f26 : Addr}
    (a26 : PySem.W.nsIn K mainGlobals "with_amounts" = some (some (.ref f26))) (l26 : K.lookup f26 = some ⟨oc26, od26, .func (PySem.W.fnOf "with_amounts" "with_amounts" (defArgs s_with_amounts) (defBody s_with_amounts) (defScope s_with_amounts) .none kV26 dc26 pm26 an26 cd26 ct26), sl26⟩) (c26 : PySem.W.codeIn K cd26 "with_amounts" = true) (k26 : PySem.W.keepIn K (.ref f26) = true)
    {od27 an27 : Option Addr} {sl27 : Array (Option Value)} {oc27 kV27 dc27 pm27 cd27 ct27 : Value} {f27 : Addr}
    (a27 : PySem.W.nsIn K mainGlobals "cut" = some (some (.ref f27))) (l27 : K.lookup f27 = some ⟨oc27, od27, .func (PySem.W.fnOf "cut" "cut" (defArgs s_cut) (defBody s_cut) (defScope s_cut) .none kV27 dc27 pm27 an27 cd27 ct27), sl27⟩) (c27 : PySem.W.codeIn K cd27 "cut" = true) (k27 : PySem.W.keepIn K (.ref f27) = true)
    {od28 an28 : Option Addr} {sl28 : Array (Option Value)} {oc28 kV28 dc28 pm28 cd28 ct28 : Value} {f28 : Addr}
    (a28 : PySem.W.nsIn K mainGlobals "_law_with" = some (some (.ref f28))) (l28 : K.lookup f28 = some ⟨oc28, od28, .func (PySem.W.fnOf "_law_with" "_law_with" (defArgs s__law_with) (defBody s__law_with) (defScope s__law_with) .none kV28 dc28 pm28 an28 cd28 ct28), sl28⟩) (c28 : PySem.W.codeIn K cd28 "_law_with" = true) (k28 : PySem.W.keepIn K (.ref f28) = true)
    {od29 an29 : Option Addr} {sl29 : Array (Option Value)} {oc29 kV29 dc29 pm29 cd29 ct29 : Value} {f29 : Addr}
    (a29 : PySem.W.nsIn K mainGlobals "law" = some (some (.ref f29))) (l29 : K.lookup f29 = some ⟨oc29, od29, .func (PySem.W.fnOf "law" "law" (defArgs s_law) (defBody s_law) (defScope s_law) .none kV29 dc29 pm29 an29 cd29 ct29), sl29⟩) (c29 : PySem.W.codeIn K cd29 "law" = true) (k29 : PySem.W.keepIn K (.ref f29) = true)
    (zbool : PySem.W.nsIn K mainGlobals "bool" = some none)
    (zint : PySem.W.nsIn K mainGlobals "int" = some none)
    (zisinstance : PySem.W.nsIn K mainGlobals "isinstance" = some none)
    (zlen : PySem.W.nsIn K mainGlobals "len" = some none)
    (zlist : PySem.W.nsIn K mainGlobals "list" = some none)
    (zmax : PySem.W.nsIn K mainGlobals "max" = some none)
    (zmin : PySem.W.nsIn K mainGlobals "min" = some none)
    (zrange : PySem.W.nsIn K mainGlobals "range" = some none)
    (zreversed : PySem.W.nsIn K mainGlobals "reversed" = some none)
    (zsum : PySem.W.nsIn K mainGlobals "sum" = some none) :
    ∃ (fd : FuncData) (g : Gi), (∀ (s : Shared) (v : Value), BindsTo s fd ⟨[v], []⟩ [("script", v)]) ∧ ∀ base : Heap, K.In base → base.Ns mainGlobals mg → FnOk l.prog w K mg base (L2.CX l.prog w) 6 fa fd ["script"] (spW K g 1 u_law) := by
  have e := hfa.symm.trans (PySem.W.mg_of X G a29)
  cases e
  have F0 := fun_mk (st := s_reached) l0 c0 k0
  have F1 := fun_mk (st := s_nearest) l1 c1 k1
  have F2 := fun_mk (st := s_way_to) l2 c2 k2
  have F3 := fun_mk (st := s_steps_of) l3 c3 k3
  have F4 := fun_mk (st := s_heights_of) l4 c4 k4
  have F5 := fun_mk (st := s_claims) l5 c5 k5
  have F6 := fun_mk (st := s_nets) l6 c6 k6
  have F7 := fun_mk (st := s_room_of) l7 c7 k7
  have F8 := fun_mk (st := s_thinned) l8 c8 k8
  have F9 := fun_mk (st := s__law_cell) l9 c9 k9
  have F10 := fun_mk (st := s__law_amount) l10 c10 k10
  have F11 := fun_mk (st := s__law_due) l11 c11 k11
  have F12 := fun_mk (st := s__law_drawn) l12 c12 k12
  have F13 := fun_mk (st := s__law_sheet) l13 c13 k13
  have F14 := fun_mk (st := s__law_whole) l14 c14 k14
  have F15 := fun_mk (st := s__law_wholes) l15 c15 k15
  have F16 := fun_mk (st := s__law_paid_by) l16 c16 k16
  have F17 := fun_mk (st := s__law_ringless) l17 c17 k17
  have F18 := fun_mk (st := s__law_on) l18 c18 k18
  have F19 := fun_mk (st := s__law_round) l19 c19 k19
  have F20 := fun_mk (st := s__law_other) l20 c20 k20
  have F21 := fun_mk (st := s_amounts_of) l21 c21 k21
  have F22 := fun_mk (st := s_payer_due) l22 c22 k22
  have F23 := fun_mk (st := s_unpaid_one) l23 c23 k23
  have F24 := fun_mk (st := s_peeled) l24 c24 k24
  have F25 := fun_mk (st := s_a_ring) l25 c25 k25
  have F26 := fun_mk (st := s_with_amounts) l26 c26 k26
  have F27 := fun_mk (st := s_cut) l27 c27 k27
  have F28 := fun_mk (st := s__law_with) l28 c28 k28
  have F29 := fun_mk (st := s_law) l29 c29 k29
  let T : Tx K mg ⟨fun s => 0⟩ := ⟨f0, _, F0, F0.binds (ps := ["many", "starts", "steps"]) (fun _ _ _ _ _ _ us hl => match us, hl with | [_, _, _], _ => rfl), PySem.W.mg_of X G a0,
    f1, _, F1, F1.binds (ps := ["lengths", "wanting"]) (fun _ _ _ _ _ _ us hl => match us, hl with | [_, _], _ => rfl), PySem.W.mg_of X G a1,
    f2, _, F2, F2.binds (ps := ["goal", "came"]) (fun _ _ _ _ _ _ us hl => match us, hl with | [_, _], _ => rfl), PySem.W.mg_of X G a2,
    f3, _, F3, F3.binds (ps := ["sheet", "left"]) (fun _ _ _ _ _ _ us hl => match us, hl with | [_, _], _ => rfl), PySem.W.mg_of X G a3,
    f4, _, F4, F4.binds (ps := ["many", "sheet", "left"]) (fun _ _ _ _ _ _ us hl => match us, hl with | [_, _, _], _ => rfl), PySem.W.mg_of X G a4,
    f5, _, F5, F5.binds (ps := ["many", "sheet"]) (fun _ _ _ _ _ _ us hl => match us, hl with | [_, _], _ => rfl), PySem.W.mg_of X G a5,
    f6, _, F6, F6.binds (ps := ["many", "sheet"]) (fun _ _ _ _ _ _ us hl => match us, hl with | [_, _], _ => rfl), PySem.W.mg_of X G a6,
    f7, _, F7, F7.binds (ps := ["step", "sheet", "left"]) (fun _ _ _ _ _ _ us hl => match us, hl with | [_, _, _], _ => rfl), PySem.W.mg_of X G a7,
    f8, _, F8, F8.binds (ps := ["many", "sheet"]) (fun _ _ _ _ _ _ us hl => match us, hl with | [_, _], _ => rfl), PySem.W.mg_of X G a8,
    f9, _, F9, F9.binds (ps := ["script", "k"]) (fun _ _ _ _ _ _ us hl => match us, hl with | [_, _], _ => rfl), PySem.W.mg_of X G a9,
    f10, _, F10, F10.binds (ps := ["number", "seed"]) (fun _ _ _ _ _ _ us hl => match us, hl with | [_, _], _ => rfl), PySem.W.mg_of X G a10,
    f11, _, F11, F11.binds (ps := ["number", "many", "seed"]) (fun _ _ _ _ _ _ us hl => match us, hl with | [_, _, _], _ => rfl), PySem.W.mg_of X G a11,
    f12, _, F12, F12.binds (ps := ["script", "k", "seed"]) (fun _ _ _ _ _ _ us hl => match us, hl with | [_, _, _], _ => rfl), PySem.W.mg_of X G a12,
    f13, _, F13, F13.binds (ps := ["script", "many", "most"]) (fun _ _ _ _ _ _ us hl => match us, hl with | [_, _, _], _ => rfl), PySem.W.mg_of X G a13,
    f14, _, F14, F14.binds (ps := ["thing"]) (fun _ _ _ _ _ _ us hl => match us, hl with | [_], _ => rfl), PySem.W.mg_of X G a14,
    f15, _, F15, F15.binds (ps := ["told", "size"]) (fun _ _ _ _ _ _ us hl => match us, hl with | [_, _], _ => rfl), PySem.W.mg_of X G a15,
    f16, _, F16, F16.binds (ps := ["member", "rest", "sheet", "left"]) (fun _ _ _ _ _ _ us hl => match us, hl with | [_, _, _, _], _ => rfl), PySem.W.mg_of X G a16,
    f17, _, F17, F17.binds (ps := ["many", "sheet", "left"]) (fun _ _ _ _ _ _ us hl => match us, hl with | [_, _, _], _ => rfl), PySem.W.mg_of X G a17,
    f18, _, F18, F18.binds (ps := ["member", "sheet", "left"]) (fun _ _ _ _ _ _ us hl => match us, hl with | [_, _, _], _ => rfl), PySem.W.mg_of X G a18,
    f19, _, F19, F19.binds (ps := ["member", "many", "sheet", "left"]) (fun _ _ _ _ _ _ us hl => match us, hl with | [_, _, _, _], _ => rfl), PySem.W.mg_of X G a19,
    f20, _, F20, F20.binds (ps := ["script", "many", "sheet"]) (fun _ _ _ _ _ _ us hl => match us, hl with | [_, _, _], _ => rfl), PySem.W.mg_of X G a20,
    f21, _, F21, F21.binds (ps := ["sheet"]) (fun _ _ _ _ _ _ us hl => match us, hl with | [_], _ => rfl), PySem.W.mg_of X G a21,
    f22, _, F22, F22.binds (ps := ["member", "rest", "sheet"]) (fun _ _ _ _ _ _ us hl => match us, hl with | [_, _, _], _ => rfl), PySem.W.mg_of X G a22,
    f23, _, F23, F23.binds (ps := ["rest", "sheet"]) (fun _ _ _ _ _ _ us hl => match us, hl with | [_, _], _ => rfl), PySem.W.mg_of X G a23,
    f24, _, F24, F24.binds (ps := ["many", "sheet"]) (fun _ _ _ _ _ _ us hl => match us, hl with | [_, _], _ => rfl), PySem.W.mg_of X G a24,
    f25, _, F25, F25.binds (ps := ["many", "sheet"]) (fun _ _ _ _ _ _ us hl => match us, hl with | [_, _], _ => rfl), PySem.W.mg_of X G a25,
    f26, _, F26, F26.binds (ps := ["sheet", "amounts"]) (fun _ _ _ _ _ _ us hl => match us, hl with | [_, _], _ => rfl), PySem.W.mg_of X G a26,
    f27, _, F27, F27.binds (ps := ["many", "sheet"]) (fun _ _ _ _ _ _ us hl => match us, hl with | [_, _], _ => rfl), PySem.W.mg_of X G a27,
    f28, _, F28, F28.binds (ps := ["sheet", "left"]) (fun _ _ _ _ _ _ us hl => match us, hl with | [_, _], _ => rfl), PySem.W.mg_of X G a28,
    fa, _, F29, F29.binds (ps := ["script"]) (fun _ _ _ _ _ _ us hl => match us, hl with | [_], _ => rfl), PySem.W.mg_of X G a29,
    PySem.W.mg_none_of X G zbool,
    PySem.W.mg_none_of X G zint,
    PySem.W.mg_none_of X G zisinstance,
    PySem.W.mg_none_of X G zlen,
    PySem.W.mg_none_of X G zlist,
    PySem.W.mg_none_of X G zmax,
    PySem.W.mg_none_of X G zmin,
    PySem.W.mg_none_of X G zrange,
    PySem.W.mg_none_of X G zreversed,
    PySem.W.mg_none_of X G zsum⟩
  exact ⟨_, ⟨fun s => 0⟩, fun s v => .of_eq rfl, fun base _ _ => ok_law T⟩
end Lw
open PySem PySem.W PyProof.Rows
set_option maxRecDepth 100000 in
set_option maxHeartbeats 0 in
theorem PySem.Challenge.cw_quits_k17_whole_the_least_is_left_holds : PySem.Challenge.rw_quits_k17_whole_the_least_is_left.Holds := by
  w_on; o_law; k_head; (case hw => w_witness2)
  k_fill
  refine Ab.law_walk (l := PySem.Challenge.rw_quits_k17_whole_the_least_is_left) (k := 6) (wf := Lw.u_law) rfl rfl ⟨rfl, by decide, by decide⟩ (fun w h Y => PySem.W.kIn_of Y) ?F (by rw [Lw.uw_law]; exact Lw.law_true)
  case F =>
    intro w mg fa h KX G hmg
    refine' Lw.all_mk KX G hmg ?a0 ?l0 ?c0 ?k0 ?a1 ?l1 ?c1 ?k1 ?a2 ?l2 ?c2 ?k2 ?a3 ?l3 ?c3 ?k3 ?a4 ?l4 ?c4 ?k4 ?a5 ?l5 ?c5 ?k5 ?a6 ?l6 ?c6 ?k6 ?a7 ?l7 ?c7 ?k7 ?a8 ?l8 ?c8 ?k8 ?a9 ?l9 ?c9 ?k9 ?a10 ?l10 ?c10 ?k10 ?a11 ?l11 ?c11 ?k11 ?a12 ?l12 ?c12 ?k12 ?a13 ?l13 ?c13 ?k13 ?a14 ?l14 ?c14 ?k14 ?a15 ?l15 ?c15 ?k15 ?a16 ?l16 ?c16 ?k16 ?a17 ?l17 ?c17 ?k17 ?a18 ?l18 ?c18 ?k18 ?a19 ?l19 ?c19 ?k19 ?a20 ?l20 ?c20 ?k20 ?a21 ?l21 ?c21 ?k21 ?a22 ?l22 ?c22 ?k22 ?a23 ?l23 ?c23 ?k23 ?a24 ?l24 ?c24 ?k24 ?a25 ?l25 ?c25 ?k25 ?a26 ?l26 ?c26 ?k26 ?a27 ?l27 ?c27 ?k27 ?a28 ?l28 ?c28 ?k28 ?a29 ?l29 ?c29 ?k29 ?zbool ?zint ?zisinstance ?zlen ?zlist ?zmax ?zmin ?zrange ?zreversed ?zsum
    (case a0 => k_is); (case l0 => k_is); (case c0 => k_is); (case k0 => k_is); (case a1 => k_is); (case l1 => k_is); (case c1 => k_is); (case k1 => k_is); (case a2 => k_is); (case l2 => k_is); (case c2 => k_is); (case k2 => k_is); (case a3 => k_is); (case l3 => k_is); (case c3 => k_is); (case k3 => k_is); (case a4 => k_is); (case l4 => k_is); (case c4 => k_is); (case k4 => k_is); (case a5 => k_is); (case l5 => k_is); (case c5 => k_is); (case k5 => k_is); (case a6 => k_is); (case l6 => k_is); (case c6 => k_is); (case k6 => k_is); (case a7 => k_is); (case l7 => k_is); (case c7 => k_is); (case k7 => k_is); (case a8 => k_is); (case l8 => k_is); (case c8 => k_is); (case k8 => k_is); (case a9 => k_is); (case l9 => k_is); (case c9 => k_is); (case k9 => k_is); (case a10 => k_is); (case l10 => k_is); (case c10 => k_is); (case k10 => k_is); (case a11 => k_is); (case l11 => k_is); (case c11 => k_is); (case k11 => k_is); (case a12 => k_is); (case l12 => k_is); (case c12 => k_is); (case k12 => k_is); (case a13 => k_is); (case l13 => k_is); (case c13 => k_is); (case k13 => k_is); (case a14 => k_is); (case l14 => k_is); (case c14 => k_is); (case k14 => k_is); (case a15 => k_is); (case l15 => k_is); (case c15 => k_is); (case k15 => k_is); (case a16 => k_is); (case l16 => k_is); (case c16 => k_is); (case k16 => k_is); (case a17 => k_is); (case l17 => k_is); (case c17 => k_is); (case k17 => k_is); (case a18 => k_is); (case l18 => k_is); (case c18 => k_is); (case k18 => k_is); (case a19 => k_is); (case l19 => k_is); (case c19 => k_is); (case k19 => k_is); (case a20 => k_is); (case l20 => k_is); (case c20 => k_is); (case k20 => k_is); (case a21 => k_is); (case l21 => k_is); (case c21 => k_is); (case k21 => k_is); (case a22 => k_is); (case l22 => k_is); (case c22 => k_is); (case k22 => k_is); (case a23 => k_is); (case l23 => k_is); (case c23 => k_is); (case k23 => k_is); (case a24 => k_is); (case l24 => k_is); (case c24 => k_is); (case k24 => k_is); (case a25 => k_is); (case l25 => k_is); (case c25 => k_is); (case k25 => k_is); (case a26 => k_is); (case l26 => k_is); (case c26 => k_is); (case k26 => k_is); (case a27 => k_is); (case l27 => k_is); (case c27 => k_is); (case k27 => k_is); (case a28 => k_is); (case l28 => k_is); (case c28 => k_is); (case k28 => k_is); (case a29 => k_is); (case l29 => k_is); (case c29 => k_is); (case k29 => k_is); (case zbool => k_is); (case zint => k_is); (case zisinstance => k_is); (case zlen => k_is); (case zlist => k_is); (case zmax => k_is); (case zmin => k_is); (case zrange => k_is); (case zreversed => k_is); (case zsum => k_is)
#print axioms PySem.Challenge.cw_quits_k17_whole_the_least_is_left_holds
