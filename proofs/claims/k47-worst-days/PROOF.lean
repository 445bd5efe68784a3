import PyProof.Rows.All
import Wide.All
import OpenK.AllK
import Wide.FinOn
import HandS.ForExc
import HandS.Comp
import HandS.Iter
import HandS.Wide
import HandS.Lambda
import HandS.IsInst
import HandS.SortInts
import HandS.SetFor
import HandS.More
import HandS.EndBits
import HandS.ExcIs
import HandS.Conv
import HandS.Remove
import HandS.RevTup
import HandS.Rev
import HandS.HotCalls
import HandS.SortKw
import HandS.ForDict
import KE.SortData
import KE.SortKeyHeap
import HandS.TryOnly
import HandS.TupLe
import KE.KLam
import KE.KNestM
import HandS.EndTab
import PySem.Challenge.RW_quits_k47_worst_days
set_option Elab.async false
set_option linter.all false
set_option maxRecDepth 100000
set_option maxHeartbeats 8000000
namespace Ab
open PySem PySem.Spec PyProof.Rows L2

/-! ### data -/
inductive D where
  | non | bl (b : Bool) | int (i : Int) | str (s : Str) | tup (xs : List D) | lst (xs : List D) | scr (xs : List D) | cell (n : Nat) | exn (a : Addr) (c : Str)
inductive Cel where
  | lst (xs : List D) | obj (C : Str) (fs : List (Str × D)) | dk (kvs : List (Key × D)) | dt (kvs : List (List Key × D)) | dkf (o : Obj) (xs : List (Key × V)) (kvs : List (Key × D)) | dtf (o : Obj) (xs : List (List Key × V)) (kvs : List (List Key × D)) | tab (P : Addr) (q : Str) | dead
abbrev Env := List (Option D)
abbrev Sto := List Cel
abbrev KD := D → Sto → Prop
abbrev XD := Str → Sto → Prop
abbrev XE := Str → Env → Sto → Prop

mutual
def D.pure : D → Bool
  | .non => true
  | .bl _ => true
  | .int _ => true
  | .str _ => true
  | .tup xs => pureAll xs
  | .lst xs => pureAll xs
  | .scr xs => pureAll xs
  | .cell _ => false
  | .exn .. => false
def pureAll : List D → Bool
  | [] => true
  | x :: xs => x.pure && pureAll xs
end

/-- classes by name -/
structure Gi where
  cl : Str → Addr

section
variable (K : PySem.W.Frag) (H0 : Hp) (r : List Addr)
mutual
def Rel : D → V → Prop
  | .non, v => v = .non
  | .bl b, v => v = .bl b
  | .int i, v => v = .int i
  | .str s, v => v = .str s
  | .tup ds, v => ∃ a xs, v = .ref a ∧ SqT K H0 a xs ∧ Rels ds xs
  | .lst ds, v => ∃ a xs, v = .ref a ∧ Rd H0 a (.lst xs) ∧ Rels ds xs
  | .scr ds, v => ∃ a xs, v = .ref a ∧ SqL K H0 a xs ∧ Rels ds xs
  | .cell n, v => ∃ a, v = .ref a ∧ r[n]? = some a
  | .exn a _, v => v = .ref a
def Rels : List D → List V → Prop
  | [], xs => xs = []
  | d :: ds, xs => ∃ y ys, xs = y :: ys ∧ Rel d y ∧ Rels ds ys
end
end

def Ex (H H' : Hp) : Prop := ∀ a o, H a = some o → H' a = some o
theorem Ex.refl (H : Hp) : Ex H H := fun _ _ h => h
theorem Ex.trans {H H1 H2 : Hp} (a : Ex H H1) (b : Ex H1 H2) : Ex H H2 := fun x o h => b x o (a x o h)
theorem Ex.new {H : Hp} {p : Addr} {o : HO} (h : H p = none) : Ex H (upd H p o) := fun a u e => by
  rw [upd_ne (ne_of_none e h)]
  exact e
theorem Ex.none {H H' : Hp} {p : Addr} (e : Ex H H') (h : H' p = none) : H p = none := by
  cases h1 : H p with
  | none => rfl
  | some o =>
    rw [e p o h1] at h
    cases h
theorem Ex.rd {H H' : Hp} {a : Addr} {u : HO} (e : Ex H H') (h : Rd H a u) : Rd H' a u := by
  rcases h with h | ⟨o, h⟩
  · exact .inl (e a _ h)
  · exact .inr ⟨o, e a _ h⟩
theorem Ex.sql {K : PySem.W.Frag} {H H' : Hp} {a : Addr} {xs : List V} (e : Ex H H') (h : SqL K H a xs) : SqL K H' a xs := by
  rcases h with h | h
  · exact .inl (e.rd h)
  · exact .inr h
theorem Ex.sqt {K : PySem.W.Frag} {H H' : Hp} {a : Addr} {xs : List V} (e : Ex H H') (h : SqT K H a xs) : SqT K H' a xs := by
  rcases h with h | h
  · exact .inl (e.rd h)
  · exact .inr h

section
variable {K : PySem.W.Frag} {H0 H0' : Hp} {r r' : List Addr}
theorem pre_get {α : Type} {l l' : List α} (h : l <+: l') {n : Nat} {a : α} (e : l[n]? = some a) : l'[n]? = some a := by
  obtain ⟨t, rfl⟩ := h
  have : n < l.length := (List.getElem?_eq_some_iff.mp e).1
  rw [List.getElem?_append_left this]
  exact e
mutual
theorem Rel.mono (e : Ex H0 H0') (p : r <+: r') : ∀ {d : D} {v : V}, Rel K H0 r d v → Rel K H0' r' d v
  | .non, _, h => by unfold Rel at h ⊢; exact h
  | .bl _, _, h => by unfold Rel at h ⊢; exact h
  | .int _, _, h => by unfold Rel at h ⊢; exact h
  | .str _, _, h => by unfold Rel at h ⊢; exact h
  | .tup ds, _, h => by
    unfold Rel at h ⊢
    obtain ⟨a, xs, rfl, h1, h2⟩ := h
    exact ⟨a, xs, rfl, e.sqt h1, Rels.mono e p h2⟩
  | .lst ds, _, h => by
    unfold Rel at h ⊢
    obtain ⟨a, xs, rfl, h1, h2⟩ := h
    exact ⟨a, xs, rfl, e.rd h1, Rels.mono e p h2⟩
  | .scr ds, _, h => by
    unfold Rel at h ⊢
    obtain ⟨a, xs, rfl, h1, h2⟩ := h
    exact ⟨a, xs, rfl, e.sql h1, Rels.mono e p h2⟩
  | .cell n, _, h => by
    unfold Rel at h ⊢
    obtain ⟨a, rfl, h1⟩ := h
    exact ⟨a, rfl, pre_get p h1⟩
  | .exn ..,  _, h => by unfold Rel at h ⊢; exact h
theorem Rels.mono (e : Ex H0 H0') (p : r <+: r') : ∀ {ds : List D} {vs : List V}, Rels K H0 r ds vs → Rels K H0' r' ds vs
  | [], _, h => by unfold Rels at h ⊢; exact h
  | d :: ds, _, h => by
    unfold Rels at h ⊢
    obtain ⟨y, ys, rfl, h1, h2⟩ := h
    exact ⟨y, ys, rfl, Rel.mono e p h1, Rels.mono e p h2⟩
end
theorem Rels.length : ∀ {ds : List D} {vs : List V}, Rels K H0 r ds vs → vs.length = ds.length
  | [], _, h => by unfold Rels at h; subst h; rfl
  | d :: ds, _, h => by
    unfold Rels at h
    obtain ⟨y, ys, rfl, h1, h2⟩ := h
    rw [List.length_cons, List.length_cons, Rels.length h2]
theorem Rels.nil : Rels K H0 r [] [] := by unfold Rels; rfl
theorem Rels.cons {d : D} {ds : List D} {v : V} {vs : List V} (h : Rel K H0 r d v) (h2 : Rels K H0 r ds vs) : Rels K H0 r (d :: ds) (v :: vs) := by
  unfold Rels; exact ⟨v, vs, rfl, h, h2⟩
theorem Rels.uncons {d : D} {ds : List D} {vs : List V} (h : Rels K H0 r (d :: ds) vs) : ∃ y ys, vs = y :: ys ∧ Rel K H0 r d y ∧ Rels K H0 r ds ys := by
  unfold Rels at h; exact h
theorem Rels.unnil {vs : List V} (h : Rels K H0 r [] vs) : vs = [] := by
  unfold Rels at h; exact h
theorem Rels.get : ∀ {ds : List D} {vs : List V} {i : Nat} {d : D}, Rels K H0 r ds vs → ds[i]? = some d → ∃ v, vs[i]? = some v ∧ Rel K H0 r d v
  | [], _, _, _, _, e => by simp at e
  | x :: ds, _, 0, d, h, e => by
    obtain ⟨y, ys, rfl, h1, h2⟩ := h.uncons
    simp at e; subst e
    exact ⟨y, rfl, h1⟩
  | x :: ds, _, i + 1, d, h, e => by
    obtain ⟨y, ys, rfl, h1, h2⟩ := h.uncons
    simp at e
    obtain ⟨v, e1, e2⟩ := Rels.get h2 e
    exact ⟨v, by simpa using e1, e2⟩
theorem Rels.get' : ∀ {ds : List D} {vs : List V} {i : Nat} {v : V}, Rels K H0 r ds vs → vs[i]? = some v → ∃ d, ds[i]? = some d ∧ Rel K H0 r d v
  | [], _, _, _, h, e => by rw [h.unnil] at e; simp at e
  | x :: ds, _, 0, d, h, e => by
    obtain ⟨y, ys, rfl, h1, h2⟩ := h.uncons
    simp at e; subst e
    exact ⟨x, rfl, h1⟩
  | x :: ds, _, i + 1, d, h, e => by
    obtain ⟨y, ys, rfl, h1, h2⟩ := h.uncons
    simp at e
    obtain ⟨v, e1, e2⟩ := Rels.get' h2 e
    exact ⟨v, by simpa using e1, e2⟩
theorem Rels.append : ∀ {ds es : List D} {vs ws : List V}, Rels K H0 r ds vs → Rels K H0 r es ws → Rels K H0 r (ds ++ es) (vs ++ ws)
  | [], es, vs, ws, h, h2 => by rw [h.unnil]; exact h2
  | d :: ds, es, vs, ws, h, h2 => by
    obtain ⟨y, ys, rfl, h1, h3⟩ := h.uncons
    exact Rels.cons h1 (Rels.append h3 h2)
theorem Rels.set : ∀ {ds : List D} {vs : List V} {d : D} {v : V} (i : Nat), Rels K H0 r ds vs → Rel K H0 r d v → Rels K H0 r (ds.set i d) (vs.set i v)
  | [], _, _, _, _, h, _ => by rw [h.unnil]; exact Rels.nil
  | x :: ds, _, d, v, 0, h, h2 => by
    obtain ⟨y, ys, rfl, h1, h3⟩ := h.uncons
    exact Rels.cons h2 h3
  | x :: ds, _, d, v, i + 1, h, h2 => by
    obtain ⟨y, ys, rfl, h1, h3⟩ := h.uncons
    exact Rels.cons h1 (Rels.set i h3 h2)
theorem Rels.take : ∀ {ds : List D} {vs : List V} (n : Nat), Rels K H0 r ds vs → Rels K H0 r (ds.take n) (vs.take n)
  | [], _, n, h => by rw [h.unnil]; simp; exact Rels.nil
  | x :: ds, _, 0, h => by simp; exact Rels.nil
  | x :: ds, _, n + 1, h => by
    obtain ⟨y, ys, rfl, h1, h3⟩ := h.uncons
    exact Rels.cons h1 (Rels.take n h3)
theorem Rels.drop : ∀ {ds : List D} {vs : List V} (n : Nat), Rels K H0 r ds vs → Rels K H0 r (ds.drop n) (vs.drop n)
  | [], _, n, h => by rw [h.unnil]; simp; exact Rels.nil
  | x :: ds, _, 0, h => by simpa using h
  | x :: ds, _, n + 1, h => by
    obtain ⟨y, ys, rfl, h1, h3⟩ := h.uncons
    exact Rels.drop n h3
theorem Rels.reverse : ∀ {ds : List D} {vs : List V}, Rels K H0 r ds vs → Rels K H0 r ds.reverse vs.reverse
  | [], _, h => by rw [h.unnil]; exact Rels.nil
  | x :: ds, _, h => by
    obtain ⟨y, ys, rfl, h1, h3⟩ := h.uncons
    rw [List.reverse_cons, List.reverse_cons]
    exact (Rels.reverse h3).append (Rels.cons h1 Rels.nil)
theorem Rels.ints : ∀ {ns : List Int} {vs : List V}, Rels K H0 r (ns.map D.int) vs ↔ vs = ns.map V.int
  | [], vs => ⟨fun h => h.unnil, fun h => by rw [h]; exact Rels.nil⟩
  | n :: ns, vs => by
    constructor
    · intro h
      obtain ⟨y, ys, rfl, h1, h3⟩ := Rels.uncons h
      unfold Rel at h1
      rw [Rels.ints.mp h3, h1]
      rfl
    · intro h
      subst h
      refine Rels.cons ?_ (Rels.ints.mpr rfl)
      unfold Rel
      rfl
theorem Rels.bls : ∀ {ns : List Bool} {vs : List V}, Rels K H0 r (ns.map D.bl) vs ↔ vs = ns.map V.bl
  | [], vs => ⟨fun h => h.unnil, fun h => by rw [h]; exact Rels.nil⟩
  | n :: ns, vs => by
    constructor
    · intro h
      obtain ⟨y, ys, rfl, h1, h3⟩ := Rels.uncons h
      unfold Rel at h1
      rw [Rels.bls.mp h3, h1]
      rfl
    · intro h
      subst h
      refine Rels.cons ?_ (Rels.bls.mpr rfl)
      unfold Rel
      rfl
/-! pure data do not lean on cells -/
mutual
theorem Rel.of_pure : ∀ {d : D} {v : V}, d.pure = true → Rel K H0 r d v → Rel K H0 r' d v
  | .non, _, _, h => by unfold Rel at h ⊢; exact h
  | .bl _, _, _, h => by unfold Rel at h ⊢; exact h
  | .int _, _, _, h => by unfold Rel at h ⊢; exact h
  | .str _, _, _, h => by unfold Rel at h ⊢; exact h
  | .tup ds, _, p, h => by
    unfold Rel at h ⊢
    obtain ⟨a, xs, rfl, h1, h2⟩ := h
    exact ⟨a, xs, rfl, h1, Rels.of_pure (by unfold D.pure at p; exact p) h2⟩
  | .lst ds, _, p, h => by
    unfold Rel at h ⊢
    obtain ⟨a, xs, rfl, h1, h2⟩ := h
    exact ⟨a, xs, rfl, h1, Rels.of_pure (by unfold D.pure at p; exact p) h2⟩
  | .scr ds, _, p, h => by
    unfold Rel at h ⊢
    obtain ⟨a, xs, rfl, h1, h2⟩ := h
    exact ⟨a, xs, rfl, h1, Rels.of_pure (by unfold D.pure at p; exact p) h2⟩
  | .cell n, _, p, h => by unfold D.pure at p; cases p
  | .exn ..,  _, p, h => by unfold D.pure at p; cases p
theorem Rels.of_pure : ∀ {ds : List D} {vs : List V}, pureAll ds = true → Rels K H0 r ds vs → Rels K H0 r' ds vs
  | [], _, _, h => by rw [h.unnil]; exact Rels.nil
  | d :: ds, _, p, h => by
    unfold pureAll at p
    rw [Bool.and_eq_true] at p
    obtain ⟨y, ys, rfl, h1, h3⟩ := h.uncons
    exact Rels.cons (Rel.of_pure p.1 h1) (Rels.of_pure p.2 h3)
end
end

/-! ### the store and the heap -/
def RelF (K : PySem.W.Frag) (H0 : Hp) (r : List Addr) : List (Str × D) → List (Str × V) → Prop
  | [], xs => xs = []
  | (f, d) :: ds, xs => ∃ y ys, xs = (f, y) :: ys ∧ Rel K H0 r d y ∧ RelF K H0 r ds ys
def RelK {κ : Type} (K : PySem.W.Frag) (H0 : Hp) (r : List Addr) : List (κ × D) → List (κ × V) → Prop
  | [], xs => xs = []
  | (f, d) :: ds, xs => ∃ y ys, xs = (f, y) :: ys ∧ Rel K H0 r d y ∧ RelK K H0 r ds ys
theorem RelF.mono {K : PySem.W.Frag} {H0 H0' : Hp} {r r' : List Addr} (e : Ex H0 H0') (p : r <+: r') : ∀ {ds : List (Str × D)} {vs : List (Str × V)}, RelF K H0 r ds vs → RelF K H0' r' ds vs
  | [], _, h => h
  | (f, d) :: ds, _, h => by
    obtain ⟨y, ys, rfl, h1, h2⟩ := h
    exact ⟨y, ys, rfl, h1.mono e p, RelF.mono e p h2⟩
theorem RelK.mono {κ : Type} {K : PySem.W.Frag} {H0 H0' : Hp} {r r' : List Addr} (e : Ex H0 H0') (p : r <+: r') : ∀ {ds : List (κ × D)} {vs : List (κ × V)}, RelK K H0 r ds vs → RelK K H0' r' ds vs
  | [], _, h => h
  | (f, d) :: ds, _, h => by
    obtain ⟨y, ys, rfl, h1, h2⟩ := h
    exact ⟨y, ys, rfl, h1.mono e p, RelK.mono e p h2⟩

def CelOk (K : PySem.W.Frag) (g : Gi) (H0 : Hp) (r : List Addr) (H : Hp) (a : Addr) : Cel → Prop
  | .lst ds => H0 a = none ∧ ∃ xs, H a = some (.lst xs) ∧ Rels K H0 r ds xs
  | .obj C fs => H0 a = none ∧ ∃ dx xs, H a = some (.ins (g.cl C) dx xs) ∧ RelF K H0 r fs xs
  | .dk kvs => H0 a = none ∧ ∃ xs, H a = some (.dK xs) ∧ RelK K H0 r kvs xs
  | .dt kvs => H0 a = none ∧ ∃ xs, H a = some (.dT xs) ∧ RelK K H0 r kvs xs
  | .dkf o xs kvs => H0 a = none ∧ H a = some (.frz o (.dK xs)) ∧ RelK K H0 r kvs xs
  | .dtf o xs kvs => H0 a = none ∧ H a = some (.frz o (.dT xs)) ∧ RelK K H0 r kvs xs
  | .tab _ q => a = g.cl q ∧ H0 a = none ∧ ∃ ps : Array Value, H a = some (.tbl ps) ∧ TriplesOk ps.toList ∧ ∀ (pos : Pos) (cv : Value), codeAmong pos ps.toList = some cv → ∃ c, cv = .ref c ∧ H0 c = some (LamX.CodeO c q)
  | .dead => True
structure Sim (K : PySem.W.Frag) (g : Gi) (H0 : Hp) (r : List Addr) (S : Sto) (H : Hp) : Prop where
  ex : Ex H0 H
  len : r.length = S.length
  nd : r.Nodup
  there : ∀ a ∈ r, H a ≠ none
  cel : ∀ (n : Nat) (a : Addr) (c : Cel), r[n]? = some a → S[n]? = some c → CelOk K g H0 r H a c
structure Fut (H0 : Hp) (r : List Addr) (H : Hp) (H0' : Hp) (r' : List Addr) (H' : Hp) : Prop where
  ext : Ex H0 H0'
  pre : r <+: r'
  keep : ∀ a o, H a = some o → a ∉ r → H' a = some o
  newC : ∀ a, a ∈ r' → a ∉ r → H a = none
  newF : ∀ a o, H0' a = some o → H0 a = none → H a = none ∨ a ∈ r

section
variable {K : PySem.W.Frag} {g : Gi} {H0 H0' H1 H H' H'' : Hp} {r r' r'' : List Addr} {S S' : Sto}
theorem Fut.refl : Fut H0 r H H0 r H :=
  ⟨Ex.refl _, List.prefix_refl _, fun _ _ h _ => h, fun _ h h' => absurd h h', fun _ _ h h' => by rw [h] at h'; cases h'⟩
theorem Fut.trans (a : Fut H0 r H H0' r' H') (t' : ∀ a ∈ r, H' a ≠ none) (b : Fut H0' r' H' H1 r'' H'') : Fut H0 r H H1 r'' H'' := by
  refine ⟨a.ext.trans b.ext, a.pre.trans b.pre, fun x o h hn => ?_, fun x h hn => ?_, fun x o h hn => ?_⟩
  · refine b.keep x o (a.keep x o h hn) fun h' => ?_
    rw [a.newC x h' hn] at h
    cases h
  · by_cases h' : x ∈ r'
    · exact a.newC x h' hn
    · have q := b.newC x h h'
      cases e : H x with
      | none => rfl
      | some o =>
        rw [a.keep x o e hn] at q
        cases q
  · cases e : H0' x with
    | some u => exact a.newF x u e hn
    | none =>
      rcases b.newF x o h e with q | q
      · by_cases hr : x ∈ r
        · exact .inr hr
        · refine .inl ?_
          cases e2 : H x with
          | none => rfl
          | some u =>
            rw [a.keep x u e2 hr] at q
            cases q
      · by_cases hr : x ∈ r
        · exact .inr hr
        · exact .inl (a.newC x q hr)
theorem Sim.therePre (s : Sim K g H0' r' S' H') (p : r <+: r') : ∀ a ∈ r, H' a ≠ none := fun a h => s.there a (p.subset h)
theorem Fut.tr (a : Fut H0 r H H0' r' H') (s : Sim K g H0' r' S' H') (b : Fut H0' r' H' H1 r'' H'') : Fut H0 r H H1 r'' H'' := a.trans (s.therePre a.pre) b
theorem Rel.fut {d : D} {v : V} (h : Rel K H0 r d v) (f : Fut H0 r H H0' r' H') : Rel K H0' r' d v := h.mono f.ext f.pre
theorem Rels.fut {d : List D} {v : List V} (h : Rels K H0 r d v) (f : Fut H0 r H H0' r' H') : Rels K H0' r' d v := h.mono f.ext f.pre
theorem CelOk.mono {a : Addr} {c : Cel} (h : CelOk K g H0 r H a c) (e : Ex H0 H0') (p : r <+: r') (h0 : H0 a = none → H0' a = none) (hH : H' a = H a) : CelOk K g H0' r' H' a c := by
  cases c with
  | lst ds =>
    obtain ⟨q, xs, h1, h2⟩ := h
    exact ⟨h0 q, xs, by rw [hH]; exact h1, h2.mono e p⟩
  | obj C fs =>
    obtain ⟨q, dx, xs, h1, h2⟩ := h
    exact ⟨h0 q, dx, xs, by rw [hH]; exact h1, h2.mono e p⟩
  | dk kvs =>
    obtain ⟨q, xs, h1, h2⟩ := h
    exact ⟨h0 q, xs, by rw [hH]; exact h1, h2.mono e p⟩
  | dt kvs =>
    obtain ⟨q, xs, h1, h2⟩ := h
    exact ⟨h0 q, xs, by rw [hH]; exact h1, h2.mono e p⟩
  | dkf o xs kvs =>
    obtain ⟨q, h1, h2⟩ := h
    exact ⟨h0 q, by rw [hH]; exact h1, h2.mono e p⟩
  | dtf o xs kvs =>
    obtain ⟨q, h1, h2⟩ := h
    exact ⟨h0 q, by rw [hH]; exact h1, h2.mono e p⟩
  | tab P q =>
    obtain ⟨ea, n0, ps, h1, h2, h3⟩ := h
    refine ⟨ea, h0 n0, ps, by rw [hH]; exact h1, h2, fun pos cv hc => ?_⟩
    obtain ⟨c, e1, e2⟩ := h3 pos cv hc
    exact ⟨c, e1, e _ _ e2⟩
  | dead => trivial
/-- a new frozen object -/
theorem Sim.frz (s : Sim K g H0 r S H) {p : Addr} {o : HO} (h : H p = none) : Sim K g (upd H0 p o) r S (upd H p o) ∧ Fut H0 r H (upd H0 p o) r (upd H p o) := by
  have h0 : H0 p = none := s.ex.none h
  have np : p ∉ r := fun z => s.there p z h
  refine ⟨⟨fun a u e => ?_, s.len, s.nd, fun a ha => ?_, fun n a c e1 e2 => ?_⟩, ⟨Ex.new h0, List.prefix_refl _, fun a u e _ => Ex.new h a u e, fun a h1 h2 => absurd h1 h2, fun a u e en => ?_⟩⟩
  · by_cases ha : a = p
    · subst ha; rw [upd_same] at e ⊢; exact e
    · rw [upd_ne ha] at e ⊢; exact s.ex a u e
  · have : a ≠ p := fun z => np (z ▸ ha)
    rw [upd_ne this]; exact s.there a ha
  · have : a ≠ p := fun z => np (z ▸ List.mem_of_getElem? e1)
    exact (s.cel n a c e1 e2).mono (Ex.new h0) (List.prefix_refl _) (fun q => by rw [upd_ne this]; exact q) (upd_ne this)
  · by_cases ha : a = p
    · subst ha; exact .inl h
    · rw [upd_ne ha, en] at e; cases e
/-- a new object that nothing tells of -/
theorem Sim.junk (s : Sim K g H0 r S H) {p : Addr} {o : HO} (h : H p = none) : Sim K g H0 r S (upd H p o) ∧ Fut H0 r H H0 r (upd H p o) := by
  have np : p ∉ r := fun z => s.there p z h
  refine ⟨⟨s.ex.trans (Ex.new h), s.len, s.nd, fun a ha => ?_, fun n a c e1 e2 => ?_⟩, ⟨Ex.refl _, List.prefix_refl _, fun a u e _ => Ex.new h a u e, fun a h1 h2 => absurd h1 h2, fun a u e en => by rw [e] at en; cases en⟩⟩
  · have : a ≠ p := fun z => np (z ▸ ha)
    rw [upd_ne this]; exact s.there a ha
  · have : a ≠ p := fun z => np (z ▸ List.mem_of_getElem? e1)
    exact (s.cel n a c e1 e2).mono (Ex.refl _) (List.prefix_refl _) (fun q => q) (upd_ne this)
/-- a new cell -/
theorem Sim.new (s : Sim K g H0 r S H) {p : Addr} {o : HO} {c : Cel} (h : H p = none) (hc : ∀ H', H' p = some o → CelOk K g H0 r H' p c) : Sim K g H0 (r ++ [p]) (S ++ [c]) (upd H p o) ∧ Fut H0 r H H0 (r ++ [p]) (upd H p o) := by
  have h0 : H0 p = none := s.ex.none h
  have np : p ∉ r := fun z => s.there p z h
  refine ⟨⟨s.ex.trans (Ex.new h), by rw [List.length_append, List.length_append, s.len]; rfl, ?_, fun a ha => ?_, fun n a c' e1 e2 => ?_⟩, ⟨Ex.refl _, List.prefix_append _ _, fun a u e _ => Ex.new h a u e, fun a h1 h2 => ?_, fun a u e en => by rw [e] at en; cases en⟩⟩
  · refine List.nodup_append.mpr ⟨s.nd, by simp, fun a ha b hb => ?_⟩
    rw [List.mem_singleton] at hb
    subst hb
    exact fun z => np (z ▸ ha)
  · rcases List.mem_append.mp ha with ha | ha
    · have : a ≠ p := fun z => np (z ▸ ha)
      rw [upd_ne this]; exact s.there a ha
    · rw [List.mem_singleton] at ha
      subst ha
      rw [upd_same]; intro z; cases z
  · by_cases hn : n < r.length
    · rw [List.getElem?_append_left hn] at e1
      rw [List.getElem?_append_left (by rw [← s.len]; exact hn)] at e2
      have : a ≠ p := fun z => np (z ▸ List.mem_of_getElem? e1)
      exact (s.cel n a c' e1 e2).mono (Ex.refl _) (List.prefix_append _ _) (fun q => q) (upd_ne this)
    · have hn' : n = r.length := by
        have := (List.getElem?_eq_some_iff.mp e1).1
        rw [List.length_append, List.length_singleton] at this
        omega
      subst hn'
      rw [List.getElem?_append_right (Nat.le_refl _), Nat.sub_self] at e1
      rw [s.len, List.getElem?_append_right (Nat.le_refl _), Nat.sub_self] at e2
      cases e1
      cases e2
      exact (hc _ upd_same).mono (Ex.refl _) (List.prefix_append _ _) (fun q => q) rfl
  · rcases List.mem_append.mp h1 with h1 | h1
    · exact absurd h1 h2
    · rw [List.mem_singleton] at h1
      subst h1
      exact h
/-- a cell written -/
theorem Sim.write (s : Sim K g H0 r S H) {n : Nat} {p : Addr} {o : HO} {c c' : Cel} (hr : r[n]? = some p) (hS : S[n]? = some c) (h0 : H0 p = none) (hc : ∀ H', H' p = some o → CelOk K g H0 r H' p c') : Sim K g H0 r (S.set n c') (upd H p o) ∧ Fut H0 r H H0 r (upd H p o) := by
  have pr : p ∈ r := List.mem_of_getElem? hr
  have hn : n < S.length := (List.getElem?_eq_some_iff.mp hS).1
  refine ⟨⟨fun a u e => ?_, by rw [List.length_set]; exact s.len, s.nd, fun a ha => ?_, fun m a d e1 e2 => ?_⟩, ⟨Ex.refl _, List.prefix_refl _, fun a u e na => ?_, fun a h1 h2 => absurd h1 h2, fun a u e en => by rw [e] at en; cases en⟩⟩
  · have : a ≠ p := fun z => by rw [z, h0] at e; cases e
    rw [upd_ne this]; exact s.ex a u e
  · by_cases e : a = p
    · subst e; rw [upd_same]; intro z; cases z
    · rw [upd_ne e]; exact s.there a ha
  · by_cases hm : m = n
    · subst hm
      rw [hr] at e1
      cases e1
      rw [List.getElem?_set_self hn] at e2
      cases e2
      exact hc _ upd_same
    · rw [List.getElem?_set_ne (Ne.symm hm)] at e2
      have : a ≠ p := fun z => hm (nd_ix s.nd (z ▸ e1) hr)
      exact (s.cel m a d e1 e2).mono (Ex.refl _) (List.prefix_refl _) (fun q => q) (upd_ne this)
  · have : a ≠ p := fun z => na (z ▸ pr)
    rw [upd_ne this]; exact e
/-- a list cell frozen -/
theorem Sim.freeze (s : Sim K g H0 r S H) {n : Nat} {p : Addr} {ds : List D} (hr : r[n]? = some p) (hS : S[n]? = some (.lst ds)) :
    ∃ xs, H p = some (.lst xs) ∧ Sim K g (upd H0 p (.lst xs)) r (S.set n .dead) H ∧ Fut H0 r H (upd H0 p (.lst xs)) r H ∧ Rels K H0 r ds xs := by
  obtain ⟨h0, xs, hp, hx⟩ := s.cel n p _ hr hS
  have pr : p ∈ r := List.mem_of_getElem? hr
  have hn : n < S.length := (List.getElem?_eq_some_iff.mp hS).1
  refine ⟨xs, hp, ⟨fun a u e => ?_, by rw [List.length_set]; exact s.len, s.nd, s.there, fun m a d e1 e2 => ?_⟩, ⟨Ex.new h0, List.prefix_refl _, fun a u e _ => e, fun a h1 h2 => absurd h1 h2, fun a u e en => ?_⟩, hx⟩
  · by_cases ha : a = p
    · subst ha; rw [upd_same] at e; rw [hp]; exact e
    · rw [upd_ne ha] at e; exact s.ex a u e
  · by_cases hm : m = n
    · subst hm
      rw [List.getElem?_set_self hn] at e2
      cases e2
      trivial
    · rw [List.getElem?_set_ne (Ne.symm hm)] at e2
      have : a ≠ p := fun z => hm (nd_ix s.nd (z ▸ e1) hr)
      exact (s.cel m a d e1 e2).mono (Ex.new h0) (List.prefix_refl _) (fun q => by rw [upd_ne this]; exact q) rfl
  · by_cases ha : a = p
    · subst ha; exact .inr pr
    · rw [upd_ne ha, en] at e; cases e
end
end Ab

namespace Ab
open PySem PySem.Spec PyProof.Rows L2

/-! ### readings over data -/
def hgt0 : Nat := 0
def hgt1 : Nat := hgt0
def hgt2 : Nat := hgt1
def hgt3 : Nat := hgt2
def hgt4 : Nat := hgt3
def hgt5 : Nat := hgt4
def hgt6 : Nat := hgt5
def hgt7 : Nat := hgt6
def hgt8 : Nat := hgt7
def hgt9 : Nat := hgt8
def hgt10 : Nat := hgt9
def hgt11 : Nat := hgt10
def hgt12 : Nat := hgt11
def hgt13 : Nat := hgt12
def hgt14 : Nat := hgt13
def hgt15 : Nat := hgt14
def hgt16 : Nat := hgt15
def hgt17 : Nat := hgt16
def hgt18 : Nat := hgt17
def hgt19 : Nat := hgt18
def hgt20 : Nat := hgt19
def hgt21 : Nat := hgt20
def hgt22 : Nat := hgt21
def hgt23 : Nat := hgt22
def hgt24 : Nat := hgt23
def hgt25 : Nat := hgt24
def hgt26 : Nat := hgt25
def hgt27 : Nat := hgt26
def hgt28 : Nat := hgt27
def hgt29 : Nat := hgt28
def hgt30 : Nat := hgt29
def hgt31 : Nat := hgt30
def hgt32 : Nat := hgt31
def hgt33 : Nat := hgt32
def hgt34 : Nat := hgt33
def hgt35 : Nat := hgt34
def hgt36 : Nat := hgt35
def hgt37 : Nat := hgt36
def hgt38 : Nat := hgt37
def hgt39 : Nat := hgt38
def hgt40 : Nat := hgt39
def hgt41 : Nat := hgt40
def hgt42 : Nat := hgt41
def hgt43 : Nat := hgt42
def hgt44 : Nat := hgt43
def hgt45 : Nat := hgt44
def hgt46 : Nat := hgt45
def hgt47 : Nat := hgt46
def hgt48 : Nat := hgt47
def hgt49 : Nat := hgt48
def hgt50 : Nat := hgt49
def hgt51 : Nat := hgt50
def hgt52 : Nat := hgt51
def hgt53 : Nat := hgt52
def hgt54 : Nat := hgt53
def hgt55 : Nat := hgt54
def hgt56 : Nat := hgt55
def hgt57 : Nat := hgt56
def hgt58 : Nat := hgt57
def hgt59 : Nat := hgt58
@[reducible] def HG (α : Type) : Type := (fun (_ : Nat) => α) hgt59
abbrev WE := XE → Env → Sto → KD → Prop
abbrev WT := XE → Env → Sto → (Bool → Sto → Prop) → Prop
abbrev WA := XE → Env → Sto → (List D → Sto → Prop) → Prop
structure Kd where
  nx : Env → Sto → Prop
  rt : KD
  xc : XE
abbrev WS := Kd → Env → Sto → Prop
abbrev WF := List D → Sto → KD → XD → Prop

def slot : Env → Nat → Option D
  | [], _ => none
  | x :: _, 0 => x
  | _ :: xs, n + 1 => slot xs n
theorem slot_some : ∀ {s : Env} {i : Nat} {d : D}, slot s i = some d → s[i]? = some (some d)
  | [], _, _, h => by cases h
  | x :: _, 0, d, h => by
    have : x = some d := h
    subst this; rfl
  | _ :: xs, n + 1, d, h => by
    have := slot_some (s := xs) (i := n) h
    simpa using this

def RelSt (K : PySem.W.Frag) (H0 : Hp) (r : List Addr) (s : Env) (sv : L2.St) : Prop := s.length = sv.length ∧ ∀ (i : Nat) (d : D), s[i]? = some (some d) → ∃ v, sv[i]? = some (some v) ∧ Rel K H0 r d v
section
variable {K : PySem.W.Frag} {g : Gi} {H0 H0' H1 H H' : Hp} {r r' : List Addr} {S S' : Sto} {s : Env} {sv : L2.St}
theorem RelSt.mono (h : RelSt K H0 r s sv) (e : Ex H0 H0') (p : r <+: r') : RelSt K H0' r' s sv := ⟨h.1, fun i d q => by
  obtain ⟨v, h1, h2⟩ := h.2 i d q
  exact ⟨v, h1, h2.mono e p⟩⟩
theorem RelSt.fut (h : RelSt K H0 r s sv) (f : Fut H0 r H H0' r' H') : RelSt K H0' r' s sv := h.mono f.ext f.pre
theorem RelSt.set (h : RelSt K H0 r s sv) (i : Nat) {d : D} {v : V} (q : Rel K H0 r d v) : RelSt K H0 r (s.set i (some d)) (sv.set i (some v)) := by
  refine ⟨by rw [List.length_set, List.length_set]; exact h.1, fun j e hj => ?_⟩
  by_cases hij : i = j
  · subst hij
    by_cases hl : i < s.length
    · rw [List.getElem?_set_self hl] at hj
      cases hj
      exact ⟨v, List.getElem?_set_self (by rw [← h.1]; exact hl), q⟩
    · rw [List.getElem?_eq_none (by rw [List.length_set]; omega)] at hj
      cases hj
  · rw [List.getElem?_set_ne hij] at hj ⊢
    exact h.2 j e hj
theorem RelSt.unset (h : RelSt K H0 r s sv) (i : Nat) : RelSt K H0 r (s.set i none) (sv.set i none) := by
  refine ⟨by rw [List.length_set, List.length_set]; exact h.1, fun j e hj => ?_⟩
  by_cases hij : i = j
  · subst hij
    by_cases hl : i < s.length
    · rw [List.getElem?_set_self hl] at hj
      cases hj
    · rw [List.getElem?_eq_none (by rw [List.length_set]; omega)] at hj
      cases hj
  · rw [List.getElem?_set_ne hij] at hj ⊢
    exact h.2 j e hj

def CtE (K : PySem.W.Frag) (g : Gi) (H0 : Hp) (r : List Addr) (H : Hp) (k : KD) (Q : VK) : Prop :=
  ∀ d v H0' r' S' H', Fut H0 r H H0' r' H' → Sim K g H0' r' S' H' → Rel K H0' r' d v → k d S' → Q v H'
def CtX (K : PySem.W.Frag) (g : Gi) (H0 : Hp) (r : List Addr) (H : Hp) (s : Env) (sv : L2.St) (xc : XE) (W : WX) : Prop :=
  ∀ c H0' r' S' H', Fut H0 r H H0' r' H' → Sim K g H0' r' S' H' → xc c s S' → W (.ref (g.cl c)) none sv H'
theorem CtE.fut {k : KD} {Q : VK} (c : CtE K g H0 r H k Q) (f : Fut H0 r H H0' r' H') (si : Sim K g H0' r' S' H') : CtE K g H0' r' H' k Q :=
  fun d v H0'' r'' S'' H'' f2 s2 rl kk => c d v H0'' r'' S'' H'' (f.tr si f2) s2 rl kk
theorem CtX.fut {xc : XE} {W : WX} (c : CtX K g H0 r H s sv xc W) (f : Fut H0 r H H0' r' H') (si : Sim K g H0' r' S' H') : CtX K g H0' r' H' s sv xc W :=
  fun d H0'' r'' S'' H'' f2 s2 kk => c d H0'' r'' S'' H'' (f.tr si f2) s2 kk
end

def GoodE (X : Cx) (g : Gi) (W : WX) (te : TE) (w : WE) : Prop :=
  ∀ H0 r S H s sv Q k xc, Sim X.K g H0 r S H → RelSt X.K H0 r s sv → w xc s S k → CtE X.K g H0 r H k Q → CtX X.K g H0 r H s sv xc W → te sv H Q
def GoodT (X : Cx) (g : Gi) (W : WX) (te : TT) (w : WT) : Prop :=
  ∀ H0 r S H s sv (Q : Bool → Hp → Prop) (k : Bool → Sto → Prop) xc, Sim X.K g H0 r S H → RelSt X.K H0 r s sv → w xc s S k →
    (∀ b H0' r' S' H', Fut H0 r H H0' r' H' → Sim X.K g H0' r' S' H' → k b S' → Q b H') → CtX X.K g H0 r H s sv xc W → te sv H Q
def GoodA (X : Cx) (g : Gi) (W : WX) (te : TA) (w : WA) : Prop :=
  ∀ H0 r S H s sv (Q : List V → Hp → Prop) (k : List D → Sto → Prop) xc, Sim X.K g H0 r S H → RelSt X.K H0 r s sv → w xc s S k →
    (∀ ds vs H0' r' S' H', Fut H0 r H H0' r' H' → Sim X.K g H0' r' S' H' → Rels X.K H0' r' ds vs → k ds S' → Q vs H') → CtX X.K g H0 r H s sv xc W → te sv H Q
def SE (X : Cx) (g : Gi) (W : WX) (e : Expr) (w : WE) : Prop := ∃ te, PE X e te ∧ GoodE X g W te w
def STt (X : Cx) (g : Gi) (W : WX) (e : Expr) (w : WT) : Prop := ∃ te, PT X e te ∧ GoodT X g W te w
def SPw (X : Cx) (g : Gi) (W : WX) (e : Expr) (w : WT) : Prop := ∃ te, PW X e te ∧ GoodT X g W te w
def SA (X : Cx) (g : Gi) (W : WX) (e : List Expr) (w : WA) : Prop := ∃ te, PA X e te ∧ GoodA X g W te w

section
variable {X : Cx} {g : Gi} {W : WX} {a b c e : Expr} {pos : Pos} {wa wb wc we : WE} {wt wu : WT}

/-! ### names, constants -/
def kOpt : Option D → Sto → KD → Prop := fun (x0 : HG (Option D)) x1 x2 => match x0, x1, x2 with
  | some d, S, k => k d S
  | none, _, _ => False
def wVar (i : Nat) : WE := fun (_ : HG XE) s S k => kOpt (slot s i) S k
def wC (d : D) : WE := fun (_ : HG XE) _ S k => k d S
theorem se_var (i : Nat) {x : Str} {pos : Pos} (hN : X.N[i]? = some x := by rfl) (hv : Vis X.env.scope x := by first | exact Or.inl rfl | exact Or.inr (Or.inl rfl) | exact Or.inr (Or.inr rfl)) (hd : (x == ("__debug__" : Str)) = false := by decide)
    (hcd : (x == ("__classdict__" : Str)) = false := by decide) : SE X g W (.Name x pos) (wVar i) := by
  refine ⟨_, pe_var hN hv hd hcd, fun H0 r S H s sv Q k xc si rs h ce _ => ?_⟩
  unfold wVar at h
  cases q : slot s i with
  | none => rw [q] at h; exact h.elim
  | some d =>
    rw [q] at h
    obtain ⟨v, h1, h2⟩ := rs.2 i d (slot_some q)
    exact ⟨v, h1, ce d v H0 r S H .refl si h2 h⟩
theorem se_int {i : Int} {j : Nat} : SE X g W (.Constant (.int i) j pos) (wC (.int i)) :=
  ⟨_, pe_int, fun H0 r S H s sv Q k xc si rs h ce _ => ce _ _ H0 r S H .refl si (by unfold Rel; rfl) h⟩
theorem se_bl {i : Bool} {j : Nat} : SE X g W (.Constant (.bool i) j pos) (wC (.bl i)) :=
  ⟨_, pe_bl, fun H0 r S H s sv Q k xc si rs h ce _ => ce _ _ H0 r S H .refl si (by unfold Rel; rfl) h⟩
theorem se_str {i : Str} {j : Nat} : SE X g W (.Constant (.str i) j pos) (wC (.str i)) :=
  ⟨_, pe_str, fun H0 r S H s sv Q k xc si rs h ce _ => ce _ _ H0 r S H .refl si (by unfold Rel; rfl) h⟩
theorem se_non {j : Nat} : SE X g W (.Constant .none j pos) (wC .non) :=
  ⟨_, pe_non, fun H0 r S H s sv Q k xc si rs h ce _ => ce _ _ H0 r S H .refl si (by unfold Rel; rfl) h⟩
/-- a module's constant: an int, a text -/
theorem se_gint {x : Str} {i : Int} {t : Tok} (hg : Gl X x) (hm : X.mg x = some (.int i t)) (hd : (x == ("__debug__" : Str)) = false := by decide) : SE X g W (.Name x pos) (wC (.int i)) :=
  ⟨_, pe_glob (v := .int i) hg hm ⟨_, rfl⟩ hd, fun H0 r S H s sv Q k xc si rs h ce _ => ce _ _ H0 r S H .refl si (by unfold Rel; rfl) h⟩

/-! ### views -/
def lview (S : Sto) : D → Option (List D)
  | .lst xs => some xs
  | .scr xs => some xs
  | .cell n => match S[n]? with
    | some (.lst xs) => some xs
    | _ => none
  | _ => none
def tview : D → Option (List D)
  | .tup xs => some xs
  | _ => none
/-- a list or a tuple -/
def sview (S : Sto) : D → Option (List D)
  | .tup xs => some xs
  | d => lview S d
section
variable {K : PySem.W.Frag} {H0 H : Hp} {r : List Addr} {S : Sto} {d : D} {v : V} {ds : List D}
/-- .. that is no object of the module's own -/
def rview (S : Sto) : D → Option (List D)
  | .lst xs => some xs
  | .cell n => match S[n]? with
    | some (.lst xs) => some xs
    | _ => none
  | _ => none
theorem rview_rel (si : Sim K g H0 r S H) (h : Rel K H0 r d v) (e : rview S d = some ds) : ∃ a xs, v = .ref a ∧ Rd H a (.lst xs) ∧ Rels K H0 r ds xs := by
  unfold rview at e
  split at e
  · cases e
    unfold Rel at h
    obtain ⟨a, xs, rfl, h1, h2⟩ := h
    exact ⟨a, xs, rfl, si.ex.rd h1, h2⟩
  · rename_i n
    split at e
    · rename_i xs hS
      cases e
      unfold Rel at h
      obtain ⟨a, rfl, h1⟩ := h
      obtain ⟨_, ys, h2, h3⟩ := si.cel n a _ h1 hS
      exact ⟨a, ys, rfl, .inl h2, h3⟩
    · cases e
  · cases e
theorem lview_rel (si : Sim K g H0 r S H) (h : Rel K H0 r d v) (e : lview S d = some ds) : ∃ a xs, v = .ref a ∧ SqL K H a xs ∧ Rels K H0 r ds xs := by
  unfold lview at e
  split at e
  · cases e
    unfold Rel at h
    obtain ⟨a, xs, rfl, h1, h2⟩ := h
    exact ⟨a, xs, rfl, .inl (si.ex.rd h1), h2⟩
  · cases e
    unfold Rel at h
    obtain ⟨a, xs, rfl, h1, h2⟩ := h
    exact ⟨a, xs, rfl, si.ex.sql h1, h2⟩
  · rename_i n
    split at e
    · rename_i xs hS
      cases e
      unfold Rel at h
      obtain ⟨a, rfl, h1⟩ := h
      obtain ⟨_, ys, h2, h3⟩ := si.cel n a _ h1 hS
      exact ⟨a, ys, rfl, .inl (.inl h2), h3⟩
    · cases e
  · cases e
theorem tview_rel (si : Sim K g H0 r S H) (h : Rel K H0 r d v) (e : tview d = some ds) : ∃ a xs, v = .ref a ∧ SqT K H a xs ∧ Rels K H0 r ds xs := by
  unfold tview at e
  split at e
  · cases e
    unfold Rel at h
    obtain ⟨a, xs, rfl, h1, h2⟩ := h
    exact ⟨a, xs, rfl, si.ex.sqt h1, h2⟩
  · cases e
theorem sview_rel (si : Sim K g H0 r S H) (h : Rel K H0 r d v) (e : sview S d = some ds) : ∃ a xs, v = .ref a ∧ (SqL K H a xs ∨ SqT K H a xs) ∧ Rels K H0 r ds xs := by
  cases d with
  | tup xs =>
    obtain ⟨a, ys, h1, h2, h3⟩ := tview_rel (d := .tup xs) si h e
    exact ⟨a, ys, h1, .inr h2, h3⟩
  | lst xs =>
    obtain ⟨a, ys, h1, h2, h3⟩ := lview_rel (d := .lst xs) si h e
    exact ⟨a, ys, h1, .inl h2, h3⟩
  | scr xs =>
    obtain ⟨a, ys, h1, h2, h3⟩ := lview_rel (d := .scr xs) si h e
    exact ⟨a, ys, h1, .inl h2, h3⟩
  | cell n =>
    obtain ⟨a, ys, h1, h2, h3⟩ := lview_rel (d := .cell n) si h e
    exact ⟨a, ys, h1, .inl h2, h3⟩
  | _ => cases e
theorem rel_int {i : Int} (h : Rel K H0 r (.int i) v) : v = .int i := by unfold Rel at h; exact h
theorem rel_bl {i : Bool} (h : Rel K H0 r (.bl i) v) : v = .bl i := by unfold Rel at h; exact h
theorem rel_str {i : Str} (h : Rel K H0 r (.str i) v) : v = .str i := by unfold Rel at h; exact h
theorem rel_non (h : Rel K H0 r .non v) : v = .non := by unfold Rel at h; exact h
theorem rel_int' {i : Int} : Rel K H0 r (.int i) (.int i) := by unfold Rel; rfl
theorem rel_bl' {i : Bool} : Rel K H0 r (.bl i) (.bl i) := by unfold Rel; rfl
theorem rel_str' {i : Str} : Rel K H0 r (.str i) (.str i) := by unfold Rel; rfl
theorem rel_non' : Rel K H0 r .non .non := by unfold Rel; rfl
/-- a new frozen list, a new tuple -/
theorem Sim.lst {xs : List V} {p : Addr} (si : Sim K g H0 r S H) (hp : H p = none) (h : Rels K H0 r ds xs) :
    Sim K g (upd H0 p (.lst xs)) r S (upd H p (.lst xs)) ∧ Fut H0 r H (upd H0 p (.lst xs)) r (upd H p (.lst xs)) ∧ Rel K (upd H0 p (.lst xs)) r (.lst ds) (.ref p) := by
  obtain ⟨h1, h2⟩ := si.frz (o := .lst xs) hp
  refine ⟨h1, h2, ?_⟩
  unfold Rel
  exact ⟨p, xs, rfl, .inl upd_same, h.fut h2⟩
theorem Sim.tup {xs : List V} {p : Addr} (si : Sim K g H0 r S H) (hp : H p = none) (h : Rels K H0 r ds xs) :
    Sim K g (upd H0 p (.tup xs)) r S (upd H p (.tup xs)) ∧ Fut H0 r H (upd H0 p (.tup xs)) r (upd H p (.tup xs)) ∧ Rel K (upd H0 p (.tup xs)) r (.tup ds) (.ref p) := by
  obtain ⟨h1, h2⟩ := si.frz (o := .tup xs) hp
  refine ⟨h1, h2, ?_⟩
  unfold Rel
  exact ⟨p, xs, rfl, .inl (.inl upd_same), h.fut h2⟩
end

/-! ### operators -/
abbrev OW := D → D → Sto → KD → Prop
def GoodO (K : PySem.W.Frag) (g : Gi) (rr : R2) (f : OW) : Prop :=
  ∀ H0 r S H d e x y k Q, Sim K g H0 r S H → Rel K H0 r d x → Rel K H0 r e y → f d e S k → CtE K g H0 r H k Q → rr x y H Q
def wOp (f : OW) (wa wb : WE) : WE := fun (xc : HG XE) s S k => wa xc s S fun x S1 => wb xc s S1 fun y S2 => f x y S2 k
theorem goodOp {rr : R2} {f : OW} {ta tb : TE} (go : GoodO X.K g rr f) (ga : GoodE X g W ta wa) (gb : GoodE X g W tb wb) : GoodE X g W (tOp rr ta tb) (wOp f wa wb) := by
  intro H0 r S H s sv Q k xc si rs h ce cx
  refine ga H0 r S H s sv _ _ xc si rs h (fun d v H1 r1 S1 H1' f1 s1 rl h1 => ?_) cx
  refine gb H1 r1 S1 H1' s sv _ _ xc s1 (rs.fut f1) h1 (fun d2 v2 H2 r2 S2 H2' f2 s2 rl2 h2 => ?_) (cx.fut f1 s1)
  exact go H2 r2 S2 H2' d d2 v v2 k Q s2 (rl.fut f2) rl2 h2 (ce.fut (f1.tr s1 f2) s2)
theorem OpR.or {f : Value → Value → Sem Value} {r r' : R2} (h : OpR X f r) (h' : OpR X f r') : OpR X f (fun x y H Q => r x y H Q ∨ r' x y H Q) := by
  intro pins s σ H x y v u Q I rx ry q
  rcases q with q | q
  · exact h pins s σ H x y v u Q I rx ry q
  · exact h' pins s σ H x y v u Q I rx ry q
theorem se_bin {op : Operator} {rr : R2} {f : OW} (ho : OpR X (binaryOp op) rr) (go : GoodO X.K g rr f) (ha : SE X g W a wa) (hb : SE X g W b wb) : SE X g W (.BinOp a op b pos) (wOp f wa wb) := by
  obtain ⟨ta, pa, ga⟩ := ha
  obtain ⟨tb, pb, gb⟩ := hb
  exact ⟨_, pe_op ho pa pb, goodOp go ga gb⟩
/-- lists, whoever keeps them -/
def rCatX : R2 := fun x y H Q => ∃ l b xs zs, x = .ref l ∧ y = .ref b ∧ Rd H l (.lst xs) ∧ Rd H b (.lst zs) ∧ xs.length + zs.length ≤ sizeLine ∧ ∀ p, H p = none → Q (.ref p) (upd H p (.lst (xs ++ zs)))
theorem op_catX : OpR X (binaryOp .Add) rCatX := by
  intro pins s σ H x y v u Q I rx ry h
  obtain ⟨l, b, xs, zs, rfl, rfl, hH, hB, hz, q⟩ := h
  cases rx
  cases ry
  obtain ⟨z1, its, n, r, e⟩ := hH.ok I.hok
  obtain ⟨z2, its2, n2, r2, e2⟩ := hB.ok I.hok
  have l1 := r.length
  have l2 := r2.length
  refine PySem.P.add_list (items := its.toArray) (items2 := its2.toArray) e e2 ?_ (by rw [List.size_toArray, List.size_toArray]; omega)
  have ea : its.toArray ++ its2.toArray = (its ++ its2).toArray := by simp
  rw [ea]
  exact ⟨.ref _, _, I.lnew (t' := s.toks) (r.append r2) (by rw [List.length_append]; omega), rfl, q _ I.fresh⟩
end
end Ab

namespace Ab
open PySem PySem.Spec PyProof.Rows L2

/-! ### data as the model's plain data; equality -/
mutual
def D.py : D → PyData
  | .non => .none
  | .bl b => .bool b
  | .int i => .int i
  | .str s => .str s
  | .tup xs => .tuple (pyAll xs)
  | .lst xs => .list (pyAll xs)
  | .scr xs => .list (pyAll xs)
  | .cell _ => .none
  | .exn .. => .none
def pyAll : List D → List PyData
  | [] => []
  | x :: xs => x.py :: pyAll xs
end
def D.eqv (a b : D) : Bool := PyData.eqv a.py b.py
/-- small depth, texts of sound signs, no cell -/
def okEq : Nat → D → Bool
  | 0, _ => false
  | n + 1, d => match d with
    | .non => true
    | .bl _ => true
    | .int _ => true
    | .str s => PyData.strOk s
    | .tup xs => xs.all (okEq n)
    | .lst xs => xs.all (okEq n)
    | .scr xs => xs.all (okEq n)
    | .cell _ => false
    | .exn .. => false
theorem okEq_all_lay {n : Nat} (ih : ∀ d, okEq n d = true → d.py.canLay0 = true ∧ d.py.depth ≤ n) : ∀ xs : List D, xs.all (okEq n) = true → PyData.canLayAll0 (pyAll xs) = true ∧ PyData.depthAll (pyAll xs) ≤ n
  | [], _ => by unfold pyAll PyData.canLayAll0 PyData.depthAll; exact ⟨rfl, Nat.zero_le _⟩
  | x :: xs, h => by
    rw [List.all_cons, Bool.and_eq_true] at h
    obtain ⟨h1, h2⟩ := ih x h.1
    obtain ⟨h3, h4⟩ := okEq_all_lay ih xs h.2
    unfold pyAll PyData.canLayAll0 PyData.depthAll
    exact ⟨by rw [h1, h3]; rfl, Nat.max_le.mpr ⟨h2, h4⟩⟩
theorem okEq_lay : ∀ (n : Nat) (d : D), okEq n d = true → d.py.canLay0 = true ∧ d.py.depth ≤ n
  | 0, _, h => by unfold okEq at h; cases h
  | n + 1, d, h => by
    cases d with
    | non => unfold D.py PyData.canLay0 PyData.depth; exact ⟨rfl, Nat.zero_le _⟩
    | bl b => unfold D.py PyData.canLay0 PyData.depth; exact ⟨rfl, Nat.zero_le _⟩
    | int i => unfold D.py PyData.canLay0 PyData.depth; exact ⟨rfl, Nat.zero_le _⟩
    | str s =>
      unfold D.py PyData.canLay0 PyData.depth
      unfold okEq at h
      exact ⟨h, Nat.zero_le _⟩
    | tup xs =>
      unfold okEq at h
      obtain ⟨h1, h2⟩ := okEq_all_lay (okEq_lay n) xs h
      unfold D.py PyData.canLay0 PyData.depth
      exact ⟨h1, Nat.succ_le_succ h2⟩
    | lst xs =>
      unfold okEq at h
      obtain ⟨h1, h2⟩ := okEq_all_lay (okEq_lay n) xs h
      unfold D.py PyData.canLay0 PyData.depth
      exact ⟨h1, Nat.succ_le_succ h2⟩
    | scr xs =>
      unfold okEq at h
      obtain ⟨h1, h2⟩ := okEq_all_lay (okEq_lay n) xs h
      unfold D.py PyData.canLay0 PyData.depth
      exact ⟨h1, Nat.succ_le_succ h2⟩
    | cell n => unfold okEq at h; cases h
    | exn _ _ => unfold okEq at h; cases h
theorem okEq_shaped {d : D} (h : okEq 9 d = true) : SeqAt.shaped d.py = true := by
  obtain ⟨h1, h2⟩ := okEq_lay 9 d h
  unfold SeqAt.shaped
  rw [h1, Bool.true_and]
  exact decide_eq_true (by omega)

/-- a datum with its cells' lists in the place of the cells -/
inductive Res (S : Sto) : D → D → Prop
  | pure {d : D} : d.pure = true → Res S d d
  | cell {n : Nat} {xs ys : List D} : S[n]? = some (.lst xs) → xs.length = ys.length → (∀ (i : Nat) (x y : D), xs[i]? = some x → ys[i]? = some y → Res S x y) → Res S (.cell n) (.lst ys)
  | lst {xs ys : List D} : xs.length = ys.length → (∀ (i : Nat) (x y : D), xs[i]? = some x → ys[i]? = some y → Res S x y) → Res S (.lst xs) (.lst ys)
  | tup {xs ys : List D} : xs.length = ys.length → (∀ (i : Nat) (x y : D), xs[i]? = some x → ys[i]? = some y → Res S x y) → Res S (.tup xs) (.tup ys)

section
variable {X : Cx} {g : Gi} {W : WX} {a b c e : Expr} {pos : Pos} {wa wb wc we : WE} {wt wu : WT}
variable {K : PySem.W.Frag} {H0 H : Hp} {r : List Addr} {S : Sto} {d : D} {v : V} {ds : List D}

mutual
theorem dp_pure (si : Sim K g H0 r S H) : ∀ {d : D} {v : V}, d.pure = true → Rel K H0 r d v → Dp K H v d.py
  | .non, v, _, h => by rw [rel_non h]; unfold D.py; exact .non
  | .bl b, v, _, h => by rw [rel_bl h]; unfold D.py; exact .bl b
  | .int i, v, _, h => by rw [rel_int h]; unfold D.py; exact .int i
  | .str i, v, _, h => by rw [rel_str h]; unfold D.py; exact .str i
  | .tup xs, v, p, h => by
    unfold Rel at h
    obtain ⟨a, ys, rfl, h1, h2⟩ := h
    unfold D.py
    exact .tup (si.ex.sqt h1) (dp_pureAll si (by unfold D.pure at p; exact p) h2)
  | .lst xs, v, p, h => by
    unfold Rel at h
    obtain ⟨a, ys, rfl, h1, h2⟩ := h
    unfold D.py
    exact .lst (.inl (si.ex.rd h1)) (dp_pureAll si (by unfold D.pure at p; exact p) h2)
  | .scr xs, v, p, h => by
    unfold Rel at h
    obtain ⟨a, ys, rfl, h1, h2⟩ := h
    unfold D.py
    exact .lst (si.ex.sql h1) (dp_pureAll si (by unfold D.pure at p; exact p) h2)
  | .cell n, v, p, _ => by unfold D.pure at p; cases p
  | .exn .., v, p, _ => by unfold D.pure at p; cases p
theorem dp_pureAll (si : Sim K g H0 r S H) : ∀ {ds : List D} {vs : List V}, pureAll ds = true → Rels K H0 r ds vs → DpAll K H vs (pyAll ds)
  | [], vs, _, h => by rw [h.unnil]; unfold pyAll; exact .nil
  | d :: ds, vs, p, h => by
    unfold pureAll at p
    rw [Bool.and_eq_true] at p
    obtain ⟨y, ys, rfl, h1, h2⟩ := h.uncons
    unfold pyAll
    exact .cons (dp_pure si p.1 h1) (dp_pureAll si p.2 h2)
end
theorem dpAll_of : ∀ {ys : List D} {xs : List D} {vs : List V}, xs.length = ys.length → Rels K H0 r xs vs → (∀ (i : Nat) (x y : D) (v : V), xs[i]? = some x → ys[i]? = some y → Rel K H0 r x v → Dp K H v y.py) → DpAll K H vs (pyAll ys)
  | [], xs, vs, hl, h, _ => by
    have : xs = [] := List.length_eq_zero_iff.mp hl
    subst this
    rw [h.unnil]
    unfold pyAll
    exact .nil
  | y :: ys, [], vs, hl, h, _ => by cases hl
  | y :: ys, x :: xs, vs, hl, h, f => by
    obtain ⟨v, vs', rfl, h1, h2⟩ := h.uncons
    unfold pyAll
    exact .cons (f 0 x y v rfl rfl h1) (dpAll_of (by simpa using hl) h2 fun i x' y' v' e1 e2 h3 => f (i + 1) x' y' v' (by simpa using e1) (by simpa using e2) h3)
theorem dp_res (si : Sim K g H0 r S H) {d a : D} (q : Res S d a) : ∀ {v : V}, Rel K H0 r d v → Dp K H v a.py := by
  induction q with
  | pure p => intro v h; exact dp_pure si p h
  | @cell n xs ys hS hl hh ih =>
    intro v h
    obtain ⟨a, zs, rfl, h1, h2⟩ := lview_rel (d := .cell n) (ds := xs) si h (by show (match S[n]? with | some (Cel.lst xs) => some xs | _ => none) = some xs; rw [hS])
    unfold D.py
    exact .lst h1 (dpAll_of hl h2 fun i x y v e1 e2 h3 => ih i x y e1 e2 h3)
  | @lst xs ys hl hh ih =>
    intro v h
    obtain ⟨a, zs, rfl, h1, h2⟩ := lview_rel (d := .lst xs) (ds := xs) si h rfl
    unfold D.py
    exact .lst h1 (dpAll_of hl h2 fun i x y v e1 e2 h3 => ih i x y e1 e2 h3)
  | @tup xs ys hl hh ih =>
    intro v h
    obtain ⟨a, zs, rfl, h1, h2⟩ := tview_rel (d := .tup xs) (ds := xs) si h rfl
    unfold D.py
    exact .tup h1 (dpAll_of hl h2 fun i x y v e1 e2 h3 => ih i x y e1 e2 h3)

/-! ### + - * // % ** -/
def addW : D → D → Sto → KD → Prop
  | .int a, .int b, S, k => k (.int (a + b)) S
  | .str a, .str b, S, k => a.length + b.length ≤ sizeLine ∧ k (.str (a ++ b)) S
  | .tup a, .tup b, S, k => a ≠ [] ∧ a.length + b.length ≤ sizeLine ∧ k (.tup (a ++ b)) S
  | x, y, S, k => ∃ a b, rview S x = some a ∧ rview S y = some b ∧ a.length + b.length ≤ sizeLine ∧ k (.lst (a ++ b)) S
def rAddU (K : PySem.W.Frag) : R2 := fun x y H Q => rI0 (fun i j => .int (i + j)) x y H Q ∨ (∃ i j, x = .str i ∧ y = .str j ∧ i.length + j.length ≤ sizeLine ∧ Q (.str (i ++ j)) H) ∨ rCatT K x y H Q ∨ rCatX x y H Q
theorem op_addU : OpR X (binaryOp .Add) (rAddU X.K) := op_add.or (op_add_str.or (op_catT.or op_catX))
theorem good_add : GoodO K g (rAddU K) addW := by
  intro H0 r S H d e x y k Q si h1 h2 hw ce
  unfold addW at hw
  split at hw
  · rw [rel_int h1, rel_int h2]
    exact .inl ⟨_, _, rfl, rfl, ce _ _ _ _ _ _ .refl si rel_int' hw⟩
  · rw [rel_str h1, rel_str h2]
    exact .inr (.inl ⟨_, _, rfl, rfl, hw.1, ce _ _ _ _ _ _ .refl si rel_str' hw.2⟩)
  · obtain ⟨hn, hl, hk⟩ := hw
    obtain ⟨p, xs, rfl, q1, q2⟩ := tview_rel si h1 rfl
    obtain ⟨p', ys, rfl, q3, q4⟩ := tview_rel si h2 rfl
    refine .inr (.inr (.inl ⟨p, p', xs, ys, rfl, rfl, q1, q3, fun z => hn ?_, by rw [q2.length, q4.length]; exact hl, fun z => ?_, fun z q hq => ?_⟩))
    · have := q2.length
      rw [z] at this
      exact List.length_eq_zero_iff.mp this.symm
    · subst z
      have := q4.length
      rename_i b
      have hb : b = [] := List.length_eq_zero_iff.mp this.symm
      subst hb
      rw [List.append_nil] at hk
      exact ce _ _ _ _ _ _ .refl si h1 hk
    · obtain ⟨s1, s2, s3⟩ := si.tup hq (q2.append q4)
      exact ce _ _ _ _ _ _ s2 s1 s3 hk
  · obtain ⟨a, b, e1, e2, hl, hk⟩ := hw
    obtain ⟨p, xs, rfl, q1, q2⟩ := rview_rel si h1 e1
    obtain ⟨p', ys, rfl, q3, q4⟩ := rview_rel si h2 e2
    refine .inr (.inr (.inr ⟨p, p', xs, ys, rfl, rfl, q1, q3, by rw [q2.length, q4.length]; exact hl, fun q hq => ?_⟩))
    obtain ⟨s1, s2, s3⟩ := si.lst hq (q2.append q4)
    exact ce _ _ _ _ _ _ s2 s1 s3 hk
/-- two ints -/
def iiW (C : Int → Int → Prop) (f : Int → Int → D) : D → D → Sto → KD → Prop
  | .int a, .int b, S, k => C a b ∧ k (f a b) S
  | _, _, _, _ => False
def ii0 (f : Int → Int → D) : D → D → Sto → KD → Prop
  | .int a, .int b, S, k => k (f a b) S
  | _, _, _, _ => False
theorem good_ii {C : Int → Int → Prop} {f : Int → Int → D} {fv : Int → Int → V} (hf : ∀ i j H0 r, Rel K H0 r (f i j) (fv i j)) : GoodO K g (rI C fv) (iiW C f) := by
  intro H0 r S H d e x y k Q si h1 h2 hw ce
  unfold iiW at hw
  split at hw
  · rw [rel_int h1, rel_int h2]
    exact ⟨_, _, rfl, rfl, hw.1, ce _ _ _ _ _ _ .refl si (hf _ _ _ _) hw.2⟩
  · exact hw.elim
theorem good_ii0 {f : Int → Int → D} {fv : Int → Int → V} (hf : ∀ i j H0 r, Rel K H0 r (f i j) (fv i j)) : GoodO K g (rI0 fv) (ii0 f) := by
  intro H0 r S H d e x y k Q si h1 h2 hw ce
  unfold ii0 at hw
  split at hw
  · rw [rel_int h1, rel_int h2]
    exact ⟨_, _, rfl, rfl, ce _ _ _ _ _ _ .refl si (hf _ _ _ _) hw⟩
  · exact hw.elim
def CDivX (i j : Int) : Prop := j ≠ 0 ∧ Builtin.divisionGoesByPylong i j = false
theorem op_mulX : OpR X (binaryOp .Mult) (rI IntMulOk fun i j => .int (i * j)) := opI fun _ _ _ _ _ _ _ hc q => mul_int q hc
theorem op_fdivX : OpR X (binaryOp .FloorDiv) (rI CDivX fun i j => .int (i.fdiv j)) := opI fun i j _ _ _ _ _ hc q => floordiv_int hc.1 q (.inl hc.2)
abbrev subW : OW := ii0 fun i j => .int (i - j)
abbrev mulW : OW := iiW IntMulOk fun i j => .int (i * j)
abbrev fdivW : OW := iiW CDivX fun i j => .int (i.fdiv j)
abbrev modW : OW := iiW (fun _ j => j ≠ 0) fun i j => .int (i.fmod j)
def powW : OW := iiW CPow fun i j => .int (i ^ j.toNat)
abbrev ltW : OW := ii0 fun i j => .bl (decide (i < j))
abbrev leW : OW := ii0 fun i j => .bl (decide (i ≤ j))
abbrev gtW : OW := ii0 fun i j => .bl (decide (j < i))
abbrev geW : OW := ii0 fun i j => .bl (decide (j ≤ i))
theorem se_add (ha : SE X g W a wa) (hb : SE X g W b wb) : SE X g W (.BinOp a .Add b pos) (wOp addW wa wb) := se_bin op_addU good_add ha hb
theorem se_sub (ha : SE X g W a wa) (hb : SE X g W b wb) : SE X g W (.BinOp a .Sub b pos) (wOp subW wa wb) := se_bin op_sub (good_ii0 fun _ _ _ _ => rel_int') ha hb
theorem se_mul (ha : SE X g W a wa) (hb : SE X g W b wb) : SE X g W (.BinOp a .Mult b pos) (wOp mulW wa wb) := se_bin op_mulX (good_ii fun _ _ _ _ => rel_int') ha hb
theorem se_fdiv (ha : SE X g W a wa) (hb : SE X g W b wb) : SE X g W (.BinOp a .FloorDiv b pos) (wOp fdivW wa wb) := se_bin op_fdivX (good_ii fun _ _ _ _ => rel_int') ha hb
theorem se_mod (ha : SE X g W a wa) (hb : SE X g W b wb) : SE X g W (.BinOp a .Mod b pos) (wOp modW wa wb) := se_bin op_modN (good_ii fun _ _ _ _ => rel_int') ha hb
theorem se_pow (ha : SE X g W a wa) (hb : SE X g W b wb) : SE X g W (.BinOp a .Pow b pos) (wOp powW wa wb) := se_bin op_pow (good_ii fun _ _ _ _ => rel_int') ha hb
def kNeg (k : KD) : D → Sto → Prop := fun (x0 : HG (D)) x1 => match x0, x1 with
  | .int i, S => k (.int (-i)) S
  | _, _ => False
def wNeg (wa : WE) : WE := fun (xc : HG XE) s S k => wa xc s S (kNeg k)
theorem se_neg (ha : SE X g W a wa) : SE X g W (.UnaryOp .USub a pos) (wNeg wa) := by
  obtain ⟨ta, pa, ga⟩ := ha
  refine ⟨_, pe_un un_neg pa, fun H0 r S H s sv Q k xc si rs h ce cx => ?_⟩
  refine ga H0 r S H s sv _ _ xc si rs h (fun d v H1 r1 S1 H1' f1 s1 rl h1 => ?_) cx
  unfold kNeg at h1
  split at h1
  · exact ⟨_, rel_int rl, ce _ _ _ _ _ _ f1 s1 rel_int' h1⟩
  · exact h1.elim

/-! ### comparisons -/
def GoodC (X : Cx) (g : Gi) (op : CmpOp) (f : OW) : Prop := ∃ rr, OpR X (compareOp op) rr ∧ GoodO X.K g rr f
def eqW : D → D → Sto → KD → Prop
  | .int a, .int b, S, k => k (.bl (decide (a = b))) S
  | .bl a, .bl b, S, k => k (.bl (decide (a = b))) S
  | .str a, .str b, S, k => k (.bl (decide (a = b))) S
  | .non, .non, S, k => k (.bl true) S
  | .non, .int _, S, k => k (.bl false) S
  | .int _, .non, S, k => k (.bl false) S
  | x, y, S, k => ∃ a b, Res S x a ∧ Res S y b ∧ okEq 9 a = true ∧ okEq 9 b = true ∧ k (.bl (a.eqv b)) S
def kNot (k : KD) : D → Sto → Prop := fun (x0 : HG (D)) x1 => match x0, x1 with
  | .bl b, S => k (.bl (!b)) S
  | _, _ => False
def neW : OW := fun x y S k => eqW x y S (kNot k)
def rEqU (K : PySem.W.Frag) : R2 := fun x y H Q => rEq x y H Q ∨ rEqD K x y H Q
def rNeU (K : PySem.W.Frag) : R2 := fun x y H Q => rNe x y H Q ∨ rNeD K x y H Q
theorem good_eq : GoodO K g (rEqU K) eqW := by
  intro H0 r S H d e x y k Q si h1 h2 hw ce
  unfold eqW at hw
  split at hw
  · rw [rel_int h1, rel_int h2]
    refine .inl ⟨rfl, ?_⟩
    rw [dec_int, Bool.beq_eq_decide_eq]
    exact ce _ _ _ _ _ _ .refl si rel_bl' hw
  · rw [rel_bl h1, rel_bl h2]
    refine .inl ⟨rfl, ?_⟩
    rw [dec_bl, Bool.beq_eq_decide_eq]
    exact ce _ _ _ _ _ _ .refl si rel_bl' hw
  · rw [rel_str h1, rel_str h2]
    refine .inl ⟨rfl, ?_⟩
    rw [dec_str, Bool.beq_eq_decide_eq]
    exact ce _ _ _ _ _ _ .refl si rel_bl' hw
  · rw [rel_non h1, rel_non h2]
    exact .inl ⟨rfl, ce _ _ _ _ _ _ .refl si rel_bl' hw⟩
  · rw [rel_non h1, rel_int h2]
    exact .inl ⟨rfl, ce _ _ _ _ _ _ .refl si rel_bl' hw⟩
  · rw [rel_int h1, rel_non h2]
    exact .inl ⟨rfl, ce _ _ _ _ _ _ .refl si rel_bl' hw⟩
  · obtain ⟨a, b, q1, q2, o1, o2, hk⟩ := hw
    exact .inr ⟨_, _, dp_res si q1 h1, dp_res si q2 h2, okEq_shaped o1, okEq_shaped o2, ce _ _ _ _ _ _ .refl si rel_bl' hk⟩
theorem good_ne : GoodO K g (rNeU K) neW := by
  intro H0 r S H d e x y k Q si h1 h2 hw ce
  unfold neW eqW kNot at hw
  split at hw
  · rw [rel_int h1, rel_int h2]
    refine .inl ⟨rfl, ?_⟩
    rw [dec_int, Bool.beq_eq_decide_eq]
    exact ce _ _ _ _ _ _ .refl si rel_bl' hw
  · rw [rel_bl h1, rel_bl h2]
    refine .inl ⟨rfl, ?_⟩
    rw [dec_bl, Bool.beq_eq_decide_eq]
    exact ce _ _ _ _ _ _ .refl si rel_bl' hw
  · rw [rel_str h1, rel_str h2]
    refine .inl ⟨rfl, ?_⟩
    rw [dec_str, Bool.beq_eq_decide_eq]
    exact ce _ _ _ _ _ _ .refl si rel_bl' hw
  · rw [rel_non h1, rel_non h2]
    exact .inl ⟨rfl, ce _ _ _ _ _ _ .refl si rel_bl' hw⟩
  · rw [rel_non h1, rel_int h2]
    exact .inl ⟨rfl, ce _ _ _ _ _ _ .refl si rel_bl' hw⟩
  · rw [rel_int h1, rel_non h2]
    exact .inl ⟨rfl, ce _ _ _ _ _ _ .refl si rel_bl' hw⟩
  · obtain ⟨a, b, q1, q2, o1, o2, hk⟩ := hw
    exact .inr ⟨_, _, dp_res si q1 h1, dp_res si q2 h2, okEq_shaped o1, okEq_shaped o2, ce _ _ _ _ _ _ .refl si rel_bl' hk⟩
def D.flat : D → Bool
  | .non => true
  | .bl _ => true
  | .int _ => true
  | .str _ => true
  | _ => false
def eqF : D → D → Bool
  | .non, .non => true
  | .bl a, .bl b => a == b
  | .bl a, .int b => (if a then 1 else 0) == b
  | .int a, .bl b => a == (if b then 1 else 0)
  | .int a, .int b => a == b
  | .str a, .str b => a == b
  | _, _ => false
def inF (x : D) (xs : List D) : Bool := xs.any fun y => eqF y x
theorem flat_rel {d : D} {v : V} (f : d.flat = true) (h : Rel K H0 r d v) : flatV v = true := by
  cases d with
  | non => rw [rel_non h]; rfl
  | bl b => rw [rel_bl h]; rfl
  | int b => rw [rel_int h]; rfl
  | str b => rw [rel_str h]; rfl
  | _ => cases f
theorem eqF_rel {d e : D} {v u : V} (f : d.flat = true) (f2 : e.flat = true) (h : Rel K H0 r d v) (h2 : Rel K H0 r e u) : eqV v u = eqF d e := by
  cases d with
  | non => rw [rel_non h]; cases e with
    | non => rw [rel_non h2]; rfl
    | bl b => rw [rel_bl h2]; rfl
    | int b => rw [rel_int h2]; rfl
    | str b => rw [rel_str h2]; rfl
    | _ => cases f2
  | bl b => rw [rel_bl h]; cases e with
    | non => rw [rel_non h2]; rfl
    | bl b => rw [rel_bl h2]; rfl
    | int b => rw [rel_int h2]; rfl
    | str b => rw [rel_str h2]; rfl
    | _ => cases f2
  | int b => rw [rel_int h]; cases e with
    | non => rw [rel_non h2]; rfl
    | bl b => rw [rel_bl h2]; rfl
    | int b => rw [rel_int h2]; rfl
    | str b => rw [rel_str h2]; rfl
    | _ => cases f2
  | str b => rw [rel_str h]; cases e with
    | non => rw [rel_non h2]; rfl
    | bl b => rw [rel_bl h2]; rfl
    | int b => rw [rel_int h2]; rfl
    | str b => rw [rel_str h2]; rfl
    | _ => cases f2
  | _ => cases f
theorem flats_rel : ∀ {ds : List D} {vs : List V}, ds.all D.flat = true → Rels K H0 r ds vs → vs.all flatV = true
  | [], vs, _, h => by rw [h.unnil]; rfl
  | d :: ds, vs, f, h => by
    rw [List.all_cons, Bool.and_eq_true] at f
    obtain ⟨y, ys, rfl, h1, h2⟩ := h.uncons
    rw [List.all_cons, flat_rel f.1 h1, flats_rel f.2 h2]; rfl
theorem inF_rel {d : D} {v : V} (f : d.flat = true) (h : Rel K H0 r d v) : ∀ {ds : List D} {vs : List V}, ds.all D.flat = true → Rels K H0 r ds vs → inV v vs = inF d ds
  | [], vs, _, q => by rw [q.unnil]; rfl
  | e :: ds, vs, fs, q => by
    rw [List.all_cons, Bool.and_eq_true] at fs
    obtain ⟨y, ys, rfl, h1, h2⟩ := q.uncons
    have ih := inF_rel f h fs.2 h2
    unfold inV inF at ih ⊢
    rw [List.any_cons, List.any_cons, eqF_rel fs.1 f h1 h, ih]
def inW (neg : Bool) : OW := fun x y S k => ∃ xs, sview S y = some xs ∧ x.flat = true ∧ xs.all D.flat = true ∧ k (.bl (if neg then !inF x xs else inF x xs)) S
theorem good_in {neg : Bool} : GoodO K g (rIn K neg) (inW neg) := by
  intro H0 r S H d e x y k Q si h1 h2 hw ce
  obtain ⟨xs, e1, f1, f2, hk⟩ := hw
  obtain ⟨p, ys, rfl, q1, q2⟩ := sview_rel si h2 e1
  refine ⟨p, ys, rfl, q1, flat_rel f1 h1, flats_rel f2 q2, ?_⟩
  rw [inF_rel f1 h1 f2 q2]
  exact ce _ _ _ _ _ _ .refl si rel_bl' hk
def isNW (neg : Bool) : D → D → Sto → KD → Prop
  | .non, .non, S, k => k (.bl (!neg)) S
  | _, .non, S, k => k (.bl neg) S
  | _, _, _, _ => False
def D.isN : D → Bool
  | .non => true
  | _ => false
theorem isN_rel {d : D} {v : V} (h : Rel K H0 r d v) : decide (v = .non) = d.isN := by
  cases d with
  | non => rw [rel_non h]; rfl
  | bl b => rw [rel_bl h]; rfl
  | int b => rw [rel_int h]; rfl
  | str b => rw [rel_str h]; rfl
  | tup xs => unfold Rel at h; obtain ⟨a, _, rfl, _⟩ := h; rfl
  | lst xs => unfold Rel at h; obtain ⟨a, _, rfl, _⟩ := h; rfl
  | scr xs => unfold Rel at h; obtain ⟨a, _, rfl, _⟩ := h; rfl
  | cell xs => unfold Rel at h; obtain ⟨a, rfl, _⟩ := h; rfl
  | exn a c => unfold Rel at h; subst h; rfl
theorem isNW_eq {neg : Bool} {x : D} {S : Sto} {k : KD} (h : isNW neg x .non S k) : k (.bl (if neg then !x.isN else x.isN)) S := by
  unfold isNW at h
  cases x <;> cases neg <;> exact h
theorem good_isN : GoodO K g (fun x y H Q => y = .non ∧ Q (.bl (decide (x = .non))) H) (isNW false) := by
  intro H0 r S H d e x y k Q si h1 h2 hw ce
  cases e with
  | non =>
    refine ⟨rel_non h2, ?_⟩
    rw [isN_rel h1]
    exact ce _ _ _ _ _ _ .refl si rel_bl' (isNW_eq hw)
  | _ => unfold isNW at hw; cases d <;> exact hw.elim
theorem good_notN : GoodO K g (fun x y H Q => y = .non ∧ Q (.bl (!decide (x = .non))) H) (isNW true) := by
  intro H0 r S H d e x y k Q si h1 h2 hw ce
  cases e with
  | non =>
    refine ⟨rel_non h2, ?_⟩
    rw [isN_rel h1]
    exact ce _ _ _ _ _ _ .refl si rel_bl' (isNW_eq hw)
  | _ => unfold isNW at hw; cases d <;> exact hw.elim
theorem gc_lt : GoodC X g .Lt ltW := ⟨_, op_lt, good_ii0 fun _ _ _ _ => rel_bl'⟩
theorem gc_le : GoodC X g .LtE leW := ⟨_, op_le, good_ii0 fun _ _ _ _ => rel_bl'⟩
theorem gc_gt : GoodC X g .Gt gtW := ⟨_, op_gt, good_ii0 fun _ _ _ _ => rel_bl'⟩
theorem gc_ge : GoodC X g .GtE geW := ⟨_, op_ge, good_ii0 fun _ _ _ _ => rel_bl'⟩
theorem gc_eq (hu : X.A.units + 64 < cLine) : GoodC X g .Eq eqW := ⟨_, op_eq.or (op_eqD hu), good_eq⟩
theorem gc_ne (hu : X.A.units + 64 < cLine) : GoodC X g .NotEq neW := ⟨_, op_ne.or (op_neD hu), good_ne⟩
theorem gc_in : GoodC X g .In (inW false) := ⟨_, op_in_seq, good_in⟩
theorem gc_notIn : GoodC X g .NotIn (inW true) := ⟨_, op_notIn_seq, good_in⟩
theorem gc_isN : GoodC X g .Is (isNW false) := ⟨_, op_isN, good_isN⟩
theorem gc_notN : GoodC X g .IsNot (isNW true) := ⟨_, op_notN, good_notN⟩
theorem se_cmp {op : CmpOp} {f : OW} (hc : GoodC X g op f) (ha : SE X g W a wa) (hb : SE X g W b wb) (hm : behindInMarks op b = false := by first | exact nomark _ | rfl) : SE X g W (.Compare a [op] [b] pos) (wOp f wa wb) := by
  obtain ⟨rr, ho, go⟩ := hc
  obtain ⟨ta, pa, ga⟩ := ha
  obtain ⟨tb, pb, gb⟩ := hb
  exact ⟨_, pe_cmpR ho pa pb hm, goodOp go ga gb⟩
/-- a value as a test -/
def kBl (k : Bool → Sto → Prop) : D → Sto → Prop := fun (x0 : HG (D)) x1 => match x0, x1 with
  | .bl b, S => k b S
  | _, _ => False
def wTest (w : WE) : WT := fun (xc : HG XE) s S k => w xc s S (kBl k)
theorem goodTest {t : TE} (gg : GoodE X g W t we) : GoodT X g W (tTest t) (wTest we) := by
  intro H0 r S H s sv Q k xc si rs h ce cx
  refine gg H0 r S H s sv _ _ xc si rs h (fun d v H1 r1 S1 H1' f1 s1 rl h1 => ?_) cx
  unfold kBl at h1
  split at h1
  · exact ⟨_, rel_bl rl, ce _ _ _ _ _ f1 s1 h1⟩
  · exact h1.elim
theorem st_cmp {op : CmpOp} {f : OW} (hc : GoodC X g op f) (ha : SE X g W a wa) (hb : SE X g W b wb) (hm : behindInMarks op b = false := by first | exact nomark _ | rfl) : STt X g W (.Compare a [op] [b] pos) (wTest (wOp f wa wb)) := by
  obtain ⟨rr, ho, go⟩ := hc
  obtain ⟨ta, pa, ga⟩ := ha
  obtain ⟨tb, pb, gb⟩ := hb
  exact ⟨_, pt_cmpR ho pa pb hm, goodTest (goodOp go ga gb)⟩
theorem st_val (ha : SE X g W a wa) (he : ∀ whole, isTrue a X.env whole = (do let v ← whole; standAt a.pos; holding [v] (truthy v)) := by intro _; rfl) : STt X g W a (wTest wa) := by
  obtain ⟨ta, pa, ga⟩ := ha
  exact ⟨_, pt_val pa he, goodTest ga⟩
/-- a op b op' c -/
def wChain (f f' : OW) (wa wb wc : WE) : WE := fun (xc : HG XE) s S k => wa xc s S fun x S1 => wb xc s S1 fun y S2 => f x y S2 (kBl fun b S3 => if b = true then wc xc s S3 fun u S4 => f' y u S4 k else k (.bl false) S3)
theorem goodChain {rr rr' : R2} {f f' : OW} {ta tb tc : TE} (go : GoodO X.K g rr f) (go' : GoodO X.K g rr' f') (ga : GoodE X g W ta wa) (gb : GoodE X g W tb wb) (gc : GoodE X g W tc wc) : GoodE X g W (tChain rr rr' ta tb tc) (wChain f f' wa wb wc) := by
  intro H0 r S H s sv Q k xc si rs h ce cx
  refine ga H0 r S H s sv _ _ xc si rs h (fun d v H1 r1 S1 H1' f1 s1 rl h1 => ?_) cx
  refine gb H1 r1 S1 H1' s sv _ _ xc s1 (rs.fut f1) h1 (fun d2 v2 H2 r2 S2 H2' f2 s2 rl2 h2 => ?_) (cx.fut f1 s1)
  refine go H2 r2 S2 H2' d d2 v v2 _ _ s2 (rl.fut f2) rl2 h2 (fun d3 v3 H3 r3 S3 H3' f3 s3 rl3 h3 => ?_)
  have f13 := (f1.tr s1 f2).tr s2 f3
  unfold kBl at h3
  split at h3
  · rename_i _ b
    refine ⟨b, rel_bl rl3, ?_⟩
    cases b with
    | true =>
      rw [if_pos rfl] at h3 ⊢
      refine gc H3 r3 S3 H3' s sv _ _ xc s3 (rs.fut f13) h3 (fun d4 v4 H4 r4 S4 H4' f4 s4 rl4 h4 => ?_) (cx.fut f13 s3)
      exact go' H4 r4 S4 H4' d2 d4 v2 v4 _ _ s4 ((rl2.fut f3).fut f4) rl4 h4 (ce.fut (f13.tr s3 f4) s4)
    | false =>
      rw [if_neg Bool.false_ne_true] at h3 ⊢
      exact ce _ _ _ _ _ _ f13 s3 rel_bl' h3
  · exact h3.elim
theorem se_chain {op op' : CmpOp} {f f' : OW} (hc : GoodC X g op f) (hc' : GoodC X g op' f') (ha : SE X g W a wa) (hb : SE X g W b wb) (hcc : SE X g W c wc) (hm : lastMarks [op, op'] [b, c] = false := by with_unfolding_all rfl) :
    SE X g W (.Compare a [op, op'] [b, c] pos) (wChain f f' wa wb wc) := by
  obtain ⟨rr, ho, go⟩ := hc
  obtain ⟨rr', ho', go'⟩ := hc'
  obtain ⟨ta, pa, ga⟩ := ha
  obtain ⟨tb, pb, gb⟩ := hb
  obtain ⟨tc, pc, gc⟩ := hcc
  exact ⟨_, pe_chain ho ho' pa pb pc hm, goodChain go go' ga gb gc⟩
theorem st_chain {op op' : CmpOp} {f f' : OW} (hc : GoodC X g op f) (hc' : GoodC X g op' f') (ha : SE X g W a wa) (hb : SE X g W b wb) (hcc : SE X g W c wc) (hm : lastMarks [op, op'] [b, c] = false := by with_unfolding_all rfl) :
    STt X g W (.Compare a [op, op'] [b, c] pos) (wTest (wChain f f' wa wb wc)) := by
  obtain ⟨rr, ho, go⟩ := hc
  obtain ⟨rr', ho', go'⟩ := hc'
  obtain ⟨ta, pa, ga⟩ := ha
  obtain ⟨tb, pb, gb⟩ := hb
  obtain ⟨tc, pc, gc⟩ := hcc
  exact ⟨_, pt_chain ho ho' pa pb pc hm, goodTest (goodChain go go' ga gb gc)⟩

/-! ### and, or, not, if -/
def wAnd (wt wu : WT) : WT := fun (xc : HG XE) s S k => wt xc s S fun b S1 => if b = true then wu xc s S1 k else k false S1
def wOr (wt wu : WT) : WT := fun (xc : HG XE) s S k => wt xc s S fun b S1 => if b = true then k true S1 else wu xc s S1 k
def wNot (wt : WT) : WT := fun (xc : HG XE) s S k => wt xc s S fun b S1 => k (!b) S1
theorem goodAnd {t u : TT} (ga : GoodT X g W t wt) (gb : GoodT X g W u wu) : GoodT X g W (tAnd t u) (wAnd wt wu) := by
  intro H0 r S H s sv Q k xc si rs h ce cx
  refine ga H0 r S H s sv _ _ xc si rs h (fun b H1 r1 S1 H1' f1 s1 h1 => ?_) cx
  cases b with
  | true =>
    rw [if_pos rfl] at h1 ⊢
    exact gb H1 r1 S1 H1' s sv _ _ xc s1 (rs.fut f1) h1 (fun b2 H2 r2 S2 H2' f2 s2 h2 => ce _ _ _ _ _ (f1.tr s1 f2) s2 h2) (cx.fut f1 s1)
  | false =>
    rw [if_neg Bool.false_ne_true] at h1 ⊢
    exact ce _ _ _ _ _ f1 s1 h1
theorem goodOr {t u : TT} (ga : GoodT X g W t wt) (gb : GoodT X g W u wu) : GoodT X g W (tOr t u) (wOr wt wu) := by
  intro H0 r S H s sv Q k xc si rs h ce cx
  refine ga H0 r S H s sv _ _ xc si rs h (fun b H1 r1 S1 H1' f1 s1 h1 => ?_) cx
  cases b with
  | false =>
    rw [if_neg Bool.false_ne_true] at h1 ⊢
    exact gb H1 r1 S1 H1' s sv _ _ xc s1 (rs.fut f1) h1 (fun b2 H2 r2 S2 H2' f2 s2 h2 => ce _ _ _ _ _ (f1.tr s1 f2) s2 h2) (cx.fut f1 s1)
  | true =>
    rw [if_pos rfl] at h1 ⊢
    exact ce _ _ _ _ _ f1 s1 h1
theorem sw_one {op : BoolOp} (ha : STt X g W a wt) : SPw X g W (.BoolOp op [a] pos) wt := by
  obtain ⟨ta, pa, ga⟩ := ha
  cases op with
  | And => exact ⟨_, pw_and1 pa, ga⟩
  | Or => exact ⟨_, pw_or1 pa, ga⟩
theorem sw_and {rest : List Expr} (ha : STt X g W a wt) (hb : SPw X g W (.BoolOp .And (b :: rest) pos) wu) : SPw X g W (.BoolOp .And (a :: b :: rest) pos) (wAnd wt wu) := by
  obtain ⟨ta, pa, ga⟩ := ha
  obtain ⟨tb, pb, gb⟩ := hb
  exact ⟨_, pw_and pa pb, goodAnd ga gb⟩
theorem sw_or {rest : List Expr} (ha : STt X g W a wt) (hb : SPw X g W (.BoolOp .Or (b :: rest) pos) wu) : SPw X g W (.BoolOp .Or (a :: b :: rest) pos) (wOr wt wu) := by
  obtain ⟨ta, pa, ga⟩ := ha
  obtain ⟨tb, pb, gb⟩ := hb
  exact ⟨_, pw_or pa pb, goodOr ga gb⟩
theorem SPw.st (h : SPw X g W a wt) : STt X g W a wt := by
  obtain ⟨ta, pa, ga⟩ := h
  exact ⟨_, pa.pt, ga⟩
theorem st_not (ha : STt X g W a wt) : STt X g W (.UnaryOp .Not a pos) (wNot wt) := by
  obtain ⟨ta, pa, ga⟩ := ha
  refine ⟨_, pt_not pa, fun H0 r S H s sv Q k xc si rs h ce cx => ?_⟩
  exact ga H0 r S H s sv _ _ xc si rs h (fun b H1 r1 S1 H1' f1 s1 h1 => ce _ _ _ _ _ f1 s1 h1) cx
/-- as values: bools -/
def wAndV (wa wb : WE) : WE := fun (xc : HG XE) s S k => wa xc s S (kBl fun b S1 => if b = true then wb xc s S1 k else k (.bl false) S1)
def wOrV (wa wb : WE) : WE := fun (xc : HG XE) s S k => wa xc s S (kBl fun b S1 => if b = true then k (.bl true) S1 else wb xc s S1 k)
def wNotV (wa : WE) : WE := fun (xc : HG XE) s S k => wa xc s S (kNot k)
theorem se_one {op : BoolOp} (ha : SE X g W a wa) : SE X g W (.BoolOp op [a] pos) wa := by
  obtain ⟨ta, pa, ga⟩ := ha
  exact ⟨_, pe_one pa, ga⟩
theorem se_and {rest : List Expr} (ha : SE X g W a wa) (hb : SE X g W (.BoolOp .And (b :: rest) pos) wb) : SE X g W (.BoolOp .And (a :: b :: rest) pos) (wAndV wa wb) := by
  obtain ⟨ta, pa, ga⟩ := ha
  obtain ⟨tb, pb, gb⟩ := hb
  refine ⟨_, pe_and pa pb, fun H0 r S H s sv Q k xc si rs h ce cx => ?_⟩
  refine ga H0 r S H s sv _ _ xc si rs h (fun d v H1 r1 S1 H1' f1 s1 rl h1 => ?_) cx
  unfold kBl at h1
  split at h1
  · rename_i _ b
    refine ⟨b, rel_bl rl, ?_⟩
    cases b with
    | true =>
      rw [if_pos rfl] at h1 ⊢
      exact gb H1 r1 S1 H1' s sv _ _ xc s1 (rs.fut f1) h1 (ce.fut f1 s1) (cx.fut f1 s1)
    | false =>
      rw [if_neg Bool.false_ne_true] at h1 ⊢
      exact ce _ _ _ _ _ _ f1 s1 rel_bl' h1
  · exact h1.elim
theorem se_or {rest : List Expr} (ha : SE X g W a wa) (hb : SE X g W (.BoolOp .Or (b :: rest) pos) wb) : SE X g W (.BoolOp .Or (a :: b :: rest) pos) (wOrV wa wb) := by
  obtain ⟨ta, pa, ga⟩ := ha
  obtain ⟨tb, pb, gb⟩ := hb
  refine ⟨_, pe_or pa pb, fun H0 r S H s sv Q k xc si rs h ce cx => ?_⟩
  refine ga H0 r S H s sv _ _ xc si rs h (fun d v H1 r1 S1 H1' f1 s1 rl h1 => ?_) cx
  unfold kBl at h1
  split at h1
  · rename_i _ b
    refine ⟨b, rel_bl rl, ?_⟩
    cases b with
    | false =>
      rw [if_neg Bool.false_ne_true] at h1 ⊢
      exact gb H1 r1 S1 H1' s sv _ _ xc s1 (rs.fut f1) h1 (ce.fut f1 s1) (cx.fut f1 s1)
    | true =>
      rw [if_pos rfl] at h1 ⊢
      exact ce _ _ _ _ _ _ f1 s1 rel_bl' h1
  · exact h1.elim
theorem se_not (ha : SE X g W a wa) : SE X g W (.UnaryOp .Not a pos) (wNotV wa) := by
  obtain ⟨ta, pa, ga⟩ := ha
  refine ⟨_, pe_not pa, fun H0 r S H s sv Q k xc si rs h ce cx => ?_⟩
  refine ga H0 r S H s sv _ _ xc si rs h (fun d v H1 r1 S1 H1' f1 s1 rl h1 => ?_) cx
  unfold kNot at h1
  split at h1
  · exact ⟨_, rel_bl rl, ce _ _ _ _ _ _ f1 s1 rel_bl' h1⟩
  · exact h1.elim
def wIfE (wt : WT) (wa wb : WE) : WE := fun (xc : HG XE) s S k => wt xc s S fun b S1 => if b = true then wa xc s S1 k else wb xc s S1 k
theorem se_ifE (hc : STt X g W c wt) (ha : SE X g W a wa) (hb : SE X g W b wb) : SE X g W (.IfExp c a b pos) (wIfE wt wa wb) := by
  obtain ⟨tc, pc, gc⟩ := hc
  obtain ⟨ta, pa, ga⟩ := ha
  obtain ⟨tb, pb, gb⟩ := hb
  refine ⟨_, pe_ifExp pc pa pb, fun H0 r S H s sv Q k xc si rs h ce cx => ?_⟩
  refine gc H0 r S H s sv _ _ xc si rs h (fun b H1 r1 S1 H1' f1 s1 h1 => ?_) cx
  cases b with
  | true =>
    rw [if_pos rfl] at h1 ⊢
    exact ga H1 r1 S1 H1' s sv _ _ xc s1 (rs.fut f1) h1 (ce.fut f1 s1) (cx.fut f1 s1)
  | false =>
    rw [if_neg Bool.false_ne_true] at h1 ⊢
    exact gb H1 r1 S1 H1' s sv _ _ xc s1 (rs.fut f1) h1 (ce.fut f1 s1) (cx.fut f1 s1)
end
end Ab

namespace Ab
open PySem PySem.Spec PyProof.Rows L2

section
variable {X : Cx} {g : Gi} {W : WX} {a b c e : Expr} {es : List Expr} {pos : Pos} {wa wb wc we : WE} {wt wu : WT} {ws : WA}
variable {K : PySem.W.Frag} {H0 H : Hp} {r : List Addr} {S : Sto} {d : D} {v : V} {ds : List D}

/-! ### subscripts -/
def ixD (S : Sto) : D → Int → Option D
  | .str z, i => if z.length ≤ sizeLine then (atI z.cps.toList i).map fun c => .str ⟨#[c]⟩ else none
  | x, i => (sview S x).bind fun xs => atI xs i
def ixW : D → D → Sto → KD → Prop
  | x, .int i, S, k => ∃ d, ixD S x i = some d ∧ k d S
  | _, _, _, _ => False
theorem rels_at {ds : List D} {vs : List V} {i : Int} {d : D} (h : Rels K H0 r ds vs) (e : atI ds i = some d) : ∃ v, atI vs i = some v ∧ Rel K H0 r d v := by
  unfold atI at e ⊢
  rw [h.length]
  cases q : ixN ds.length i with
  | none => rw [q] at e; cases e
  | some j =>
    rw [q] at e
    exact h.get e
theorem good_ix : GoodO K g (rIx K) ixW := by
  intro H0 r S H d e x y k Q si h1 h2 hw ce
  unfold ixW at hw
  split at hw
  · rename_i i
    obtain ⟨d', e1, hk⟩ := hw
    rw [rel_int h2]
    unfold ixD at e1
    split at e1
    · rename_i z
      rw [rel_str h1]
      split at e1
      · rename_i hz
        cases q : atI z.cps.toList i with
        | none => rw [q] at e1; cases e1
        | some c =>
          rw [q] at e1
          cases e1
          exact .inr (.inr ⟨z, i, c, rfl, rfl, hz, q, ce _ _ _ _ _ _ .refl si rel_str' hk⟩)
      · cases e1
    · cases q : sview S d with
      | none => rw [q] at e1; cases e1
      | some xs =>
        rw [q] at e1
        have e1 : atI xs i = some d' := e1
        obtain ⟨p, ys, rfl, q1, q2⟩ := sview_rel si h1 q
        obtain ⟨v', e2, r2⟩ := rels_at q2 e1
        rcases q1 with q1 | q1
        · exact .inl ⟨p, ys, i, v', rfl, rfl, q1, e2, ce _ _ _ _ _ _ .refl si r2 hk⟩
        · exact .inr (.inl ⟨p, ys, i, v', rfl, rfl, q1, e2, ce _ _ _ _ _ _ .refl si r2 hk⟩)
  · exact hw.elim
theorem se_ix (ha : SE X g W a wa) (hb : SE X g W b wb) (hs : PlainIx b := by intro _ _; rfl) : SE X g W (.Subscript a b pos) (wOp ixW wa wb) := by
  obtain ⟨ta, pa, ga⟩ := ha
  obtain ⟨tb, pb, gb⟩ := hb
  exact ⟨_, pe_ix ix_seq pa pb hs, goodOp good_ix ga gb⟩

/-! ### slices -/
abbrev WO := XE → Env → Sto → (Option Int → Sto → Prop) → Prop
def GoodPO (X : Cx) (g : Gi) (W : WX) (te : TO) (w : WO) : Prop :=
  ∀ H0 r S H s sv (Q : Option Int → Hp → Prop) (k : Option Int → Sto → Prop) xc, Sim X.K g H0 r S H → RelSt X.K H0 r s sv → w xc s S k →
    (∀ b H0' r' S' H', Fut H0 r H H0' r' H' → Sim X.K g H0' r' S' H' → k b S' → Q b H') → CtX X.K g H0 r H s sv xc W → te sv H Q
def SO (X : Cx) (g : Gi) (W : WX) (e : Option Expr) (w : WO) : Prop := ∃ te, PO X e te ∧ GoodPO X g W te w
def wNoP : WO := fun (_ : HG XE) _ S k => k none S
def kSoP (k : Option Int → Sto → Prop) : D → Sto → Prop := fun (x0 : HG (D)) x1 => match x0, x1 with
  | .int i, S => k (some i) S
  | _, _ => False
def wSoP (w : WE) : WO := fun (xc : HG XE) s S k => w xc s S (kSoP k)
theorem so_none : SO X g W none wNoP := ⟨_, po_none, fun _ _ _ _ _ _ _ _ _ si _ h ce _ => ce _ _ _ _ _ .refl si h⟩
theorem so_some (ha : SE X g W a wa) : SO X g W (some a) (wSoP wa) := by
  obtain ⟨ta, pa, ga⟩ := ha
  refine ⟨_, po_some pa, fun H0 r S H s sv Q k xc si rs h ce cx => ?_⟩
  refine ga H0 r S H s sv _ _ xc si rs h (fun d v H1 r1 S1 H1' f1 s1 rl h1 => ?_) cx
  unfold kSoP at h1
  split at h1
  · exact ⟨_, rel_int rl, ce _ _ _ _ _ f1 s1 h1⟩
  · exact h1.elim
def cutD (xs : List D) (lo hi : Option Int) : List D := (xs.drop (HT.sIx xs.length 0 lo)).take (HT.sIx xs.length xs.length hi - HT.sIx xs.length 0 lo)
theorem rels_cut {ds : List D} {vs : List V} {lo hi : Option Int} (h : Rels K H0 r ds vs) : Rels K H0 r (cutD ds lo hi) (cutV vs lo hi) := by
  unfold cutD cutV
  rw [h.length]
  exact (h.drop _).take _
def slW : D → Option Int → Option Int → Sto → KD → Prop
  | .tup xs, lo, hi, S, k => ¬ (HT.sIx xs.length 0 lo = 0 ∧ HT.sIx xs.length xs.length hi = xs.length) ∧ k (.tup (cutD xs lo hi)) S
  | x, lo, hi, S, k => ∃ xs, lview S x = some xs ∧ k (.lst (cutD xs lo hi)) S
def wSl (wa : WE) (wl wh : WO) : WE := fun (xc : HG XE) s S k => wa xc s S fun x S1 => wl xc s S1 fun l S2 => wh xc s S2 fun u S3 => slW x l u S3 k
theorem se_slice {lo hi : Option Expr} {wl wh : WO} {p2 : Pos} (ha : SE X g W a wa) (hl : SO X g W lo wl) (hh : SO X g W hi wh) : SE X g W (.Subscript a (.Slice lo hi none p2) pos) (wSl wa wl wh) := by
  obtain ⟨ta, pa, ga⟩ := ha
  obtain ⟨tl, pl, gl⟩ := hl
  obtain ⟨th, ph, gh⟩ := hh
  refine ⟨_, pe_slice (sl_list.or sl_tup) pa pl ph, fun H0 r S H s sv Q k xc si rs h ce cx => ?_⟩
  refine ga H0 r S H s sv _ _ xc si rs h (fun d v H1 r1 S1 H1' f1 s1 rl h1 => ?_) cx
  refine gl H1 r1 S1 H1' s sv _ _ xc s1 (rs.fut f1) h1 (fun l H2 r2 S2 H2' f2 s2 h2 => ?_) (cx.fut f1 s1)
  have f12 := f1.tr s1 f2
  refine gh H2 r2 S2 H2' s sv _ _ xc s2 (rs.fut f12) h2 (fun u H3 r3 S3 H3' f3 s3 h3 => ?_) (cx.fut f12 s2)
  have f13 := f12.tr s2 f3
  have rl3 := (rl.fut f2).fut f3
  unfold slW at h3
  split at h3
  · obtain ⟨nw, hk⟩ := h3
    obtain ⟨p, ys, rfl, q1, q2⟩ := tview_rel s3 rl3 rfl
    refine .inr ⟨p, ys, rfl, q1, by rw [q2.length]; exact nw, fun q hq => ?_⟩
    obtain ⟨s4, f4, rl4⟩ := s3.tup hq (rels_cut q2)
    exact ce _ _ _ _ _ _ (f13.tr s3 f4) s4 rl4 hk
  · obtain ⟨xs, e1, hk⟩ := h3
    obtain ⟨p, ys, rfl, q1, q2⟩ := lview_rel s3 rl3 e1
    refine .inl ⟨p, ys, rfl, q1, fun q hq => ?_⟩
    obtain ⟨s4, f4, rl4⟩ := s3.lst hq (rels_cut q2)
    exact ce _ _ _ _ _ _ (f13.tr s3 f4) s4 rl4 hk

/-! ### argument lists, displays -/
def wNil : WA := fun (_ : HG XE) _ S k => k [] S
def wCons (wa : WE) (ws : WA) : WA := fun (xc : HG XE) s S k => wa xc s S fun d S1 => ws xc s S1 fun ds S2 => k (d :: ds) S2
theorem sa_nil : SA X g W [] wNil := ⟨_, pa_nil, fun _ _ _ _ _ _ _ _ _ si _ h ce _ => ce _ _ _ _ _ _ .refl si .nil h⟩
theorem sa_cons (ha : SE X g W a wa) (hs : SA X g W es ws) (hst : starEach (a :: es) X.env = (false, eval a X.env) :: starEach es X.env := by rfl) : SA X g W (a :: es) (wCons wa ws) := by
  obtain ⟨ta, pa, ga⟩ := ha
  obtain ⟨tb, pb, gb⟩ := hs
  refine ⟨_, pa_cons pa pb hst, fun H0 r S H s sv Q k xc si rs h ce cx => ?_⟩
  refine ga H0 r S H s sv _ _ xc si rs h (fun d v H1 r1 S1 H1' f1 s1 rl h1 => ?_) cx
  refine gb H1 r1 S1 H1' s sv _ _ xc s1 (rs.fut f1) h1 (fun ds vs H2 r2 S2 H2' f2 s2 rl2 h2 => ?_) (cx.fut f1 s1)
  exact ce _ _ _ _ _ _ (f1.tr s1 f2) s2 (.cons (rl.fut f2) rl2) h2
def wTup (ws : WA) : WE := fun (xc : HG XE) s S k => ws xc s S fun ds S1 => ds.length ≤ sizeLine ∧ k (.tup ds) S1
def wLst (ws : WA) : WE := fun (xc : HG XE) s S k => ws xc s S fun ds S1 => ds.length ≤ sizeLine ∧ k (.lst ds) S1
/-- a list that will be changed -/
def wLstC (ws : WA) : WE := fun (xc : HG XE) s S k => ws xc s S fun ds S1 => ds.length ≤ sizeLine ∧ k (.cell S1.length) (S1 ++ [.lst ds])
theorem se_tup {x1} (hs : SA X g W es ws) : SE X g W (.Tuple es x1 pos) (wTup ws) := by
  obtain ⟨ta, pa, ga⟩ := hs
  refine ⟨_, pe_tup pa, fun H0 r S H s sv Q k xc si rs h ce cx => ?_⟩
  refine ga H0 r S H s sv _ _ xc si rs h (fun ds vs H1 r1 S1 H1' f1 s1 rl h1 => ?_) cx
  refine ⟨by rw [rl.length]; exact h1.1, fun p hp => ?_⟩
  obtain ⟨s4, f4, rl4⟩ := s1.tup hp rl
  exact ce _ _ _ _ _ _ (f1.tr s1 f4) s4 rl4 h1.2
theorem se_lst (hs : SA X g W es ws) : SE X g W (.List es pos) (wLst ws) := by
  obtain ⟨ta, pa, ga⟩ := hs
  refine ⟨_, pe_lst pa, fun H0 r S H s sv Q k xc si rs h ce cx => ?_⟩
  refine ga H0 r S H s sv _ _ xc si rs h (fun ds vs H1 r1 S1 H1' f1 s1 rl h1 => ?_) cx
  refine ⟨by rw [rl.length]; exact h1.1, fun p hp => ?_⟩
  obtain ⟨s4, f4, rl4⟩ := s1.lst hp rl
  exact ce _ _ _ _ _ _ (f1.tr s1 f4) s4 rl4 h1.2
theorem Sim.newLst {xs : List V} {p : Addr} (si : Sim K g H0 r S H) (hp : H p = none) (h : Rels K H0 r ds xs) :
    Sim K g H0 (r ++ [p]) (S ++ [.lst ds]) (upd H p (.lst xs)) ∧ Fut H0 r H H0 (r ++ [p]) (upd H p (.lst xs)) ∧ Rel K H0 (r ++ [p]) (.cell S.length) (.ref p) := by
  obtain ⟨h1, h2⟩ := si.new (o := .lst xs) (c := .lst ds) hp fun H' e => ⟨si.ex.none hp, xs, e, h⟩
  refine ⟨h1, h2, ?_⟩
  unfold Rel
  exact ⟨p, rfl, by rw [← si.len, List.getElem?_append_right (Nat.le_refl _), Nat.sub_self]; rfl⟩
theorem se_lstC (hs : SA X g W es ws) : SE X g W (.List es pos) (wLstC ws) := by
  obtain ⟨ta, pa, ga⟩ := hs
  refine ⟨_, pe_lst pa, fun H0 r S H s sv Q k xc si rs h ce cx => ?_⟩
  refine ga H0 r S H s sv _ _ xc si rs h (fun ds vs H1 r1 S1 H1' f1 s1 rl h1 => ?_) cx
  refine ⟨by rw [rl.length]; exact h1.1, fun p hp => ?_⟩
  obtain ⟨s4, f4, rl4⟩ := s1.newLst hp rl
  exact ce _ _ _ _ _ _ (f1.tr s1 f4) s4 rl4 h1.2

/-! ### freezing: a list that will not be changed any more -/
def frzC : Option Cel → Nat → Sto → KD → Prop
  | some (.lst xs), n, S, k => k (.lst xs) (S.set n .dead)
  | _, _, _, _ => False
def frzW : D → Sto → KD → Prop
  | .cell n, S, k => frzC S[n]? n S k
  | d, S, k => k d S
def wFrz (w : WE) : WE := fun (xc : HG XE) s S k => w xc s S fun d S1 => frzW d S1 k
theorem frz_good {H0 : Hp} {r : List Addr} {S : Sto} {H : Hp} {k : KD} {Q : VK} (si : Sim K g H0 r S H) (rl : Rel K H0 r d v) (h : frzW d S k) (ce : CtE K g H0 r H k Q) : Q v H := by
  unfold frzW at h
  split at h
  · rename_i n _ _
    unfold frzC at h
    split at h
    · rename_i xs _ _ _ hS
      unfold Rel at rl
      obtain ⟨p, rfl, hr⟩ := rl
      obtain ⟨ys, hp, s2, f2, rx⟩ := si.freeze hr hS
      refine ce _ _ _ _ _ _ f2 s2 ?_ h
      unfold Rel
      exact ⟨p, ys, rfl, .inl upd_same, rx.fut f2⟩
    · exact h.elim
  · exact ce _ _ _ _ _ _ .refl si rl h
theorem se_frz (ha : SE X g W a wa) : SE X g W a (wFrz wa) := by
  obtain ⟨ta, pa, ga⟩ := ha
  refine ⟨_, pa, fun H0 r S H s sv Q k xc si rs h ce cx => ?_⟩
  exact ga H0 r S H s sv _ _ xc si rs h (fun d v H1 r1 S1 H1' f1 s1 rl h1 => frz_good s1 rl h1 (ce.fut f1 s1)) cx

/-! ### calls of what is built in -/
abbrev CW := List D → Sto → KD → Prop
def GoodCl (K : PySem.W.Frag) (g : Gi) (rr : List V → Hp → VK → Prop) (f : CW) : Prop :=
  ∀ H0 r S H ds vs k Q, Sim K g H0 r S H → Rels K H0 r ds vs → f ds S k → CtE K g H0 r H k Q → rr vs H Q
def wB (f : CW) (ws : WA) : WE := fun (xc : HG XE) s S k => ws xc s S fun ds S1 => f ds S1 k
theorem goodCl {rr : List V → Hp → VK → Prop} {f : CW} {t : TA} (gc : GoodCl X.K g rr f) (ga : GoodA X g W t ws) : GoodE X g W (tCB rr t) (wB f ws) := by
  intro H0 r S H s sv Q k xc si rs h ce cx
  exact ga H0 r S H s sv _ _ xc si rs h (fun ds vs H1 r1 S1 H1' f1 s1 rl h1 => gc H1 r1 S1 H1' ds vs k Q s1 rl h1 (ce.fut f1 s1)) cx
theorem se_callB {x : Str} {p : Pos} {id : String} {rr : List V → Hp → VK → Prop} {f : CW} (hc : CallR X (.builtin id) rr) (gc : GoodCl X.K g rr f) (hg : Gl X x) (hm : X.mg x = none) (hv : bootBuiltins x = some (.builtin id))
    (ha : SA X g W (e :: es) ws) (hn : x ≠ "__name__" := by decide) (hdb : (x == ("__debug__" : Str)) = false := by decide)
    (he : starEach (e :: es) X.env = (false, eval e X.env) :: starEach es X.env := by rfl) (hpl : (backTo pos (starEach es X.env)).any (·.1) = false := by rfl) : SE X g W (.Call (.Name x p) (e :: es) [] pos) (wB f ws) := by
  obtain ⟨ta, pa, ga⟩ := ha
  exact ⟨_, pe_callB hc hg hm hv pa hn hdb he hpl, goodCl gc ga⟩
theorem se_callTy {x : Str} {p : Pos} {T : String} {rr : List V → Hp → VK → Prop} {f : CW} (hc : CallR X (.type T) rr) (gc : GoodCl X.K g rr f) (hg : Gl X x) (hm : X.mg x = none) (hv : bootBuiltins x = some (.type T))
    (ha : SA X g W (e :: es) ws) (hn : x ≠ "__name__" := by decide) (hdb : (x == ("__debug__" : Str)) = false := by decide)
    (he : starEach (e :: es) X.env = (false, eval e X.env) :: starEach es X.env := by rfl) (hpl : (backTo pos (starEach es X.env)).any (·.1) = false := by rfl) : SE X g W (.Call (.Name x p) (e :: es) [] pos) (wB f ws) := by
  obtain ⟨ta, pa, ga⟩ := ha
  exact ⟨_, pe_callTy hc hg hm hv pa hn hdb he hpl, goodCl gc ga⟩
/-- len -/
def lenF : List D → Sto → KD → Prop
  | [.str z], S, k => z.length ≤ sizeLine ∧ k (.int z.length) S
  | [x], S, k => ∃ xs, sview S x = some xs ∧ k (.int xs.length) S
  | _, _, _ => False
def rLenU (K : PySem.W.Frag) : List V → Hp → VK → Prop := fun xs H Q => (∃ p ys, xs = [.ref p] ∧ (SqL K H p ys ∨ SqT K H p ys) ∧ Q (.int ys.length) H) ∨ ∃ z, xs = [.str z] ∧ z.length ≤ sizeLine ∧ Q (.int z.length) H
theorem rels1 (h : Rels K H0 r [d] ds') : ∃ v, ds' = [v] ∧ Rel K H0 r d v := by
  obtain ⟨v, ys, rfl, h1, h2⟩ := h.uncons
  rw [h2.unnil]
  exact ⟨v, rfl, h1⟩
theorem rels2 {d2 : D} {vs : List V} (h : Rels K H0 r [d, d2] vs) : ∃ v v2, vs = [v, v2] ∧ Rel K H0 r d v ∧ Rel K H0 r d2 v2 := by
  obtain ⟨v, ys, rfl, h1, h2⟩ := h.uncons
  obtain ⟨v2, rfl, h3⟩ := rels1 h2
  exact ⟨v, v2, rfl, h1, h3⟩
theorem good_len : GoodCl K g (rLenU K) lenF := by
  intro H0 r S H ds vs k Q si rl h ce
  unfold lenF at h
  split at h
  · obtain ⟨v, rfl, h1⟩ := rels1 rl
    rw [rel_str h1]
    exact .inr ⟨_, rfl, h.1, ce _ _ _ _ _ _ .refl si rel_int' h.2⟩
  · obtain ⟨v, rfl, h1⟩ := rels1 rl
    obtain ⟨xs, e, hk⟩ := h
    obtain ⟨p, ys, rfl, q1, q2⟩ := sview_rel si h1 e
    refine .inl ⟨p, ys, rfl, q1, ?_⟩
    rw [q2.length]
    exact ce _ _ _ _ _ _ .refl si rel_int' hk
  · exact h.elim
theorem se_len {p : Pos} (hg : Gl X "len") (hm : X.mg "len" = none) (ha : SA X g W [e] ws) (he : starEach [e] X.env = (false, eval e X.env) :: starEach [] X.env := by rfl) (hpl : (backTo pos (starEach [] X.env)).any (·.1) = false := by rfl) :
    SE X g W (.Call (.Name "len" p) [e] [] pos) (wB lenF ws) := se_callB (call_len_seq.or call_len_str) good_len hg hm PySem.boot_len ha (by decide) (by decide) he hpl
/-- abs -/
def absF : List D → Sto → KD → Prop
  | [.int i], S, k => k (.int (if i < 0 then -i else i)) S
  | _, _, _ => False
theorem good_abs : GoodCl K g (fun xs H Q => ∃ i, xs = [.int i] ∧ Q (.int (if i < 0 then -i else i)) H) absF := by
  intro H0 r S H ds vs k Q si rl h ce
  unfold absF at h
  split at h
  · obtain ⟨v, rfl, h1⟩ := rels1 rl
    rw [rel_int h1]
    exact ⟨_, rfl, ce _ _ _ _ _ _ .refl si rel_int' h⟩
  · exact h.elim
theorem se_abs {p : Pos} (hg : Gl X "abs") (hm : X.mg "abs" = none) (ha : SA X g W [e] ws) (he : starEach [e] X.env = (false, eval e X.env) :: starEach [] X.env := by rfl) (hpl : (backTo pos (starEach [] X.env)).any (·.1) = false := by rfl) :
    SE X g W (.Call (.Name "abs" p) [e] [] pos) (wB absF ws) := se_callB call_abs good_abs hg hm (by decide +kernel) ha (by decide) (by decide) he hpl
/-- max, min of two ints or of a list of ints -/
def isInts (S : Sto) (x : D) (ns : List Int) : Prop := lview S x = some (ns.map .int)
def maxF : List D → Sto → KD → Prop
  | [.int i, .int j], S, k => k (.int (if j > i then j else i)) S
  | [x], S, k => ∃ ns : List Int, isInts S x ns ∧ 0 < ns.length ∧ ∀ m, m ∈ ns → (∀ y, y ∈ ns → y ≤ m) → k (.int m) S
  | _, _, _ => False
def minF : List D → Sto → KD → Prop
  | [.int i, .int j], S, k => k (.int (if j < i then j else i)) S
  | [x], S, k => ∃ ns : List Int, isInts S x ns ∧ 0 < ns.length ∧ ∀ m, m ∈ ns → (∀ y, y ∈ ns → m ≤ y) → k (.int m) S
  | _, _, _ => False
theorem good_max : GoodCl K g (fun xs H Q => (∃ i j, xs = [.int i, .int j] ∧ Q (.int (if j > i then j else i)) H) ∨ rMax K xs H Q) maxF := by
  intro H0 r S H ds vs k Q si rl h ce
  unfold maxF at h
  split at h
  · obtain ⟨v, v2, rfl, h1, h2⟩ := rels2 rl
    rw [rel_int h1, rel_int h2]
    exact .inl ⟨_, _, rfl, ce _ _ _ _ _ _ .refl si rel_int' h⟩
  · obtain ⟨v, rfl, h1⟩ := rels1 rl
    obtain ⟨ns, e, hn, hk⟩ := h
    obtain ⟨p, ys, rfl, q1, q2⟩ := lview_rel si h1 e
    rw [Rels.ints] at q2
    subst q2
    exact .inr ⟨p, ns, rfl, q1, hn, fun m m1 m2 => ce _ _ _ _ _ _ .refl si rel_int' (hk m m1 m2)⟩
  · exact h.elim
theorem good_min : GoodCl K g (fun xs H Q => (∃ i j, xs = [.int i, .int j] ∧ Q (.int (if j < i then j else i)) H) ∨ rMin K xs H Q) minF := by
  intro H0 r S H ds vs k Q si rl h ce
  unfold minF at h
  split at h
  · obtain ⟨v, v2, rfl, h1, h2⟩ := rels2 rl
    rw [rel_int h1, rel_int h2]
    exact .inl ⟨_, _, rfl, ce _ _ _ _ _ _ .refl si rel_int' h⟩
  · obtain ⟨v, rfl, h1⟩ := rels1 rl
    obtain ⟨ns, e, hn, hk⟩ := h
    obtain ⟨p, ys, rfl, q1, q2⟩ := lview_rel si h1 e
    rw [Rels.ints] at q2
    subst q2
    exact .inr ⟨p, ns, rfl, q1, hn, fun m m1 m2 => ce _ _ _ _ _ _ .refl si rel_int' (hk m m1 m2)⟩
  · exact h.elim
theorem se_max {p : Pos} (hc : X.calm = true) (hg : Gl X "max") (hm : X.mg "max" = none) (ha : SA X g W (e :: es) ws) (he : starEach (e :: es) X.env = (false, eval e X.env) :: starEach es X.env := by rfl) (hpl : (backTo pos (starEach es X.env)).any (·.1) = false := by rfl) :
    SE X g W (.Call (.Name "max" p) (e :: es) [] pos) (wB maxF ws) := se_callB ((call_max2 hc).or (cr_max hc)) good_max hg hm (by decide +kernel) ha (by decide) (by decide) he hpl
theorem se_min {p : Pos} (hc : X.calm = true) (hg : Gl X "min") (hm : X.mg "min" = none) (ha : SA X g W (e :: es) ws) (he : starEach (e :: es) X.env = (false, eval e X.env) :: starEach es X.env := by rfl) (hpl : (backTo pos (starEach es X.env)).any (·.1) = false := by rfl) :
    SE X g W (.Call (.Name "min" p) (e :: es) [] pos) (wB minF ws) := se_callB ((call_min2 hc).or (cr_min hc)) good_min hg hm (by decide +kernel) ha (by decide) (by decide) he hpl
/-- sum of ints -/
def sumF : List D → Sto → KD → Prop
  | [x], S, k => ∃ ns : List Int, isInts S x ns ∧ k (.int ns.sum) S
  | _, _, _ => False
theorem good_sum : GoodCl K g (rSum K) sumF := by
  intro H0 r S H ds vs k Q si rl h ce
  unfold sumF at h
  split at h
  · obtain ⟨v, rfl, h1⟩ := rels1 rl
    obtain ⟨ns, e, hk⟩ := h
    obtain ⟨p, ys, rfl, q1, q2⟩ := lview_rel si h1 e
    rw [Rels.ints] at q2
    subst q2
    exact ⟨p, ns, rfl, q1, ce _ _ _ _ _ _ .refl si rel_int' hk⟩
  · exact h.elim
theorem se_sum {p : Pos} (hc : X.calm = true) (hg : Gl X "sum") (hm : X.mg "sum" = none) (ha : SA X g W (e :: es) ws) (he : starEach (e :: es) X.env = (false, eval e X.env) :: starEach es X.env := by rfl) (hpl : (backTo pos (starEach es X.env)).any (·.1) = false := by rfl) :
    SE X g W (.Call (.Name "sum" p) (e :: es) [] pos) (wB sumF ws) := se_callB (cr_sum hc) good_sum hg hm (by decide +kernel) ha (by decide) (by decide) he hpl
/-- all of truths -/
def allF : List D → Sto → KD → Prop
  | [x], S, k => ∃ bs : List Bool, lview S x = some (bs.map .bl) ∧ k (.bl (bs.all id)) S
  | _, _, _ => False
theorem good_all : GoodCl K g (rAll K) allF := by
  intro H0 r S H ds vs k Q si rl h ce
  unfold allF at h
  split at h
  · obtain ⟨v, rfl, h1⟩ := rels1 rl
    obtain ⟨ns, e, hk⟩ := h
    obtain ⟨p, ys, rfl, q1, q2⟩ := lview_rel si h1 e
    rw [Rels.bls] at q2
    subst q2
    exact ⟨p, ns, rfl, q1, ce _ _ _ _ _ _ .refl si rel_bl' hk⟩
  · exact h.elim
theorem se_all {p : Pos} (hc : X.calm = true) (hg : Gl X "all") (hm : X.mg "all" = none) (ha : SA X g W (e :: es) ws) (he : starEach (e :: es) X.env = (false, eval e X.env) :: starEach es X.env := by rfl) (hpl : (backTo pos (starEach es X.env)).any (·.1) = false := by rfl) :
    SE X g W (.Call (.Name "all" p) (e :: es) [] pos) (wB allF ws) := se_callB (cr_all hc) good_all hg hm (by decide +kernel) ha (by decide) (by decide) he hpl
/-- list(x), tuple(x) -/
def listF : List D → Sto → KD → Prop
  | [x], S, k => ∃ xs, sview S x = some xs ∧ k (.lst xs) S
  | _, _, _ => False
def listFC : List D → Sto → KD → Prop
  | [x], S, k => ∃ xs, sview S x = some xs ∧ k (.cell S.length) (S ++ [.lst xs])
  | _, _, _ => False
def rListU (K : PySem.W.Frag) : List V → Hp → VK → Prop := fun xs H Q => ∃ p ys, xs = [.ref p] ∧ (SqL K H p ys ∨ SqT K H p ys) ∧ ∀ l, H l = none → Q (.ref l) (upd H l (.lst ys))
theorem good_list : GoodCl K g (rListU K) listF := by
  intro H0 r S H ds vs k Q si rl h ce
  unfold listF at h
  split at h
  · obtain ⟨v, rfl, h1⟩ := rels1 rl
    obtain ⟨xs, e, hk⟩ := h
    obtain ⟨p, ys, rfl, q1, q2⟩ := sview_rel si h1 e
    refine ⟨p, ys, rfl, q1, fun l hl => ?_⟩
    obtain ⟨s4, f4, rl4⟩ := si.lst hl q2
    exact ce _ _ _ _ _ _ f4 s4 rl4 hk
  · exact h.elim
theorem good_listC : GoodCl K g (rListU K) listFC := by
  intro H0 r S H ds vs k Q si rl h ce
  unfold listFC at h
  split at h
  · obtain ⟨v, rfl, h1⟩ := rels1 rl
    obtain ⟨xs, e, hk⟩ := h
    obtain ⟨p, ys, rfl, q1, q2⟩ := sview_rel si h1 e
    refine ⟨p, ys, rfl, q1, fun l hl => ?_⟩
    obtain ⟨s4, f4, rl4⟩ := si.newLst hl q2
    exact ce _ _ _ _ _ _ f4 s4 rl4 hk
  · exact h.elim
theorem se_list {p : Pos} (hg : Gl X "list") (hm : X.mg "list" = none) (ha : SA X g W [e] ws) (he : starEach [e] X.env = (false, eval e X.env) :: starEach [] X.env := by rfl) (hpl : (backTo pos (starEach [] X.env)).any (·.1) = false := by rfl) :
    SE X g W (.Call (.Name "list" p) [e] [] pos) (wB listF ws) := se_callTy call_list_of good_list hg hm (by decide +kernel) ha (by decide) (by decide) he hpl
theorem se_listC {p : Pos} (hg : Gl X "list") (hm : X.mg "list" = none) (ha : SA X g W [e] ws) (he : starEach [e] X.env = (false, eval e X.env) :: starEach [] X.env := by rfl) (hpl : (backTo pos (starEach [] X.env)).any (·.1) = false := by rfl) :
    SE X g W (.Call (.Name "list" p) [e] [] pos) (wB listFC ws) := se_callTy call_list_of good_listC hg hm (by decide +kernel) ha (by decide) (by decide) he hpl
def tupleF : List D → Sto → KD → Prop
  | [x], S, k => ∃ xs, sview S x = some xs ∧ k (.tup xs) S
  | _, _, _ => False
def rTupU (K : PySem.W.Frag) : List V → Hp → VK → Prop := fun xs H Q => ∃ p ys, xs = [.ref p] ∧ ((SqL K H p ys ∧ ∀ l, H l = none → Q (.ref l) (upd H l (.tup ys))) ∨ (SqT K H p ys ∧ Q (.ref p) H))
theorem good_tuple : GoodCl K g (rTupU K) tupleF := by
  intro H0 r S H ds vs k Q si rl h ce
  unfold tupleF at h
  split at h
  · rename_i _ _ x
    obtain ⟨v, rfl, h1⟩ := rels1 rl
    obtain ⟨xs, e, hk⟩ := h
    by_cases ht : ∃ ys, tview x = some ys
    · obtain ⟨ys, ht⟩ := ht
      have ex : xs = ys := by
        unfold tview at ht
        split at ht
        · cases ht; cases e; rfl
        · cases ht
      subst ex
      obtain ⟨p, zs, rfl, q1, q2⟩ := tview_rel si h1 ht
      refine ⟨p, zs, rfl, .inr ⟨q1, ?_⟩⟩
      unfold tview at ht
      split at ht
      · cases ht
        exact ce _ _ _ _ _ _ .refl si h1 hk
      · cases ht
    · have el : lview S x = some xs := by
        unfold sview at e
        split at e
        · exact absurd ⟨_, rfl⟩ ht
        · exact e
      obtain ⟨p, zs, rfl, q1, q2⟩ := lview_rel si h1 el
      refine ⟨p, zs, rfl, .inl ⟨q1, fun l hl => ?_⟩⟩
      obtain ⟨s4, f4, rl4⟩ := si.tup hl q2
      exact ce _ _ _ _ _ _ f4 s4 rl4 hk
  · exact h.elim
theorem se_tuple {p : Pos} (hg : Gl X "tuple") (hm : X.mg "tuple" = none) (ha : SA X g W [e] ws) (he : starEach [e] X.env = (false, eval e X.env) :: starEach [] X.env := by rfl) (hpl : (backTo pos (starEach [] X.env)).any (·.1) = false := by rfl) :
    SE X g W (.Call (.Name "tuple" p) [e] [] pos) (wB tupleF ws) := se_callTy call_tuple_of good_tuple hg hm (by decide +kernel) ha (by decide) (by decide) he hpl
/-- int(x) -/
def intF : List D → Sto → KD → Prop
  | [.int i], S, k => k (.int i) S
  | [.bl b], S, k => k (.int (if b then 1 else 0)) S
  | _, _, _ => False
theorem good_int : GoodCl K g (fun xs H Q => (∃ i, xs = [.int i] ∧ Q (.int i) H) ∨ ∃ k, xs = [.bl k] ∧ Q (.int (if k then 1 else 0)) H) intF := by
  intro H0 r S H ds vs k Q si rl h ce
  unfold intF at h
  split at h
  · obtain ⟨v, rfl, h1⟩ := rels1 rl
    rw [rel_int h1]
    exact .inl ⟨_, rfl, ce _ _ _ _ _ _ .refl si rel_int' h⟩
  · obtain ⟨v, rfl, h1⟩ := rels1 rl
    rw [rel_bl h1]
    exact .inr ⟨_, rfl, ce _ _ _ _ _ _ .refl si rel_int' h⟩
  · exact h.elim
theorem se_intc {p : Pos} (hg : Gl X "int") (hm : X.mg "int" = none) (ha : SA X g W [e] ws) (he : starEach [e] X.env = (false, eval e X.env) :: starEach [] X.env := by rfl) (hpl : (backTo pos (starEach [] X.env)).any (·.1) = false := by rfl) :
    SE X g W (.Call (.Name "int" p) [e] [] pos) (wB intF ws) := se_callTy call_int1 good_int hg hm (by decide +kernel) ha (by decide) (by decide) he hpl
/-- sorted of ints -/
def sortedF : List D → Sto → KD → Prop
  | [x], S, k => ∃ ns : List Int, isInts S x ns ∧ ∀ ms : List Int, ms.Perm ns → ms.Pairwise (· ≤ ·) → k (.lst (ms.map .int)) S
  | _, _, _ => False
theorem good_sorted : GoodCl K g (rSortedI K) sortedF := by
  intro H0 r S H ds vs k Q si rl h ce
  unfold sortedF at h
  split at h
  · obtain ⟨v, rfl, h1⟩ := rels1 rl
    obtain ⟨ns, e, hk⟩ := h
    obtain ⟨p, ys, rfl, q1, q2⟩ := lview_rel si h1 e
    rw [Rels.ints] at q2
    subst q2
    refine ⟨p, ns, rfl, q1, fun ms l pm pw hl => ?_⟩
    obtain ⟨s4, f4, rl4⟩ := si.lst hl (Rels.ints.mpr rfl)
    exact ce _ _ _ _ _ _ f4 s4 rl4 (hk ms pm pw)
  · exact h.elim
theorem se_sorted {p : Pos} (hg : Gl X "sorted") (hm : X.mg "sorted" = none) (ha : SA X g W [e] ws) (he : starEach [e] X.env = (false, eval e X.env) :: starEach [] X.env := by rfl) (hpl : (backTo pos (starEach [] X.env)).any (·.1) = false := by rfl) :
    SE X g W (.Call (.Name "sorted" p) [e] [] pos) (wB sortedF ws) := se_callB cr_sortedI good_sorted hg hm (by decide +kernel) ha (by decide) (by decide) he hpl

/-! ### isinstance -/
inductive Ty where | int | bool | list | tuple | str
  deriving DecidableEq
def Ty.nm : Ty → String
  | .int => "int" | .bool => "bool" | .list => "list" | .tuple => "tuple" | .str => "str"
def isiB : String → Ty → Bool
  | "int", .int => true
  | "bool", .int => true
  | "bool", .bool => true
  | "list", .list => true
  | "tuple", .tuple => true
  | "str", .str => true
  | _, _ => false
/-- the type of a datum -/
def tyD (S : Sto) : D → Option String
  | .non => some "NoneType"
  | .bl _ => some "bool"
  | .int _ => some "int"
  | .str _ => some "str"
  | .tup _ => some "tuple"
  | .lst _ => some "list"
  | .scr _ => some "list"
  | .cell n => match S[n]? with
    | some (.lst _) => some "list"
    | some (.dk _) => some "dict"
    | _ => none
  | .exn .. => none
theorem tyD_rel (si : Sim K g H0 r S H) (h : Rel K H0 r d v) {t : String} (e : tyD S d = some t) : TyX K H v (.type t) := by
  cases d with
  | non => cases e; rw [rel_non h]; exact .base .non
  | bl b => cases e; rw [rel_bl h]; exact .base (.bl b)
  | int i => cases e; rw [rel_int h]; exact .base (.int i)
  | str s => cases e; rw [rel_str h]; exact .base (.str s)
  | tup xs =>
    cases e
    obtain ⟨p, ys, rfl, q1, q2⟩ := tview_rel (d := .tup xs) si h rfl
    rcases q1 with (q1 | ⟨o, q1⟩) | ⟨o, its, n, q1, q2, _⟩
    · exact .base (.tup q1)
    · exact .fTuple q1
    · exact .kTuple q1 q2
  | lst xs =>
    cases e
    obtain ⟨p, ys, rfl, q1, q2⟩ := rview_rel (d := .lst xs) si h rfl
    rcases q1 with q1 | ⟨o, q1⟩
    · exact .base (.lst q1)
    · exact .base (.frz q1)
  | scr xs =>
    cases e
    obtain ⟨p, ys, rfl, q1, q2⟩ := lview_rel (d := .scr xs) si h rfl
    rcases q1 with (q1 | ⟨o, q1⟩) | ⟨o, its, n, q1, q2, _⟩
    · exact .base (.lst q1)
    · exact .base (.frz q1)
    · exact .kList q1 q2
  | cell n =>
    unfold Rel at h
    obtain ⟨a, rfl, hr⟩ := h
    have e : (match S[n]? with
      | some (.lst _) => some "list"
      | some (.dk _) => some "dict"
      | _ => none) = some t := e
    split at e
    · rename_i xs hS
      cases e
      obtain ⟨_, ys, q1, _⟩ := si.cel n a _ hr hS
      exact .base (.lst q1)
    · rename_i xs hS
      cases e
      obtain ⟨_, ys, q1, _⟩ := si.cel n a _ hr hS
      exact .base (.dK q1)
    · cases e
  | exn _ _ => cases e
theorem tyD_some {t : String} (e : tyD S d = some t) : t = "NoneType" ∨ t = "bool" ∨ t = "int" ∨ t = "str" ∨ t = "tuple" ∨ t = "list" ∨ t = "dict" := by
  cases d with
  | cell n =>
    have e : (match S[n]? with
      | some (.lst _) => some "list"
      | some (.dk _) => some "dict"
      | _ => none) = some t := e
    split at e
    · cases e; simp
    · cases e; simp
    · cases e
  | exn _ _ => cases e
  | _ => cases e; simp
theorem kit_isi {t : String} {n : Ty} (h : t = "NoneType" ∨ t = "bool" ∨ t = "int" ∨ t = "str" ∨ t = "tuple" ∨ t = "list" ∨ t = "dict") : kitB t n.nm = some (isiB t n) := by
  rcases h with rfl | rfl | rfl | rfl | rfl | rfl | rfl <;> cases n <;> decide +kernel
/-- answers on the constructor, so that they compute -/
def isiD (S : Sto) (n : Ty) : D → Option Bool
  | .non => some false
  | .bl _ => some (decide (n = .int) || decide (n = .bool))
  | .int _ => some (decide (n = .int))
  | .str _ => some (decide (n = .str))
  | .tup _ => some (decide (n = .tuple))
  | .lst _ => some (decide (n = .list))
  | .scr _ => some (decide (n = .list))
  | .cell m => match S[m]? with
    | some (.lst _) => some (decide (n = .list))
    | some (.dk _) => some false
    | _ => none
  | .exn .. => none
theorem isiD_ty {n : Ty} {b : Bool} (e : isiD S n d = some b) : ∃ t, tyD S d = some t ∧ isiB t n = b := by
  cases d with
  | cell m =>
    have e : (match S[m]? with
      | some (.lst _) => some (decide (n = .list))
      | some (.dk _) => some false
      | _ => none) = some b := e
    show ∃ t, (match S[m]? with
      | some (.lst _) => some "list"
      | some (.dk _) => some "dict"
      | _ => none) = some t ∧ isiB t n = b
    split at e
    · cases e
      exact ⟨_, rfl, by cases n <;> rfl⟩
    · cases e
      exact ⟨_, rfl, by cases n <;> rfl⟩
    · cases e
  | exn _ _ => cases e
  | _ => cases e; exact ⟨_, rfl, by cases n <;> rfl⟩
def wIsi (n : Ty) (wa : WE) : WE := fun (xc : HG XE) s S k => wa xc s S fun d S1 => ∃ b, isiD S1 n d = some b ∧ k (.bl b) S1
theorem se_isi {x : Str} {p p2 : Pos} (n : Ty) (hg : Gl X "isinstance") (hm : X.mg "isinstance" = none) (ha : SE X g W e wa) (hg2 : Gl X x) (hm2 : X.mg x = none) (hx : bootBuiltins x = some (.type n.nm) := by decide +kernel)
    (hn2 : x ≠ "__name__" := by decide) (hd2 : (x == ("__debug__" : Str)) = false := by decide)
    (hst : starEach [e, .Name x p2] X.env = (false, eval e X.env) :: starEach [.Name x p2] X.env := by rfl) (hst2 : starEach [.Name x p2] X.env = (false, eval (.Name x p2) X.env) :: starEach [] X.env := by rfl) (hpl : (backTo pos (starEach [.Name x p2] X.env)).any (·.1) = false := by rfl) :
    SE X g W (.Call (.Name "isinstance" p) [e, .Name x p2] [] pos) (wIsi n wa) := by
  obtain ⟨ta, pa, ga⟩ := ha
  refine ⟨_, pe_callB call_isi hg hm (by decide +kernel) (pa_cons pa (pa_cons (pe_bltn (v := .ty n.nm) hg2 hm2 hx rfl hn2 hd2) pa_nil hst2) hst) (by decide) (by decide) hst hpl, fun H0 r S H s sv Q k xc si rs h ce cx => ?_⟩
  refine ga H0 r S H s sv _ _ xc si rs h (fun d v H1 r1 S1 H1' f1 s1 rl h1 => ?_) cx
  obtain ⟨b, e1, hk⟩ := h1
  obtain ⟨t, e2, e3⟩ := isiD_ty e1
  refine ⟨v, .ty n.nm, .type t, .type n.nm, b, rfl, .ty _, tyD_rel s1 rl e2, ?_, ce _ _ _ _ _ _ f1 s1 rel_bl' hk⟩
  rw [← e3]
  exact kit_ty (kit_isi (tyD_some e2))
end
end Ab

namespace Ab
open PySem PySem.Spec PyProof.Rows L2

section
variable {X : Cx} {g : Gi} {W : WX} {a b c e o : Expr} {es : List Expr} {pos cpos apos : Pos} {wa wb wc we wo : WE} {wt wu : WT} {ws : WA}
variable {K : PySem.W.Frag} {H0 H : Hp} {r : List Addr} {S : Sto} {d : D} {v : V} {ds : List D}

/-! ### methods of lists -/
abbrev MW := D → List D → Sto → KD → Prop
def GoodM (K : PySem.W.Frag) (g : Gi) (rr : V → List V → Hp → VK → Prop) (f : MW) : Prop :=
  ∀ H0 r S H d ds x vs k Q, Sim K g H0 r S H → Rel K H0 r d x → Rels K H0 r ds vs → f d ds S k → CtE K g H0 r H k Q → rr x vs H Q
def wM (f : MW) (wo : WE) (ws : WA) : WE := fun (xc : HG XE) s S k => wo xc s S fun o S1 => (∃ xs, lview S1 o = some xs) ∧ ws xc s S1 fun ds S2 => f o ds S2 k
def wM0 (f : MW) (wo : WE) : WE := fun (xc : HG XE) s S k => wo xc s S fun o S1 => (∃ xs, lview S1 o = some xs) ∧ f o [] S1 k
theorem tyV_list (si : Sim K g H0 r S H) (h : Rel K H0 r d v) (e : ∃ xs, lview S d = some xs) : tyV K "list" v H := by
  obtain ⟨xs, e⟩ := e
  obtain ⟨p, ys, rfl, q1, q2⟩ := lview_rel si h e
  exact .inl ⟨rfl, ys, q1⟩
theorem se_m {name : Str} {id : String} {rr : V → List V → Hp → VK → Prop} {f : MW} (slot : Slot "list" name id) (hty : typeOf (.builtin id) = pure (.type "method_descriptor")) (hm : MtR X id rr) (gm : GoodM X.K g rr f) (ho : SE X g W o wo) (ha : SA X g W (e :: es) ws)
    (hbase : attributeBase o name X.env (eval o X.env) = eval o X.env := by rfl)
    (hfew : ((backTo cpos (starEach (e :: es) X.env)).all (fun x => !x.1) && (backToKw cpos (keywordEach [] X.env)).all (fun x => x.1.isSome)
      && decide ((e :: es).length + ([] : List Keyword).length + (if ([] : List Keyword).isEmpty then 0 else 1) < 30)) = true := by rfl)
    (hline : (apos.endLine == cpos.line) = true := by rfl) (hs : starEach (e :: es) X.env = (false, eval e X.env) :: starEach es X.env := by rfl) (hplain : (backTo cpos (starEach es X.env)).any (·.1) = false := by rfl) :
    SE X g W (.Call (.Attribute o name apos) (e :: es) [] cpos) (wM f wo ws) := by
  obtain ⟨to, po, go⟩ := ho
  obtain ⟨ta, pa, ga⟩ := ha
  refine ⟨_, pe_bm PySem.F.plainAttrs_list slot hty hm po pa hbase hfew hline hs hplain, fun H0 r S H s sv Q k xc si rs h ce cx => ?_⟩
  refine go H0 r S H s sv _ _ xc si rs h (fun d v H1 r1 S1 H1' f1 s1 rl h1 => ?_) cx
  refine ⟨tyV_list s1 rl h1.1, ?_⟩
  refine ga H1 r1 S1 H1' s sv _ _ xc s1 (rs.fut f1) h1.2 (fun ds vs H2 r2 S2 H2' f2 s2 rl2 h2 => ?_) (cx.fut f1 s1)
  exact gm H2 r2 S2 H2' d ds v vs k Q s2 (rl.fut f2) rl2 h2 (ce.fut (f1.tr s1 f2) s2)
theorem se_m0 {name : Str} {id : String} {rr : V → List V → Hp → VK → Prop} {f : MW} (slot : Slot "list" name id) (hty : typeOf (.builtin id) = pure (.type "method_descriptor")) (hm : MtR X id rr) (gm : GoodM X.K g rr f) (ho : SE X g W o wo)
    (hbase : attributeBase o name X.env (eval o X.env) = eval o X.env := by rfl) (hline : (apos.endLine == cpos.line) = true := by rfl) :
    SE X g W (.Call (.Attribute o name apos) [] [] cpos) (wM0 f wo) := by
  obtain ⟨to, po, go⟩ := ho
  refine ⟨_, pe_bm0 PySem.F.plainAttrs_list slot hty hm po hbase hline, fun H0 r S H s sv Q k xc si rs h ce cx => ?_⟩
  refine go H0 r S H s sv _ _ xc si rs h (fun d v H1 r1 S1 H1' f1 s1 rl h1 => ?_) cx
  exact ⟨tyV_list s1 rl h1.1, gm H1 r1 S1 H1' d [] v [] k Q s1 rl .nil h1.2 (ce.fut f1 s1)⟩
/-- a list cell and its items -/
theorem cel_lst {n : Nat} {xs : List D} (si : Sim K g H0 r S H) (h : Rel K H0 r (.cell n) v) (e : S[n]? = some (.lst xs)) :
    ∃ p ys, v = .ref p ∧ r[n]? = some p ∧ H0 p = none ∧ H p = some (.lst ys) ∧ Rels K H0 r xs ys := by
  unfold Rel at h
  obtain ⟨p, rfl, hr⟩ := h
  obtain ⟨h0, ys, h1, h2⟩ := si.cel n p _ hr e
  exact ⟨p, ys, rfl, hr, h0, h1, h2⟩
theorem Sim.wrLst {n : Nat} {p : Addr} {xs : List D} {ys : List V} {c : Cel} (si : Sim K g H0 r S H) (hr : r[n]? = some p) (e : S[n]? = some c) (h0 : H0 p = none) (h : Rels K H0 r xs ys) :
    Sim K g H0 r (S.set n (.lst xs)) (upd H p (.lst ys)) ∧ Fut H0 r H H0 r (upd H p (.lst ys)) := si.write hr e h0 fun H' e' => ⟨h0, ys, e', h⟩
def appF : D → List D → Sto → KD → Prop
  | .cell n, [d], S, k => ∃ xs, S[n]? = some (.lst xs) ∧ xs.length < sizeLine ∧ k .non (S.set n (.lst (xs ++ [d])))
  | _, _, _, _ => False
theorem good_app : GoodM K g rAppend appF := by
  intro H0 r S H d ds x vs k Q si h1 h2 h ce
  unfold appF at h
  split at h
  · obtain ⟨y, rfl, h3⟩ := rels1 h2
    obtain ⟨xs, e, hl, hk⟩ := h
    obtain ⟨p, ys, rfl, hr, h0, hp, hx⟩ := cel_lst si h1 e
    obtain ⟨s2, f2⟩ := si.wrLst hr e h0 (hx.append (.cons h3 .nil))
    exact ⟨p, ys, y, rfl, rfl, hp, by rw [hx.length]; exact hl, ce _ _ _ _ _ _ f2 s2 rel_non' hk⟩
  · exact h.elim
theorem se_app (ho : SE X g W o wo) (ha : SA X g W [e] ws)
    (hbase : attributeBase o "append" X.env (eval o X.env) = eval o X.env := by rfl)
    (hfew : ((backTo cpos (starEach [e] X.env)).all (fun x => !x.1) && (backToKw cpos (keywordEach [] X.env)).all (fun x => x.1.isSome)
      && decide (([e] : List Expr).length + ([] : List Keyword).length + (if ([] : List Keyword).isEmpty then 0 else 1) < 30)) = true := by rfl)
    (hline : (apos.endLine == cpos.line) = true := by rfl) (hs : starEach [e] X.env = (false, eval e X.env) :: starEach [] X.env := by rfl) (hplain : (backTo cpos (starEach [] X.env)).any (·.1) = false := by rfl) :
    SE X g W (.Call (.Attribute o "append" apos) [e] [] cpos) (wM appF wo ws) := se_m PySem.F.slot_list_append PySem.F.type_list_append mt_append good_app ho ha hbase hfew hline hs hplain
def popF : D → List D → Sto → KD → Prop
  | .cell n, [], S, k => ∃ xs y, S[n]? = some (.lst xs) ∧ xs[xs.length - 1]? = some y ∧ k y (S.set n (.lst xs.dropLast))
  | _, _, _, _ => False
theorem rels_dropLast : ∀ {ds : List D} {vs : List V}, Rels K H0 r ds vs → Rels K H0 r ds.dropLast vs.dropLast := fun {ds vs} h => by
  rw [List.dropLast_eq_take, List.dropLast_eq_take, h.length]
  exact h.take _
theorem good_pop : GoodM K g rPop popF := by
  intro H0 r S H d ds x vs k Q si h1 h2 h ce
  unfold popF at h
  split at h
  · rw [h2.unnil]
    obtain ⟨xs, y, e, hl, hk⟩ := h
    obtain ⟨p, ys, rfl, hr, h0, hp, hx⟩ := cel_lst si h1 e
    obtain ⟨s2, f2⟩ := si.wrLst hr e h0 (rels_dropLast hx)
    rw [← hx.length] at hl
    obtain ⟨v, e1, e2⟩ := hx.get hl
    exact ⟨p, ys, v, rfl, rfl, hp, e1, ce _ _ _ _ _ _ f2 s2 (e2.fut f2) hk⟩
  · exact h.elim
theorem se_pop (ho : SE X g W o wo) (hbase : attributeBase o "pop" X.env (eval o X.env) = eval o X.env := by rfl) (hline : (apos.endLine == cpos.line) = true := by rfl) :
    SE X g W (.Call (.Attribute o "pop" apos) [] [] cpos) (wM0 popF wo) := se_m0 PySem.F.slot_list_pop PySem.F.type_list_pop mt_pop good_pop ho hbase hline
/-- index of a flat thing -/
def idxF : D → List D → Sto → KD → Prop
  | o, [y], S, k => ∃ xs j z, lview S o = some xs ∧ y.flat = true ∧ xs.all D.flat = true ∧ xs[j]? = some z ∧ eqF z y = true ∧ (∀ m z', m < j → xs[m]? = some z' → eqF z' y = false) ∧ k (.int (j : Nat)) S
  | _, _, _, _ => False
theorem good_idx : GoodM K g (rIndex K) idxF := by
  intro H0 r S H d ds x vs k Q si h1 h2 h ce
  unfold idxF at h
  split at h
  · obtain ⟨y, rfl, h3⟩ := rels1 h2
    obtain ⟨xs, j, z, e, f1, f2, ej, ez, en, hk⟩ := h
    obtain ⟨p, ys, rfl, q1, q2⟩ := lview_rel si h1 e
    obtain ⟨v, e1, e2⟩ := q2.get ej
    have fz : z.flat = true := List.all_eq_true.mp f2 z (List.mem_of_getElem? ej)
    refine ⟨p, ys, y, j, v, rfl, rfl, q1, flat_rel f1 h3, flats_rel f2 q2, e1, by rw [eqF_rel fz f1 e2 h3]; exact ez, fun m v' hm hv => ?_, ce _ _ _ _ _ _ .refl si rel_int' hk⟩
    obtain ⟨d', g1, g2⟩ := q2.get' hv
    rw [eqF_rel (List.all_eq_true.mp f2 d' (List.mem_of_getElem? g1)) f1 g2 h3]
    exact en m d' hm g1
  · exact h.elim
theorem se_idx (ho : SE X g W o wo) (ha : SA X g W [e] ws)
    (hbase : attributeBase o "index" X.env (eval o X.env) = eval o X.env := by rfl)
    (hfew : ((backTo cpos (starEach [e] X.env)).all (fun x => !x.1) && (backToKw cpos (keywordEach [] X.env)).all (fun x => x.1.isSome)
      && decide (([e] : List Expr).length + ([] : List Keyword).length + (if ([] : List Keyword).isEmpty then 0 else 1) < 30)) = true := by rfl)
    (hline : (apos.endLine == cpos.line) = true := by rfl) (hs : starEach [e] X.env = (false, eval e X.env) :: starEach [] X.env := by rfl) (hplain : (backTo cpos (starEach [] X.env)).any (·.1) = false := by rfl) :
    SE X g W (.Call (.Attribute o "index" apos) [e] [] cpos) (wM idxF wo ws) := se_m PySem.F.slot_list_index PySem.F.type_list_index mt_index good_idx ho ha hbase hfew hline hs hplain
/-- remove of an int -/
def rmF : D → List D → Sto → KD → Prop
  | .cell n, [.int i], S, k => ∃ ns : List Int, S[n]? = some (.lst (ns.map .int)) ∧ i ∈ ns ∧ k .non (S.set n (.lst ((ns.erase i).map .int)))
  | _, _, _, _ => False
/-! ### calls of defs of one's own -/
def spW (K : PySem.W.Frag) (g : Gi) (np : Nat) (wf : WF) : Sp := fun vs H Q E => vs.length = np ∧ ∃ H0 r S ds k xk, Sim K g H0 r S H ∧ Rels K H0 r ds vs ∧ wf ds S k xk ∧ CtE K g H0 r H k Q ∧
  ∀ c H0' r' S' H', Fut H0 r H H0' r' H' → Sim K g H0' r' S' H' → xk c S' → E (.ref (g.cl c)) none H'
def wCall (wf : WF) (ws : WA) : WE := fun (xc : HG XE) s S k => ws xc s S fun ds S1 => wf ds S1 k fun c S2 => xc c s S2
theorem se_call {x : Str} {p : Pos} {f : Addr} {fd : FuncData} {ps : List Str} {np k : Nat} {wf : WF} (F : FnOk X.prog X.w X.K X.mg X.base (L2.CX X.prog X.w) k f fd ps (spW X.K g np wf)) (hl : ∀ ds S kk xk, wf ds S kk xk → ds.length = np)
    (hr : Room k X.A) (hg : Gl X x) (hm : X.mg x = some (.ref f)) (hk : PySem.W.keepIn X.K (.ref f) = true) (hb : Binds X.K fd ps []) (tk : Takes X W)
    (ha : SA X g W (e :: es) ws) (hdb : (x == ("__debug__" : Str)) = false := by decide) (he : starEach (e :: es) X.env = (false, eval e X.env) :: starEach es X.env := by rfl) (hpl : (backTo pos (starEach es X.env)).any (·.1) = false := by rfl) :
    SE X g W (.Call (.Name x p) (e :: es) [] pos) (wCall wf ws) := by
  obtain ⟨ta, pa, ga⟩ := ha
  refine ⟨_, pe_callS F hr hg hm hk hb (fun σ => passAt tk σ) pa hdb he hpl, fun H0 r S H s sv Q k xc si rs h ce cx => ?_⟩
  refine ga H0 r S H s sv _ _ xc si rs h (fun ds vs H1 r1 S1 H1' f1 s1 rl h1 => ?_) cx
  refine ⟨by rw [rl.length]; exact hl _ _ _ _ h1, H1, r1, S1, ds, _, _, s1, rl, h1, ce.fut f1 s1, fun c H2 r2 S2 H2' f2 s2 q => ?_⟩
  exact cx _ _ _ _ _ (f1.tr s1 f2) s2 q

/-! ### what is walked -/
abbrev WI := XE → Env → Sto → (List D → (Sto → Prop) → Sto → Prop) → Prop
structure ItOk (K : PySem.W.Frag) (g : Gi) (J : It) (ds : List D) (gd : Sto → Prop) (H0 : Hp) (r : List Addr) (H : Hp) : Prop where
  go : ∀ i H0' r' S' H', Fut H0 r H H0' r' H' → Sim K g H0' r' S' H' → gd S' → i < ds.length → J.go i H' ∧ ∀ x H'', J.yld i H' x H'' → ∃ H0'' d, Fut H0' r' H' H0'' r' H'' ∧ Sim K g H0'' r' S' H'' ∧ ds[i]? = some d ∧ Rel K H0'' r' d x
  stop : ∀ H0' r' S' H', Fut H0 r H H0' r' H' → Sim K g H0' r' S' H' → gd S' → J.stop ds.length H'
def GoodI (X : Cx) (g : Gi) (W : WX) (wi : TI) (w : WI) : Prop :=
  ∀ H0 r S H s sv R k xc, Sim X.K g H0 r S H → RelSt X.K H0 r s sv → w xc s S k →
    (∀ J ds gd H0' r' S' H', Fut H0 r H H0' r' H' → Sim X.K g H0' r' S' H' → ItOk X.K g J ds gd H0' r' H' → k ds gd S' → R J H') → CtX X.K g H0 r H s sv xc W → wi sv H R
def SI (X : Cx) (g : Gi) (W : WX) (tg iter : Expr) (w : WI) : Prop := ∃ wi, PI X tg iter wi ∧ GoodI X g W wi w
/-- a list or a tuple -/
def iSeq (K : PySem.W.Frag) (tl : TE) : TI := fun σ H R => tl σ H fun x H1 => ∃ a, x = .ref a ∧ (((∃ xs, SqL K H1 a xs) ∧ R (Itl K a) H1) ∨ ((∃ xs, SqT K H1 a xs) ∧ R (Itt K a) H1))
theorem pi_seq {tg l : Expr} {tl : TE} (hl : PE X l tl) : PI X tg l (iSeq X.K tl) := by
  refine ⟨fun pins s σ H R I h => ?_⟩
  refine thn (hl.run pins s σ H _ I h) fun v s1 ⟨x, H1, I1, r1, q1⟩ => ?_
  obtain ⟨a, e, q⟩ := q1
  subst e
  cases r1
  rcases q with ⟨⟨xs, hq⟩, q⟩ | ⟨⟨xs, hq⟩, q⟩
  · obtain ⟨its, rv, p, hz⟩ := I1.list hq
    refine wpAny_pyIter_list p.isList ?_
    refine ⟨s1.heap.objs.size, [s1.heap.objs.size], _, _, H1, rfl, I1.kept (t' := s1.toks) fun b o e => Heap.get?_push_of_some _ e, turn_list a _, ⟨_, Heap.get?_push_size _ rfl, rfl, rfl⟩, fun b hb => ?_, q⟩
    have e : b = s1.heap.objs.size := by simpa using hb
    subst e
    exact I1.fpOk (Nat.le_refl _) (I1.hok.fresh (Nat.le_refl _))
  · obtain ⟨its, rv, p, hz⟩ := I1.tuple hq
    refine wpAny_pyIter_tuple (show s1.heap.IsTuple a its.toArray from p) ?_
    refine ⟨s1.heap.objs.size, [s1.heap.objs.size], _, _, H1, rfl, I1.kept (t' := s1.toks) fun b o e => Heap.get?_push_of_some _ e, turn_tuple a _, ⟨_, Heap.get?_push_size _ rfl, rfl, rfl⟩, fun b hb => ?_, q⟩
    have e : b = s1.heap.objs.size := by simpa using hb
    subst e
    exact I1.fpOk (Nat.le_refl _) (I1.hok.fresh (Nat.le_refl _))
def gdOf (S : Sto) : D → Sto → Prop
  | .cell n => fun S' => S'[n]? = S[n]?
  | _ => fun _ => True
def wSeqI (wa : WE) : WI := fun (xc : HG XE) s S k => wa xc s S fun x S1 => ∃ xs, sview S1 x = some xs ∧ k xs (gdOf S1 x) S1
theorem it_list {p : Addr} {ys : List V} (hl : ∀ H0' r' S' H', Fut H0 r H H0' r' H' → Sim K g H0' r' S' H' → gdOf S d S' → ∃ ys, SqL K H' p ys ∧ Rels K H0' r' ds ys) : ItOk K g (Itl K p) ds (gdOf S d) H0 r H := by
  refine ⟨fun i H0' r' S' H' f s gd hi => ?_, fun H0' r' S' H' f s gd => ?_⟩
  · obtain ⟨ys, h1, h2⟩ := hl H0' r' S' H' f s gd
    obtain ⟨v, e1, e2⟩ := h2.get (List.getElem?_eq_getElem hi)
    refine ⟨⟨ys, v, h1, e1⟩, fun x H'' hy => ?_⟩
    obtain ⟨rfl, hx⟩ := hy
    have := hx ys h1
    rw [e1] at this
    cases this
    exact ⟨H0', _, .refl, s, List.getElem?_eq_getElem hi, e2⟩
  · obtain ⟨ys, h1, h2⟩ := hl H0' r' S' H' f s gd
    exact ⟨ys, h1, by rw [h2.length]; exact Nat.le_refl _⟩
theorem it_tup {p : Addr} {ys : List V} (hl : ∀ H0' r' S' H', Fut H0 r H H0' r' H' → Sim K g H0' r' S' H' → gdOf S d S' → ∃ ys, SqT K H' p ys ∧ Rels K H0' r' ds ys) : ItOk K g (Itt K p) ds (gdOf S d) H0 r H := by
  refine ⟨fun i H0' r' S' H' f s gd hi => ?_, fun H0' r' S' H' f s gd => ?_⟩
  · obtain ⟨ys, h1, h2⟩ := hl H0' r' S' H' f s gd
    obtain ⟨v, e1, e2⟩ := h2.get (List.getElem?_eq_getElem hi)
    refine ⟨⟨ys, v, h1, e1⟩, fun x H'' hy => ?_⟩
    obtain ⟨rfl, hx⟩ := hy
    have := hx ys h1
    rw [e1] at this
    cases this
    exact ⟨H0', _, .refl, s, List.getElem?_eq_getElem hi, e2⟩
  · obtain ⟨ys, h1, h2⟩ := hl H0' r' S' H' f s gd
    exact ⟨ys, h1, by rw [h2.length]; exact Nat.le_refl _⟩
theorem si_seq {tg : Expr} (ha : SE X g W a wa) : SI X g W tg a (wSeqI wa) := by
  obtain ⟨ta, pa, ga⟩ := ha
  refine ⟨_, pi_seq pa, fun H0 r S H s sv R k xc si rs h ce cx => ?_⟩
  refine ga H0 r S H s sv _ _ xc si rs h (fun d v H1 r1 S1 H1' f1 s1 rl h1 => ?_) cx
  obtain ⟨xs, e, hk⟩ := h1
  cases d with
  | tup ys =>
    cases e
    obtain ⟨p, vs, rfl, q1, q2⟩ := tview_rel (d := .tup xs) s1 rl rfl
    refine ⟨p, rfl, .inr ⟨⟨vs, q1⟩, ce _ _ _ _ _ _ _ f1 s1 (it_tup (ys := vs) fun H0' r' S' H' f s _ => ?_) hk⟩⟩
    obtain ⟨p', vs', e', q1', q2'⟩ := tview_rel (d := .tup xs) s (rl.fut f) rfl
    cases e'
    exact ⟨vs', q1', q2'⟩
  | lst ys =>
    cases e
    obtain ⟨p, vs, rfl, q1, q2⟩ := lview_rel (d := .lst xs) s1 rl rfl
    refine ⟨p, rfl, .inl ⟨⟨vs, q1⟩, ce _ _ _ _ _ _ _ f1 s1 (it_list (ys := vs) fun H0' r' S' H' f s _ => ?_) hk⟩⟩
    obtain ⟨p', vs', e', q1', q2'⟩ := lview_rel (d := .lst xs) s (rl.fut f) rfl
    cases e'
    exact ⟨vs', q1', q2'⟩
  | scr ys =>
    cases e
    obtain ⟨p, vs, rfl, q1, q2⟩ := lview_rel (d := .scr xs) s1 rl rfl
    refine ⟨p, rfl, .inl ⟨⟨vs, q1⟩, ce _ _ _ _ _ _ _ f1 s1 (it_list (ys := vs) fun H0' r' S' H' f s _ => ?_) hk⟩⟩
    obtain ⟨p', vs', e', q1', q2'⟩ := lview_rel (d := .scr xs) s (rl.fut f) rfl
    cases e'
    exact ⟨vs', q1', q2'⟩
  | cell n =>
    obtain ⟨p, vs, rfl, q1, q2⟩ := lview_rel (d := .cell n) s1 rl e
    refine ⟨p, rfl, .inl ⟨⟨vs, q1⟩, ce _ _ _ _ _ _ _ f1 s1 (it_list (ys := vs) fun H0' r' S' H' f s gd => ?_) hk⟩⟩
    have e2 : lview S' (.cell n) = some xs := by
      have gd : S'[n]? = S1[n]? := gd
      show (match S'[n]? with | some (.lst xs) => some xs | _ => none) = some xs
      rw [gd]
      exact e
    obtain ⟨p', vs', e', q1', q2'⟩ := lview_rel (d := .cell n) s (rl.fut f) e2
    cases e'
    exact ⟨vs', q1', q2'⟩
  | _ => cases e
/-- ranges -/
def rngD (lo : Int) (n : Nat) : List D := (List.range n).map fun (k : Nat) => D.int (lo + (k : Int))
theorem it_rng {lo : Int} {n : Nat} : ItOk K g (Itr lo n) (rngD lo n) (fun _ => True) H0 r H := by
  have hl : (rngD lo n).length = n := by unfold rngD; rw [List.length_map, List.length_range]
  refine ⟨fun i H0' r' S' H' f s gd hi => ?_, fun H0' r' S' H' f s gd => by rw [hl]; exact Nat.le_refl _⟩
  rw [hl] at hi
  refine ⟨hi, fun x H'' hy => ?_⟩
  obtain ⟨rfl, rfl⟩ := hy
  refine ⟨H0', .int (lo + i), .refl, s, ?_, rel_int'⟩
  unfold rngD
  rw [List.getElem?_map, List.getElem?_range hi]
  rfl
def kRng1 (k : List D → (Sto → Prop) → Sto → Prop) : List D → Sto → Prop := fun (x0 : HG (List D)) x1 => match x0, x1 with
  | [.int j], S => -(2 ^ 62) ≤ j ∧ j < 2 ^ 62 ∧ k (rngD 0 j.toNat) (fun _ => True) S
  | _, _ => False
def kRng2 (k : List D → (Sto → Prop) → Sto → Prop) : List D → Sto → Prop := fun (x0 : HG (List D)) x1 => match x0, x1 with
  | [.int i, .int j], S => (-(2 ^ 62) ≤ i ∧ i < 2 ^ 62 ∧ -(2 ^ 62) ≤ j ∧ j < 2 ^ 62) ∧ k (rngD i (j - i).toNat) (fun _ => True) S
  | _, _ => False
def wRng1 (ws : WA) : WI := fun (xc : HG XE) s S k => ws xc s S (kRng1 k)
def wRng2 (ws : WA) : WI := fun (xc : HG XE) s S k => ws xc s S (kRng2 k)
theorem si_rng1 {tg : Expr} {p : Pos} (hg : Gl X "range") (hm : X.mg "range" = none) (ha : SA X g W [a] ws) (hs : starEach [a] X.env = [(false, eval a X.env)] := by rfl) : SI X g W tg (.Call (.Name "range" p) [a] [] pos) (wRng1 ws) := by
  obtain ⟨ta, pa, ga⟩ := ha
  refine ⟨_, pi_range1 hg hm pa hs, fun H0 r S H s sv R k xc si rs h ce cx => ?_⟩
  refine ga H0 r S H s sv _ _ xc si rs h (fun ds vs H1 r1 S1 H1' f1 s1 rl h1 => ?_) cx
  unfold kRng1 at h1
  split at h1
  · obtain ⟨v, rfl, h2⟩ := rels1 rl
    rw [rel_int h2]
    exact ⟨_, rfl, h1.1, h1.2.1, ce _ _ _ _ _ _ _ f1 s1 it_rng h1.2.2⟩
  · exact h1.elim
theorem si_rng2 {tg : Expr} {p : Pos} (hg : Gl X "range") (hm : X.mg "range" = none) (ha : SA X g W [a, b] ws) (hs : starEach [a, b] X.env = [(false, eval a X.env), (false, eval b X.env)] := by rfl) (hs2 : starEach [b] X.env = [(false, eval b X.env)] := by rfl) :
    SI X g W tg (.Call (.Name "range" p) [a, b] [] pos) (wRng2 ws) := by
  obtain ⟨ta, pa, ga⟩ := ha
  refine ⟨_, pi_range2 hg hm pa hs hs2, fun H0 r S H s sv R k xc si rs h ce cx => ?_⟩
  refine ga H0 r S H s sv _ _ xc si rs h (fun ds vs H1 r1 S1 H1' f1 s1 rl h1 => ?_) cx
  unfold kRng2 at h1
  split at h1
  · obtain ⟨v, v2, rfl, h2, h3⟩ := rels2 rl
    rw [rel_int h2, rel_int h3]
    exact ⟨_, _, rfl, h1.1, ce _ _ _ _ _ _ _ f1 s1 it_rng h1.2⟩
  · exact h1.elim

/-! ### comprehensions -/
def wipeD (s : Env) : List Nat → Env
  | [] => s
  | v :: vs => (wipeD s vs).set v none
theorem relSt_wipe {s : Env} {sv : L2.St} (h : RelSt K H0 r s sv) : ∀ vs : List Nat, RelSt K H0 r (wipeD s vs) (wipe sv vs)
  | [] => h
  | v :: vs => (relSt_wipe h vs).unset v
def noXC : XE := fun _ _ _ => False
/-- tests: none, one -/
def wYes : WT := fun (_ : HG XE) _ S k => k true S
def STs (X : Cx) (g : Gi) (W : WX) (e : List Expr) (w : WT) : Prop := ∃ te, PTs X e te ∧ GoodT X g W te w
theorem sts_nil : STs X g W [] wYes := ⟨_, pts_nil, fun _ _ _ _ _ _ _ _ _ si _ h ce _ => ce _ _ _ _ _ .refl si h⟩
theorem sts_one (h : STt X g W c wt) : STs X g W [c] wt := by
  obtain ⟨ta, pa, ga⟩ := h
  exact ⟨_, pts_one pa, ga⟩
def WFls : WX := fun _ _ _ _ => False
/-- [e for x in it if t]: by an invariant over the turn, what is made so far, the store -/
def lcW (i : Nat) (vs : List Nat) (wt : WT) (we : WE) (ds : List D) (gd : Sto → Prop) (s : Env) (S : Sto) (fin : List D → Sto → Prop) : Prop := ds.length < sizeLine ∧ ∃ P : Nat → List D → Sto → Prop, P 0 [] S ∧
  (∀ n x acc S2, ds[n]? = some x → acc.length ≤ n → P n acc S2 → gd S2 ∧ wt noXC ((wipeD s vs).set i (some x)) S2 fun b S3 => if b = true then we noXC ((wipeD s vs).set i (some x)) S3 fun d S4 => P (n + 1) (acc ++ [d]) S4 else P (n + 1) acc S3) ∧
  ∀ acc S2, acc.length ≤ ds.length → P ds.length acc S2 → gd S2 ∧ fin acc S2
def wLc (i : Nat) (vs : List Nat) (wi : WI) (wt : WT) (we : WE) : WE := fun (xc : HG XE) s S k => wi xc s S fun ds gd S1 => lcW i vs wt we ds gd s S1 fun acc S2 => k (.lst acc) S2
/-- .. a list that will be changed -/
def wLcC (i : Nat) (vs : List Nat) (wi : WI) (wt : WT) (we : WE) : WE := fun (xc : HG XE) s S k => wi xc s S fun ds gd S1 => lcW i vs wt we ds gd s S1 fun acc S2 => k (.cell S2.length) (S2 ++ [.lst acc])
theorem wipe_set {sv : L2.St} {vs : List Nat} {i : Nat} (hi : i ∈ vs) (v : Option V) : wipe ((wipe sv vs).set i v) vs = wipe sv vs := by
  have hw : ∀ (ws : List Nat) (s : L2.St) (n : Nat), (wipe s ws)[n]? = if n ∈ ws ∧ n < s.length then some none else s[n]? := by
    intro ws
    induction ws with
    | nil => intro s n; simp [wipe]
    | cons w ws ih =>
      intro s n
      unfold wipe
      by_cases hn : w = n
      · subst hn
        by_cases hl : w < s.length
        · rw [List.getElem?_set_self (by rw [wipe_length]; exact hl)]
          simp [hl]
        · rw [List.getElem?_eq_none (by rw [List.length_set, wipe_length]; omega)]
          simp [hl]
      · rw [List.getElem?_set_ne hn, ih]
        have : n ≠ w := Ne.symm hn
        simp [this]
  apply List.ext_getElem?
  intro n
  rw [hw, hw]
  have hl : ((wipe sv vs).set i v).length = sv.length := by rw [List.length_set, wipe_length]
  rw [hl]
  by_cases hn : n ∈ vs ∧ n < sv.length
  · rw [if_pos hn, if_pos hn]
  · rw [if_neg hn, if_neg hn]
    by_cases hin : i = n
    · subst hin
      have : ¬ i < sv.length := fun z => hn ⟨hi, z⟩
      rw [List.getElem?_eq_none (by rw [List.length_set, wipe_length]; omega), List.getElem?_eq_none (by omega)]
    · rw [List.getElem?_set_ne hin, hw, if_neg hn]
/-- the accumulating list, apart from all that is told -/
theorem lc_good {wi : TI} {w : WI} {i : Nat} {vs : List Nat} {tt : TT} {te : TE} (hi : i ∈ vs) (gi : GoodI X g W wi w)
    (gt : GoodT X g WFls tt wt) (ge : GoodE X g WFls te we) : GoodE X g W (tLc wi (gName i) tt te vs) (wLc i vs w wt we) := by
  intro H0 r S H s sv Q k xc si rs h ce cx
  refine gi H0 r S H s sv _ _ xc si rs h (fun J ds gd H1 r1 S1 H1' f1 s1 it h1 => ?_) cx
  obtain ⟨hlen, P, h0, hstep, hend⟩ := h1
  intro p hp
  have np : p ∉ r1 := fun z => s1.there p z hp
  have h0p : H1 p = none := s1.ex.none hp
  have rs1 := rs.fut f1
  -- the state at a turn: a future of (H1, r1, H1'), the made list at p, which is neither frozen nor a cell
  refine ⟨fun n m Hn => m = ds.length - n ∧ n ≤ ds.length ∧ ∃ H0n rn Sn acc ys, Fut H1 r1 H1' H0n rn Hn ∧ Sim X.K g H0n rn Sn Hn ∧ H0n p = none ∧ p ∉ rn ∧ Hn p = some (.lst ys) ∧ Rels X.K H0n rn acc ys ∧ acc.length ≤ n ∧ P n acc Sn,
    ⟨ds.length, by simp, Nat.zero_le _, ?_⟩, ?_⟩
  · obtain ⟨s2, f2⟩ := s1.junk (o := .lst []) hp
    exact ⟨H1, r1, S1, [], [], f2, s2, h0p, np, upd_same, .nil, Nat.le_refl _, h0⟩
  · rintro n m Hn ⟨rfl, hn, H0n, rn, Sn, acc, ys, fn, sn, hp0, hpr, hpn, hacc, hal, hP⟩
    by_cases hlt : n < ds.length
    · obtain ⟨x, hx⟩ : ∃ x, ds[n]? = some x := ⟨ds[n], List.getElem?_eq_getElem hlt⟩
      obtain ⟨hgd, hbody⟩ := hstep n x acc Sn hx hal hP
      obtain ⟨hgo, hy⟩ := it.go n H0n rn Sn Hn fn sn hgd hlt
      refine .inr ⟨hgo, fun H' => ∃ H0n rn Sn acc ys, Fut H1 r1 H1' H0n rn H' ∧ Sim X.K g H0n rn Sn H' ∧ H0n p = none ∧ p ∉ rn ∧ H' p = some (.lst ys) ∧ Rels X.K H0n rn acc ys ∧ acc.length ≤ n + 1 ∧ P (n + 1) acc Sn,
        fun H' hq => ⟨ds.length - (n + 1), by omega, rfl, hlt, hq⟩, fun v H'' hyl => ?_⟩
      obtain ⟨H0y, d, fy, sy, hd, rly⟩ := hy v H'' hyl
      rw [hx] at hd
      cases hd
      have hpy : H'' p = some (.lst ys) := fy.keep p _ hpn hpr
      have hp0y : H0y p = none := by
        cases q : H0y p with
        | none => rfl
        | some o =>
          rcases fy.newF p o q hp0 with z | z
          · rw [hpn] at z; cases z
          · exact absurd z hpr
      have fny := fn.tr sn fy
      have accy := hacc.fut fy
      have rsy : RelSt X.K H0y rn ((wipeD s vs).set i (some x)) ((wipe sv vs).set i (some v)) := (relSt_wipe (rs1.fut fny) vs).set i rly
      refine ⟨wipe_set hi _, ?_⟩
      refine gt H0y rn Sn H'' _ _ _ _ noXC sy rsy hbody (fun b H2 r2 S2 H2' f2 s2 h2 => ?_) (fun _ _ _ _ _ _ _ z => z)
      have fn2 := fny.tr sy f2
      have hp2 : H2' p = some (.lst ys) := f2.keep p _ hpy hpr
      have hr2 : p ∉ r2 := fun z => by
        have := f2.newC p z hpr
        rw [hpy] at this; cases this
      have h02 : H2 p = none := by
        cases q : H2 p with
        | none => rfl
        | some o =>
          rcases f2.newF p o q hp0y with z | z
          · rw [hpy] at z; cases z
          · exact absurd z hpr
      cases b with
      | false =>
        rw [if_neg Bool.false_ne_true] at h2 ⊢
        exact ⟨H2, r2, S2, acc, ys, fn2, s2, h02, hr2, hp2, accy.fut f2, by omega, h2⟩
      | true =>
        rw [if_pos rfl] at h2 ⊢
        refine ge H2 r2 S2 H2' _ _ _ _ noXC s2 (rsy.fut f2) h2 (fun d v2 H3 r3 S3 H3' f3 s3 rl3 h3 => ?_) (fun _ _ _ _ _ _ _ z => z)
        have fn3 := fn2.tr s2 f3
        have hp3 : H3' p = some (.lst ys) := f3.keep p _ hp2 hr2
        have hr3 : p ∉ r3 := fun z => by
          have := f3.newC p z hr2
          rw [hp2] at this; cases this
        have h03 : H3 p = none := by
          cases q : H3 p with
          | none => rfl
          | some o =>
            rcases f3.newF p o q h02 with z | z
            · rw [hp2] at z; cases z
            · exact absurd z hr2
        have acc3 := (accy.fut f2).fut f3
        refine ⟨ys, hp3, by rw [acc3.length]; omega, ?_⟩
        -- p is written
        have s4 : Sim X.K g H3 r3 S3 (upd H3' p (.lst (ys ++ [v2]))) := by
          refine ⟨fun a o e => ?_, s3.len, s3.nd, fun a ha => ?_, fun n' a c e1 e2 => ?_⟩
          · have : a ≠ p := fun z => by rw [z, h03] at e; cases e
            rw [upd_ne this]; exact s3.ex a o e
          · have : a ≠ p := fun z => hr3 (z ▸ ha)
            rw [upd_ne this]; exact s3.there a ha
          · have : a ≠ p := fun z => hr3 (z ▸ List.mem_of_getElem? e1)
            exact (s3.cel n' a c e1 e2).mono (Ex.refl _) (List.prefix_refl _) (fun q => q) (upd_ne this)
        have f4 : Fut H1 r1 H1' H3 r3 (upd H3' p (.lst (ys ++ [v2]))) := by
          refine ⟨fn3.ext, fn3.pre, fun a o e na => ?_, fn3.newC, fn3.newF⟩
          have : a ≠ p := fun z => by rw [z, hp] at e; cases e
          rw [upd_ne this]
          exact fn3.keep a o e na
        exact ⟨H3, r3, S3, acc ++ [d], ys ++ [v2], f4, s4, h03, hr3, upd_same, acc3.append (.cons rl3 .nil), by rw [List.length_append, List.length_singleton]; omega, h3⟩
    · have e : n = ds.length := by omega
      subst e
      obtain ⟨hgd, hk⟩ := hend acc Sn hal hP
      refine .inl ⟨it.stop H0n rn Sn Hn fn sn hgd, ?_⟩
      -- the list is frozen now
      refine ce (.lst acc) (.ref p) (upd H0n p (.lst ys)) rn Sn Hn (f1.tr s1 ?_) ?_ ?_ hk
      · refine ⟨fn.ext.trans (Ex.new hp0), fn.pre, fn.keep, fn.newC, fun a u e en => ?_⟩
        by_cases ha : a = p
        · subst ha
          exact .inl hp
        · rw [upd_ne ha] at e
          exact fn.newF a u e en
      · refine ⟨fun a o e => ?_, sn.len, sn.nd, sn.there, fun n' a c e1 e2 => ?_⟩
        · by_cases ha : a = p
          · subst ha; rw [upd_same] at e; cases e; exact hpn
          · rw [upd_ne ha] at e; exact sn.ex a o e
        · have : a ≠ p := fun z => hpr (z ▸ List.mem_of_getElem? e1)
          exact (sn.cel n' a c e1 e2).mono (Ex.new hp0) (List.prefix_refl _) (fun q => by rw [upd_ne this]; exact q) rfl
      · unfold Rel
        exact ⟨p, ys, rfl, .inl upd_same, hacc.mono (Ex.new hp0) (List.prefix_refl _)⟩
end
end Ab

namespace Ab
open PySem PySem.Spec PyProof.Rows L2

section
variable {X : Cx} {g : Gi} {W : WX} {a b c e o : Expr} {es : List Expr} {pos cpos apos : Pos} {wa wb wc we wo : WE} {wt wu : WT} {ws : WA}
variable {K : PySem.W.Frag} {H0 H : Hp} {r : List Addr} {S : Sto} {d : D} {v : V} {ds : List D}

/-! ### the one reading that a reading over data has -/
def canE (K : PySem.W.Frag) (g : Gi) (W : WX) (w : WE) : TE := fun sv H Q => ∃ H0 r S s k xc, Sim K g H0 r S H ∧ RelSt K H0 r s sv ∧ w xc s S k ∧ CtE K g H0 r H k Q ∧ CtX K g H0 r H s sv xc W
def canT (K : PySem.W.Frag) (g : Gi) (W : WX) (w : WT) : TT := fun sv H Q => ∃ H0 r S s k xc, Sim K g H0 r S H ∧ RelSt K H0 r s sv ∧ w xc s S k ∧
  (∀ b H0' r' S' H', Fut H0 r H H0' r' H' → Sim K g H0' r' S' H' → k b S' → Q b H') ∧ CtX K g H0 r H s sv xc W
theorem SE.pe (h : SE X g W e we) : PE X e (canE X.K g W we) := by
  obtain ⟨te, pe, ge⟩ := h
  exact ⟨fun pins s σ H Q I ⟨H0, r, S, sd, k, xc, si, rs, hw, ce, cx⟩ => pe.run pins s σ H Q I (ge H0 r S H sd σ Q k xc si rs hw ce cx)⟩
theorem STs.pt {ifs : List Expr} (h : STs X g W ifs wt) : PTs X ifs (canT X.K g W wt) := by
  obtain ⟨te, pe, ge⟩ := h
  exact ⟨fun pins s σ H Q I ⟨H0, r, S, sd, k, xc, si, rs, hw, ce, cx⟩ => pe.run pins s σ H Q I (ge H0 r S H sd σ Q k xc si rs hw ce cx)⟩
theorem canE_good : GoodE X g W (canE X.K g W we) we := fun H0 r S H s sv Q k xc si rs h ce cx => ⟨H0, r, S, s, k, xc, si, rs, h, ce, cx⟩
theorem canT_good : GoodT X g W (canT X.K g W wt) wt := fun H0 r S H s sv Q k xc si rs h ce cx => ⟨H0, r, S, s, k, xc, si, rs, h, ce, cx⟩

/-! ### comprehensions -/
theorem se_lc {elt iter : Expr} {ifs : List Expr} {scope : Scope} {own : List (Str × Nat)} {i : Nat} {x : Str} {wi : WI} {p : Pos} (hc : X.calm = true) (hN : X.N.Nodup) (hi : SI X g W (.Name x p) iter wi) (ok : BlkOk X.N X.env.scope scope own) (hin : i ∈ own.map (·.2))
    (hg : ∀ (s : Shared) (H : Hp) (C : Addr) (cl : List (Str × Addr)) (fp : List Addr), PG (X.blk s H scope (compEnvC scope cl C X.env) fp) (.Name x p) (gName i))
    (ht : ∀ (s : Shared) (H : Hp) (C : Addr) (cl : List (Str × Addr)) (fp : List Addr), STs (X.blk s H scope (compEnvC scope cl C X.env) fp) g WFls ifs wt)
    (he : ∀ (s : Shared) (H : Hp) (C : Addr) (cl : List (Str × Addr)) (fp : List Addr), SE (X.blk s H scope (compEnvC scope cl C X.env) fp) g WFls elt we) (hs : ∀ x, foldedSetIterable iter X.env x = pure x := by intro _; rfl) :
    SE X g W (.ListComp elt [⟨.Name x p, iter, ifs, 0⟩] scope pos) (wLc i (own.map (·.2)) wi wt we) := by
  obtain ⟨ti, pi, gi⟩ := hi
  refine ⟨_, pe_lc (te := canE X.K g WFls we) (tt := canT X.K g WFls wt) hc hN pi ok hg (fun s H C cl fp => (ht s H C cl fp).pt) (fun s H C cl fp => (he s H C cl fp).pe) hs, fun H0 r S H s sv Q k xc si rs h ce cx => ?_⟩
  exact lc_good hin gi canT_good canE_good H0 r S H s sv Q k xc si rs h ce cx

/-! ### statements -/
def CtS (K : PySem.W.Frag) (g : Gi) (H0 : Hp) (r : List Addr) (H : Hp) (W : WX) (Dk : Kd) (Dv : Ends) : Prop :=
  (∀ s sv H0' r' S' H', Fut H0 r H H0' r' H' → Sim K g H0' r' S' H' → RelSt K H0' r' s sv → Dk.nx s S' → Dv.nx sv H') ∧
  CtE K g H0 r H Dk.rt Dv.rt ∧
  (∀ c s sv H0' r' S' H', Fut H0 r H H0' r' H' → Sim K g H0' r' S' H' → RelSt K H0' r' s sv → Dk.xc c s S' → W (.ref (g.cl c)) none sv H')
theorem CtS.fut {H0' : Hp} {r' : List Addr} {S' : Sto} {H' : Hp} {Dk : Kd} {Dv : Ends} (c : CtS K g H0 r H W Dk Dv) (f : Fut H0 r H H0' r' H') (si : Sim K g H0' r' S' H') : CtS K g H0' r' H' W Dk Dv :=
  ⟨fun s sv H1 r1 S1 H1' f1 s1 rs h => c.1 s sv H1 r1 S1 H1' (f.tr si f1) s1 rs h, c.2.1.fut f si, fun x s sv H1 r1 S1 H1' f1 s1 rs h => c.2.2 x s sv H1 r1 S1 H1' (f.tr si f1) s1 rs h⟩
theorem CtS.x {s : Env} {sv : L2.St} {Dk : Kd} {Dv : Ends} (c : CtS K g H0 r H W Dk Dv) (rs : RelSt K H0 r s sv) : CtX K g H0 r H s sv Dk.xc W :=
  fun x H1 r1 S1 H1' f1 s1 h => c.2.2 x s sv H1 r1 S1 H1' f1 s1 (rs.fut f1) h
theorem CtS.next {Dk : Kd} {Dv : Ends} {nx : Env → Sto → Prop} {nxv : L2.St → Hp → Prop} (c : CtS K g H0 r H W Dk Dv)
    (h : ∀ s sv H0' r' S' H', Fut H0 r H H0' r' H' → Sim K g H0' r' S' H' → RelSt K H0' r' s sv → nx s S' → nxv sv H') : CtS K g H0 r H W { Dk with nx := nx } { Dv with nx := nxv } := ⟨h, c.2.1, c.2.2⟩
def GoodS (X : Cx) (g : Gi) (W : WX) (t : TS) (w : WS) : Prop :=
  ∀ H0 r S H s sv (Dk : Kd) (Dv : Ends), Sim X.K g H0 r S H → RelSt X.K H0 r s sv → w Dk s S → CtS X.K g H0 r H W Dk Dv → t Dv sv H
def SS (X : Cx) (g : Gi) (W : WX) (st : Stmt) (w : WS) : Prop := ∃ t, PS X st t ∧ GoodS X g W t w
def SSs (X : Cx) (g : Gi) (W : WX) (st : List Stmt) (w : WS) : Prop := ∃ t, PSs X st t ∧ GoodS X g W t w
def wNx : WS := fun (D : HG Kd) s S => D.nx s S
def wSeq (a b : WS) : WS := fun (D : HG Kd) s S => a { D with nx := b D } s S
variable {st : Stmt} {rest body : List Stmt} {w w2 : WS}
theorem ss_nil : SSs X g W [] wNx := ⟨_, pss_nil, fun _ _ _ _ _ _ _ _ si rs h ct => ct.1 _ _ _ _ _ _ .refl si rs h⟩
theorem ss_cons (h1 : SS X g W st w) (h2 : SSs X g W rest w2) : SSs X g W (st :: rest) (wSeq w w2) := by
  obtain ⟨t, p, gg⟩ := h1
  obtain ⟨t2, p2, g2⟩ := h2
  refine ⟨_, pss_cons p p2, fun H0 r S H s sv Dk Dv si rs h ct => ?_⟩
  refine gg H0 r S H s sv _ _ si rs h (ct.next fun s1 sv1 H1 r1 S1 H1' f1 s1' rs1 h1 => ?_)
  exact g2 H1 r1 S1 H1' s1 sv1 Dk Dv s1' rs1 h1 (ct.fut f1 s1')
theorem ss_one (h1 : SS X g W st w) : SSs X g W [st] w := by
  obtain ⟨t, p, gg⟩ := h1
  exact ⟨_, pss_one p, gg⟩
/-- statements that are never come to -/
def wNever : WS := fun (_ : HG Kd) _ _ => False
theorem ss_never : SSs X g W body wNever := ⟨_, pss_never, fun _ _ _ _ _ _ _ _ _ _ h _ => h.elim⟩
theorem ss_pass : SS X g W (.Pass pos) wNx := ⟨_, ps_pass, fun _ _ _ _ _ _ _ _ si rs h ct => ct.1 _ _ _ _ _ _ .refl si rs h⟩
theorem ss_doc {x : Str} {j : Nat} {p : Pos} : SS X g W (.Expr (.Constant (.str x) j p) pos) wNx := ⟨_, ps_doc, fun _ _ _ _ _ _ _ _ si rs h ct => ct.1 _ _ _ _ _ _ .refl si rs h⟩
def wDrop (we : WE) : WS := fun (D : HG Kd) s S => we D.xc s S fun _ S1 => D.nx s S1
theorem ss_expr (he : SE X g W e we) (hs : swapsWith e none pos.line X.env = pure false := by rfl) : SS X g W (.Expr e pos) (wDrop we) := by
  obtain ⟨t, p, gg⟩ := he
  refine ⟨_, ps_expr p hs, fun H0 r S H s sv Dk Dv si rs h ct => ?_⟩
  exact gg H0 r S H s sv _ _ _ si rs h (fun d v H1 r1 S1 H1' f1 s1 rl h1 => ct.1 _ _ _ _ _ _ f1 s1 (rs.fut f1) h1) (ct.x rs)
def wRet (we : WE) : WS := fun (D : HG Kd) s S => we D.xc s S D.rt
theorem ss_ret (he : SE X g W e we) : SS X g W (.Return (some e) pos) (wRet we) := by
  obtain ⟨t, p, gg⟩ := he
  exact ⟨_, ps_ret p, fun H0 r S H s sv Dk Dv si rs h ct => gg H0 r S H s sv _ _ _ si rs h ct.2.1 (ct.x rs)⟩
def wRetN : WS := fun (D : HG Kd) _ S => D.rt .non S
theorem ss_retN : SS X g W (.Return none pos) wRetN := ⟨_, ps_retN, fun H0 r S H s sv Dk Dv si rs h ct => ct.2.1 _ _ _ _ _ _ .refl si rel_non' h⟩
def wIf (wt : WT) (w w2 : WS) : WS := fun (D : HG Kd) s S => wt D.xc s S fun b S1 => if b = true then w D s S1 else w2 D s S1
theorem ss_if {orelse : List Stmt} (hc : STt X g W c wt) (ha : SSs X g W body w) (hb : SSs X g W orelse w2) : SS X g W (.If c body orelse pos) (wIf wt w w2) := by
  obtain ⟨tc, pc, gc⟩ := hc
  obtain ⟨ta, pa, ga⟩ := ha
  obtain ⟨tb, pb, gb⟩ := hb
  refine ⟨_, ps_if pc pa pb, fun H0 r S H s sv Dk Dv si rs h ct => ?_⟩
  refine gc H0 r S H s sv _ _ _ si rs h (fun b H1 r1 S1 H1' f1 s1 h1 => ?_) (ct.x rs)
  cases b with
  | true =>
    rw [if_pos rfl] at h1 ⊢
    exact ga H1 r1 S1 H1' s sv Dk Dv s1 (rs.fut f1) h1 (ct.fut f1 s1)
  | false =>
    rw [if_neg Bool.false_ne_true] at h1 ⊢
    exact gb H1 r1 S1 H1' s sv Dk Dv s1 (rs.fut f1) h1 (ct.fut f1 s1)
/-- name = e -/
def wSet (i : Nat) (we : WE) : WS := fun (D : HG Kd) s S => we D.xc s S fun d S1 => D.nx (s.set i (some d)) S1
theorem goodSet {i : Nat} {te : TE} (gg : GoodE X g W te we) : GoodS X g W (tAsg te (gName i)) (wSet i we) := by
  intro H0 r S H s sv Dk Dv si rs h ct
  exact gg H0 r S H s sv _ _ _ si rs h (fun d v H1 r1 S1 H1' f1 s1 rl h1 => ct.1 _ _ _ _ _ _ f1 s1 ((rs.fut f1).set i rl) h1) (ct.x rs)
theorem ss_set (i : Nat) {x : Str} {p : Pos} (hN : X.N.Nodup) (he : SE X g W e we) (hi : X.N[i]? = some x := by rfl) (hx : Loc X.env.scope x := by first | exact Or.inl rfl | exact Or.inr rfl) (hs : swapsWith e (some (.Name x p)) pos.line X.env = pure false := by rfl)
    (hf : X.fn x = true ∨ X.env.scope.names.lookup x = some .local := by first | exact .inl rfl | exact .inr rfl) : SS X g W (.Assign [.Name x p] e pos) (wSet i we) := by
  obtain ⟨t, pe, gg⟩ := he
  exact ⟨_, ps_set hN hi hx pe hs hf, goodSet gg⟩
/-- name = [e for ..] -/
theorem ss_setLc {j i : Nat} {y x : Str} {py p spos : Pos} {elt iter : Expr} {ifs : List Expr} {scope : Scope} {own : List (Str × Nat)} {wi : WI} (hc : X.calm = true) (hN : X.N.Nodup) (hy : X.N[j]? = some y) (hyl : X.env.scope.names.lookup y = some .local)
    (hsw : swapsWith (.ListComp elt [⟨.Name x p, iter, ifs, 0⟩] scope pos) (some (.Name y py)) spos.line X.env = pure true) (hi : SI X g W (.Name x p) iter wi) (ok : BlkOk X.N X.env.scope scope own) (hin : i ∈ own.map (·.2))
    (hg : ∀ (s : Shared) (H : Hp) (C : Addr) (cl : List (Str × Addr)) (fp : List Addr), PG (X.blk s H scope (compEnvC scope cl C X.env) fp) (.Name x p) (gName i))
    (ht : ∀ (s : Shared) (H : Hp) (C : Addr) (cl : List (Str × Addr)) (fp : List Addr), STs (X.blk s H scope (compEnvC scope cl C X.env) fp) g WFls ifs wt)
    (he : ∀ (s : Shared) (H : Hp) (C : Addr) (cl : List (Str × Addr)) (fp : List Addr), SE (X.blk s H scope (compEnvC scope cl C X.env) fp) g WFls elt we) (hs : ∀ x, foldedSetIterable iter X.env x = pure x := by intro _; rfl) :
    SS X g W (.Assign [.Name y py] (.ListComp elt [⟨.Name x p, iter, ifs, 0⟩] scope pos) spos) (wSet j (wLc i (own.map (·.2)) wi wt we)) := by
  obtain ⟨ti, pi, gi⟩ := hi
  refine ⟨_, ps_setLc (te := canE X.K g WFls we) (tt := canT X.K g WFls wt) hc hN hy hyl hsw pi ok hg (fun s H C cl fp => (ht s H C cl fp).pt) (fun s H C cl fp => (he s H C cl fp).pe) hs, goodSet fun H0 r S H s sv Q k xc si rs h ce cx => ?_⟩
  exact lc_good hin gi canT_good canE_good H0 r S H s sv Q k xc si rs h ce cx
/-- o[i] = e, a list -/
def kSto (d : Ab.D) (nx : Sto → Prop) : Ab.D → Ab.D → Sto → Prop := fun (x0 : HG (Ab.D)) x1 x2 => match x0, x1, x2 with
  | .cell n, .int i, S => ∃ xs j, S[n]? = some (.lst xs) ∧ ixN xs.length i = some j ∧ nx (S.set n (.lst (xs.set j d)))
  | _, _, _ => False
def wSto (we wo wa : WE) : WS := fun (D : HG Kd) s S => we D.xc s S fun d S1 => wo D.xc s S1 fun o S2 => wa D.xc s S2 fun y S3 => kSto d (D.nx s) o y S3
theorem ss_sto {p : Pos} (he : SE X g W e we) (ho : SE X g W o wo) (ha : SE X g W a wa)
    (hst : ∀ v, assign (.Subscript o a p) X.env v = (do
      let ov ← holding [v] (eval o X.env)
      let iv ← holding [v, ov] (eval a X.env)
      standAt p
      holding [v, ov, iv] (setItem ov iv v)
      release [v, ov, iv] []) := by intro _; rfl)
    (hs : swapsWithSole [.Subscript o a p] e pos.line X.env = pure false := by rfl) (hw : swappedStores [.Subscript o a p] e X.env = pure none := by rfl)
    (h1 : (assignEach [.Subscript o a p] X.env).map (·.2) = [assign (.Subscript o a p) X.env] := by rfl) : SS X g W (.Assign [.Subscript o a p] e pos) (wSto we wo wa) := by
  obtain ⟨te, pe, ge⟩ := he
  obtain ⟨to, po, go⟩ := ho
  obtain ⟨ta, pa, ga⟩ := ha
  refine ⟨_, ps_asg pe (pg_sub po pa set_list hst) hs hw h1, fun H0 r S H s sv Dk Dv si rs h ct => ?_⟩
  refine ge H0 r S H s sv _ _ _ si rs h (fun d v H1 r1 S1 H1' f1 s1 rl h1 => ?_) (ct.x rs)
  refine go H1 r1 S1 H1' s sv _ _ _ s1 (rs.fut f1) h1 (fun d2 v2 H2 r2 S2 H2' f2 s2 rl2 h2 => ?_) ((ct.fut f1 s1).x (rs.fut f1))
  have f12 := f1.tr s1 f2
  refine ga H2 r2 S2 H2' s sv _ _ _ s2 (rs.fut f12) h2 (fun d3 v3 H3 r3 S3 H3' f3 s3 rl3 h3 => ?_) ((ct.fut f12 s2).x (rs.fut f12))
  have f13 := f12.tr s2 f3
  unfold kSto at h3
  split at h3
  · obtain ⟨xs, j, e1, e2, hk⟩ := h3
    obtain ⟨q, ys, rfl, hr, h0, hp, hx⟩ := cel_lst s3 (rl2.fut f3) e1
    rw [rel_int rl3]
    obtain ⟨s4, f4⟩ := s3.wrLst hr e1 h0 (hx.set j ((rl.fut f2).fut f3))
    exact ⟨q, ys, _, j, rfl, rfl, hp, by rw [hx.length]; exact e2, ct.1 _ _ _ _ _ _ (f13.tr s3 f4) s4 ((rs.fut f13).fut f4) hk⟩
  · exact h3.elim
/-- loops -/
def forW (i : Nat) (w : WS) (D : Kd) (ds : List Ab.D) (gd : Sto → Prop) (s : Env) (S : Sto) : Prop := ∃ P : Nat → Env → Sto → Prop, P 0 s S ∧
  (∀ n x s' S', ds[n]? = some x → P n s' S' → gd S' ∧ w { D with nx := P (n + 1) } (s'.set i (some x)) S') ∧ ∀ s' S', P ds.length s' S' → gd S' ∧ D.nx s' S'
def wFor (i : Nat) (wi : WI) (w : WS) : WS := fun (D : HG Kd) s S => wi D.xc s S fun ds gd S1 => forW i w D ds gd s S1
theorem ss_for (i : Nat) {x : Str} {p : Pos} {iter : Expr} {wi : WI} (hp : PassesOwn (model X.prog X.w) X.A X.env X.xe) (hc : X.calm = true) (hN : X.N.Nodup) (hi : SI X g W (.Name x p) iter wi) (hb : SSs X g W body w)
    (hx : X.N[i]? = some x := by rfl) (hl : Loc X.env.scope x := by first | exact Or.inl rfl | exact Or.inr rfl) (hs : ∀ x, foldedSetIterable iter X.env x = pure x := by intro _; rfl)
    (hf : X.fn x = true ∨ X.env.scope.names.lookup x = some .local := by first | exact .inl rfl | exact .inr rfl) : SS X g W (.For (.Name x p) iter body [] pos) (wFor i wi w) := by
  obtain ⟨ti, pi, gi⟩ := hi
  obtain ⟨tb, pb, gb⟩ := hb
  refine ⟨_, ps_for hp hc pi (pg_name hN hx hl hf) pb hs, fun H0 r S H s sv Dk Dv si rs h ct => ?_⟩
  refine gi H0 r S H s sv _ _ _ si rs h (fun J ds gd H1 r1 S1 H1' f1 s1 it h1 => ?_) (ct.x rs)
  obtain ⟨P, h0, hstep, hend⟩ := h1
  refine ⟨fun n m svn Hn => m = ds.length - n ∧ n ≤ ds.length ∧ ∃ H0n rn Sn sn, Fut H1 r1 H1' H0n rn Hn ∧ Sim X.K g H0n rn Sn Hn ∧ RelSt X.K H0n rn sn svn ∧ P n sn Sn, ⟨ds.length, by simp, Nat.zero_le _, H1, r1, S1, s, .refl, s1, rs.fut f1, h0⟩, ?_⟩
  rintro n m svn Hn ⟨rfl, hn, H0n, rn, Sn, sn, fn, simn, rsn, hP⟩
  have f1n := f1.tr s1 fn
  by_cases hlt : n < ds.length
  · obtain ⟨x, hx⟩ : ∃ x, ds[n]? = some x := ⟨ds[n], List.getElem?_eq_getElem hlt⟩
    obtain ⟨hgd, hbody⟩ := hstep n x sn Sn hx hP
    obtain ⟨hgo, hy⟩ := it.go n H0n rn Sn Hn fn simn hgd hlt
    refine .inr ⟨hgo, fun sv' H' => ∃ H0n rn Sn sn, Fut H1 r1 H1' H0n rn H' ∧ Sim X.K g H0n rn Sn H' ∧ RelSt X.K H0n rn sn sv' ∧ P (n + 1) sn Sn, fun sv' H' hq => ⟨ds.length - (n + 1), by omega, rfl, hlt, hq⟩, fun v H'' hyl => ?_⟩
    obtain ⟨H0y, d, fy, sy, hd, rly⟩ := hy v H'' hyl
    rw [hx] at hd
    cases hd
    have fny := fn.tr simn fy
    refine gb H0y rn Sn H'' _ _ { Dk with nx := P (n + 1) } { nx := _, rt := Dv.rt, bk := Dv.nx, ct := _ } sy ((rsn.fut fy).set i rly) hbody ⟨fun s' sv' H0' r' S' H' f' si' rs' hq => ?_, ((ct.fut f1 s1).fut fny sy).2.1, ((ct.fut f1 s1).fut fny sy).2.2⟩
    exact ⟨H0', r', S', s', fny.tr sy f', si', rs', hq⟩
  · have e : n = ds.length := by omega
    subst e
    obtain ⟨hgd, hk⟩ := hend sn Sn hP
    exact .inl ⟨it.stop H0n rn Sn Hn fn simn hgd, ct.1 _ _ _ _ _ _ f1n simn rsn hk⟩
def wWhile (wt : WT) (w : WS) : WS := fun (D : HG Kd) s S => ∃ P : Nat → Env → Sto → Prop, (∃ m, P m s S) ∧ ∀ m s' S', P m s' S' →
  wt D.xc s' S' fun b S1 => if b = true then w { D with nx := fun s2 S2 => ∃ m', m' < m ∧ P m' s2 S2 } s' S1 else D.nx s' S1
theorem ss_while (hp : PassesOwn (model X.prog X.w) X.A X.env X.xe) (hc : STt X g W c wt) (hb : SSs X g W body w) : SS X g W (.While c body [] pos) (wWhile wt w) := by
  obtain ⟨tc, pc, gc⟩ := hc
  obtain ⟨tb, pb, gb⟩ := hb
  refine ⟨_, ps_while hp pc pb, fun H0 r S H s sv Dk Dv si rs h ct => ?_⟩
  obtain ⟨P, ⟨m0, h0⟩, hstep⟩ := h
  refine ⟨fun m svn Hn => ∃ H0n rn Sn sn, Fut H0 r H H0n rn Hn ∧ Sim X.K g H0n rn Sn Hn ∧ RelSt X.K H0n rn sn svn ∧ P m sn Sn, ⟨m0, H0, r, S, s, .refl, si, rs, h0⟩, ?_⟩
  rintro m svn Hn ⟨H0n, rn, Sn, sn, fn, simn, rsn, hP⟩
  refine gc H0n rn Sn Hn sn svn _ _ _ simn rsn (hstep m sn Sn hP) (fun b H1 r1 S1 H1' f1 s1 h1 => ?_) ((ct.fut fn simn).x rsn)
  have fn1 := fn.tr simn f1
  cases b with
  | true =>
    rw [if_pos rfl] at h1 ⊢
    refine ⟨fun sv' H' => ∃ m', m' < m ∧ ∃ H0n rn Sn sn, Fut H0 r H H0n rn H' ∧ Sim X.K g H0n rn Sn H' ∧ RelSt X.K H0n rn sn sv' ∧ P m' sn Sn, fun sv' H' hq => hq, ?_⟩
    refine gb H1 r1 S1 H1' sn svn { Dk with nx := _ } { nx := _, rt := Dv.rt, bk := Dv.nx, ct := _ } s1 (rsn.fut f1) h1 ⟨fun s' sv' H0' r' S' H' f' si' rs' hq => ?_, (ct.fut fn1 s1).2.1, (ct.fut fn1 s1).2.2⟩
    obtain ⟨m', hm, hq⟩ := hq
    exact ⟨m', hm, H0', r', S', s', fn1.tr s1 f', si', rs', hq⟩
  | false =>
    rw [if_neg Bool.false_ne_true] at h1 ⊢
    exact ct.1 _ _ _ _ _ _ fn1 s1 (rsn.fut f1) h1
/-- raise X('..') -/
def wRaise (x : Str) : WS := fun (D : HG Kd) s S => D.xc x s S
theorem ss_raise {x m : Str} {j : Nat} {p p2 cp : Pos} {bmB : List Value} {B newId initId : String} (hc : X.calm = true) (tk : Takes X W) (F : ExcBaseFacts B newId initId bmB) (q : PySem.W.excIn X.K (g.cl x) bmB newId = true) (gC : X.mg x = some (.ref (g.cl x)))
    (kC : PySem.W.keepIn X.K (.ref (g.cl x)) = true) (rr : Raises X (.ref (g.cl x))) (hg : Gl X x) (hdb : (x == ("__debug__" : Str)) = false := by decide) : SS X g W (.Raise (some (.Call (.Name x p) [.Constant (.str m) j p2] [] cp)) none pos) (wRaise x) := by
  refine ⟨_, ps_raise hc tk (pmk_own F q gC kC rr hg hdb), fun H0 r S H s sv Dk Dv si rs h ct => ?_⟩
  exact ct.2.2 _ _ _ _ _ _ _ .refl si rs h

/-! ### a def by its body -/
def wDef (np n : Nat) (w : WS) : WF := fun (ds : HG (List D)) S k xk => ds.length = np ∧ w ⟨fun _ S' => k .non S', k, fun c _ S' => xk c S'⟩ (ds.map some ++ List.replicate (n - ds.length) none) S
theorem wDef_len {np n : Nat} {w : WS} : ∀ ds S kk xk, wDef np n w ds S kk xk → ds.length = np := fun _ _ _ _ h => h.1
theorem relSt_start {N : List Str} (h : Rels K H0 r ds vs) : RelSt K H0 r (ds.map some ++ List.replicate (N.length - ds.length) none) (L2.start N vs) := by
  unfold L2.start
  refine ⟨by simp [h.length], fun i d e => ?_⟩
  by_cases hi : i < ds.length
  · rw [List.getElem?_append_left (by simpa using hi), List.getElem?_map] at e
    cases q : ds[i]? with
    | none => rw [q] at e; cases e
    | some d' =>
      rw [q] at e
      cases e
      obtain ⟨v, e1, e2⟩ := h.get q
      exact ⟨v, by rw [List.getElem?_append_left (by rw [List.length_map, h.length]; exact hi), List.getElem?_map, e1]; rfl, e2⟩
  · rw [List.getElem?_append_right (by simpa using hi), List.getElem?_replicate] at e
    split at e <;> cases e
theorem fn_ok {P : Program} {w0 : World} {mg : Str → Option Value} {base : Heap} {x qual : Str} {st : Stmt} {f : Addr} {fd : FuncData} {N ps : List Str} {k : Nat} {w : WS} (F : Fun K x qual st f fd) (Sc : FnScope N ps (defScope st))
    (hb : ∀ (cdv : Value) (A : Around) (outer : List PySem.Env) (s : Shared) (H : Hp) (E : XK), Room k (A.deeper (envOfC qual (defScope st) s.heap.objs.size f cdv)) →
      SSs (cxOf (L2.CX P w0) P w0 K mg base N qual (defScope st) f cdv A outer s H E) g (fun cls d _ H => E cls d H) (defBody st) w) :
    FnOk P w0 K mg base (L2.CX P w0) (k + 1) f fd ps (spW K g ps.length (wDef ps.length N.length w)) := by
  refine F.okX Sc (fun vs H Q E h => h.1) fun cdv A outer s H vs Q E hr h => ?_
  obtain ⟨hv, H0, r, S, ds, kk, xk, si, rl, hw, ce, cx⟩ := h
  obtain ⟨t, p, gg⟩ := hb cdv A outer s H E hr
  refine ⟨t, p, ?_⟩
  have hw := hw.2
  refine gg H0 r S H _ _ _ _ si (relSt_start rl) hw ⟨fun s' sv' H0' r' S' H' f' si' rs' h' => ce _ _ _ _ _ _ f' si' rel_non' h', ce, fun c s' sv' H0' r' S' H' f' si' rs' h' => cx _ _ _ _ _ f' si' h'⟩
end
end Ab

namespace Ab
open PySem PySem.Spec PyProof.Rows L2

section
variable {X : Cx} {g : Gi} {W : WX} {a b c e o : Expr} {es : List Expr} {pos cpos apos : Pos} {wa wb wc we wo : WE} {wt wu : WT} {ws : WA}
variable {K : PySem.W.Frag} {H0 H : Hp} {r : List Addr} {S : Sto} {d : D} {v : V} {ds : List D}

/-! ### comprehensions whose list will be changed -/
/-- the accumulating list, apart from all that is told -/
theorem lc_goodC {wi : TI} {w : WI} {i : Nat} {vs : List Nat} {tt : TT} {te : TE} (hi : i ∈ vs) (gi : GoodI X g W wi w)
    (gt : GoodT X g WFls tt wt) (ge : GoodE X g WFls te we) : GoodE X g W (tLc wi (gName i) tt te vs) (wLcC i vs w wt we) := by
  intro H0 r S H s sv Q k xc si rs h ce cx
  refine gi H0 r S H s sv _ _ xc si rs h (fun J ds gd H1 r1 S1 H1' f1 s1 it h1 => ?_) cx
  obtain ⟨hlen, P, h0, hstep, hend⟩ := h1
  intro p hp
  have np : p ∉ r1 := fun z => s1.there p z hp
  have h0p : H1 p = none := s1.ex.none hp
  have rs1 := rs.fut f1
  -- the state at a turn: a future of (H1, r1, H1'), the made list at p, which is neither frozen nor a cell
  refine ⟨fun n m Hn => m = ds.length - n ∧ n ≤ ds.length ∧ ∃ H0n rn Sn acc ys, Fut H1 r1 H1' H0n rn Hn ∧ Sim X.K g H0n rn Sn Hn ∧ H0n p = none ∧ p ∉ rn ∧ Hn p = some (.lst ys) ∧ Rels X.K H0n rn acc ys ∧ acc.length ≤ n ∧ P n acc Sn,
    ⟨ds.length, by simp, Nat.zero_le _, ?_⟩, ?_⟩
  · obtain ⟨s2, f2⟩ := s1.junk (o := .lst []) hp
    exact ⟨H1, r1, S1, [], [], f2, s2, h0p, np, upd_same, .nil, Nat.le_refl _, h0⟩
  · rintro n m Hn ⟨rfl, hn, H0n, rn, Sn, acc, ys, fn, sn, hp0, hpr, hpn, hacc, hal, hP⟩
    by_cases hlt : n < ds.length
    · obtain ⟨x, hx⟩ : ∃ x, ds[n]? = some x := ⟨ds[n], List.getElem?_eq_getElem hlt⟩
      obtain ⟨hgd, hbody⟩ := hstep n x acc Sn hx hal hP
      obtain ⟨hgo, hy⟩ := it.go n H0n rn Sn Hn fn sn hgd hlt
      refine .inr ⟨hgo, fun H' => ∃ H0n rn Sn acc ys, Fut H1 r1 H1' H0n rn H' ∧ Sim X.K g H0n rn Sn H' ∧ H0n p = none ∧ p ∉ rn ∧ H' p = some (.lst ys) ∧ Rels X.K H0n rn acc ys ∧ acc.length ≤ n + 1 ∧ P (n + 1) acc Sn,
        fun H' hq => ⟨ds.length - (n + 1), by omega, rfl, hlt, hq⟩, fun v H'' hyl => ?_⟩
      obtain ⟨H0y, d, fy, sy, hd, rly⟩ := hy v H'' hyl
      rw [hx] at hd
      cases hd
      have hpy : H'' p = some (.lst ys) := fy.keep p _ hpn hpr
      have hp0y : H0y p = none := by
        cases q : H0y p with
        | none => rfl
        | some o =>
          rcases fy.newF p o q hp0 with z | z
          · rw [hpn] at z; cases z
          · exact absurd z hpr
      have fny := fn.tr sn fy
      have accy := hacc.fut fy
      have rsy : RelSt X.K H0y rn ((wipeD s vs).set i (some x)) ((wipe sv vs).set i (some v)) := (relSt_wipe (rs1.fut fny) vs).set i rly
      refine ⟨wipe_set hi _, ?_⟩
      refine gt H0y rn Sn H'' _ _ _ _ noXC sy rsy hbody (fun b H2 r2 S2 H2' f2 s2 h2 => ?_) (fun _ _ _ _ _ _ _ z => z)
      have fn2 := fny.tr sy f2
      have hp2 : H2' p = some (.lst ys) := f2.keep p _ hpy hpr
      have hr2 : p ∉ r2 := fun z => by
        have := f2.newC p z hpr
        rw [hpy] at this; cases this
      have h02 : H2 p = none := by
        cases q : H2 p with
        | none => rfl
        | some o =>
          rcases f2.newF p o q hp0y with z | z
          · rw [hpy] at z; cases z
          · exact absurd z hpr
      cases b with
      | false =>
        rw [if_neg Bool.false_ne_true] at h2 ⊢
        exact ⟨H2, r2, S2, acc, ys, fn2, s2, h02, hr2, hp2, accy.fut f2, by omega, h2⟩
      | true =>
        rw [if_pos rfl] at h2 ⊢
        refine ge H2 r2 S2 H2' _ _ _ _ noXC s2 (rsy.fut f2) h2 (fun d v2 H3 r3 S3 H3' f3 s3 rl3 h3 => ?_) (fun _ _ _ _ _ _ _ z => z)
        have fn3 := fn2.tr s2 f3
        have hp3 : H3' p = some (.lst ys) := f3.keep p _ hp2 hr2
        have hr3 : p ∉ r3 := fun z => by
          have := f3.newC p z hr2
          rw [hp2] at this; cases this
        have h03 : H3 p = none := by
          cases q : H3 p with
          | none => rfl
          | some o =>
            rcases f3.newF p o q h02 with z | z
            · rw [hp2] at z; cases z
            · exact absurd z hr2
        have acc3 := (accy.fut f2).fut f3
        refine ⟨ys, hp3, by rw [acc3.length]; omega, ?_⟩
        -- p is written
        have s4 : Sim X.K g H3 r3 S3 (upd H3' p (.lst (ys ++ [v2]))) := by
          refine ⟨fun a o e => ?_, s3.len, s3.nd, fun a ha => ?_, fun n' a c e1 e2 => ?_⟩
          · have : a ≠ p := fun z => by rw [z, h03] at e; cases e
            rw [upd_ne this]; exact s3.ex a o e
          · have : a ≠ p := fun z => hr3 (z ▸ ha)
            rw [upd_ne this]; exact s3.there a ha
          · have : a ≠ p := fun z => hr3 (z ▸ List.mem_of_getElem? e1)
            exact (s3.cel n' a c e1 e2).mono (Ex.refl _) (List.prefix_refl _) (fun q => q) (upd_ne this)
        have f4 : Fut H1 r1 H1' H3 r3 (upd H3' p (.lst (ys ++ [v2]))) := by
          refine ⟨fn3.ext, fn3.pre, fun a o e na => ?_, fn3.newC, fn3.newF⟩
          have : a ≠ p := fun z => by rw [z, hp] at e; cases e
          rw [upd_ne this]
          exact fn3.keep a o e na
        exact ⟨H3, r3, S3, acc ++ [d], ys ++ [v2], f4, s4, h03, hr3, upd_same, acc3.append (.cons rl3 .nil), by rw [List.length_append, List.length_singleton]; omega, h3⟩
    · have e : n = ds.length := by omega
      subst e
      obtain ⟨hgd, hk⟩ := hend acc Sn hal hP
      refine .inl ⟨it.stop H0n rn Sn Hn fn sn hgd, ?_⟩
      -- the list is frozen now
      refine ce (.cell Sn.length) (.ref p) H0n (rn ++ [p]) (Sn ++ [.lst acc]) Hn (f1.tr s1 ?_) ?_ ?_ hk
      · refine ⟨fn.ext, fn.pre.trans (List.prefix_append _ _), fn.keep, fun a h1 h2 => ?_, fn.newF⟩
        rcases List.mem_append.mp h1 with h1 | h1
        · exact fn.newC a h1 h2
        · rw [List.mem_singleton] at h1
          subst h1
          exact hp
      · refine ⟨sn.ex, by rw [List.length_append, List.length_append, sn.len]; rfl, ?_, fun a ha => ?_, fun n' a c e1 e2 => ?_⟩
        · refine List.nodup_append.mpr ⟨sn.nd, by simp, fun a ha b hb => ?_⟩
          rw [List.mem_singleton] at hb
          subst hb
          exact fun z => hpr (z ▸ ha)
        · rcases List.mem_append.mp ha with ha | ha
          · exact sn.there a ha
          · rw [List.mem_singleton] at ha
            subst ha
            rw [hpn]; intro z; cases z
        · by_cases hn' : n' < rn.length
          · rw [List.getElem?_append_left hn'] at e1
            rw [List.getElem?_append_left (by rw [← sn.len]; exact hn')] at e2
            exact (sn.cel n' a c e1 e2).mono (Ex.refl _) (List.prefix_append _ _) (fun q => q) rfl
          · have hn2 : n' = rn.length := by
              have := (List.getElem?_eq_some_iff.mp e1).1
              rw [List.length_append, List.length_singleton] at this
              omega
            subst hn2
            rw [List.getElem?_append_right (Nat.le_refl _), Nat.sub_self] at e1
            rw [sn.len, List.getElem?_append_right (Nat.le_refl _), Nat.sub_self] at e2
            cases e1
            cases e2
            exact ⟨hp0, ys, hpn, hacc.mono (Ex.refl _) (List.prefix_append _ _)⟩
      · unfold Rel
        exact ⟨p, rfl, by rw [← sn.len, List.getElem?_append_right (Nat.le_refl _), Nat.sub_self]; rfl⟩
theorem se_lcC {elt iter : Expr} {ifs : List Expr} {scope : Scope} {own : List (Str × Nat)} {i : Nat} {x : Str} {wi : WI} {p : Pos} (hc : X.calm = true) (hN : X.N.Nodup) (hi : SI X g W (.Name x p) iter wi) (ok : BlkOk X.N X.env.scope scope own) (hin : i ∈ own.map (·.2))
    (hg : ∀ (s : Shared) (H : Hp) (C : Addr) (cl : List (Str × Addr)) (fp : List Addr), PG (X.blk s H scope (compEnvC scope cl C X.env) fp) (.Name x p) (gName i))
    (ht : ∀ (s : Shared) (H : Hp) (C : Addr) (cl : List (Str × Addr)) (fp : List Addr), STs (X.blk s H scope (compEnvC scope cl C X.env) fp) g WFls ifs wt)
    (he : ∀ (s : Shared) (H : Hp) (C : Addr) (cl : List (Str × Addr)) (fp : List Addr), SE (X.blk s H scope (compEnvC scope cl C X.env) fp) g WFls elt we) (hs : ∀ x, foldedSetIterable iter X.env x = pure x := by intro _; rfl) :
    SE X g W (.ListComp elt [⟨.Name x p, iter, ifs, 0⟩] scope pos) (wLcC i (own.map (·.2)) wi wt we) := by
  obtain ⟨ti, pi, gi⟩ := hi
  refine ⟨_, pe_lc (te := canE X.K g WFls we) (tt := canT X.K g WFls wt) hc hN pi ok hg (fun s H C cl fp => (ht s H C cl fp).pt) (fun s H C cl fp => (he s H C cl fp).pe) hs, fun H0 r S H s sv Q k xc si rs h ce cx => ?_⟩
  exact lc_goodC hin gi canT_good canE_good H0 r S H s sv Q k xc si rs h ce cx

theorem ss_setLcC {j i : Nat} {y x : Str} {py p spos : Pos} {elt iter : Expr} {ifs : List Expr} {scope : Scope} {own : List (Str × Nat)} {wi : WI} (hc : X.calm = true) (hN : X.N.Nodup) (hy : X.N[j]? = some y) (hyl : X.env.scope.names.lookup y = some .local)
    (hsw : swapsWith (.ListComp elt [⟨.Name x p, iter, ifs, 0⟩] scope pos) (some (.Name y py)) spos.line X.env = pure true) (hi : SI X g W (.Name x p) iter wi) (ok : BlkOk X.N X.env.scope scope own) (hin : i ∈ own.map (·.2))
    (hg : ∀ (s : Shared) (H : Hp) (C : Addr) (cl : List (Str × Addr)) (fp : List Addr), PG (X.blk s H scope (compEnvC scope cl C X.env) fp) (.Name x p) (gName i))
    (ht : ∀ (s : Shared) (H : Hp) (C : Addr) (cl : List (Str × Addr)) (fp : List Addr), STs (X.blk s H scope (compEnvC scope cl C X.env) fp) g WFls ifs wt)
    (he : ∀ (s : Shared) (H : Hp) (C : Addr) (cl : List (Str × Addr)) (fp : List Addr), SE (X.blk s H scope (compEnvC scope cl C X.env) fp) g WFls elt we) (hs : ∀ x, foldedSetIterable iter X.env x = pure x := by intro _; rfl) :
    SS X g W (.Assign [.Name y py] (.ListComp elt [⟨.Name x p, iter, ifs, 0⟩] scope pos) spos) (wSet j (wLcC i (own.map (·.2)) wi wt we)) := by
  obtain ⟨ti, pi, gi⟩ := hi
  refine ⟨_, ps_setLc (te := canE X.K g WFls we) (tt := canT X.K g WFls wt) hc hN hy hyl hsw pi ok hg (fun s H C cl fp => (ht s H C cl fp).pt) (fun s H C cl fp => (he s H C cl fp).pe) hs, goodSet fun H0 r S H s sv Q k xc si rs h ce cx => ?_⟩
  exact lc_goodC hin gi canT_good canE_good H0 r S H s sv Q k xc si rs h ce cx

/-! ### what a call leaves of the store -/
mutual
theorem Rel.back {H1 : Hp} {r' : List Addr} (p : r <+: r') : ∀ {d : D} {v u : V}, Rel K H0 r d v → Rel K H1 r' d u → Rel K H1 r d u
  | .non, _, _, _, h => by unfold Rel at h ⊢; exact h
  | .bl _, _, _, _, h => by unfold Rel at h ⊢; exact h
  | .int _, _, _, _, h => by unfold Rel at h ⊢; exact h
  | .str _, _, _, _, h => by unfold Rel at h ⊢; exact h
  | .tup ds, _, _, q, h => by
    unfold Rel at q h ⊢
    obtain ⟨a, xs, rfl, h1, h2⟩ := h
    obtain ⟨b, ys, rfl, q1, q2⟩ := q
    exact ⟨a, xs, rfl, h1, Rels.back p q2 h2⟩
  | .lst ds, _, _, q, h => by
    unfold Rel at q h ⊢
    obtain ⟨a, xs, rfl, h1, h2⟩ := h
    obtain ⟨b, ys, rfl, q1, q2⟩ := q
    exact ⟨a, xs, rfl, h1, Rels.back p q2 h2⟩
  | .scr ds, _, _, q, h => by
    unfold Rel at q h ⊢
    obtain ⟨a, xs, rfl, h1, h2⟩ := h
    obtain ⟨b, ys, rfl, q1, q2⟩ := q
    exact ⟨a, xs, rfl, h1, Rels.back p q2 h2⟩
  | .cell n, _, _, q, h => by
    unfold Rel at q h ⊢
    obtain ⟨a, rfl, h1⟩ := h
    obtain ⟨b, rfl, q1⟩ := q
    have := pre_get p q1
    rw [h1] at this
    cases this
    exact ⟨a, rfl, q1⟩
  | .exn ..,  _, _, _, h => by unfold Rel at h ⊢; exact h
theorem Rels.back {H1 : Hp} {r' : List Addr} (p : r <+: r') : ∀ {ds : List D} {vs us : List V}, Rels K H0 r ds vs → Rels K H1 r' ds us → Rels K H1 r ds us
  | [], _, _, _, h => by rw [h.unnil]; exact Rels.nil
  | d :: ds, _, _, q, h => by
    obtain ⟨y, ys, rfl, h1, h2⟩ := h.uncons
    obtain ⟨z, zs, rfl, q1, q2⟩ := q.uncons
    exact Rels.cons (Rel.back p q1 h1) (Rels.back p q2 h2)
end
theorem RelF.back {H1 : Hp} {r' : List Addr} (p : r <+: r') : ∀ {ds : List (Str × D)} {vs us : List (Str × V)}, RelF K H0 r ds vs → RelF K H1 r' ds us → RelF K H1 r ds us
  | [], _, _, _, h => h
  | (f, d) :: ds, _, _, q, h => by
    obtain ⟨y, ys, rfl, h1, h2⟩ := h
    obtain ⟨z, zs, rfl, q1, q2⟩ := q
    exact ⟨y, ys, rfl, Rel.back p q1 h1, RelF.back p q2 h2⟩
theorem RelK.back {κ : Type} {H1 : Hp} {r' : List Addr} (p : r <+: r') : ∀ {ds : List (κ × D)} {vs us : List (κ × V)}, RelK K H0 r ds vs → RelK K H1 r' ds us → RelK K H1 r ds us
  | [], _, _, _, h => h
  | (f, d) :: ds, _, _, q, h => by
    obtain ⟨y, ys, rfl, h1, h2⟩ := h
    obtain ⟨z, zs, rfl, q1, q2⟩ := q
    exact ⟨y, ys, rfl, Rel.back p q1 h1, RelK.back p q2 h2⟩
theorem CelOk.back {H1 H' : Hp} {r' : List Addr} {p p' : Addr} {c : Cel} (pr : r <+: r') (h : CelOk K g H0 r H p c) (h2 : CelOk K g H1 r' H' p' c) : CelOk K g H1 r H' p' c := by
  cases c with
  | lst ds =>
    obtain ⟨q, xs, h1, h3⟩ := h
    obtain ⟨q2, ys, h4, h5⟩ := h2
    exact ⟨q2, ys, h4, Rels.back pr h3 h5⟩
  | obj C fs =>
    obtain ⟨q, dx, xs, h1, h3⟩ := h
    obtain ⟨q2, dy, ys, h4, h5⟩ := h2
    exact ⟨q2, dy, ys, h4, RelF.back pr h3 h5⟩
  | dk kvs =>
    obtain ⟨q, xs, h1, h3⟩ := h
    obtain ⟨q2, ys, h4, h5⟩ := h2
    exact ⟨q2, ys, h4, RelK.back pr h3 h5⟩
  | dt kvs =>
    obtain ⟨q, xs, h1, h3⟩ := h
    obtain ⟨q2, ys, h4, h5⟩ := h2
    exact ⟨q2, ys, h4, RelK.back pr h3 h5⟩
  | dkf o xs kvs =>
    obtain ⟨q, h1, h3⟩ := h
    obtain ⟨q2, h4, h5⟩ := h2
    exact ⟨q2, h4, RelK.back pr h3 h5⟩
  | dtf o xs kvs =>
    obtain ⟨q, h1, h3⟩ := h
    obtain ⟨q2, h4, h5⟩ := h2
    exact ⟨q2, h4, RelK.back pr h3 h5⟩
  | tab P q => exact h2
  | dead => trivial
theorem take_get {α : Type} {l l' : List α} (h : l'.take l.length = l) {n : Nat} (hn : n < l.length) : l'[n]? = l[n]? := by
  rw [← h, List.getElem?_take_of_lt hn]
theorem pre_back {α : Type} {l l' : List α} (h : l <+: l') {n : Nat} (hn : n < l.length) : l'[n]? = l[n]? := by
  obtain ⟨t, rfl⟩ := h
  exact List.getElem?_append_left hn
/-- the cells of the callee are forgotten -/
theorem Sim.trim {H0' H' : Hp} {r' : List Addr} {S' : Sto} (si : Sim K g H0 r S H) (f : Fut H0 r H H0' r' H') (s : Sim K g H0' r' S' H') (hS : S'.take S.length = S) : Sim K g H0' r S H' ∧ Fut H0 r H H0' r H' := by
  refine ⟨⟨s.ex, si.len, si.nd, s.therePre f.pre, fun n a c e1 e2 => ?_⟩, ⟨f.ext, List.prefix_refl _, f.keep, fun a h1 h2 => absurd h1 h2, f.newF⟩⟩
  have hn : n < r.length := (List.getElem?_eq_some_iff.mp e1).1
  exact CelOk.back f.pre (si.cel n a c e1 e2) (s.cel n a c ((pre_back f.pre hn).trans e1) ((take_get hS (by rw [← si.len]; exact hn)).trans e2))
/-- .. but for one list that is handed back -/
theorem Sim.trimC {H0' H' : Hp} {r' : List Addr} {S' : Sto} {m : Nat} {xs : List D} {v : V} (si : Sim K g H0 r S H) (f : Fut H0 r H H0' r' H') (s : Sim K g H0' r' S' H') (hS : S'.take S.length = S) (hm : S.length ≤ m) (e : S'[m]? = some (.lst xs)) (px : pureAll xs = true) (rl : Rel K H0' r' (.cell m) v) :
    ∃ p, Sim K g H0' (r ++ [p]) (S ++ [.lst xs]) H' ∧ Fut H0 r H H0' (r ++ [p]) H' ∧ Rel K H0' (r ++ [p]) (.cell S.length) v := by
  unfold Rel at rl
  obtain ⟨p, rfl, hr⟩ := rl
  obtain ⟨s2, f2⟩ := si.trim f s hS
  obtain ⟨h0, ys, hp, hx⟩ := s.cel m p _ hr e
  have pn : p ∉ r := fun z => by
    obtain ⟨i, hi⟩ := List.mem_iff_getElem?.mp z
    have hi' : i < r.length := (List.getElem?_eq_some_iff.mp hi).1
    have := nd_ix s.nd ((pre_back f.pre hi').trans hi) hr
    rw [si.len] at hi'
    omega
  refine ⟨p, ⟨s2.ex, by rw [List.length_append, List.length_append, si.len]; rfl, ?_, fun a ha => ?_, fun n a c e1 e2 => ?_⟩, ⟨f.ext, List.prefix_append _ _, f.keep, fun a h1 h2 => ?_, f.newF⟩, ?_⟩
  · refine List.nodup_append.mpr ⟨si.nd, by simp, fun a ha b hb => ?_⟩
    rw [List.mem_singleton] at hb
    subst hb
    exact fun z => pn (z ▸ ha)
  · rcases List.mem_append.mp ha with ha | ha
    · exact s2.there a ha
    · rw [List.mem_singleton] at ha
      subst ha
      rw [hp]; intro z; cases z
  · by_cases hn : n < r.length
    · rw [List.getElem?_append_left hn] at e1
      rw [List.getElem?_append_left (by rw [← si.len]; exact hn)] at e2
      exact (s2.cel n a c e1 e2).mono (Ex.refl _) (List.prefix_append _ _) (fun q => q) rfl
    · have hn2 : n = r.length := by
        have := (List.getElem?_eq_some_iff.mp e1).1
        rw [List.length_append, List.length_singleton] at this
        omega
      subst hn2
      rw [List.getElem?_append_right (Nat.le_refl _), Nat.sub_self] at e1
      rw [si.len, List.getElem?_append_right (Nat.le_refl _), Nat.sub_self] at e2
      cases e1
      cases e2
      exact ⟨h0, ys, hp, Rels.of_pure px hx⟩
  · rcases List.mem_append.mp h1 with h1 | h1
    · exact absurd h1 h2
    · rw [List.mem_singleton] at h1
      subst h1
      exact f.newC a (List.mem_of_getElem? hr) pn
  · unfold Rel
    exact ⟨p, rfl, by rw [← si.len, List.getElem?_append_right (Nat.le_refl _), Nat.sub_self]; rfl⟩
def wTrim (wf : WF) : WF := fun (ds : HG (List D)) S k xk => wf ds S (fun d S' => d.pure = true ∧ S'.take S.length = S ∧ k d S) (fun c S' => S'.take S.length = S ∧ xk c S)
def wTrimC (wf : WF) : WF := fun (ds : HG (List D)) S k xk => wf ds S (fun d S' => ∃ m xs, d = .cell m ∧ S.length ≤ m ∧ S'[m]? = some (.lst xs) ∧ pureAll xs = true ∧ S'.take S.length = S ∧ k (.cell S.length) (S ++ [.lst xs])) (fun c S' => S'.take S.length = S ∧ xk c S)
theorem fn_trim {P : Program} {w0 : World} {mg : Str → Option Value} {base : Heap} {CX : CXT} {k np : Nat} {f : Addr} {fd : FuncData} {ps : List Str} {wf : WF} (F : FnOk P w0 K mg base CX k f fd ps (spW K g np wf)) : FnOk P w0 K mg base CX k f fd ps (spW K g np (wTrim wf)) :=
  F.imp fun vs H Q E ⟨hv, H0, r, S, ds, kk, xk, si, rl, hw, ce, cx⟩ => ⟨hv, H0, r, S, ds, _, _, si, rl, hw, fun d v H0' r' S' H' f s rv ⟨hp, hS, hk⟩ =>
    let ⟨s2, f2⟩ := si.trim f s hS
    ce d v H0' r S H' f2 s2 (Rel.of_pure hp rv) hk, fun c H0' r' S' H' f s ⟨hS, hk⟩ =>
    let ⟨s2, f2⟩ := si.trim f s hS
    cx c H0' r S H' f2 s2 hk⟩
theorem fn_trimC {P : Program} {w0 : World} {mg : Str → Option Value} {base : Heap} {CX : CXT} {k np : Nat} {f : Addr} {fd : FuncData} {ps : List Str} {wf : WF} (F : FnOk P w0 K mg base CX k f fd ps (spW K g np wf)) : FnOk P w0 K mg base CX k f fd ps (spW K g np (wTrimC wf)) :=
  F.imp fun vs H Q E ⟨hv, H0, r, S, ds, kk, xk, si, rl, hw, ce, cx⟩ => ⟨hv, H0, r, S, ds, _, _, si, rl, hw, fun d v H0' r' S' H' f s rv ⟨m, xs, ed, hm, em, px, hS, hk⟩ => by
    subst ed
    obtain ⟨p, s2, f2, rl2⟩ := si.trimC f s hS hm em px rv
    exact ce _ v H0' _ _ H' f2 s2 rl2 hk, fun c H0' r' S' H' f s ⟨hS, hk⟩ =>
    let ⟨s2, f2⟩ := si.trim f s hS
    cx c H0' r S H' f2 s2 hk⟩

/-! ### the law's own end -/
theorem law_sp {wf : WF} {ns : List Int} {p : Addr} (hS : SqL K H p (ns.map V.int)) (h : wf [.scr (ns.map .int)] [] (fun d _ => d = .bl true) fun _ _ => False) : spW K g 1 wf [.ref p] H (fun v _ => v = .bl true) fun _ _ _ => False := by
  refine ⟨rfl, H, [], [], _, _, _, ⟨Ex.refl _, rfl, .nil, (fun _ z => nomatch z), (fun n a c e _ => by simp at e)⟩, .cons ?_ .nil, h, fun d v H0' r' S' H' _ _ rl e => ?_, fun _ _ _ _ _ _ _ z => z⟩
  · unfold Rel
    exact ⟨p, _, rfl, hS, Rels.ints.mpr rfl⟩
  · subst e
    exact rel_bl rl
theorem law_cx {P : Program} {w0 : World} (H : Hp) (s : Shared) (e : Value) (s' : Shared) (h : L2.CX P w0 [] H s (fun _ _ _ => False) e s') : False := by
  obtain ⟨_, _, _, _, _, _, _, _, _, _, _, _, z⟩ := h
  exact z
end
end Ab

namespace Ab
open PySem PySem.Spec PyProof.Rows L2
/-- what the law's def promises -/
def spLaw (K : PySem.W.Frag) : Sp := fun vs H Q _ => ∃ (p : Addr) (ns : List Int), vs = [.ref p] ∧ SqL K H p (ns.map V.int) ∧ ns.length ≤ 63 ∧ (∀ z ∈ ns, Builtin.Int.intBits z ≤ 1048576) ∧ ∀ H', Q (.bl true) H'
theorem law_imp {P : Program} {w0 : World} {K : PySem.W.Frag} {g : Gi} {mg : Str → Option Value} {base : Heap} {CX : CXT} {k : Nat} {f : Addr} {fd : FuncData} {ps : List Str} {wf : WF} (F : FnOk P w0 K mg base CX k f fd ps (spW K g 1 wf))
    (h : ∀ ns : List Int, ns.length ≤ 63 → (∀ z ∈ ns, Builtin.Int.intBits z ≤ 1048576) → wf [.scr (ns.map .int)] [] (fun d _ => d = .bl true) fun _ _ => False) : FnOk P w0 K mg base CX k f fd ps (spLaw K) :=
  F.imp fun vs H Q E ⟨p, ns, ev, hS, hl, hb, q⟩ => by
    subst ev
    refine ⟨rfl, H, [], [], _, _, _, ⟨Ex.refl _, rfl, .nil, (fun _ z => nomatch z), (fun n a c e _ => by simp at e)⟩, .cons ?_ .nil, h ns hl hb, fun d v H0' r' S' H' _ _ rl e => ?_, fun _ _ _ _ _ _ _ z => z.elim⟩
    · unfold Rel
      exact ⟨p, _, rfl, hS, Rels.ints.mpr rfl⟩
    · subst e
      rw [rel_bl rl]
      exact q H'
theorem law_walk {l : PySem.W.OpenLaw} {k : Nat} {q : Program} {loose : List Str} {XP : (Str → Option Value) → Heap → Prop} {YP : World → Heap → Prop} {d : DefRec} {K : Params → PySem.W.Frag} {wf : WF}
    (hn : l.most = some 63) (hdf : d.params.defaults = []) (hr : Room k callerA) (hY : ∀ (w : World) (h : Heap), YP w h → (K w.params).In h)
    (F : ∀ (w : World) (mg : Str → Option Value) (fa : Addr) (h : Heap), (K w.params).In h → h.Ns mainGlobals mg → mg d.name = some (.ref fa) →
      ∃ (fd : FuncData) (g : Gi), (∀ (s : Shared) (u : Value), BindsTo s fd ⟨[u], []⟩ [("script", u)]) ∧
        ∀ base : Heap, (K w.params).In base → base.Ns mainGlobals mg → FnOk l.prog w (K w.params) mg base (L2.CX l.prog w) k fa fd ["script"] (spW (K w.params) g 1 wf))
    (h : ∀ ns : List Int, ns.length ≤ 63 → (∀ z ∈ ns, Builtin.Int.intBits z ≤ 1048576) → wf [.scr (ns.map .int)] [] (fun d _ => d = .bl true) fun _ _ => False) :
    PySem.W.WalkO q loose XP YP l.row.toRowW d [] (fun f vs => PySem.call f vs) :=
  walk_ofB (K := K) (n := 63) (k := k) (x := "script") (CX := fun w => L2.CX l.prog w) (sp := fun w => spLaw (K w.params)) hn (by decide) hdf hr hY
    (fun w mg fa h' KX G hm => by
      obtain ⟨fd, g, hb, hF⟩ := F w mg fa h' KX G hm
      exact ⟨fd, hb, fun base kb nb => law_imp (hF base kb nb) h⟩)
    (fun w H a ns hl hb _ hS => ⟨a, ns, rfl, hS, hl, hb, fun _ => rfl⟩) (fun w H s e s' h => law_cx H s e s' h)
end Ab

namespace Ab
open PySem
/-! ### loops and comprehensions, as one uses them -/
theorem while_inv {wt : WT} {w : WS} {Dk : Kd} {s : Env} {S : Sto} (P : Nat → Env → Sto → Prop) (m0 : Nat) (h0 : P m0 s S)
    (hs : ∀ m s' S', P m s' S' → ∀ nx : Env → Sto → Prop, (∀ m' s2 S2, m' < m → P m' s2 S2 → nx s2 S2) → wt Dk.xc s' S' fun b S1 => if b = true then w { Dk with nx := nx } s' S1 else Dk.nx s' S1) : wWhile wt w Dk s S :=
  ⟨P, ⟨m0, h0⟩, fun m s' S' h => hs m s' S' h _ fun m' s2 S2 hm hp => ⟨m', hm, hp⟩⟩
theorem for_inv {i : Nat} {w : WS} {Dk : Kd} {ds : List D} {gd : Sto → Prop} {s : Env} {S : Sto} (P : Nat → Env → Sto → Prop) (h0 : P 0 s S)
    (hs : ∀ n x s' S', ds[n]? = some x → P n s' S' → gd S' ∧ ∀ nx : Env → Sto → Prop, (∀ s2 S2, P (n + 1) s2 S2 → nx s2 S2) → w { Dk with nx := nx } (s'.set i (some x)) S')
    (hd : ∀ s' S', P ds.length s' S' → gd S' ∧ Dk.nx s' S') : forW i w Dk ds gd s S :=
  ⟨P, h0, fun n x s' S' hx hp => ⟨(hs n x s' S' hx hp).1, (hs n x s' S' hx hp).2 _ fun _ _ h => h⟩, hd⟩
/-- the store stays as it is -/
theorem lc_filter {i : Nat} {vs : List Nat} {wt : WT} {we : WE} {ds : List D} {gd : Sto → Prop} {s : Env} {S : Sto} {fin : List D → Sto → Prop} (p : D → Bool) (f : D → D) (hl : ds.length < sizeLine) (hg : gd S)
    (ht : ∀ x ∈ ds, ∀ k : Bool → Sto → Prop, k (p x) S → wt noXC ((wipeD s vs).set i (some x)) S k)
    (he : ∀ x ∈ ds, p x = true → ∀ k : KD, k (f x) S → we noXC ((wipeD s vs).set i (some x)) S k) (hf : fin ((ds.filter p).map f) S) : lcW i vs wt we ds gd s S fin := by
  refine ⟨hl, fun n acc S2 => S2 = S ∧ acc = ((ds.take n).filter p).map f, ⟨rfl, by simp⟩, ?_, ?_⟩
  · rintro n x acc S2 hx - ⟨rfl, rfl⟩
    have hm := List.mem_of_getElem? hx
    refine ⟨hg, ht x hm _ ?_⟩
    cases hp : p x with
    | true =>
      rw [if_pos rfl]
      refine he x hm hp _ ⟨rfl, ?_⟩
      simp [List.take_add_one, hx, List.filter_append, hp]
    | false =>
      rw [if_neg Bool.false_ne_true]
      refine ⟨rfl, ?_⟩
      simp [List.take_add_one, hx, List.filter_append, hp]
  · rintro acc S2 - ⟨rfl, rfl⟩
    rw [List.take_length]
    exact ⟨hg, hf⟩
theorem lc_map {i : Nat} {vs : List Nat} {we : WE} {ds : List D} {gd : Sto → Prop} {s : Env} {S : Sto} {fin : List D → Sto → Prop} (f : D → D) (hl : ds.length < sizeLine) (hg : gd S)
    (he : ∀ x ∈ ds, ∀ k : KD, k (f x) S → we noXC ((wipeD s vs).set i (some x)) S k) (hf : fin (ds.map f) S) : lcW i vs wYes we ds gd s S fin :=
  lc_filter (fun _ => true) f hl hg (fun _ _ _ h => h) (fun x hx _ => he x hx) (by
    have : ds.filter (fun _ => true) = ds := by simp
    rw [this]; exact hf)
end Ab

namespace Ab
open PySem
/-! ### steps -/
theorem seq_e {a b : WS} {Dk : Kd} {s : Env} {S : Sto} (h : a { Dk with nx := b Dk } s S) : wSeq a b Dk s S := h
theorem seq_i {a b : WS} {Dk : Kd} {s : Env} {S : Sto} (h : ∀ R : Env → Sto → Prop, (∀ s' S', b Dk s' S' → R s' S') → a { Dk with nx := R } s S) : wSeq a b Dk s S := h _ fun _ _ h => h
/-- what holds between two statements -/
theorem seq_cut {a b : WS} {Dk : Kd} {s : Env} {S : Sto} (M : Env → Sto → Prop) (h1 : ∀ R : Env → Sto → Prop, (∀ s' S', M s' S' → R s' S') → a { Dk with nx := R } s S) (h2 : ∀ s' S', M s' S' → b Dk s' S') : wSeq a b Dk s S := h1 _ h2
/-! ### what the readings are, on data that are known -/
section
variable {S : Sto} {k : KD} {a b : Int} {x y : Str} {p q : Bool} {xs ys : List D} {n : Nat} {d e : D}
theorem addW_ii : addW (.int a) (.int b) S k = k (.int (a + b)) S := id rfl
theorem addW_ss : addW (.str x) (.str y) S k = (x.length + y.length ≤ sizeLine ∧ k (.str (x ++ y)) S) := id rfl
theorem addW_tt : addW (.tup xs) (.tup ys) S k = (xs ≠ [] ∧ xs.length + ys.length ≤ sizeLine ∧ k (.tup (xs ++ ys)) S) := id rfl
theorem addW_ll : addW (.lst xs) (.lst ys) S k = (xs.length + ys.length ≤ sizeLine ∧ k (.lst (xs ++ ys)) S) := by
  show (∃ a b, some xs = some a ∧ some ys = some b ∧ a.length + b.length ≤ sizeLine ∧ k (.lst (a ++ b)) S) = _
  simp
theorem addW_cl : addW (.cell n) (.lst ys) S k = ∃ xs, rview S (.cell n) = some xs ∧ xs.length + ys.length ≤ sizeLine ∧ k (.lst (xs ++ ys)) S := by
  show (∃ a b, rview S (.cell n) = some a ∧ some ys = some b ∧ a.length + b.length ≤ sizeLine ∧ k (.lst (a ++ b)) S) = _
  simp
theorem addW_lc : addW (.lst xs) (.cell n) S k = ∃ ys, rview S (.cell n) = some ys ∧ xs.length + ys.length ≤ sizeLine ∧ k (.lst (xs ++ ys)) S := by
  show (∃ a b, some xs = some a ∧ rview S (.cell n) = some b ∧ a.length + b.length ≤ sizeLine ∧ k (.lst (a ++ b)) S) = _
  simp
theorem iiW_ii {C : Int → Int → Prop} {f : Int → Int → D} : iiW C f (.int a) (.int b) S k = (C a b ∧ k (f a b) S) := id rfl
theorem ii0_ii {f : Int → Int → D} : ii0 f (.int a) (.int b) S k = k (f a b) S := id rfl
theorem kNeg_i : kNeg k (.int a) S = k (.int (-a)) S := id rfl
theorem eqW_ii : eqW (.int a) (.int b) S k = k (.bl (decide (a = b))) S := id rfl
theorem eqW_bb : eqW (.bl p) (.bl q) S k = k (.bl (decide (p = q))) S := id rfl
theorem eqW_ss : eqW (.str x) (.str y) S k = k (.bl (decide (x = y))) S := id rfl
theorem eqW_nn : eqW .non .non S k = k (.bl true) S := id rfl
theorem eqW_ni : eqW .non (.int a) S k = k (.bl false) S := id rfl
theorem eqW_in : eqW (.int a) .non S k = k (.bl false) S := id rfl
/-- == of data without cells -/
theorem eqW_of {x y : D} (h1 : x.pure = true) (h2 : y.pure = true) (o1 : okEq 9 x = true) (o2 : okEq 9 y = true) (h : k (.bl (x.eqv y)) S) : eqW x y S k := by
  unfold eqW
  split
  all_goals first
    | exact ⟨_, _, .pure h1, .pure h2, o1, o2, h⟩
    | (have e : ∀ {u v : Bool}, u = v → k (.bl u) S → k (.bl v) S := fun e h => e ▸ h
       refine e ?_ h
       unfold D.eqv D.py PyData.eqv
       first | rfl | (rw [Bool.beq_eq_decide_eq]) | simp)
theorem kNot_b : kNot k (.bl p) S = k (.bl (!p)) S := id rfl
theorem kBl_b {k : Bool → Sto → Prop} : kBl k (.bl p) S = k p S := id rfl
theorem kOpt_s : kOpt (some d) S k = k d S := id rfl
theorem ixW_i : ixW d (.int a) S k = ∃ e, ixD S d a = some e ∧ k e S := by
  cases d <;> rfl
theorem ixD_t {i : Int} : ixD S (.tup xs) i = L2.atI xs i := id rfl
theorem ixD_l {i : Int} : ixD S (.lst xs) i = L2.atI xs i := id rfl
theorem ixD_r {i : Int} : ixD S (.scr xs) i = L2.atI xs i := id rfl
theorem ixD_c {i : Int} : ixD S (.cell n) i = (lview S (.cell n)).bind fun xs => L2.atI xs i := id rfl
theorem isNW_nn {g : Bool} : isNW g .non .non S k = k (.bl (!g)) S := id rfl
theorem isNW_i {g : Bool} : isNW g (.int a) .non S k = k (.bl g) S := id rfl
theorem isNW_t {g : Bool} : isNW g (.tup xs) .non S k = k (.bl g) S := id rfl
theorem isNW_l {g : Bool} : isNW g (.lst xs) .non S k = k (.bl g) S := id rfl
theorem kSoP_i {k : Option Int → Sto → Prop} : kSoP k (.int a) S = k (some a) S := id rfl
theorem slW_t {lo hi : Option Int} : slW (.tup xs) lo hi S k = (¬ (HT.sIx xs.length 0 lo = 0 ∧ HT.sIx xs.length xs.length hi = xs.length) ∧ k (.tup (cutD xs lo hi)) S) := id rfl
theorem slW_l {lo hi : Option Int} : slW (.lst xs) lo hi S k = k (.lst (cutD xs lo hi)) S := by
  show (∃ zs, some xs = some zs ∧ k (.lst (cutD zs lo hi)) S) = _
  simp
theorem slW_r {lo hi : Option Int} : slW (.scr xs) lo hi S k = k (.lst (cutD xs lo hi)) S := by
  show (∃ zs, some xs = some zs ∧ k (.lst (cutD zs lo hi)) S) = _
  simp
theorem slW_c {lo hi : Option Int} : slW (.cell n) lo hi S k = ∃ zs, lview S (.cell n) = some zs ∧ k (.lst (cutD zs lo hi)) S := id rfl
theorem frzW_c : frzW (.cell n) S k = frzC S[n]? n S k := id rfl
theorem frzW_i : frzW (.int a) S k = k (.int a) S := id rfl
theorem frzW_b : frzW (.bl p) S k = k (.bl p) S := id rfl
theorem frzW_n : frzW .non S k = k .non S := id rfl
theorem frzW_s : frzW (.str x) S k = k (.str x) S := id rfl
theorem frzW_t : frzW (.tup xs) S k = k (.tup xs) S := id rfl
theorem frzW_l : frzW (.lst xs) S k = k (.lst xs) S := id rfl
theorem frzC_s : frzC (some (.lst xs)) n S k = k (.lst xs) (S.set n .dead) := id rfl
theorem lenF_s : lenF [.str x] S k = (x.length ≤ sizeLine ∧ k (.int x.length) S) := id rfl
theorem lenF_l : lenF [.lst xs] S k = k (.int xs.length) S := by
  show (∃ zs, some xs = some zs ∧ k (.int zs.length) S) = _
  simp
theorem lenF_r : lenF [.scr xs] S k = k (.int xs.length) S := by
  show (∃ zs, some xs = some zs ∧ k (.int zs.length) S) = _
  simp
theorem lenF_t : lenF [.tup xs] S k = k (.int xs.length) S := by
  show (∃ zs, some xs = some zs ∧ k (.int zs.length) S) = _
  simp
theorem lenF_c : lenF [.cell n] S k = ∃ zs, lview S (.cell n) = some zs ∧ k (.int zs.length) S := id rfl
theorem absF_i : absF [.int a] S k = k (.int (if a < 0 then -a else a)) S := id rfl
theorem maxF_ii : maxF [.int a, .int b] S k = k (.int (if b > a then b else a)) S := id rfl
theorem minF_ii : minF [.int a, .int b] S k = k (.int (if b < a then b else a)) S := id rfl
theorem maxF_1 : maxF [d] S k = ∃ ns : List Int, isInts S d ns ∧ 0 < ns.length ∧ ∀ m, m ∈ ns → (∀ y, y ∈ ns → y ≤ m) → k (.int m) S := by
  cases d <;> rfl
theorem minF_1 : minF [d] S k = ∃ ns : List Int, isInts S d ns ∧ 0 < ns.length ∧ ∀ m, m ∈ ns → (∀ y, y ∈ ns → m ≤ y) → k (.int m) S := by
  cases d <;> rfl
theorem sumF_1 : sumF [d] S k = ∃ ns : List Int, isInts S d ns ∧ k (.int ns.sum) S := id rfl
theorem allF_1 : allF [d] S k = ∃ bs : List Bool, lview S d = some (bs.map .bl) ∧ k (.bl (bs.all id)) S := id rfl
theorem sortedF_1 : sortedF [d] S k = ∃ ns : List Int, isInts S d ns ∧ ∀ ms : List Int, ms.Perm ns → ms.Pairwise (· ≤ ·) → k (.lst (ms.map .int)) S := id rfl
theorem listF_1 : listF [d] S k = ∃ xs, sview S d = some xs ∧ k (.lst xs) S := id rfl
theorem listFC_1 : listFC [d] S k = ∃ xs, sview S d = some xs ∧ k (.cell S.length) (S ++ [.lst xs]) := id rfl
theorem tupleF_1 : tupleF [d] S k = ∃ xs, sview S d = some xs ∧ k (.tup xs) S := id rfl
theorem intF_i : intF [.int a] S k = k (.int a) S := id rfl
theorem intF_b : intF [.bl p] S k = k (.int (if p then 1 else 0)) S := id rfl
theorem appF_c : appF (.cell n) [d] S k = ∃ xs, S[n]? = some (.lst xs) ∧ xs.length < sizeLine ∧ k .non (S.set n (.lst (xs ++ [d]))) := id rfl
theorem popF_c : popF (.cell n) [] S k = ∃ xs y, S[n]? = some (.lst xs) ∧ xs[xs.length - 1]? = some y ∧ k y (S.set n (.lst xs.dropLast)) := id rfl
theorem kSto_c {nx : Sto → Prop} : kSto d nx (.cell n) (.int a) S = ∃ xs j, S[n]? = some (.lst xs) ∧ L2.ixN xs.length a = some j ∧ nx (S.set n (.lst (xs.set j d))) := id rfl
theorem kRng1_i {k : List D → (Sto → Prop) → Sto → Prop} : kRng1 k [.int a] S = (-(2 ^ 62) ≤ a ∧ a < 2 ^ 62 ∧ k (rngD 0 a.toNat) (fun _ => True) S) := id rfl
theorem kRng2_i {k : List D → (Sto → Prop) → Sto → Prop} : kRng2 k [.int a, .int b] S = ((-(2 ^ 62) ≤ a ∧ a < 2 ^ 62 ∧ -(2 ^ 62) ≤ b ∧ b < 2 ^ 62) ∧ k (rngD a (b - a).toNat) (fun _ => True) S) := id rfl
theorem lview_l : lview S (.lst xs) = some xs := id rfl
theorem lview_r : lview S (.scr xs) = some xs := id rfl
theorem lview_c (h : S[n]? = some (.lst xs)) : lview S (.cell n) = some xs := by
  show (match S[n]? with | some (.lst xs) => some xs | _ => none) = some xs
  rw [h]
theorem rview_c (h : S[n]? = some (.lst xs)) : rview S (.cell n) = some xs := by
  show (match S[n]? with | some (.lst xs) => some xs | _ => none) = some xs
  rw [h]
theorem sview_c : sview S (.cell n) = lview S (.cell n) := id rfl
theorem sview_l : sview S (.lst xs) = some xs := id rfl
theorem sview_r : sview S (.scr xs) = some xs := id rfl
theorem sview_t : sview S (.tup xs) = some xs := id rfl
theorem tview_t : tview (.tup xs) = some xs := id rfl
theorem gdOf_l : gdOf S (.lst xs) = fun _ => True := id rfl
theorem gdOf_r : gdOf S (.scr xs) = fun _ => True := id rfl
theorem gdOf_t : gdOf S (.tup xs) = fun _ => True := id rfl
theorem gdOf_c : gdOf S (.cell n) = fun S' => S'[n]? = S[n]? := id rfl
theorem isiD_i {t : Ty} : isiD S t (.int a) = some (decide (t = .int)) := id rfl
theorem isiD_b {t : Ty} : isiD S t (.bl p) = some (decide (t = .int) || decide (t = .bool)) := id rfl
theorem isiD_n {t : Ty} : isiD S t .non = some false := id rfl
theorem isiD_s {t : Ty} : isiD S t (.str x) = some (decide (t = .str)) := id rfl
theorem isiD_t {t : Ty} : isiD S t (.tup xs) = some (decide (t = .tuple)) := id rfl
theorem isiD_l {t : Ty} : isiD S t (.lst xs) = some (decide (t = .list)) := id rfl
theorem isiD_c {t : Ty} (h : S[n]? = some (.lst xs)) : isiD S t (.cell n) = some (decide (t = .list)) := by
  show (match S[n]? with | some (.lst _) => some (decide (t = Ty.list)) | some (.dk _) => some false | _ => none) = _
  rw [h]
end
/-! ### numbers -/
theorem fmod_pos {a b : Int} (h : 0 < b) : a.fmod b = a % b := Int.fmod_eq_emod_of_nonneg a (by omega)
theorem fdiv_pos {a b : Int} (h : 0 < b) : a.fdiv b = a / b := Int.fdiv_eq_ediv_of_nonneg a (by omega)
theorem log2_mono {a b : Nat} (h : a ≤ b) : a.log2 ≤ b.log2 := by
  rcases Nat.eq_zero_or_pos a with h0 | h0
  · subst h0; exact Nat.zero_le _
  · refine (Nat.le_log2 (by omega)).mpr (Nat.le_trans ?_ h)
    exact Nat.log2_self_le (by omega)
theorem bits_le {a : Int} {n : Nat} (h : a.natAbs ≤ n) : Builtin.Int.intBits a ≤ n.log2 + 1 := by
  unfold Builtin.Int.intBits
  split
  · omega
  · have := log2_mono h
    omega
theorem mul_bits {a b : Int} (h : Builtin.Int.intBits a + Builtin.Int.intBits b ≤ 134217728) : IntMulOk a b := by
  unfold IntMulOk
  intro z
  rw [Bool.and_eq_true] at z
  have z2 := z.2
  unfold Builtin.Int.intTooBig at z2
  have z3 := of_decide_eq_true z2
  rw [bitsLine_eq] at z3
  omega
/-- both factors at most n -/
theorem mul_bd (n : Nat) {a b : Int} (ha : a.natAbs ≤ n) (hb : b.natAbs ≤ n) (hn : n.log2 < 60000000) : IntMulOk a b := by
  have h1 := bits_le ha
  have h2 := bits_le hb
  exact mul_bits (by omega)
/-- one factor small -/
theorem mul_l {a b : Int} (h1 : -18446744073709551616 < a) (h2 : a < 18446744073709551616) : IntMulOk a b := .of_left (intBits_le_64 h1 h2)
theorem mul_r {a b : Int} (h1 : -18446744073709551616 < b) (h2 : b < 18446744073709551616) : IntMulOk a b := .of_right (intBits_le_64 h1 h2)
theorem div_bd {a b : Int} (h0 : b ≠ 0) (h : b.natAbs.log2 < 9000) : CDivX a b := ⟨h0, PyProof.noPylong_of_log2 h⟩
theorem div_bdn (n : Nat) {a b : Int} (h0 : b ≠ 0) (h : b.natAbs ≤ n) (hn : n.log2 < 9000) : CDivX a b := div_bd h0 (Nat.lt_of_le_of_lt (log2_mono h) hn)
theorem div_lit {a b : Int} (h0 : 0 < b) (h : b < 1000000000000000000000000000000000000000000000000000000000000000000) : CDivX a b ↔ True :=
  ⟨fun _ => trivial, fun _ => div_bdn 1000000000000000000000000000000000000000000000000000000000000000000 (by omega) (by omega) (by decide +kernel)⟩
theorem pow_lit {i j : Int} (h0 : 0 ≤ j) (h1 : j ≤ 1000000) (h2 : -1000000000000000000 ≤ i) (h3 : i ≤ 1000000000000000000) : L2.CPow i j ↔ True := ⟨fun _ => trivial, fun _ => ⟨h0, h1, by omega⟩⟩
theorem mul_litr {a b : Int} (h1 : -18446744073709551616 < b) (h2 : b < 18446744073709551616) : IntMulOk a b ↔ True := ⟨fun _ => trivial, fun _ => mul_r h1 h2⟩
theorem mul_litl {a b : Int} (h1 : -18446744073709551616 < a) (h2 : a < 18446744073709551616) : IntMulOk a b ↔ True := ⟨fun _ => trivial, fun _ => mul_l h1 h2⟩
section
variable {S : Sto} {k : KD}
theorem pw_of {i j r : Int} (h0 : 0 ≤ j) (h1 : j ≤ 1000000) (h2 : -1000000000000000000 ≤ i) (h3 : i ≤ 10000000000000000000) (h : i ^ j.toNat = r) : powW (.int i) (.int j) S k = k (.int r) S := by
  unfold powW
  rw [iiW_ii, h]
  exact propext ⟨fun h => h.2, fun h => ⟨⟨h0, h1, by omega⟩, h⟩⟩
theorem pw_10_6 : powW (.int 10) (.int 6) S k = k (.int 1000000) S := pw_of (by decide) (by decide) (by decide) (by decide) (by decide +kernel)
theorem pw_10_7 : powW (.int 10) (.int 7) S k = k (.int 10000000) S := pw_of (by decide) (by decide) (by decide) (by decide) (by decide +kernel)
theorem pw_10_8 : powW (.int 10) (.int 8) S k = k (.int 100000000) S := pw_of (by decide) (by decide) (by decide) (by decide) (by decide +kernel)
theorem pw_10_9 : powW (.int 10) (.int 9) S k = k (.int 1000000000) S := pw_of (by decide) (by decide) (by decide) (by decide) (by decide +kernel)
theorem pw_10_11 : powW (.int 10) (.int 11) S k = k (.int 100000000000) S := pw_of (by decide) (by decide) (by decide) (by decide) (by decide +kernel)
theorem pw_10_12 : powW (.int 10) (.int 12) S k = k (.int 1000000000000) S := pw_of (by decide) (by decide) (by decide) (by decide) (by decide +kernel)
theorem pw_10_14 : powW (.int 10) (.int 14) S k = k (.int 100000000000000) S := pw_of (by decide) (by decide) (by decide) (by decide) (by decide +kernel)
theorem pw_10_15 : powW (.int 10) (.int 15) S k = k (.int 1000000000000000) S := pw_of (by decide) (by decide) (by decide) (by decide) (by decide +kernel)
theorem pw_10_18 : powW (.int 10) (.int 18) S k = k (.int 1000000000000000000) S := pw_of (by decide) (by decide) (by decide) (by decide) (by decide +kernel)
theorem pw_10_20 : powW (.int 10) (.int 20) S k = k (.int 100000000000000000000) S := pw_of (by decide) (by decide) (by decide) (by decide) (by decide +kernel)
theorem pw_10_29 : powW (.int 10) (.int 29) S k = k (.int 100000000000000000000000000000) S := pw_of (by decide) (by decide) (by decide) (by decide) (by decide +kernel)
theorem pw_10_30 : powW (.int 10) (.int 30) S k = k (.int 1000000000000000000000000000000) S := pw_of (by decide) (by decide) (by decide) (by decide) (by decide +kernel)
theorem pw_10_50 : powW (.int 10) (.int 50) S k = k (.int 100000000000000000000000000000000000000000000000000) S := pw_of (by decide) (by decide) (by decide) (by decide) (by decide +kernel)
theorem pw_10_58 : powW (.int 10) (.int 58) S k = k (.int 10000000000000000000000000000000000000000000000000000000000) S := pw_of (by decide) (by decide) (by decide) (by decide) (by decide +kernel)
theorem pw_10_59 : powW (.int 10) (.int 59) S k = k (.int 100000000000000000000000000000000000000000000000000000000000) S := pw_of (by decide) (by decide) (by decide) (by decide) (by decide +kernel)
theorem pw_10_60 : powW (.int 10) (.int 60) S k = k (.int 1000000000000000000000000000000000000000000000000000000000000) S := pw_of (by decide) (by decide) (by decide) (by decide) (by decide +kernel)
theorem pw_m61_4 : powW (.int 2305843009213693951) (.int 4) S k = k (.int 28269553036454149224292902704178252817674109380037990394614044720680140801) S := pw_of (by decide) (by decide) (by decide) (by decide) (by decide +kernel)
end
/-! ### the script's cells -/
def cellv (ns : List Int) (k : Int) : Int := if k < (ns.length : Int) then ns.getD k.toNat 0 else 0
theorem cellv_bits {ns : List Int} (h : ∀ z ∈ ns, Builtin.Int.intBits z ≤ 1048576) (k : Int) : Builtin.Int.intBits (cellv ns k) ≤ 1048576 := by
  unfold cellv
  split
  · rw [List.getD_eq_getElem?_getD]
    cases e : ns[k.toNat]? with
    | none => exact Nat.zero_le _
    | some z => exact h z (List.mem_of_getElem? e)
  · exact Nat.zero_le _
theorem at_ints {ns : List Int} {k : Int} (h0 : 0 ≤ k) (h1 : k < (ns.length : Int)) : L2.atI (ns.map D.int) k = some (.int (ns.getD k.toNat 0)) := by
  obtain ⟨j, rfl⟩ : ∃ j : Nat, k = (j : Int) := ⟨k.toNat, by omega⟩
  have hj : j < ns.length := by omega
  refine L2.atI_nat ?_
  rw [List.getElem?_map, List.getElem?_eq_getElem hj]
  simp [List.getD_eq_getElem?_getD, hj]
end Ab

namespace Ab
open PySem
/-! ### sizes -/
/-- less than n bits -/
def Sz (n : Nat) (a : Int) : Prop := a.natAbs < 2 ^ n
theorem Sz.mono {n m : Nat} {a : Int} (h : Sz n a) (l : n ≤ m) : Sz m a := Nat.lt_of_lt_of_le h (Nat.pow_le_pow_right (by decide) l)
theorem Sz.mul {n m : Nat} {a b : Int} (h : Sz n a) (l : Sz m b) : Sz (n + m) (a * b) := by
  unfold Sz at *
  rw [Int.natAbs_mul, Nat.pow_add]
  exact Nat.mul_lt_mul'' h l
theorem Sz.add {n : Nat} {a b : Int} (h : Sz n a) (l : Sz n b) : Sz (n + 1) (a + b) := by
  unfold Sz at *
  have := Int.natAbs_add_le a b
  rw [Nat.pow_succ]
  omega
theorem Sz.neg {n : Nat} {a : Int} (h : Sz n a) : Sz n (-a) := by unfold Sz at *; omega
theorem Sz.sub {n : Nat} {a b : Int} (h : Sz n a) (l : Sz n b) : Sz (n + 1) (a - b) := Sz.add h l.neg
theorem Sz.of_abs {n : Nat} {a b : Int} (h : Sz n a) (l : b.natAbs ≤ a.natAbs) : Sz n b := Nat.lt_of_le_of_lt l h
theorem Sz.log2 {n : Nat} {a : Int} (h : Sz n a) (hn : 0 < n) : a.natAbs.log2 < n := by
  rcases Nat.eq_zero_or_pos a.natAbs with e | e
  · rw [e]; exact hn
  · exact (Nat.log2_lt (by omega)).mpr h
theorem Sz.bits {n : Nat} {a : Int} (h : Sz n a) (hn : 0 < n) : Builtin.Int.intBits a ≤ n := by
  have := bits_le (Nat.le_refl a.natAbs)
  have := h.log2 hn
  omega
theorem Sz.mulOk {n m : Nat} {a b : Int} (h : Sz n a) (l : Sz m b) (hn : 0 < n) (hm : 0 < m) (hs : n + m ≤ 134217728) : IntMulOk a b := by
  have h1 := h.bits hn
  have h2 := l.bits hm
  exact mul_bits (by omega)
theorem Sz.okr {n : Nat} {a b : Int} (h : Sz n b) (hn : 0 < n) (hs : n ≤ 64) : IntMulOk a b := .of_right (Nat.le_trans (h.bits hn) hs)
theorem Sz.okl {n : Nat} {a b : Int} (h : Sz n a) (hn : 0 < n) (hs : n ≤ 64) : IntMulOk a b := .of_left (Nat.le_trans (h.bits hn) hs)
theorem Sz.divOk {n : Nat} {a b : Int} (h : Sz n b) (h0 : b ≠ 0) (hn : 0 < n) (hs : n ≤ 9000) : CDivX a b := by
  have := h.log2 hn
  exact div_bd h0 (by omega)
theorem Sz.of_bits {n : Nat} {a : Int} (h : Builtin.Int.intBits a ≤ n) : Sz n a := by
  unfold Builtin.Int.intBits at h
  unfold Sz
  split at h
  · simp_all; exact Nat.pow_pos (by decide)
  · rename_i h0
    have : a.natAbs ≠ 0 := by simpa using h0
    have := (Nat.log2_lt this).mp (by omega : a.natAbs.log2 < n)
    exact this
theorem sz_lit {n : Nat} {a : Int} (h : a.natAbs < 2 ^ n) : Sz n a := h
theorem sz_le {n : Nat} {a : Int} (m : Nat) (h : a.natAbs ≤ m) (hm : m < 2 ^ n) : Sz n a := Nat.lt_of_le_of_lt h hm
/-! ### parts: the ratio of two whole numbers, in its least terms -/
/-- a part, as the program keeps it -/
def pR (q : Rat) : D := .tup [.int q.num, .int (q.den : Int)]
theorem den_pos (q : Rat) : 0 < (q.den : Int) := by have := q.den_pos; omega
theorem gcd_posr {t b : Int} (hb : b ≠ 0) : 0 < Int.gcd t b := Int.gcd_pos_iff.mpr (.inr hb)
theorem part_num {t b : Int} (hb : 0 < b) : t.fdiv (Int.gcd t b) = (Rat.divInt t b).num := by
  have := @gcd_posr t b (by omega)
  rw [fdiv_pos (by omega), Rat.num_divInt, Int.sign_eq_one_of_pos hb, Int.one_mul, Int.gcd_comm]
theorem part_den {t b : Int} (hb : 0 < b) : b.fdiv (Int.gcd t b) = ((Rat.divInt t b).den : Int) := by
  have := @gcd_posr t b (by omega)
  rw [fdiv_pos (by omega), Rat.den_divInt, if_neg (by omega), Int.gcd_comm]
  rw [Int.natCast_ediv]
  congr 1
  omega
theorem num_le (t b : Int) : (Rat.divInt t b).num.natAbs ≤ t.natAbs := by
  rw [Rat.num_divInt]
  by_cases h : b = 0
  · simp [h]
  · rw [Int.natAbs_ediv_of_dvd]
    · refine Nat.le_trans (Nat.div_le_self _ _) ?_
      rw [Int.natAbs_mul, Int.natAbs_sign_of_ne_zero h]
      omega
    · exact Int.dvd_mul_of_dvd_right (Int.gcd_dvd_right _ _)
theorem den_le {t b : Int} (h : b ≠ 0) : (Rat.divInt t b).den ≤ b.natAbs := by
  rw [Rat.den_divInt, if_neg h]
  exact Nat.div_le_self _ _
/-- a part of less than n bits above and beneath -/
def SzR (n : Nat) (q : Rat) : Prop := Sz n q.num ∧ Sz n (q.den : Int)
theorem SzR.mono {n m : Nat} {q : Rat} (h : SzR n q) (l : n ≤ m) : SzR m q := ⟨h.1.mono l, h.2.mono l⟩
theorem SzR.div {n : Nat} {t b : Int} (h0 : b ≠ 0) (h1 : Sz n t) (h2 : Sz n b) : SzR n (Rat.divInt t b) :=
  ⟨h1.of_abs (num_le t b), h2.of_abs (by rw [Int.natAbs_natCast]; exact den_le h0)⟩
theorem plus_eq (x y : Rat) : Rat.divInt (x.num * y.den + y.num * x.den) (x.den * y.den) = x + y := by
  have := Rat.divInt_add_divInt x.num y.num (d₁ := x.den) (d₂ := y.den) (by have := den_pos x; omega) (by have := den_pos y; omega)
  rw [Rat.num_divInt_den, Rat.num_divInt_den] at this
  rw [this]
theorem minus_eq (x y : Rat) : Rat.divInt (x.num * y.den - y.num * x.den) (x.den * y.den) = x - y := by
  have := Rat.divInt_sub_divInt x.num y.num (d₁ := x.den) (d₂ := y.den) (by have := den_pos x; omega) (by have := den_pos y; omega)
  rw [Rat.num_divInt_den, Rat.num_divInt_den] at this
  rw [this]
theorem times_eq (x y : Rat) : Rat.divInt (x.num * y.num) (x.den * y.den) = x * y := by
  have := Rat.divInt_mul_divInt x.num y.num (d₁ := x.den) (d₂ := y.den)
  rw [Rat.num_divInt_den, Rat.num_divInt_den] at this
  rw [this]
theorem over_eq (x y : Rat) : Rat.divInt (x.num * y.den) (x.den * y.num) = x / y := by
  rw [Rat.div_def, Rat.inv_def, ← Rat.divInt_mul_divInt, Rat.num_divInt_den]
theorem mul_den_ne (x y : Rat) : (x.den : Int) * y.den ≠ 0 := by
  have h1 := den_pos x
  have h2 := den_pos y
  exact Int.mul_ne_zero (by omega) (by omega)
theorem SzR.add {n m : Nat} {x y : Rat} (h1 : SzR n x) (h2 : SzR m y) : SzR (n + m + 1) (x + y) := by
  rw [← plus_eq]
  exact SzR.div (mul_den_ne x y) ((h1.1.mul h2.2).add (((h2.1.mul h1.2)).mono (by omega))) ((h1.2.mul h2.2).mono (by omega))
theorem SzR.sub {n m : Nat} {x y : Rat} (h1 : SzR n x) (h2 : SzR m y) : SzR (n + m + 1) (x - y) := by
  rw [← minus_eq]
  exact SzR.div (mul_den_ne x y) ((h1.1.mul h2.2).sub (((h2.1.mul h1.2)).mono (by omega))) ((h1.2.mul h2.2).mono (by omega))
theorem SzR.mul {n m : Nat} {x y : Rat} (h1 : SzR n x) (h2 : SzR m y) : SzR (n + m) (x * y) := by
  rw [← times_eq]
  exact SzR.div (mul_den_ne x y) (h1.1.mul h2.1) (h1.2.mul h2.2)
theorem ratlt_iff (x y : Rat) : x.num * (y.den : Int) < y.num * (x.den : Int) ↔ x < y := (Rat.lt_iff x y).symm
theorem size_ok {n : Nat} (h : n ≤ 1000000) : n ≤ sizeLine ↔ True := ⟨fun _ => trivial, fun _ => Nat.le_trans h (by decide +kernel)⟩
theorem size_ok2 {n : Nat} (h : n ≤ 1000000) : n < sizeLine ↔ True := ⟨fun _ => trivial, fun _ => Nat.lt_of_le_of_lt h (by decide +kernel)⟩
/-! ### places of a known list -/
section
variable {x0 x1 x2 x3 x4 x5 x6 : D} {r : List D} {S : Sto} {k : KD} {q : Rat} {t : Ty}
theorem atI_0 : L2.atI (x0 :: r) 0 = some x0 := @L2.atI_nat D (x0 :: r) 0 x0 rfl
theorem atI_1 : L2.atI (x0 :: x1 :: r) 1 = some x1 := @L2.atI_nat D (x0 :: x1 :: r) 1 x1 rfl
theorem atI_2 : L2.atI (x0 :: x1 :: x2 :: r) 2 = some x2 := @L2.atI_nat D (x0 :: x1 :: x2 :: r) 2 x2 rfl
theorem atI_3 : L2.atI (x0 :: x1 :: x2 :: x3 :: r) 3 = some x3 := @L2.atI_nat D (x0 :: x1 :: x2 :: x3 :: r) 3 x3 rfl
theorem atI_4 : L2.atI (x0 :: x1 :: x2 :: x3 :: x4 :: r) 4 = some x4 := @L2.atI_nat D (x0 :: x1 :: x2 :: x3 :: x4 :: r) 4 x4 rfl
theorem atI_5 : L2.atI (x0 :: x1 :: x2 :: x3 :: x4 :: x5 :: r) 5 = some x5 := @L2.atI_nat D (x0 :: x1 :: x2 :: x3 :: x4 :: x5 :: r) 5 x5 rfl
theorem atI_6 : L2.atI (x0 :: x1 :: x2 :: x3 :: x4 :: x5 :: x6 :: r) 6 = some x6 := @L2.atI_nat D (x0 :: x1 :: x2 :: x3 :: x4 :: x5 :: x6 :: r) 6 x6 rfl
theorem ix_pR0 : ixD S (pR q) 0 = some (.int q.num) := by
  show L2.atI [D.int q.num, D.int q.den] 0 = _
  exact atI_0
theorem ix_pR1 : ixD S (pR q) 1 = some (.int q.den) := by
  show L2.atI [D.int q.num, D.int q.den] 1 = _
  exact atI_1
theorem len_pR : lenF [pR q] S k = k (.int 2) S := by
  unfold pR; rw [lenF_t]; rfl
theorem isi_pR : isiD S t (pR q) = some (decide (t = .tuple)) := id rfl
end
/-! ### equality of data -/
mutual
/-- whole numbers, texts, None, and lists and tuples of them -/
def D.plain : D → Bool
  | .non => true
  | .int _ => true
  | .str _ => true
  | .tup xs => plainAll xs
  | .lst xs => plainAll xs
  | _ => false
def plainAll : List D → Bool
  | [] => true
  | x :: xs => x.plain && plainAll xs
end
theorem plainAll_iff : ∀ {xs : List D}, plainAll xs = true ↔ ∀ x ∈ xs, x.plain = true
  | [] => by simp [plainAll]
  | x :: xs => by
    unfold plainAll
    rw [Bool.and_eq_true, plainAll_iff (xs := xs)]
    simp
theorem pureAll_iff : ∀ {xs : List D}, pureAll xs = true ↔ ∀ x ∈ xs, x.pure = true
  | [] => by simp [pureAll]
  | x :: xs => by
    unfold pureAll
    rw [Bool.and_eq_true, pureAll_iff (xs := xs)]
    simp
mutual
theorem plain_pure : ∀ x : D, x.plain = true → x.pure = true
  | .non, _ => by unfold D.pure; rfl
  | .int _, _ => by unfold D.pure; rfl
  | .str _, _ => by unfold D.pure; rfl
  | .tup xs, h => by unfold D.pure; unfold D.plain at h; exact plainAll_pure xs h
  | .lst xs, h => by unfold D.pure; unfold D.plain at h; exact plainAll_pure xs h
  | .bl _, h => by unfold D.plain at h; cases h
  | .scr _, h => by unfold D.plain at h; cases h
  | .cell _, h => by unfold D.plain at h; cases h
  | .exn .., h => by unfold D.plain at h; cases h
theorem plainAll_pure : ∀ xs : List D, plainAll xs = true → pureAll xs = true
  | [], _ => by unfold pureAll; rfl
  | x :: xs, h => by
    unfold plainAll at h
    rw [Bool.and_eq_true] at h
    unfold pureAll
    rw [plain_pure x h.1, plainAll_pure xs h.2]; rfl
end
mutual
theorem eqv_iff : ∀ x y : D, x.plain = true → y.plain = true → (PyData.eqv x.py y.py = true ↔ x = y)
  | .non, y, _, hy => by cases y <;> simp [D.py, PyData.eqv, D.plain] at hy ⊢
  | .int a, y, _, hy => by cases y <;> simp [D.py, PyData.eqv, D.plain] at hy ⊢
  | .str a, y, _, hy => by cases y <;> simp [D.py, PyData.eqv, D.plain] at hy ⊢
  | .tup xs, y, hx, hy => by
    cases y <;> simp [D.py, PyData.eqv, D.plain] at hx hy ⊢
    exact eqvAll_iff xs _ hx hy
  | .lst xs, y, hx, hy => by
    cases y <;> simp [D.py, PyData.eqv, D.plain] at hx hy ⊢
    exact eqvAll_iff xs _ hx hy
  | .bl _, _, h, _ => by unfold D.plain at h; cases h
  | .scr _, _, h, _ => by unfold D.plain at h; cases h
  | .cell _, _, h, _ => by unfold D.plain at h; cases h
  | .exn .., _, h, _ => by unfold D.plain at h; cases h
theorem eqvAll_iff : ∀ xs ys : List D, plainAll xs = true → plainAll ys = true → (PyData.eqvAll (pyAll xs) (pyAll ys) = true ↔ xs = ys)
  | [], [], _, _ => by simp [pyAll, PyData.eqvAll]
  | [], _ :: _, _, _ => by simp [pyAll, PyData.eqvAll]
  | _ :: _, [], _, _ => by simp [pyAll, PyData.eqvAll]
  | x :: xs, y :: ys, hx, hy => by
    unfold plainAll at hx hy
    rw [Bool.and_eq_true] at hx hy
    simp only [pyAll, PyData.eqvAll, Bool.and_eq_true, List.cons.injEq]
    rw [eqv_iff x y hx.1 hy.1, eqvAll_iff xs ys hx.2 hy.2]
end
theorem eqv_self {x : D} (h : x.plain = true) : x.eqv x = true := (eqv_iff x x h h).mpr rfl
/-- == of plain data, as one uses it -/
theorem eqW_pl {x y : D} {S : Sto} {k : KD} (h1 : x.plain = true) (h2 : y.plain = true) (o1 : okEq 9 x = true) (o2 : okEq 9 y = true) (h : ∀ b : Bool, (b = true ↔ x = y) → k (.bl b) S) : eqW x y S k :=
  eqW_of (plain_pure x h1) (plain_pure y h2) o1 o2 (h _ (eqv_iff x y h1 h2))
theorem eqW_self {x : D} {S : Sto} {k : KD} (h1 : x.plain = true) (o1 : okEq 9 x = true) (h : k (.bl true) S) : eqW x x S k :=
  eqW_of (plain_pure x h1) (plain_pure x h1) o1 o1 (by rw [eqv_self h1]; exact h)
theorem neW_self {x : D} {S : Sto} {k : KD} (h1 : x.plain = true) (o1 : okEq 9 x = true) (h : k (.bl false) S) : neW x x S k := eqW_self h1 o1 h
theorem pR_plain (q : Rat) : (pR q).plain = true := by unfold pR D.plain plainAll D.plain plainAll D.plain plainAll; rfl
theorem pR_ok (q : Rat) : okEq 9 (pR q) = true := by rfl
theorem pR_inj {x y : Rat} (h : pR x = pR y) : x = y := by
  unfold pR at h
  simp only [D.tup.injEq, List.cons.injEq, D.int.injEq] at h
  exact Rat.ext h.1 (by omega)
end Ab

namespace Ab
open PySem
/-! ### the store's top -/
section
variable {S : Sto} {c d : Cel} {xs : List D}
theorem stl_get : (S ++ [c])[S.length]? = some c := by simp
theorem stl_set : (S ++ [c]).set S.length d = S ++ [d] := by simp
theorem stl_take : (S ++ [c]).take S.length = S := by simp
theorem lview_top : lview (S ++ [.lst xs]) (.cell S.length) = some xs := lview_c stl_get
theorem rview_top : rview (S ++ [.lst xs]) (.cell S.length) = some xs := rview_c stl_get
end
/-! ### a comprehension, each of whose members is as Q says -/
theorem lc_rel {i : Nat} {vs : List Nat} {we : WE} {ds : List D} {gd : Sto → Prop} {s : Env} {S : Sto} {fin : List D → Sto → Prop} (Q : Nat → D → D → Prop) (hl : ds.length < sizeLine) (hg : gd S)
    (he : ∀ n x, ds[n]? = some x → ∀ k : KD, (∀ y, Q n x y → k y S) → we noXC ((wipeD s vs).set i (some x)) S k)
    (hf : ∀ ys : List D, ys.length = ds.length → (∀ (n : Nat) (x y : D), ds[n]? = some x → ys[n]? = some y → Q n x y) → fin ys S) : lcW i vs wYes we ds gd s S fin := by
  refine ⟨hl, fun n acc S2 => S2 = S ∧ (n ≤ ds.length → acc.length = n) ∧ ∀ (m : Nat) (x y : D), ds[m]? = some x → acc[m]? = some y → Q m x y, ⟨rfl, by simp, by simp⟩, ?_, ?_⟩
  · rintro n x acc S2 hx hle ⟨rfl, h1, h2⟩
    refine ⟨hg, ?_⟩
    simp only [wYes, if_true]
    refine he n x hx _ fun y hy => ⟨rfl, ?_, ?_⟩
    · intro hn
      rw [List.length_append, h1 (by omega)]; rfl
    · intro m x' y' e1 e2
      have hn : n < ds.length := by
        rcases Nat.lt_or_ge n ds.length with h | h
        · exact h
        · rw [List.getElem?_eq_none h] at hx; cases hx
      have hal := h1 (by omega)
      by_cases hm : m < n
      · rw [List.getElem?_append_left (by omega)] at e2
        exact h2 m x' y' e1 e2
      · by_cases hmn : m = n
        · subst hmn
          rw [hx] at e1
          cases e1
          rw [List.getElem?_append_right (by omega), hal, Nat.sub_self] at e2
          cases e2
          exact hy
        · rw [List.getElem?_eq_none (by rw [List.length_append]; simp; omega)] at e2
          cases e2
  · rintro acc S2 - ⟨rfl, h1, h2⟩
    exact ⟨hg, hf acc (h1 (Nat.le_refl _)) h2⟩
theorem rngD_get {a : Int} {m n : Nat} {x : D} (h : (rngD a m)[n]? = some x) : n < m ∧ x = .int (a + n) := by
  unfold rngD at h
  rw [List.getElem?_map] at h
  have : n < m := by
    rcases Nat.lt_or_ge n m with l | l
    · exact l
    · rw [List.getElem?_eq_none (by simpa using l)] at h; cases h
  rw [List.getElem?_range this] at h
  cases h
  exact ⟨this, rfl⟩
theorem rngD_len {a : Int} {m : Nat} : (rngD a m).length = m := by unfold rngD; simp
theorem rngD_mem {a : Int} {m : Nat} {x : D} (h : x ∈ rngD a m) : ∃ n : Nat, n < m ∧ x = .int (a + n) := by
  obtain ⟨n, h⟩ := List.mem_iff_getElem?.mp h
  exact ⟨n, rngD_get h⟩
/-- a list of data, each the image of something -/
theorem lift_map {α : Type} (f : α → D) (P : Nat → α → Prop) : ∀ (ys : List D), (∀ (n : Nat) (y : D), ys[n]? = some y → ∃ a, y = f a ∧ P n a) → ∃ as : List α, ys = as.map f ∧ ∀ (n : Nat) (a : α), as[n]? = some a → P n a
  | [], _ => ⟨[], rfl, by simp⟩
  | y :: ys, h => by
    obtain ⟨a, rfl, ha⟩ := h 0 y rfl
    obtain ⟨as, rfl, has⟩ := lift_map f (fun n => P (n + 1)) ys fun n y e => h (n + 1) y e
    refine ⟨a :: as, rfl, fun n b e => ?_⟩
    cases n with
    | zero => cases e; exact ha
    | succ n => exact has n b e
/-! ### lists of whole numbers -/
def vI (v : List Int) : List D := v.map .int
theorem vI_len {v : List Int} : (vI v).length = v.length := by unfold vI; simp
theorem vI_get {v : List Int} {i : Nat} {x : D} (h : (vI v)[i]? = some x) : ∃ z, v[i]? = some z ∧ x = .int z := by
  unfold vI at h
  rw [List.getElem?_map] at h
  cases e : v[i]? with
  | none => rw [e] at h; cases h
  | some z => rw [e] at h; cases h; exact ⟨z, rfl, rfl⟩
theorem vI_plain (v : List Int) : plainAll (vI v) = true := plainAll_iff.mpr fun x hx => by
  unfold vI at hx
  obtain ⟨z, _, rfl⟩ := List.mem_map.mp hx
  unfold D.plain; rfl
theorem vI_pure (v : List Int) : pureAll (vI v) = true := plainAll_pure _ (vI_plain v)
theorem vI_ok {n : Nat} (v : List Int) : okEq (n + 2) (.lst (vI v)) = true := by
  unfold okEq
  rw [List.all_eq_true]
  intro x hx
  unfold vI at hx
  obtain ⟨z, _, rfl⟩ := List.mem_map.mp hx
  rfl
theorem lst_plain {xs : List D} (h : plainAll xs = true) : (D.lst xs).plain = true := by unfold D.plain; exact h
theorem lst_pure {xs : List D} (h : pureAll xs = true) : (D.lst xs).pure = true := by unfold D.pure; exact h
theorem tup_plain {xs : List D} (h : plainAll xs = true) : (D.tup xs).plain = true := by unfold D.plain; exact h
theorem vI_inj {v w : List Int} (h : vI v = vI w) : v = w := by
  unfold vI at h
  exact (List.map_inj_right (fun a b e => by cases e; rfl)).mp h
/-- place i of a list of whole numbers -/
def gI (v : List Int) (i : Int) : Int := v.getD i.toNat 0
theorem at_vI {v : List Int} {k : Int} (h0 : 0 ≤ k) (h1 : k < (v.length : Int)) : L2.atI (vI v) k = some (.int (gI v k)) := at_ints h0 h1
theorem ixN_in {n : Nat} {k : Int} (h0 : 0 ≤ k) (h1 : k < (n : Int)) : L2.ixN n k = some k.toNat := by
  unfold L2.ixN
  rw [if_pos h0, if_pos h1]
theorem vI_set {v : List Int} {n : Nat} {a : Int} : (vI v).set n (.int a) = vI (v.set n a) := by
  unfold vI
  rw [List.map_set]
/-- v[i] = a, in the cell n -/
theorem sto_vI {S : Sto} {n : Nat} {v : List Int} {i a : Int} {nx : Sto → Prop} (hS : S[n]? = some (.lst (vI v))) (h0 : 0 ≤ i) (h1 : i < (v.length : Int)) (h : nx (S.set n (.lst (vI (v.set i.toNat a))))) : kSto (.int a) nx (.cell n) (.int i) S := by
  rw [kSto_c]
  exact ⟨_, _, hS, ixN_in h0 (by rw [vI_len]; exact h1), by rw [vI_set]; exact h⟩
/-- v[i] + c at i -/
def bump (v : List Int) (i c : Int) : List Int := v.set i.toNat (gI v i + c)
theorem bump_len {v : List Int} {i c : Int} : (bump v i c).length = v.length := by unfold bump; simp
theorem bump_get {v : List Int} {i c j : Int} (h0 : 0 ≤ i) (h1 : i < (v.length : Int)) (j0 : 0 ≤ j) : gI (bump v i c) j = gI v j + if i = j then c else 0 := by
  unfold bump gI
  by_cases e : i = j
  · subst e
    rw [if_pos rfl, List.getD_eq_getElem?_getD, List.getElem?_set_self (by omega)]
    rfl
  · rw [if_neg e, List.getD_eq_getElem?_getD, List.getElem?_set_ne (by omega), ← List.getD_eq_getElem?_getD]
    omega
/-- many of them -/
def bumps {α : Type} (f c : α → Int) (v : List Int) (xs : List α) : List Int := xs.foldl (fun v x => bump v (f x) (c x)) v
theorem bumps_len {α : Type} {f c : α → Int} : ∀ {xs : List α} {v : List Int}, (bumps f c v xs).length = v.length
  | [], _ => rfl
  | x :: xs, v => by
    show (bumps f c (bump v (f x) (c x)) xs).length = _
    rw [bumps_len, bump_len]
theorem bumps_get {α : Type} {f c : α → Int} {j : Int} (j0 : 0 ≤ j) : ∀ {xs : List α} {v : List Int}, (∀ x ∈ xs, 0 ≤ f x ∧ f x < (v.length : Int)) → gI (bumps f c v xs) j = gI v j + (xs.map fun x => if f x = j then c x else 0).sum
  | [], v, _ => by simp [bumps]
  | x :: xs, v, h => by
    show gI (bumps f c (bump v (f x) (c x)) xs) j = _
    have hx := h x (by simp)
    rw [bumps_get j0 (fun y hy => by rw [bump_len]; exact h y (by simp [hy])), bump_get hx.1 hx.2 j0]
    simp only [List.map_cons, List.sum_cons]
    omega
theorem bumps_snoc {α : Type} {f c : α → Int} {v : List Int} {xs : List α} {x : α} : bumps f c v (xs ++ [x]) = bump (bumps f c v xs) (f x) (c x) := by
  unfold bumps
  rw [List.foldl_append]
  rfl
theorem take_succ_of {α : Type} {xs : List α} {n : Nat} {x : α} (h : xs[n]? = some x) : xs.take (n + 1) = xs.take n ++ [x] := by
  rw [List.take_add_one, h]; rfl
theorem ext_gI {v w : List Int} (hl : v.length = w.length) (h : ∀ j : Int, 0 ≤ j → j < (v.length : Int) → gI v j = gI w j) : v = w := by
  refine List.ext_getElem hl fun i h1 h2 => ?_
  have := h (i : Int) (by omega) (by omega)
  unfold gI at this
  rw [List.getD_eq_getElem?_getD, List.getD_eq_getElem?_getD] at this
  simpa [h1, h2] using this
def zeros (m : Nat) : List Int := List.replicate m 0
theorem zeros_len {m : Nat} : (zeros m).length = m := by simp [zeros]
theorem zeros_get {m : Nat} {j : Int} : gI (zeros m) j = 0 := by
  unfold gI zeros
  rw [List.getD_eq_getElem?_getD, List.getElem?_replicate]
  split <;> rfl
/-! ### dues -/
structure Dd where
  a : Int
  b : Int
  r : Int
  c : Int
def Dd.d (x : Dd) : D := .tup [.int x.a, .int x.b, .int x.r, .int x.c]
def Dd.Ok (m : Int) (x : Dd) : Prop := 0 ≤ x.a ∧ x.a < m ∧ 0 ≤ x.b ∧ x.b < m ∧ x.a ≠ x.b ∧ 0 ≤ x.r ∧ x.r < 3 ∧ 0 ≤ x.c ∧ x.c ≤ 1000000000000
theorem Dd.d_plain (x : Dd) : x.d.plain = true := by
  unfold Dd.d D.plain plainAll D.plain plainAll D.plain plainAll D.plain plainAll D.plain plainAll; rfl
theorem Dd.d_inj {x y : Dd} (h : x.d = y.d) : x = y := by
  cases x; cases y
  unfold Dd.d at h
  simp only [D.tup.injEq, List.cons.injEq, D.int.injEq] at h
  simp [h.1, h.2.1, h.2.2.1, h.2.2.2.1]
def dueL (xs : List Dd) : List D := xs.map Dd.d
theorem dueL_len {xs : List Dd} : (dueL xs).length = xs.length := by unfold dueL; simp
theorem dueL_plain (xs : List Dd) : plainAll (dueL xs) = true := plainAll_iff.mpr fun x hx => by
  unfold dueL at hx
  obtain ⟨z, _, rfl⟩ := List.mem_map.mp hx
  exact z.d_plain
theorem dueL_pure (xs : List Dd) : pureAll (dueL xs) = true := plainAll_pure _ (dueL_plain xs)
theorem dueL_ok {n : Nat} (xs : List Dd) : okEq (n + 3) (.lst (dueL xs)) = true := by
  unfold okEq
  rw [List.all_eq_true]
  intro x hx
  unfold dueL at hx
  obtain ⟨z, _, rfl⟩ := List.mem_map.mp hx
  rfl
theorem dueL_get {xs : List Dd} {i : Nat} {x : D} (h : (dueL xs)[i]? = some x) : ∃ z, xs[i]? = some z ∧ x = z.d := by
  unfold dueL at h
  rw [List.getElem?_map] at h
  cases e : xs[i]? with
  | none => rw [e] at h; cases h
  | some z => rw [e] at h; cases h; exact ⟨z, rfl, rfl⟩
section
variable {S : Sto} {x : Dd} {k : KD} {t : Ty}
theorem ix_due0 : ixD S x.d 0 = some (.int x.a) := by
  show L2.atI [D.int x.a, D.int x.b, D.int x.r, D.int x.c] 0 = _
  exact atI_0
theorem ix_due1 : ixD S x.d 1 = some (.int x.b) := by
  show L2.atI [D.int x.a, D.int x.b, D.int x.r, D.int x.c] 1 = _
  exact atI_1
theorem ix_due2 : ixD S x.d 2 = some (.int x.r) := by
  show L2.atI [D.int x.a, D.int x.b, D.int x.r, D.int x.c] 2 = _
  exact atI_2
theorem ix_due3 : ixD S x.d 3 = some (.int x.c) := by
  show L2.atI [D.int x.a, D.int x.b, D.int x.r, D.int x.c] 3 = _
  exact atI_3
theorem len_due : lenF [x.d] S k = k (.int 4) S := by
  unfold Dd.d; rw [lenF_t]; rfl
theorem isi_due : isiD S t x.d = some (decide (t = .tuple)) := id rfl
end
theorem ring_ne {p r m : Int} (h0 : 0 ≤ p) (h1 : p < m) (h2 : 0 ≤ r) (h3 : r < m - 1) : 0 ≤ (p + 1 + r) % m ∧ (p + 1 + r) % m < m ∧ p ≠ (p + 1 + r) % m := by
  refine ⟨Int.emod_nonneg _ (by omega), Int.emod_lt_of_pos _ (by omega), ?_⟩
  by_cases c : p + 1 + r < m
  · rw [Int.emod_eq_of_lt (by omega) c]; omega
  · have : (p + 1 + r) % m = p + 1 + r - m := by
      rw [← Int.sub_emod_right, Int.emod_eq_of_lt (by omega) (by omega)]
    omega
theorem emod_lo {a b : Int} (h : 0 < b) : 0 ≤ a % b := Int.emod_nonneg _ (by omega)
theorem emod_hi {a b : Int} (h : 0 < b) : a % b < b := Int.emod_lt_of_pos _ h
theorem cutD_le {xs : List D} {a t : Int} (h0 : 0 ≤ a) (h1 : 0 ≤ t) : ((cutD xs (some a) (some (a + t))).length : Int) ≤ t := by
  unfold cutD
  rw [List.length_take, List.length_drop]
  unfold HT.sIx
  dsimp only
  rw [if_neg (by omega), if_neg (by omega)]
  omega
theorem Dd.Ok.mono {m n : Int} {x : Dd} (h : x.Ok m) (l : m ≤ n) : x.Ok n := by
  obtain ⟨h1, h2, h3, h4, h5⟩ := h
  exact ⟨h1, by omega, h3, by omega, h5⟩
/-- the dues of a made list -/
theorem lift_dues {m : Int} (ys : List D) (h : ∀ y ∈ ys, ∃ x : Dd, y = x.d ∧ x.Ok m) : ∃ sh : List Dd, ys = dueL sh ∧ ∀ x ∈ sh, x.Ok m := by
  obtain ⟨as, e, ha⟩ := lift_map Dd.d (fun _ x => x.Ok m) ys fun n y e => h y (List.mem_of_getElem? e)
  refine ⟨as, e, fun x hx => ?_⟩
  obtain ⟨n, hn⟩ := List.mem_iff_getElem?.mp hx
  exact ha n x hn
theorem zerosD {a : Int} {n : Nat} : (rngD a n).map (fun _ => D.int 0) = vI (zeros n) := by
  rw [List.map_const', rngD_len]
  unfold vI zeros
  rw [List.map_replicate]
section
variable {xs : List D} {c0 c1 c2 c3 c4 : Cel} {r : Sto}
theorem lview_0 : lview (.lst xs :: r) (.cell 0) = some xs := id rfl
theorem lview_1 : lview (c0 :: .lst xs :: r) (.cell 1) = some xs := id rfl
theorem lview_2 : lview (c0 :: c1 :: .lst xs :: r) (.cell 2) = some xs := id rfl
theorem lview_3 : lview (c0 :: c1 :: c2 :: .lst xs :: r) (.cell 3) = some xs := id rfl
theorem lview_4 : lview (c0 :: c1 :: c2 :: c3 :: .lst xs :: r) (.cell 4) = some xs := id rfl
theorem lview_5 : lview (c0 :: c1 :: c2 :: c3 :: c4 :: .lst xs :: r) (.cell 5) = some xs := id rfl
end
/-- what each pays, what each gets -/
def owesI (m : Int) (sh : List Dd) : List Int := bumps Dd.a Dd.c (zeros m.toNat) sh
def claimsI (m : Int) (sh : List Dd) : List Int := bumps Dd.b Dd.c (zeros m.toNat) sh
def netsI (m : Int) (sh : List Dd) : List Int := bumps Dd.a (fun x => -x.c) (claimsI m sh) sh
theorem owesI_len {m : Int} {sh : List Dd} : (owesI m sh).length = m.toNat := by unfold owesI; rw [bumps_len, zeros_len]
theorem claimsI_len {m : Int} {sh : List Dd} : (claimsI m sh).length = m.toNat := by unfold claimsI; rw [bumps_len, zeros_len]
theorem netsI_len {m : Int} {sh : List Dd} : (netsI m sh).length = m.toNat := by unfold netsI; rw [bumps_len, claimsI_len]
theorem sum_neg {α : Type} {f : α → Int} : ∀ {xs : List α}, (xs.map fun x => - f x).sum = - (xs.map f).sum
  | [] => rfl
  | x :: xs => by
    simp only [List.map_cons, List.sum_cons, sum_neg (xs := xs)]
    omega
theorem netsI_get {m : Int} {sh : List Dd} (hs : ∀ x ∈ sh, x.Ok m) {j : Int} (h0 : 0 ≤ j) (h1 : j < m) : gI (netsI m sh) j = gI (claimsI m sh) j - gI (owesI m sh) j := by
  unfold netsI owesI
  have hm : 0 ≤ m := by omega
  have e1 : ∀ x ∈ sh, 0 ≤ Dd.a x ∧ Dd.a x < ((claimsI m sh).length : Int) := fun x hx => by
    have := hs x hx
    rw [claimsI_len]
    exact ⟨this.1, by have := this.2.1; omega⟩
  have e2 : ∀ x ∈ sh, 0 ≤ Dd.a x ∧ Dd.a x < ((zeros m.toNat).length : Int) := fun x hx => by
    have := hs x hx
    rw [zeros_len]
    exact ⟨this.1, by have := this.2.1; omega⟩
  rw [bumps_get h0 e1, bumps_get h0 e2, zeros_get]
  have : (sh.map fun x => if x.a = j then -x.c else 0) = sh.map fun x => -(if x.a = j then x.c else 0) := by
    refine List.map_congr_left fun x _ => ?_
    split <;> omega
  rw [this, sum_neg]
  omega
/-! ### equality with a list that may be changed -/
theorem res_cell {S : Sto} {n : Nat} {xs : List D} (hS : S[n]? = some (.lst xs)) (hp : plainAll xs = true) : Res S (.cell n) (.lst xs) :=
  .cell hS rfl fun i x y e1 e2 => by
    rw [e1] at e2
    cases e2
    exact .pure (plain_pure x (plainAll_iff.mp hp x (List.mem_of_getElem? e1)))
section
variable {S : Sto} {n m : Nat} {xs ys : List D} {k : KD}
theorem eqW_lc (hS : S[n]? = some (.lst xs)) (h1 : plainAll xs = true) (h2 : plainAll ys = true) (o1 : okEq 9 (.lst xs) = true) (o2 : okEq 9 (.lst ys) = true) (h : ∀ b : Bool, (b = true ↔ ys = xs) → k (.bl b) S) : eqW (.lst ys) (.cell n) S k :=
  ⟨_, _, .pure (lst_pure (plainAll_pure _ h2)), res_cell hS h1, o2, o1, h _ ((eqv_iff _ _ (lst_plain h2) (lst_plain h1)).trans ⟨fun e => by cases e; rfl, fun e => by rw [e]⟩)⟩
theorem eqW_cl (hS : S[n]? = some (.lst xs)) (h1 : plainAll xs = true) (h2 : plainAll ys = true) (o1 : okEq 9 (.lst xs) = true) (o2 : okEq 9 (.lst ys) = true) (h : ∀ b : Bool, (b = true ↔ xs = ys) → k (.bl b) S) : eqW (.cell n) (.lst ys) S k :=
  ⟨_, _, res_cell hS h1, .pure (lst_pure (plainAll_pure _ h2)), o1, o2, h _ ((eqv_iff _ _ (lst_plain h1) (lst_plain h2)).trans ⟨fun e => by cases e; rfl, fun e => by rw [e]⟩)⟩
theorem eqW_cc (hS : S[n]? = some (.lst xs)) (hT : S[m]? = some (.lst ys)) (h1 : plainAll xs = true) (h2 : plainAll ys = true) (o1 : okEq 9 (.lst xs) = true) (o2 : okEq 9 (.lst ys) = true) (h : ∀ b : Bool, (b = true ↔ xs = ys) → k (.bl b) S) : eqW (.cell n) (.cell m) S k :=
  ⟨_, _, res_cell hS h1, res_cell hT h2, o1, o2, h _ ((eqv_iff _ _ (lst_plain h1) (lst_plain h2)).trans ⟨fun e => by cases e; rfl, fun e => by rw [e]⟩)⟩
end
theorem vI_of {ys : List D} {v : List Int} (hl : ys.length = v.length) (h : ∀ (n : Nat) (y : D), ys[n]? = some y → y = .int (gI v n)) : ys = vI v := by
  refine List.ext_getElem? fun i => ?_
  by_cases hi : i < ys.length
  · have e := h i _ (List.getElem?_eq_getElem hi)
    rw [List.getElem?_eq_getElem hi, e]
    unfold vI gI
    rw [List.getElem?_map, List.getElem?_eq_getElem (by omega)]
    simp [List.getD_eq_getElem?_getD, show i < v.length by omega]
  · rw [List.getElem?_eq_none (by omega), List.getElem?_eq_none (by rw [vI_len]; omega)]
end Ab

namespace Ab
open PySem PySem.Spec PyProof.Rows L2
/-! ### try: .. except C as e: .. -/
def canS (K : PySem.W.Frag) (g : Gi) (W : WX) (w : WS) : TS := fun Dv sv H => ∃ H0 r S s Dk, Sim K g H0 r S H ∧ RelSt K H0 r s sv ∧ w Dk s S ∧ CtS K g H0 r H W Dk Dv
section
variable {X : Cx} {g : Gi} {W : WX} {w : WS} {st : List Stmt}
theorem SSs.ps (h : SSs X g W st w) : PSs X st (canS X.K g W w) := by
  obtain ⟨t, p, gg⟩ := h
  exact ⟨fun pins s σ H D I ⟨H0, r, S, sd, Dk, si, rs, hw, ct⟩ => p.run pins s σ H D I (gg H0 r S H sd σ Dk D si rs hw ct)⟩
/-- the suite's reading takes the exception's place and class; i is its slot; rl are the classes that can come -/
def wTry (i : Nat) (rl : List Str) (cat : Str → Bool) (w : WS) (ws : Addr → Str → WS) : WS := fun (D : HG Kd) s S =>
  w { nx := D.nx, rt := D.rt, xc := fun c s1 S1 => rl.contains c = true ∧ if cat c = true then ∀ a : Addr, ws a c { nx := fun s2 S2 => D.nx (s2.set i none) S2, rt := D.rt, xc := fun _ _ _ => False } (s1.set i (some (.exn a c))) S1 else D.xc c s1 S1 } s S
theorem RelSt.clear {K : PySem.W.Frag} {H0 : Hp} {r : List Addr} {s : Env} {sv : L2.St} (h : RelSt K H0 r s sv) (i : Nat) : RelSt K H0 r (s.set i none) (sv.set i none) := by
  refine ⟨by simp [h.1], fun j d e => ?_⟩
  by_cases hij : i = j
  · subst hij
    by_cases hl : i < s.length
    · rw [List.getElem?_set_self hl] at e; cases e
    · rw [List.getElem?_eq_none (by simp; omega)] at e; cases e
  · rw [List.getElem?_set_ne hij] at e ⊢
    exact h.2 j d e
theorem ss_try {x n : Str} {cv : Value} {i : Nat} {rl : List Str} {cat : Str → Bool} {body suite : List Stmt} {b₀ : Stmt} {np pos pos' : Pos} {ws : Addr → Str → WS}
    (hs : X.stack = X.env :: X.outer) (hf : X.env.frame = some X.env.locals) (hN : X.N.Nodup) (hi : X.N[i]? = some n) (hln : X.env.kindOf n = some .local) (hc : Names X x cv) (tk : Takes X W)
    (hcat : ∀ c, rl.contains c = true → PySem.W.exmOne X.K (.ref (g.cl c)) cv = some (cat c))
    (hb : ∀ (W' : WX) (pn : List (Addr × Obj)) (xe : Value → Shared → Prop), Takes (X.tr pn xe) W' → PassesOwn (model X.prog X.w) X.A X.env xe → SSs (X.tr pn xe) g W' body w)
    (hsu : ∀ (a : Addr) (oe : Obj) (c : Str) (pn : List (Addr × Obj)), rl.contains c = true → Zc (.ref (g.cl c)) none oe → (∃ vs, oe.data = .fields vs) → SSs (X.suite a ((a, oe) :: pn)) g WFls (b₀ :: suite) (ws a c)) :
    SS X g W (.Try body [.ExceptHandler (some (.Name x np)) (some n) (b₀ :: suite) pos'] [] [] pos) (wTry i rl cat w ws) := by
  refine ⟨_, ps_try_as (tb := fun W' => canS X.K g W' w) (ts := fun a cls d Dv sv H => ∃ c, cls = .ref (g.cl c) ∧ d = none ∧ rl.contains c = true ∧ canS X.K g WFls (ws a c) Dv sv H) hs hf hN hi hln hc tk
    (fun W' pn xe t p => (hb W' pn xe t p).ps) (fun a oe cls d pn hz hfl => ⟨fun pins s σ H D I ⟨c, e1, e2, hcl, q⟩ => ?_⟩), ?_⟩
  · subst e1 e2
    exact (hsu a oe c pn hcl hz hfl).ps.run pins s σ H D I q
  · intro H0 r S H s sv Dk Dv si rs h ct
    refine ⟨H0, r, S, s, _, si, rs, h, ct.1, ct.2.1, fun c s1 sv1 H1 r1 S1 H1' f1 s1' rs1 hx => ?_⟩
    obtain ⟨hcl, hx⟩ := hx
    refine ⟨cat c, hcat c hcl, fun hy a ha => ⟨c, rfl, rfl, hcl, H1, r1, S1, _, _, s1', rs1.set i (d := .exn a c) (by unfold Rel; rfl), by rw [if_pos hy] at hx; exact hx a, ?_⟩, fun hn => ?_⟩
    · exact ⟨fun s2 sv2 H2 r2 S2 H2' f2 s2' rs2 h2 => ct.1 _ _ _ _ _ _ (f1.tr s1' f2) s2' (rs2.clear i) h2, ct.2.1.fut f1 s1', fun _ _ _ _ _ _ _ _ _ _ z => z.elim⟩
    · rw [hn, if_neg Bool.false_ne_true] at hx
      exact ct.2.2 c s1 sv1 H1 r1 S1 H1' f1 s1' rs1 hx
/-- the program's own classes of errors: each stands right under QuitsError -/
def eSub (c y : Str) : Bool := decide (c = y) || decide (y = "QuitsError") || decide (y = "ValueError")
/-- isinstance(e, C): e the exception that the suite holds, of the class c -/
def wIsE (a : Addr) (c : Str) (b : Bool) (wa : WE) : WE := fun (xc : HG XE) s S k => wa xc s S fun d S1 => d = .exn a c ∧ k (.bl b) S1
theorem se_isE {a : Addr} {oe : Obj} {pn : List (Addr × Obj)} {c y : Str} {e : Expr} {wa : WE} {W : WX} {b : Bool} {cv : V} {cvv : Value} {p p2 pos : Pos} (C : ExcC X.K (g.cl c)) (hz : Zc (.ref (g.cl c)) none oe) (hfl : ∃ vs, oe.data = .fields vs)
    (hk : PySem.W.kitOne X.K (.ref (g.cl c)) cvv = some b) (hcv : ∀ u, RelV cv u → u = cvv) (hg : Gl (X.suite a ((a, oe) :: pn)) "isinstance") (hm : X.mg "isinstance" = none) (ha : SE (X.suite a ((a, oe) :: pn)) g W e wa) (py : PE (X.suite a ((a, oe) :: pn)) (.Name y p2) (tC cv))
    (hst : starEach [e, .Name y p2] X.env = (false, eval e X.env) :: starEach [.Name y p2] X.env := by rfl) (hst2 : starEach [.Name y p2] X.env = (false, eval (.Name y p2) X.env) :: starEach [] X.env := by rfl) (hpl : (backTo pos (starEach [.Name y p2] X.env)).any (·.1) = false := by rfl) :
    SE (X.suite a ((a, oe) :: pn)) g W (.Call (.Name "isinstance" p) [e, .Name y p2] [] pos) (wIsE a c b wa) := by
  obtain ⟨ta, pa, ga⟩ := ha
  refine ⟨_, pe_callB (call_isE C hz hfl) hg hm (by decide +kernel) (pa_cons pa (pa_cons py pa_nil hst2) hst) (by decide) (by decide) hst hpl, fun H0 r S H s sv Q k xc si rs h ce cx => ?_⟩
  refine ga H0 r S H s sv _ _ xc si rs h (fun d v H1 r1 S1 H1' f1 s1 rl h1 => ?_) cx
  obtain ⟨e1, hk'⟩ := h1
  subst e1
  unfold Rel at rl
  subst rl
  exact ⟨_, _, _, rfl, hcv, hk, ce _ _ _ _ _ _ f1 s1 rel_bl' hk'⟩
end
/-! ### lists of parts -/
def ratL (qs : List Rat) : List D := qs.map pR
theorem ratL_len {qs : List Rat} : (ratL qs).length = qs.length := by unfold ratL; simp
theorem ratL_plain (qs : List Rat) : plainAll (ratL qs) = true := plainAll_iff.mpr fun x hx => by
  unfold ratL at hx
  obtain ⟨z, _, rfl⟩ := List.mem_map.mp hx
  exact pR_plain z
theorem ratL_pure (qs : List Rat) : pureAll (ratL qs) = true := plainAll_pure _ (ratL_plain qs)
theorem ratL_ok {n : Nat} (qs : List Rat) : okEq (n + 3) (.lst (ratL qs)) = true := by
  unfold okEq
  rw [List.all_eq_true]
  intro x hx
  unfold ratL at hx
  obtain ⟨z, _, rfl⟩ := List.mem_map.mp hx
  rfl
theorem ratL_get {qs : List Rat} {i : Nat} {x : D} (h : (ratL qs)[i]? = some x) : ∃ z, qs[i]? = some z ∧ x = pR z := by
  unfold ratL at h
  rw [List.getElem?_map] at h
  cases e : qs[i]? with
  | none => rw [e] at h; cases h
  | some z => rw [e] at h; cases h; exact ⟨z, rfl, rfl⟩
theorem ratL_snoc {qs : List Rat} {q : Rat} : ratL qs ++ [pR q] = ratL (qs ++ [q]) := by unfold ratL; simp
theorem at_ratL {qs : List Rat} {k : Nat} {q : Rat} (h : qs[k]? = some q) : L2.atI (ratL qs) (k : Int) = some (pR q) := L2.atI_nat (by unfold ratL; rw [List.getElem?_map, h]; rfl)
def sumR (qs : List Rat) : Rat := qs.foldl (· + ·) 0
theorem sumR_snoc {qs : List Rat} {q : Rat} : sumR (qs ++ [q]) = sumR qs + q := by
  unfold sumR
  rw [List.foldl_append]
  rfl
theorem sumR_size {qs : List Rat} (h : ∀ q ∈ qs, SzR 100 q) : ∀ n, n ≤ qs.length → SzR (101 * n + 1) (sumR (qs.take n))
  | 0, _ => by
    rw [List.take_zero]
    exact ⟨sz_lit (by decide), sz_lit (by decide)⟩
  | n + 1, hn => by
    have e : qs[n]? = some qs[n] := List.getElem?_eq_getElem hn
    rw [take_succ_of e, sumR_snoc]
    exact (SzR.add (sumR_size h n (by omega)) (h _ (List.getElem_mem hn))).mono (by omega)
/-! ### more of dues -/
theorem cut_dues (sh : List Dd) (lo hi : Option Int) : ∃ sub : List Dd, cutD (dueL sh) lo hi = dueL sub ∧ (∀ x ∈ sub, x ∈ sh) ∧ sub.length ≤ sh.length := by
  refine ⟨(sh.drop (HT.sIx (dueL sh).length 0 lo)).take (HT.sIx (dueL sh).length (dueL sh).length hi - HT.sIx (dueL sh).length 0 lo), ?_, fun x hx => List.mem_of_mem_drop (List.mem_of_mem_take hx), ?_⟩
  · unfold cutD dueL
    rw [List.map_take, List.map_drop]
  · rw [List.length_take, List.length_drop]; omega
theorem dueL_app (a b : List Dd) : dueL a ++ dueL b = dueL (a ++ b) := by unfold dueL; rw [List.map_append]
theorem dueL_of {ys : List D} {sh : List Dd} (f : Dd → Dd) (hl : ys.length = sh.length) (h : ∀ (n : Nat) (x : Dd) (y : D), sh[n]? = some x → ys[n]? = some y → y = (f x).d) : ys = dueL (sh.map f) := by
  refine List.ext_getElem? fun i => ?_
  unfold dueL
  rw [List.getElem?_map, List.getElem?_map]
  by_cases hi : i < ys.length
  · have e := h i sh[i] ys[i] (List.getElem?_eq_getElem (by omega)) (List.getElem?_eq_getElem hi)
    rw [List.getElem?_eq_getElem hi, List.getElem?_eq_getElem (by omega), e]
    rfl
  · rw [List.getElem?_eq_none (by omega), List.getElem?_eq_none (by omega)]
    rfl
/-- the net of each, due by due -/
def netB (v : List Int) (x : Dd) : List Int := bump (bump v x.a (-x.c)) x.b x.c
theorem netB_len {v : List Int} {x : Dd} : (netB v x).length = v.length := by unfold netB; rw [bump_len, bump_len]
theorem netBs_len : ∀ {sh : List Dd} {v : List Int}, (sh.foldl netB v).length = v.length
  | [], _ => rfl
  | x :: sh, v => by
    show (sh.foldl netB (netB v x)).length = _
    rw [netBs_len, netB_len]
theorem netBs_get {m : Int} {j : Int} (j0 : 0 ≤ j) : ∀ {sh : List Dd} {v : List Int}, (v.length : Int) = m → (∀ x ∈ sh, x.Ok m) → gI (sh.foldl netB v) j = gI v j + (sh.map fun x => if x.b = j then x.c else 0).sum + (sh.map fun x => if x.a = j then -x.c else 0).sum
  | [], v, _, _ => by simp
  | x :: sh, v, hv, h => by
    show gI (sh.foldl netB (netB v x)) j = _
    have hx := h x (by simp)
    rw [netBs_get j0 (by rw [netB_len]; exact hv) (fun y hy => h y (by simp [hy]))]
    unfold netB
    rw [bump_get hx.2.2.1 (by rw [bump_len]; have := hx.2.2.2.1; omega) j0, bump_get hx.1 (by have := hx.2.1; omega) j0]
    simp only [List.map_cons, List.sum_cons]
    omega
theorem netBs_nets {m : Int} {sh : List Dd} (hm : 0 ≤ m) (hs : ∀ x ∈ sh, x.Ok m) : sh.foldl netB (zeros m.toNat) = netsI m sh := by
  refine ext_gI (by rw [netBs_len, zeros_len, netsI_len]) fun j h0 h1 => ?_
  rw [netBs_len, zeros_len] at h1
  rw [netBs_get (m := m) h0 (by rw [zeros_len]; omega) hs]
  unfold netsI claimsI
  rw [bumps_get h0 (fun x hx => by have := hs x hx; rw [bumps_len, zeros_len]; exact ⟨this.1, by have := this.2.1; omega⟩), bumps_get h0 (fun x hx => by have := hs x hx; rw [zeros_len]; exact ⟨this.2.2.1, by have := this.2.2.2.1; omega⟩)]
/-- the house between all -/
def houseP (m : Int) (v : List Int) (i : Nat) : List Dd := if gI v i < 0 then [⟨i, m, 0, -(gI v i)⟩] else if gI v i > 0 then [⟨m, i, 0, gI v i⟩] else []
def houseL (m : Int) (v : List Int) : Nat → List Dd
  | 0 => []
  | n + 1 => houseL m v n ++ houseP m v n
theorem houseL_pre {m : Int} {v : List Int} : ∀ {n k : Nat}, n ≤ k → ∃ r, houseL m v k = houseL m v n ++ r
  | n, 0, h => by
    obtain rfl : n = 0 := by omega
    exact ⟨[], by simp⟩
  | n, k + 1, h => by
    by_cases e : n = k + 1
    · subst e; exact ⟨[], by simp⟩
    · obtain ⟨r, hr⟩ := houseL_pre (m := m) (v := v) (show n ≤ k by omega)
      exact ⟨r ++ houseP m v k, by show houseL m v k ++ _ = _; rw [hr, List.append_assoc]⟩
theorem houseL_ok {m : Int} {v : List Int} : ∀ {n : Nat}, (n : Int) ≤ m → ∀ x ∈ houseL m v n, 0 ≤ x.a ∧ x.a < m + 1 ∧ 0 ≤ x.b ∧ x.b < m + 1 ∧ x.a ≠ x.b
  | 0, _, x, h => by cases h
  | n + 1, hn, x, h => by
    rcases List.mem_append.mp (show x ∈ houseL m v n ++ houseP m v n from h) with h | h
    · exact houseL_ok (by omega) x h
    · unfold houseP at h
      split at h
      · rw [List.mem_singleton.mp h]
        dsimp only
        omega
      · split at h
        · rw [List.mem_singleton.mp h]
          dsimp only
          omega
        · cases h
theorem at_dueL {sh : List Dd} {k : Nat} {x : Dd} (h : sh[k]? = some x) : L2.atI (dueL sh) (k : Int) = some x.d := L2.atI_nat (by unfold dueL; rw [List.getElem?_map, h]; rfl)
/-- the member n's due stands behind those of the members ahead -/
theorem houseL_at {m : Int} {v : List Int} {n k : Nat} {x : Dd} (hn : n < k) (h : houseP m v n = [x]) : (houseL m v k)[(houseL m v n).length]? = some x ∧ (houseL m v n).length < (houseL m v k).length := by
  obtain ⟨r, hr⟩ := houseL_pre (m := m) (v := v) (show n + 1 ≤ k by omega)
  have e : houseL m v k = houseL m v n ++ (x :: r) := by
    rw [hr]
    show (houseL m v n ++ houseP m v n) ++ r = _
    rw [h, List.append_assoc]
    rfl
  rw [e]
  exact ⟨by simp, by simp⟩
/-! ### a list, whoever keeps it -/
section
variable {S : Sto} {d : D} {xs : List D} {k : KD} {i : Int} {t : Ty}
theorem lv_ix (h : lview S d = some xs) : ixD S d i = L2.atI xs i := by
  cases d with
  | lst ys => cases h; rfl
  | scr ys => cases h; rfl
  | cell n => rw [ixD_c, h]; rfl
  | _ => cases h
theorem lv_len (h : lview S d = some xs) : lenF [d] S k = k (.int xs.length) S := by
  cases d with
  | lst ys => cases h; rw [lenF_l]
  | scr ys => cases h; rw [lenF_r]
  | cell n =>
    rw [lenF_c, h]
    exact propext ⟨fun ⟨zs, e, q⟩ => by cases e; exact q, fun q => ⟨_, rfl, q⟩⟩
  | _ => cases h
theorem lv_isi (h : lview S d = some xs) : isiD S t d = some (decide (t = .list)) := by
  cases d with
  | lst ys => rfl
  | scr ys => rfl
  | cell n =>
    have e : (match S[n]? with | some (.lst xs) => some xs | _ => none) = some xs := h
    split at e
    · rename_i ys hS; exact isiD_c hS
    · cases e
  | _ => cases h
end
/-! ### lists of lists of whole numbers -/
def matL (m : List (List Int)) : List D := m.map fun v => .lst (vI v)
theorem matL_len {m : List (List Int)} : (matL m).length = m.length := by unfold matL; simp
theorem matL_plain (m : List (List Int)) : plainAll (matL m) = true := plainAll_iff.mpr fun x hx => by
  unfold matL at hx
  obtain ⟨z, _, rfl⟩ := List.mem_map.mp hx
  exact lst_plain (vI_plain z)
theorem matL_pure (m : List (List Int)) : pureAll (matL m) = true := plainAll_pure _ (matL_plain m)
theorem matL_ok {n : Nat} (m : List (List Int)) : okEq (n + 3) (.lst (matL m)) = true := by
  unfold okEq
  rw [List.all_eq_true]
  intro x hx
  unfold matL at hx
  obtain ⟨z, _, rfl⟩ := List.mem_map.mp hx
  exact vI_ok z
theorem matL_get {m : List (List Int)} {i : Nat} {x : D} (h : (matL m)[i]? = some x) : ∃ v, m[i]? = some v ∧ x = .lst (vI v) := by
  unfold matL at h
  rw [List.getElem?_map] at h
  cases e : m[i]? with
  | none => rw [e] at h; cases h
  | some z => rw [e] at h; cases h; exact ⟨z, rfl, rfl⟩
theorem matL_snoc {m : List (List Int)} {v : List Int} : matL m ++ [.lst (vI v)] = matL (m ++ [v]) := by unfold matL; simp
theorem at_matL {m : List (List Int)} {k : Int} (h0 : 0 ≤ k) (h1 : k < (m.length : Int)) : ∃ v, v ∈ m ∧ L2.atI (matL m) k = some (.lst (vI v)) := by
  obtain ⟨j, rfl⟩ : ∃ j : Nat, k = (j : Int) := ⟨k.toNat, by omega⟩
  have hj : j < m.length := by omega
  refine ⟨m[j], List.getElem_mem hj, L2.atI_nat ?_⟩
  unfold matL
  rw [List.getElem?_map, List.getElem?_eq_getElem hj]
  rfl
/-- a comprehension over members, each of whose numbers is a function of the member -/
theorem vI_map {α : Type} {as : List α} {ys : List D} (g : α → Int) (hl : ys.length = as.length) (h : ∀ (n : Nat) (a : α) (y : D), as[n]? = some a → ys[n]? = some y → y = .int (g a)) : ys = vI (as.map g) := by
  refine List.ext_getElem? fun i => ?_
  unfold vI
  rw [List.getElem?_map, List.getElem?_map]
  by_cases hi : i < ys.length
  · have e := h i as[i] ys[i] (List.getElem?_eq_getElem (by omega)) (List.getElem?_eq_getElem hi)
    rw [List.getElem?_eq_getElem hi, List.getElem?_eq_getElem (by omega), e]
    rfl
  · rw [List.getElem?_eq_none (by omega), List.getElem?_eq_none (by omega)]
    rfl
theorem lift_ints {P : Int → Prop} (ys : List D) (h : ∀ y ∈ ys, ∃ z : Int, y = .int z ∧ P z) : ∃ v : List Int, ys = vI v ∧ ∀ z ∈ v, P z := by
  obtain ⟨as, e, ha⟩ := lift_map D.int (fun _ z => P z) ys fun n y e => h y (List.mem_of_getElem? e)
  refine ⟨as, e, fun x hx => ?_⟩
  obtain ⟨n, hn⟩ := List.mem_iff_getElem?.mp hx
  exact ha n x hn
theorem lv_app {S T : Sto} {d : D} {xs : List D} (h : lview S d = some xs) : lview (S ++ T) d = some xs := by
  cases d with
  | lst ys => exact h
  | scr ys => exact h
  | cell n =>
    have e : (match S[n]? with | some (.lst xs) => some xs | _ => none) = some xs := h
    split at e
    · rename_i ys hS
      refine (lview_c (xs := ys) ?_).trans e
      rw [List.getElem?_append_left (List.getElem?_eq_some_iff.mp hS).1]
      exact hS
    · cases e
  | _ => cases h
theorem lv_sview {S : Sto} {d : D} {xs : List D} (h : lview S d = some xs) : sview S d = some xs := by
  cases d with
  | tup ys => cases h
  | _ => exact h
theorem gd_self {S : Sto} {d : D} : gdOf S d S := by
  unfold gdOf
  split
  · rfl
  · trivial
theorem sz_ints {n : Nat} {v : List Int} (h : ∀ z ∈ v, Sz n z) : Sz n.succ 0 := by unfold Sz; exact Nat.pow_pos (by decide)
theorem sum_nonneg {v : List Int} (h : ∀ z ∈ v, 0 ≤ z) : 0 ≤ v.sum := by
  induction v with
  | nil => decide
  | cons a v ih =>
    rw [List.sum_cons]
    have := h a (by simp)
    have := ih fun z hz => h z (by simp [hz])
    omega
theorem sum_le {b : Int} : ∀ {v : List Int}, (∀ z ∈ v, z ≤ b) → v.sum ≤ b * (v.length : Int)
  | [], _ => by simp
  | a :: v, h => by
    rw [List.sum_cons, List.length_cons]
    have h1 := h a (by simp)
    have h2 := sum_le (v := v) fun z hz => h z (by simp [hz])
    have : b * ((v.length + 1 : Nat) : Int) = b * (v.length : Int) + b := by
      rw [Int.natCast_add, Int.mul_add]; simp
    rw [this]
    omega
theorem gI_mem {v : List Int} {k : Nat} (h : k < v.length) : gI v k ∈ v := by
  unfold gI
  rw [List.getD_eq_getElem?_getD]
  simp [h]
end Ab

namespace Ab
open PySem
theorem gI_succ {a : Int} {v : List Int} {n : Nat} : gI (a :: v) ((n + 1 : Nat) : Int) = gI v n := by
  unfold gI
  rw [Int.toNat_natCast, Int.toNat_natCast]
  rfl
theorem gI_nat {v : List Int} {n : Nat} (h : n < v.length) : gI v n = v[n] := by
  unfold gI
  rw [List.getD_eq_getElem?_getD, Int.toNat_natCast]
  simp [h]
theorem sum_set : ∀ {v : List Int} {n : Nat} {a : Int}, n < v.length → (v.set n a).sum = v.sum - gI v n + a
  | [], n, a, h => by cases h
  | x :: v, 0, a, _ => by
    rw [List.set_cons_zero, List.sum_cons, List.sum_cons]
    have : gI (x :: v) ((0 : Nat) : Int) = x := rfl
    omega
  | x :: v, n + 1, a, h => by
    rw [List.set_cons_succ, List.sum_cons, List.sum_cons, sum_set (by simpa using h), gI_succ]
    omega
theorem gI_set {v : List Int} {n k : Nat} {a : Int} (h : n < v.length) : gI (v.set n a) k = if k = n then a else gI v k := by
  unfold gI
  rw [List.getD_eq_getElem?_getD, List.getD_eq_getElem?_getD, Int.toNat_natCast]
  by_cases e : k = n
  · subst e
    rw [if_pos rfl, List.getElem?_set_self h]
    rfl
  · rw [if_neg e, List.getElem?_set_ne (Ne.symm e)]
theorem drop_sum {v : List Int} {n : Nat} (h : n < v.length) : (v.drop n).sum = gI v n + (v.drop (n + 1)).sum := by
  rw [List.drop_eq_getElem_cons h, List.sum_cons, gI_nat h]
/-! ### borne by shares -/
def qS (c w : Int) (b : List Int) : List Int := b.map fun x => c * x / w
def rS (c w : Int) (b : List Int) : List Int := b.map fun x => c * x % w
def ovS (c w : Int) (b : List Int) : Nat → Int
  | 0 => c - (qS c w b).sum
  | n + 1 => if 0 < ovS c w b n ∧ gI (rS c w b) n ≠ 0 then ovS c w b n - 1 else ovS c w b n
def liS (c w : Int) (b : List Int) : Nat → List Int
  | 0 => qS c w b
  | n + 1 => if 0 < ovS c w b n ∧ gI (rS c w b) n ≠ 0 then (liS c w b n).set n (gI (liS c w b n) n + 1) else liS c w b n
section
variable {c w : Int} {b : List Int}
theorem qS_len : (qS c w b).length = b.length := by unfold qS; simp
theorem rS_len : (rS c w b).length = b.length := by unfold rS; simp
theorem liS_len : ∀ {n : Nat}, (liS c w b n).length = b.length
  | 0 => qS_len
  | n + 1 => by
    unfold liS
    split
    · rw [List.length_set, liS_len]
    · exact liS_len
theorem qS_get {n : Nat} (h : n < b.length) : gI (qS c w b) n = c * gI b n / w := by
  rw [gI_nat (by rw [qS_len]; exact h), gI_nat h]
  unfold qS
  rw [List.getElem_map]
theorem rS_get {n : Nat} (h : n < b.length) : gI (rS c w b) n = c * gI b n % w := by
  rw [gI_nat (by rw [rS_len]; exact h), gI_nat h]
  unfold rS
  rw [List.getElem_map]
theorem liS_get : ∀ {n k : Nat}, n ≤ b.length → gI (liS c w b n) k = gI (qS c w b) k + if k < n ∧ 0 < ovS c w b k ∧ gI (rS c w b) k ≠ 0 then 1 else 0
  | 0, k, _ => by
    rw [if_neg (by omega)]
    show gI (qS c w b) k = _
    omega
  | n + 1, k, h => by
    have ih := liS_get (n := n) (k := k) (by omega)
    unfold liS
    by_cases hc : 0 < ovS c w b n ∧ gI (rS c w b) n ≠ 0
    · rw [if_pos hc, gI_set (by rw [liS_len]; omega)]
      by_cases e : k = n
      · subst e
        rw [if_pos rfl, ih, if_neg (by omega), if_pos ⟨by omega, hc⟩]
        omega
      · rw [if_neg e, ih]
        by_cases hk : k < n
        · have : (k < n ∧ 0 < ovS c w b k ∧ gI (rS c w b) k ≠ 0) ↔ (k < n + 1 ∧ 0 < ovS c w b k ∧ gI (rS c w b) k ≠ 0) := ⟨fun z => ⟨by omega, z.2⟩, fun z => ⟨hk, z.2⟩⟩
          simp only [this]
        · rw [if_neg (by omega), if_neg (by omega)]
    · rw [if_neg hc, ih]
      by_cases e : k = n
      · subst e
        rw [if_neg (by omega), if_neg (fun z => hc z.2)]
      · by_cases hk : k < n
        · have : (k < n ∧ 0 < ovS c w b k ∧ gI (rS c w b) k ≠ 0) ↔ (k < n + 1 ∧ 0 < ovS c w b k ∧ gI (rS c w b) k ≠ 0) := ⟨fun z => ⟨by omega, z.2⟩, fun z => ⟨hk, z.2⟩⟩
          simp only [this]
        · rw [if_neg (by omega), if_neg (by omega)]
theorem liS_sum : ∀ {n : Nat}, n ≤ b.length → (liS c w b n).sum = c - ovS c w b n
  | 0, _ => by
    show (qS c w b).sum = c - (c - (qS c w b).sum)
    omega
  | n + 1, h => by
    have ih := liS_sum (n := n) (by omega)
    have e1 : liS c w b (n + 1) = if 0 < ovS c w b n ∧ gI (rS c w b) n ≠ 0 then (liS c w b n).set n (gI (liS c w b n) n + 1) else liS c w b n := rfl
    have e2 : ovS c w b (n + 1) = if 0 < ovS c w b n ∧ gI (rS c w b) n ≠ 0 then ovS c w b n - 1 else ovS c w b n := rfl
    rw [e1, e2]
    split
    · rw [sum_set (by rw [liS_len]; omega), ih]
      omega
    · exact ih
theorem qr_sum (hw : 0 < w) : ∀ {b : List Int}, c * b.sum = w * (qS c w b).sum + (rS c w b).sum
  | [] => by simp [qS, rS]
  | x :: b => by
    have ih := qr_sum hw (b := b)
    unfold qS rS at *
    simp only [List.map_cons, List.sum_cons, Int.mul_add]
    have := Int.mul_ediv_add_emod (c * x) w
    omega
theorem ov_nonneg (h0 : 0 ≤ ovS c w b 0) : ∀ n, 0 ≤ ovS c w b n
  | 0 => h0
  | n + 1 => by
    have := ov_nonneg h0 n
    unfold ovS
    split <;> omega
theorem ov_rest (hw : 0 < w) (hs : b.sum = w) (hc : 0 ≤ c) : ∀ {n : Nat}, n ≤ b.length → ovS c w b n * w ≤ ((rS c w b).drop n).sum
  | 0, _ => by
    have := qr_sum (c := c) hw (b := b)
    rw [hs] at this
    show (c - (qS c w b).sum) * w ≤ (rS c w b).sum
    rw [Int.sub_mul, Int.mul_comm (qS c w b).sum w]
    omega
  | n + 1, h => by
    have ih := ov_rest hw hs hc (n := n) (by omega)
    rw [drop_sum (by rw [rS_len]; omega)] at ih
    have hr := rS_get (c := c) (w := w) (b := b) (n := n) (by omega)
    have r0 := @emod_lo (c * gI b n) w hw
    have r1 := @emod_hi (c * gI b n) w hw
    rw [← hr] at r0 r1
    have hd : 0 ≤ ((rS c w b).drop (n + 1)).sum := sum_nonneg fun z hz => by
      obtain ⟨x, _, rfl⟩ := List.mem_map.mp (List.mem_of_mem_drop hz)
      exact emod_lo hw
    unfold ovS
    split
    · rw [Int.sub_mul, Int.one_mul]
      omega
    · rename_i hn
      by_cases h1 : 0 < ovS c w b n
      · have : gI (rS c w b) n = 0 := by
          by_cases h2 : gI (rS c w b) n = 0
          · exact h2
          · exact absurd ⟨h1, h2⟩ hn
        omega
      · have : ovS c w b n * w ≤ 0 := Int.mul_nonpos_of_nonpos_of_nonneg (by omega) (by omega)
        omega
theorem ov_start (hw : 0 < w) (hs : b.sum = w) : 0 ≤ ovS c w b 0 := by
  have := qr_sum (c := c) hw (b := b)
  rw [hs] at this
  have hd : 0 ≤ (rS c w b).sum := sum_nonneg fun z hz => by
    obtain ⟨x, _, rfl⟩ := List.mem_map.mp hz
    exact emod_lo hw
  show 0 ≤ c - (qS c w b).sum
  have e : 0 ≤ (c - (qS c w b).sum) * w := by
    rw [Int.sub_mul, Int.mul_comm (qS c w b).sum w]
    omega
  exact Int.nonneg_of_mul_nonneg_left e hw
theorem ov_end (hw : 0 < w) (hs : b.sum = w) (hc : 0 ≤ c) : ovS c w b b.length = 0 := by
  have h1 := ov_rest hw hs hc (n := b.length) (Nat.le_refl _)
  rw [List.drop_of_length_le (by rw [rS_len]; exact Nat.le_refl _)] at h1
  have h2 := ov_nonneg (ov_start (c := c) hw hs) b.length
  have h3 : ([] : List Int).sum = 0 := rfl
  rw [h3] at h1
  rcases Int.lt_or_eq_of_le h2 with h | h
  · have := Int.mul_pos h hw
    omega
  · exact h.symm
end
/-- what each bears -/
def shareL (c : Int) (b : List Int) : List Int := if b.sum = 0 then b.map fun _ => 0 else liS c b.sum b b.length
theorem shareL_len {c : Int} {b : List Int} : (shareL c b).length = b.length := by
  unfold shareL
  split
  · simp
  · exact liS_len
theorem shareL_sum {c : Int} {b : List Int} (hb : ∀ z ∈ b, 0 ≤ z) (c0 : 0 ≤ c) (c1 : c ≤ b.sum) : (shareL c b).sum = c := by
  unfold shareL
  split
  · rename_i e
    have : (b.map fun _ => (0 : Int)).sum = 0 := by
      clear hb c0 c1 e
      induction b with
      | nil => rfl
      | cons a b ih => simp only [List.map_cons, List.sum_cons, ih]; omega
    omega
  · rename_i e
    have hw : 0 < b.sum := by
      have := sum_nonneg hb
      omega
    rw [liS_sum (Nat.le_refl _), ov_end hw rfl c0]
    omega
/-- how far the share k lies from its due: over all, times the whole -/
theorem shareL_apart {c w : Int} {b : List Int} (hw : 0 < w) (hs : b.sum = w) {k : Nat} (hk : k < b.length) :
    gI (liS c w b b.length) k * w - c * gI b k = (if 0 < ovS c w b k ∧ gI (rS c w b) k ≠ 0 then w else 0) - gI (rS c w b) k ∧ 0 ≤ gI (rS c w b) k ∧ gI (rS c w b) k < w := by
  rw [liS_get (Nat.le_refl _), qS_get hk, rS_get hk]
  have h1 := Int.mul_ediv_add_emod (c * gI b k) w
  refine ⟨?_, emod_lo hw, emod_hi hw⟩
  have e : (k < b.length ∧ 0 < ovS c w b k ∧ c * gI b k % w ≠ 0) ↔ (0 < ovS c w b k ∧ c * gI b k % w ≠ 0) := ⟨fun z => z.2, fun z => ⟨hk, z⟩⟩
  simp only [e]
  have h2 : w * (c * gI b k / w) = (c * gI b k / w) * w := Int.mul_comm _ _
  split
  · rw [Int.add_mul, Int.one_mul]; omega
  · rw [Int.add_mul, Int.zero_mul]; omega
/-! ### what a member lacks -/
def sumA (sh : List Dd) (j : Int) : Int := (sh.map fun x => if x.a = j then x.c else 0).sum
def sumB (sh : List Dd) (j : Int) : Int := (sh.map fun x => if x.b = j then x.c else 0).sum
theorem sumA_app {s t : List Dd} {j : Int} : sumA (s ++ t) j = sumA s j + sumA t j := by unfold sumA; rw [List.map_append, List.sum_append]
theorem sumB_app {s t : List Dd} {j : Int} : sumB (s ++ t) j = sumB s j + sumB t j := by unfold sumB; rw [List.map_append, List.sum_append]
theorem nets_lack {m : Int} {sh : List Dd} (hs : ∀ x ∈ sh, x.Ok m) {j : Int} (h0 : 0 ≤ j) (h1 : j < m) : gI (netsI m sh) j = sumB sh j - sumA sh j := by
  rw [netsI_get hs h0 h1]
  unfold claimsI owesI
  rw [bumps_get h0 (fun x hx => by have := hs x hx; rw [zeros_len]; exact ⟨this.2.2.1, by have := this.2.2.2.1; omega⟩), bumps_get h0 (fun x hx => by have := hs x hx; rw [zeros_len]; exact ⟨this.1, by have := this.2.1; omega⟩), zeros_get]
  unfold sumA sumB
  omega
def pickA (j : Int) : D → Bool
  | .tup (.int a :: _) => decide (a = j)
  | _ => false
def pickB (j : Int) : D → Bool
  | .tup (_ :: .int a :: _) => decide (a = j)
  | _ => false
def pickC : D → D
  | .tup (_ :: _ :: _ :: c :: _) => c
  | d => d
theorem pickA_sum {j : Int} : ∀ {sh : List Dd}, ∃ v : List Int, ((dueL sh).filter (pickA j)).map pickC = vI v ∧ v.sum = sumA sh j
  | [] => ⟨[], rfl, rfl⟩
  | x :: sh => by
    obtain ⟨v, h1, h2⟩ := pickA_sum (j := j) (sh := sh)
    have e : dueL (x :: sh) = x.d :: dueL sh := rfl
    have p : pickA j x.d = decide (x.a = j) := rfl
    have s : sumA (x :: sh) j = (if x.a = j then x.c else 0) + sumA sh j := by unfold sumA; rw [List.map_cons, List.sum_cons]
    rw [e, List.filter_cons, p, s]
    by_cases c : x.a = j
    · rw [if_pos (decide_eq_true c), if_pos c, List.map_cons, h1]
      exact ⟨x.c :: v, rfl, by rw [List.sum_cons, h2]⟩
    · rw [if_neg (by simpa using c), if_neg c]
      exact ⟨v, h1, by omega⟩
theorem pickB_sum {j : Int} : ∀ {sh : List Dd}, ∃ v : List Int, ((dueL sh).filter (pickB j)).map pickC = vI v ∧ v.sum = sumB sh j
  | [] => ⟨[], rfl, rfl⟩
  | x :: sh => by
    obtain ⟨v, h1, h2⟩ := pickB_sum (j := j) (sh := sh)
    have e : dueL (x :: sh) = x.d :: dueL sh := rfl
    have p : pickB j x.d = decide (x.b = j) := rfl
    have s : sumB (x :: sh) j = (if x.b = j then x.c else 0) + sumB sh j := by unfold sumB; rw [List.map_cons, List.sum_cons]
    rw [e, List.filter_cons, p, s]
    by_cases c : x.b = j
    · rw [if_pos (decide_eq_true c), if_pos c, List.map_cons, h1]
      exact ⟨x.c :: v, rfl, by rw [List.sum_cons, h2]⟩
    · rw [if_neg (by simpa using c), if_neg c]
      exact ⟨v, h1, by omega⟩
theorem cut_take {xs : List D} {h : Int} (h0 : 0 ≤ h) : cutD xs none (some h) = xs.take h.toNat := by
  unfold cutD HT.sIx
  dsimp only
  rw [if_neg (by omega), List.drop_zero, Nat.sub_zero]
  by_cases c : h.toNat ≤ xs.length
  · rw [Nat.min_eq_left c]
  · rw [Nat.min_eq_right (by omega), List.take_length, List.take_of_length_le (by omega)]
theorem cut_drop {xs : List D} {h : Int} (h0 : 0 ≤ h) : cutD xs (some h) none = xs.drop h.toNat := by
  unfold cutD HT.sIx
  dsimp only
  rw [if_neg (by omega)]
  by_cases c : h.toNat ≤ xs.length
  · rw [Nat.min_eq_left c, List.take_of_length_le (by rw [List.length_drop]; omega)]
  · rw [Nat.min_eq_right (by omega), List.drop_length, List.drop_of_length_le (by omega)]
    simp
theorem dueL_take {sh : List Dd} {n : Nat} : (dueL sh).take n = dueL (sh.take n) := by unfold dueL; rw [List.map_take]
theorem dueL_drop {sh : List Dd} {n : Nat} : (dueL sh).drop n = dueL (sh.drop n) := by unfold dueL; rw [List.map_drop]
/-- the gaps -/
def gapsI (v p : List Int) : List Int := (List.range p.length).map fun (k : Nat) => if 0 - gI v k - gI p k > 0 then 0 - gI v k - gI p k else 0
theorem gapsI_len {v p : List Int} : (gapsI v p).length = p.length := by unfold gapsI; simp
theorem gapsI_get {v p : List Int} {n : Nat} (h : n < p.length) : gI (gapsI v p) n = if 0 - gI v n - gI p n > 0 then 0 - gI v n - gI p n else 0 := by
  rw [gI_nat (by rw [gapsI_len]; exact h)]
  unfold gapsI
  rw [List.getElem_map, List.getElem_range]
theorem gapsI_alike {m : Int} {a b : List Dd} {p : List Int} (hp : (p.length : Int) = m) (ha : ∀ x ∈ a, x.Ok m) (hb : ∀ x ∈ b, x.Ok m) (h : ∀ j, sumB a j - sumA a j = sumB b j - sumA b j) : gapsI (netsI m a) p = gapsI (netsI m b) p := by
  refine ext_gI (by rw [gapsI_len, gapsI_len]) fun j h0 h1 => ?_
  rw [gapsI_len] at h1
  obtain ⟨n, rfl⟩ : ∃ n : Nat, j = (n : Int) := ⟨j.toNat, by omega⟩
  rw [gapsI_get (by omega), gapsI_get (by omega), nets_lack ha (by omega) (by omega), nets_lack hb (by omega) (by omega), h]
theorem gapsI_none {n : Nat} : gapsI (netsI n []) (zeros n) = zeros n := by
  refine ext_gI (by rw [gapsI_len]) fun j h0 h1 => ?_
  rw [gapsI_len, zeros_len] at h1
  obtain ⟨i, rfl⟩ : ∃ i : Nat, j = (i : Int) := ⟨j.toNat, by omega⟩
  rw [gapsI_get (by rw [zeros_len]; omega)]
  have e : netsI n [] = zeros (n : Int).toNat := rfl
  rw [e, zeros_get, zeros_get]
  rfl
/-- a due put in at a place -/
theorem sumA_in {sh : List Dd} {n : Nat} {x : Dd} {j : Int} : sumA (sh.take n ++ [x] ++ sh.drop n) j = sumA sh j + if x.a = j then x.c else 0 := by
  have e : sumA sh j = sumA (sh.take n) j + sumA (sh.drop n) j := by rw [← sumA_app, List.take_append_drop]
  rw [sumA_app, sumA_app, e]
  have : sumA [x] j = if x.a = j then x.c else 0 := by unfold sumA; simp
  omega
theorem sumB_in {sh : List Dd} {n : Nat} {x : Dd} {j : Int} : sumB (sh.take n ++ [x] ++ sh.drop n) j = sumB sh j + if x.b = j then x.c else 0 := by
  have e : sumB sh j = sumB (sh.take n) j + sumB (sh.drop n) j := by rw [← sumB_app, List.take_append_drop]
  rw [sumB_app, sumB_app, e]
  have : sumB [x] j = if x.b = j then x.c else 0 := by unfold sumB; simp
  omega
theorem mem_in {sh : List Dd} {n : Nat} {x y : Dd} (h : y ∈ sh.take n ++ [x] ++ sh.drop n) : y ∈ sh ∨ y = x := by
  rcases List.mem_append.mp h with h | h
  · rcases List.mem_append.mp h with h | h
    · exact .inl (List.mem_of_mem_take h)
    · exact .inr (List.mem_singleton.mp h)
  · exact .inl (List.mem_of_mem_drop h)
end Ab

namespace Ab
open PySem
/-! ### one coin more to the first that may have it -/
def ovG (f : Nat → Bool) (o : Int) : Nat → Int
  | 0 => o
  | n + 1 => if 0 < ovG f o n ∧ f n = true then ovG f o n - 1 else ovG f o n
def liG (f : Nat → Bool) (o : Int) (q : List Int) : Nat → List Int
  | 0 => q
  | n + 1 => if 0 < ovG f o n ∧ f n = true then (liG f o q n).set n (gI (liG f o q n) n + 1) else liG f o q n
section
variable {f : Nat → Bool} {o : Int} {q : List Int}
theorem liG_len : ∀ {n : Nat}, (liG f o q n).length = q.length
  | 0 => rfl
  | n + 1 => by
    unfold liG
    split
    · rw [List.length_set, liG_len]
    · exact liG_len
theorem liG_get : ∀ {n k : Nat}, n ≤ q.length → gI (liG f o q n) k = gI q k + if k < n ∧ 0 < ovG f o k ∧ f k = true then 1 else 0
  | 0, k, _ => by
    rw [if_neg (by omega)]
    show gI q k = _
    omega
  | n + 1, k, h => by
    have ih := liG_get (n := n) (k := k) (by omega)
    have e1 : liG f o q (n + 1) = if 0 < ovG f o n ∧ f n = true then (liG f o q n).set n (gI (liG f o q n) n + 1) else liG f o q n := rfl
    rw [e1]
    by_cases hc : 0 < ovG f o n ∧ f n = true
    · rw [if_pos hc, gI_set (by rw [liG_len]; omega)]
      by_cases e : k = n
      · subst e
        rw [if_pos rfl, ih, if_neg (by omega), if_pos ⟨by omega, hc⟩]
        omega
      · rw [if_neg e, ih]
        by_cases hk : k < n
        · have : (k < n ∧ 0 < ovG f o k ∧ f k = true) ↔ (k < n + 1 ∧ 0 < ovG f o k ∧ f k = true) := ⟨fun z => ⟨by omega, z.2⟩, fun z => ⟨hk, z.2⟩⟩
          simp only [this]
        · rw [if_neg (by omega), if_neg (by omega)]
    · rw [if_neg hc, ih]
      by_cases e : k = n
      · subst e
        rw [if_neg (by omega), if_neg (fun z => hc z.2)]
      · by_cases hk : k < n
        · have : (k < n ∧ 0 < ovG f o k ∧ f k = true) ↔ (k < n + 1 ∧ 0 < ovG f o k ∧ f k = true) := ⟨fun z => ⟨by omega, z.2⟩, fun z => ⟨hk, z.2⟩⟩
          simp only [this]
        · rw [if_neg (by omega), if_neg (by omega)]
theorem liG_sum : ∀ {n : Nat}, n ≤ q.length → (liG f o q n).sum = q.sum + o - ovG f o n
  | 0, _ => by
    show q.sum = q.sum + o - o
    omega
  | n + 1, h => by
    have ih := liG_sum (n := n) (by omega)
    have e1 : liG f o q (n + 1) = if 0 < ovG f o n ∧ f n = true then (liG f o q n).set n (gI (liG f o q n) n + 1) else liG f o q n := rfl
    have e2 : ovG f o (n + 1) = if 0 < ovG f o n ∧ f n = true then ovG f o n - 1 else ovG f o n := rfl
    rw [e1, e2]
    split
    · rw [sum_set (by rw [liG_len]; omega), ih]
      omega
    · exact ih
theorem ovG_nonneg (h0 : 0 ≤ o) : ∀ n, 0 ≤ ovG f o n
  | 0 => h0
  | n + 1 => by
    have := ovG_nonneg h0 n
    have e2 : ovG f o (n + 1) = if 0 < ovG f o n ∧ f n = true then ovG f o n - 1 else ovG f o n := rfl
    rw [e2]
    split <;> omega
/-- how many ahead of n may have one -/
def cntG (f : Nat → Bool) : Nat → Nat
  | 0 => 0
  | n + 1 => cntG f n + if f n = true then 1 else 0
theorem ovG_cnt (h0 : 0 ≤ o) : ∀ n, ovG f o n = if o ≤ cntG f n then 0 else o - cntG f n
  | 0 => by
    show o = if o ≤ (0 : Nat) then 0 else o - (0 : Nat)
    split <;> omega
  | n + 1 => by
    have ih := ovG_cnt h0 n
    have e2 : ovG f o (n + 1) = if 0 < ovG f o n ∧ f n = true then ovG f o n - 1 else ovG f o n := rfl
    have e3 : cntG f (n + 1) = cntG f n + if f n = true then 1 else 0 := rfl
    rw [e2, ih, e3]
    by_cases c : f n = true
    · simp only [c, and_true, if_true]
      by_cases d : o ≤ cntG f n
      · rw [if_pos d, if_neg (by omega), if_pos (by omega)]
      · rw [if_neg d, if_pos (by omega)]
        by_cases d2 : o ≤ ((cntG f n + 1 : Nat) : Int)
        · rw [if_pos d2]; omega
        · rw [if_neg d2]; omega
    · simp only [c, and_false, if_false, Bool.false_eq_true]
      rfl
theorem ovG_end {n : Nat} (h0 : 0 ≤ o) (h : o ≤ cntG f n) : ovG f o n = 0 := by
  rw [ovG_cnt h0, if_pos h]
end
/-! ### borne by level -/
def levelR : Int → Int → List Int → Int
  | l, _, [] => l
  | l, r, x :: xs => if r < (x - l) * ((xs.length : Int) + 1) then l + r / ((xs.length : Int) + 1) else levelR x (r - (x - l) * ((xs.length : Int) + 1)) xs
def minS (l : Int) (xs : List Int) : Int := (xs.map fun x => if l < x then l else x).sum
def above (l : Int) (xs : List Int) : Nat := (xs.filter fun x => decide (l < x)).length
theorem minS_cons {l x : Int} {xs : List Int} : minS l (x :: xs) = (if l < x then l else x) + minS l xs := by unfold minS; rw [List.map_cons, List.sum_cons]
theorem minS_all {l : Int} : ∀ {xs : List Int}, (∀ x ∈ xs, l < x) → minS l xs = l * (xs.length : Int) ∧ above l xs = xs.length
  | [], _ => by simp [minS, above]
  | x :: xs, h => by
    have hx := h x (by simp)
    obtain ⟨h1, h2⟩ := minS_all (xs := xs) fun y hy => h y (by simp [hy])
    unfold above at *
    rw [minS_cons, if_pos hx, h1, List.filter_cons, if_pos (by simpa using hx)]
    refine ⟨?_, by rw [List.length_cons, List.length_cons, h2]⟩
    rw [List.length_cons, Int.natCast_add, Int.mul_add]
    simp
    omega
/-- the level of ranked bounds: what lies beneath it is at most the coins, and what is left over is less than the number of those above it -/
theorem levelR_ok : ∀ {xs : List Int} {l r : Int}, xs.Pairwise (· ≤ ·) → (∀ x ∈ xs, l ≤ x) → 0 ≤ r →
    l ≤ levelR l r xs ∧ 0 ≤ r - (minS (levelR l r xs) xs - l * (xs.length : Int)) ∧ (r - (minS (levelR l r xs) xs - l * (xs.length : Int)) < above (levelR l r xs) xs ∨ minS (levelR l r xs) xs = xs.sum)
  | [], l, r, _, _, hr => by
    show l ≤ l ∧ 0 ≤ r - (minS l [] - l * ((0 : Nat) : Int)) ∧ (_ ∨ minS l [] = ([] : List Int).sum)
    refine ⟨by omega, ?_, .inr rfl⟩
    have : minS l [] = 0 := rfl
    rw [this]
    simp
    exact hr
  | x :: xs, l, r, hp, hl, hr => by
    have hp' := List.pairwise_cons.mp hp
    have hx := hl x (by simp)
    have hm : 0 < (xs.length : Int) + 1 := by omega
    have e : levelR l r (x :: xs) = if r < (x - l) * ((xs.length : Int) + 1) then l + r / ((xs.length : Int) + 1) else levelR x (r - (x - l) * ((xs.length : Int) + 1)) xs := rfl
    rw [e]
    split
    · rename_i c
      have d0 := Int.mul_ediv_add_emod r ((xs.length : Int) + 1)
      have d1 := @emod_lo r _ hm
      have d2 := @emod_hi r _ hm
      have d3 : r / ((xs.length : Int) + 1) < x - l := Int.ediv_lt_of_lt_mul hm c
      have d4 : 0 ≤ r / ((xs.length : Int) + 1) := Int.ediv_nonneg hr (by omega)
      obtain ⟨h1, h2⟩ := @minS_all (l + r / ((xs.length : Int) + 1)) (x :: xs) fun y hy => by
        rcases List.mem_cons.mp hy with rfl | hy
        · omega
        · have := hp'.1 y hy
          omega
      rw [h1, h2, List.length_cons, Int.natCast_add, Int.natCast_one, Int.add_mul]
      have d5 : r / ((xs.length : Int) + 1) * ((xs.length : Int) + 1) = ((xs.length : Int) + 1) * (r / ((xs.length : Int) + 1)) := Int.mul_comm _ _
      refine ⟨by omega, by omega, .inl ?_⟩
      omega
    · rename_i c
      obtain ⟨h1, h2, h3⟩ := levelR_ok (xs := xs) (l := x) (r := r - (x - l) * ((xs.length : Int) + 1)) hp'.2 hp'.1 (by omega)
      generalize levelR x (r - (x - l) * ((xs.length : Int) + 1)) xs = L at h1 h2 h3
      have e1 : minS L (x :: xs) = x + minS L xs := by rw [minS_cons, if_neg (by omega)]
      have e2 : above L (x :: xs) = above L xs := by
        unfold above
        rw [List.filter_cons, if_neg (by simp; omega)]
      rw [e1, e2, List.length_cons, List.sum_cons, Int.natCast_add, Int.natCast_one, Int.mul_add, Int.mul_one]
      rw [Int.sub_mul, Int.mul_add, Int.mul_add, Int.mul_one, Int.mul_one] at h2 h3
      refine ⟨by omega, by omega, ?_⟩
      rcases h3 with h3 | h3
      · exact .inl (by omega)
      · exact .inr (by omega)
theorem perm_sum {a b : List Int} (h : a.Perm b) : a.sum = b.sum := by
  induction h with
  | nil => rfl
  | cons x _ ih => rw [List.sum_cons, List.sum_cons, ih]
  | swap x y l => rw [List.sum_cons, List.sum_cons, List.sum_cons, List.sum_cons]; omega
  | trans _ _ h1 h2 => exact h1.trans h2
theorem minS_perm {l : Int} {a b : List Int} (h : a.Perm b) : minS l a = minS l b := by
  unfold minS
  exact perm_sum (h.map _)
theorem above_perm {l : Int} {a b : List Int} (h : a.Perm b) : above l a = above l b := by
  unfold above
  exact (h.filter _).length_eq
def rankI (b : List Int) : List Int := b.mergeSort fun x y => decide (x ≤ y)
theorem rankI_perm (b : List Int) : (rankI b).Perm b := List.mergeSort_perm _ _
theorem rankI_sorted (b : List Int) : (rankI b).Pairwise (· ≤ ·) := by
  have := List.pairwise_mergeSort (le := fun x y : Int => decide (x ≤ y)) (by intro a b c h1 h2; simp at *; omega) (by intro a b; simp; omega) b
  exact this.imp fun h => by simpa using h
theorem rankI_only {b ms : List Int} (h1 : ms.Perm b) (h2 : ms.Pairwise (· ≤ ·)) : ms = rankI b :=
  List.Perm.eq_of_pairwise (le := fun x y => x ≤ y) (fun a b _ _ h h' => Int.le_antisymm h h') h2 (rankI_sorted b) (h1.trans (rankI_perm b).symm)
/-- the level, and what is left over -/
def levelI (c : Int) (b : List Int) : Int := levelR 0 c (rankI b)
theorem levelI_ok {c : Int} {b : List Int} (hb : ∀ z ∈ b, 0 ≤ z) (c0 : 0 ≤ c) (c1 : c ≤ b.sum) : 0 ≤ levelI c b ∧ 0 ≤ c - minS (levelI c b) b ∧ (c - minS (levelI c b) b < above (levelI c b) b ∨ c = minS (levelI c b) b ∧ minS (levelI c b) b = b.sum) := by
  obtain ⟨h1, h2, h3⟩ := levelR_ok (xs := rankI b) (l := 0) (r := c) (rankI_sorted b) (fun x hx => hb x ((rankI_perm b).mem_iff.mp hx)) c0
  rw [minS_perm (rankI_perm b), above_perm (rankI_perm b), perm_sum (rankI_perm b)] at h3
  rw [minS_perm (rankI_perm b)] at h2
  unfold levelI
  refine ⟨h1, by omega, ?_⟩
  rcases h3 with h3 | h3
  · exact .inl (by omega)
  · exact .inr ⟨by omega, h3⟩
def aboveF (l : Int) (b : List Int) (k : Nat) : Bool := decide (l < gI b k)
theorem above_cnt {l : Int} : ∀ {b : List Int}, above l b = cntG (aboveF l b) b.length
  | b => by
    have key : ∀ n, n ≤ b.length → above l (b.take n) = cntG (aboveF l b) n := by
      intro n
      induction n with
      | zero => intro _; rfl
      | succ n ih =>
        intro hn
        have e : b[n]? = some b[n] := List.getElem?_eq_getElem (by omega)
        have e3 : cntG (aboveF l b) (n + 1) = cntG (aboveF l b) n + if aboveF l b n = true then 1 else 0 := rfl
        rw [take_succ_of e, e3, ← ih (by omega)]
        unfold above aboveF
        rw [List.filter_append, List.length_append, gI_nat (by omega)]
        congr 1
        by_cases c : l < b[n]
        · simp [c]
        · simp [c]
    have := key b.length (Nat.le_refl _)
    rwa [List.take_length] at this
def minL (l : Int) (b : List Int) : List Int := b.map fun x => if l < x then l else x
theorem minL_len {l : Int} {b : List Int} : (minL l b).length = b.length := by unfold minL; simp
theorem minL_get {l : Int} {b : List Int} {n : Nat} (h : n < b.length) : gI (minL l b) n = if l < gI b n then l else gI b n := by
  rw [gI_nat (by rw [minL_len]; exact h), gI_nat h]
  unfold minL
  rw [List.getElem_map]
/-- what each bears -/
def levelL (c : Int) (b : List Int) : List Int := liG (aboveF (levelI c b) b) (c - minS (levelI c b) b) (minL (levelI c b) b) b.length
theorem levelL_len {c : Int} {b : List Int} : (levelL c b).length = b.length := by unfold levelL; rw [liG_len, minL_len]
theorem levelL_sum {c : Int} {b : List Int} (hb : ∀ z ∈ b, 0 ≤ z) (c0 : 0 ≤ c) (c1 : c ≤ b.sum) : (levelL c b).sum = c := by
  obtain ⟨h1, h2, h3⟩ := levelI_ok hb c0 c1
  unfold levelL
  rw [liG_sum (by rw [minL_len]; exact Nat.le_refl _), ovG_end h2 (by
    rw [← above_cnt]
    rcases h3 with h3 | h3
    · omega
    · rw [← h3.1]; omega)]
  have : (minL (levelI c b) b).sum = minS (levelI c b) b := rfl
  rw [this]
  omega
theorem levelL_get {c : Int} {b : List Int} {k : Nat} (hk : k < b.length) : gI (levelL c b) k = (if levelI c b < gI b k then levelI c b else gI b k) + if 0 < ovG (aboveF (levelI c b) b) (c - minS (levelI c b) b) k ∧ levelI c b < gI b k then 1 else 0 := by
  unfold levelL
  rw [liG_get (by rw [minL_len]; exact Nat.le_refl _), minL_get hk]
  congr 1
  have ef : (aboveF (levelI c b) b k = true) ↔ levelI c b < gI b k := by unfold aboveF; simp
  simp only [ef]
  by_cases c2 : 0 < ovG (aboveF (levelI c b) b) (c - minS (levelI c b) b) k ∧ levelI c b < gI b k
  · rw [if_pos c2, if_pos ⟨hk, c2⟩]
  · rw [if_neg c2, if_neg fun z => c2 z.2]
theorem levelR_stop {l r x st m : Int} {xs : List Int} (hm : (xs.length : Int) + 1 = m) (hs : (x - l) * m = st) (h : r < st) : levelR l r (x :: xs) = l + r / m := by
  subst hm hs
  exact if_pos h
theorem levelR_go {l r x st m : Int} {xs : List Int} (hm : (xs.length : Int) + 1 = m) (hs : (x - l) * m = st) (h : ¬ r < st) : levelR l r (x :: xs) = levelR x (r - st) xs := by
  subst hm hs
  exact if_neg h
end Ab

namespace Ab
open PySem PySem.Spec PyProof.Rows L2
/-! ### freezing all the way down -/
def FzR (S : Sto) (d a : D) (S' : Sto) : Prop := ∀ (K : PySem.W.Frag) (g : Gi) (H0 : Hp) (r : List Addr) (H : Hp) (v : V), Sim K g H0 r S H → Rel K H0 r d v →
  ∃ H0', Sim K g H0' r S' H ∧ Fut H0 r H H0' r H ∧ Rel K H0' r a v
def FzsR (S : Sto) (ds as : List D) (S' : Sto) : Prop := ∀ (K : PySem.W.Frag) (g : Gi) (H0 : Hp) (r : List Addr) (H : Hp) (vs : List V), Sim K g H0 r S H → Rels K H0 r ds vs →
  ∃ H0', Sim K g H0' r S' H ∧ Fut H0 r H H0' r H ∧ Rels K H0' r as vs
theorem FzR.same {S : Sto} {d : D} : FzR S d d S := fun _ _ H0 _ _ _ si rl => ⟨H0, si, .refl, rl⟩
theorem FzsR.nil {S : Sto} : FzsR S [] [] S := fun _ _ H0 _ _ _ si rl => ⟨H0, si, .refl, rl⟩
theorem FzsR.same {S : Sto} {ds : List D} : FzsR S ds ds S := fun _ _ H0 _ _ _ si rl => ⟨H0, si, .refl, rl⟩
theorem FzsR.cons {S S1 S2 : Sto} {d a : D} {ds as : List D} (h : FzR S d a S1) (h2 : FzsR S1 ds as S2) : FzsR S (d :: ds) (a :: as) S2 := by
  intro K g H0 r H vs si rl
  obtain ⟨y, ys, rfl, r1, r2⟩ := rl.uncons
  obtain ⟨H1, s1, f1, q1⟩ := h K g H0 r H y si r1
  obtain ⟨H2, s2, f2, q2⟩ := h2 K g H1 r H ys s1 (r2.fut f1)
  exact ⟨H2, s2, f1.tr s1 f2, Rels.cons (q1.fut f2) q2⟩
theorem FzR.cell {S S' : Sto} {n : Nat} {xs ys : List D} (e : S[n]? = some (.lst xs)) (h : FzsR S xs ys S') (e2 : S'[n]? = some (.lst xs)) : FzR S (.cell n) (.lst ys) (S'.set n .dead) := by
  intro K g H0 r H v si rl
  unfold Rel at rl
  obtain ⟨p, rfl, hr⟩ := rl
  obtain ⟨_, zs, hp, hz⟩ := si.cel n p _ hr e
  obtain ⟨H1, s1, f1, q1⟩ := h K g H0 r H zs si hz
  obtain ⟨ws, hp2, s2, f2, _⟩ := s1.freeze hr e2
  rw [hp] at hp2
  cases hp2
  refine ⟨_, s2, f1.tr s1 f2, ?_⟩
  unfold Rel
  exact ⟨p, zs, rfl, .inl upd_same, q1.fut f2⟩
theorem FzR.tup {S S' : Sto} {xs ys : List D} (h : FzsR S xs ys S') : FzR S (.tup xs) (.tup ys) S' := by
  intro K g H0 r H v si rl
  unfold Rel at rl
  obtain ⟨a, zs, rfl, h1, h2⟩ := rl
  obtain ⟨H1, s1, f1, q1⟩ := h K g H0 r H zs si h2
  refine ⟨H1, s1, f1, ?_⟩
  unfold Rel
  exact ⟨a, zs, rfl, f1.ext.sqt h1, q1⟩
theorem FzR.lst {S S' : Sto} {xs ys : List D} (h : FzsR S xs ys S') : FzR S (.lst xs) (.lst ys) S' := by
  intro K g H0 r H v si rl
  unfold Rel at rl
  obtain ⟨a, zs, rfl, h1, h2⟩ := rl
  obtain ⟨H1, s1, f1, q1⟩ := h K g H0 r H zs si h2
  refine ⟨H1, s1, f1, ?_⟩
  unfold Rel
  exact ⟨a, zs, rfl, f1.ext.rd h1, q1⟩
/-- a cell of data without cells -/
theorem FzR.cellP {S : Sto} {n : Nat} {xs : List D} (e : S[n]? = some (.lst xs)) : FzR S (.cell n) (.lst xs) (S.set n .dead) := FzR.cell e .same e
def frzDW (d : D) (S : Sto) (k : KD) : Prop := ∃ a S', FzR S d a S' ∧ k a S'
def wFrzD (w : WE) : WE := fun (xc : HG XE) s S k => w xc s S fun d S1 => frzDW d S1 k
section
variable {X : Cx} {g : Gi} {W : WX} {a b c e o : Expr} {pos : Pos} {wa wb wc we wo : WE}
theorem se_frzD (ha : SE X g W a wa) : SE X g W a (wFrzD wa) := by
  obtain ⟨ta, pa, ga⟩ := ha
  refine ⟨_, pa, fun H0 r S H s sv Q k xc si rs h ce cx => ?_⟩
  refine ga H0 r S H s sv _ _ xc si rs h (fun d v H1 r1 S1 H1' f1 s1 rl h1 => ?_) cx
  obtain ⟨a', S2, hf, hk⟩ := h1
  obtain ⟨H2, s2, f2, q2⟩ := hf _ _ _ _ _ v s1 rl
  exact ce _ _ _ _ _ _ (f1.tr s1 f2) s2 q2 hk
end
/-! blocks of cells -/
def cellsD (n m : Nat) : List D := (List.range m).map fun i => .cell (n + i)
theorem cellsD_len {n m : Nat} : (cellsD n m).length = m := by unfold cellsD; simp
theorem cellsD_get {n m i : Nat} (h : i < m) : (cellsD n m)[i]? = some (.cell (n + i)) := by
  unfold cellsD
  rw [List.getElem?_map, List.getElem?_range h]
  rfl
theorem cellsD_succ {n m : Nat} : cellsD n (m + 1) = .cell n :: cellsD (n + 1) m := by
  unfold cellsD
  rw [List.range_succ_eq_map, List.map_cons, List.map_map]
  congr 1
  apply List.map_congr_left
  intro i _
  show D.cell (n + (i + 1)) = D.cell (n + 1 + i)
  congr 1
  omega
theorem cellsD_snoc {n m : Nat} : cellsD n (m + 1) = cellsD n m ++ [.cell (n + m)] := by
  unfold cellsD
  rw [List.range_succ, List.map_append]
  rfl
/-- rows of whole numbers -/
theorem fz_block : ∀ (rows : List (List D)) (S : Sto) (n : Nat), (∀ (i : Nat) (xs : List D), rows[i]? = some xs → S[n + i]? = some (.lst xs)) →
    ∃ S', FzsR S (cellsD n rows.length) (rows.map .lst) S' ∧ S'.length = S.length ∧ ∀ j, j < n ∨ n + rows.length ≤ j → S'[j]? = S[j]?
  | [], S, n, _ => ⟨S, .nil, rfl, fun _ _ => rfl⟩
  | xs :: rows, S, n, h => by
    have e := h 0 xs rfl
    have hn : n < S.length := (List.getElem?_eq_some_iff.mp e).1
    obtain ⟨S', h1, h2, h3⟩ := fz_block rows (S.set n .dead) (n + 1) fun i ys hy => by
      rw [List.getElem?_set_ne (by omega)]
      have := h (i + 1) ys (by simpa using hy)
      rw [← this]
      congr 1
      omega
    refine ⟨S', ?_, by rw [h2, List.length_set], fun j hj => ?_⟩
    · rw [List.length_cons, cellsD_succ, List.map_cons]
      exact .cons (.cellP e) h1
    · rw [List.length_cons] at hj
      rw [h3 j (by omega), List.getElem?_set_ne (by omega)]
theorem take_of_get {α : Type} {l l' : List α} {n : Nat} (hl : n ≤ l.length) (h : ∀ j, j < n → l'[j]? = l[j]?) : l'.take n = l.take n := by
  apply List.ext_getElem?
  intro j
  by_cases hj : j < n
  · rw [List.getElem?_take_of_lt hj, List.getElem?_take_of_lt hj, h j hj]
  · rw [List.getElem?_eq_none (by rw [List.length_take]; omega), List.getElem?_eq_none (by rw [List.length_take]; omega)]
end Ab

namespace Ab
open PySem
theorem szlt {n : Nat} (h : n ≤ 1000000) : n < sizeLine := Nat.lt_of_le_of_lt h (by decide +kernel)
theorem szle {n : Nat} (h : n ≤ 1000000) : n ≤ sizeLine := Nat.le_trans h (by decide +kernel)
theorem cntG_last {f : Nat → Bool} : ∀ {n : Nat}, 0 < cntG f n → ∃ j, j < n ∧ f j = true ∧ cntG f j + 1 = cntG f n
  | 0, h => by
    have : cntG f 0 = 0 := rfl
    omega
  | n + 1, h => by
    have e3 : cntG f (n + 1) = cntG f n + if f n = true then 1 else 0 := rfl
    by_cases c : f n = true
    · rw [if_pos c] at e3
      exact ⟨n, by omega, c, by omega⟩
    · rw [if_neg c] at e3
      have e4 : cntG f n = cntG f (n + 1) := by omega
      obtain ⟨j, h1, h2, h3⟩ := cntG_last (f := f) (n := n) (by omega)
      exact ⟨j, by omega, h2, by omega⟩
theorem minS_le {l : Int} : ∀ {b : List Int}, minS l b ≤ b.sum
  | [] => by simp [minS]
  | x :: b => by
    have := minS_le (l := l) (b := b)
    rw [minS_cons, List.sum_cons]
    split <;> omega
theorem minS_lt {l : Int} : ∀ {b : List Int}, (∃ x ∈ b, l < x) → minS l b < b.sum
  | [], h => by simp at h
  | x :: b, ⟨y, hy, h⟩ => by
    rw [minS_cons, List.sum_cons]
    rcases List.mem_cons.mp hy with rfl | hy
    · have := minS_le (l := l) (b := b)
      rw [if_pos h]; omega
    · have := minS_lt (l := l) (b := b) ⟨y, hy, h⟩
      split <;> omega
theorem levelL_low {c : Int} {b : List Int} (hb : ∀ z ∈ b, 0 ≤ z) (c0 : 0 ≤ c) (c1 : c ≤ b.sum) (h : ∃ k, k < b.length ∧ levelI c b < gI b k) : ∃ j, j < b.length ∧ levelI c b < gI b j ∧ gI (levelL c b) j = levelI c b := by
  obtain ⟨h1, h2, h3⟩ := levelI_ok hb c0 c1
  obtain ⟨k, hk, hl⟩ := h
  rcases h3 with h3 | ⟨_, h3⟩
  · rw [above_cnt] at h3
    obtain ⟨j, j1, j2, j3⟩ := cntG_last (f := aboveF (levelI c b) b) (n := b.length) (by omega)
    have j4 : levelI c b < gI b j := by unfold aboveF at j2; simpa using j2
    refine ⟨j, j1, j4, ?_⟩
    have ez : ovG (aboveF (levelI c b) b) (c - minS (levelI c b) b) j = 0 := by
      rw [ovG_cnt h2, if_pos (by omega)]
    rw [levelL_get j1, if_pos j4, ez, if_neg fun z => by omega]
    omega
  · have := minS_lt (l := levelI c b) (b := b) ⟨gI b k, gI_mem hk, hl⟩
    omega
theorem levelL_met {c : Int} {b : List Int} {k : Nat} (hk : k < b.length) (h : ¬ levelI c b < gI b k) : gI (levelL c b) k = gI b k := by
  rw [levelL_get hk, if_neg h, if_neg fun z => h z.2]
  omega
theorem levelL_rng {c : Int} {b : List Int} {k : Nat} (hk : k < b.length) (h : levelI c b < gI b k) : levelI c b ≤ gI (levelL c b) k ∧ gI (levelL c b) k ≤ levelI c b + 1 ∧ (gI (levelL c b) k = levelI c b ↔ ovG (aboveF (levelI c b) b) (c - minS (levelI c b) b) k ≤ 0) := by
  rw [levelL_get hk, if_pos h]
  by_cases g : 0 < ovG (aboveF (levelI c b) b) (c - minS (levelI c b) b) k
  · rw [if_pos ⟨g, h⟩]
    omega
  · rw [if_neg fun z => g z.1]
    omega
theorem levelL_le {c : Int} {b : List Int} {k : Nat} (hk : k < b.length) : gI (levelL c b) k ≤ gI b k := by
  by_cases h : levelI c b < gI b k
  · have := levelL_rng hk h
    omega
  · rw [levelL_met hk h]
    omega
theorem eq_of_le {a b : List Int} (hl : a.length = b.length) (h : ∀ k : Nat, k < b.length → gI a k ≤ gI b k) (hs : a.sum = b.sum) : a = b := by
  induction a generalizing b with
  | nil =>
    cases b with
    | nil => rfl
    | cons y b => simp at hl
  | cons x a ih =>
    cases b with
    | nil => simp at hl
    | cons y b =>
      have hl' : a.length = b.length := by simpa using hl
      have h0 : x ≤ y := h 0 (by simp)
      have h1 : ∀ k : Nat, k < b.length → gI a k ≤ gI b k := fun k hk => h (k + 1) (by simp; omega)
      have ls : ∀ {a b : List Int}, a.length = b.length → (∀ k : Nat, k < b.length → gI a k ≤ gI b k) → a.sum ≤ b.sum := by
        intro a
        induction a with
        | nil => intro b hl _; cases b with
          | nil => simp
          | cons y b => simp at hl
        | cons x a ih2 => intro b hl h; cases b with
          | nil => simp at hl
          | cons y b =>
            have := ih2 (b := b) (by simpa using hl) fun k hk => h (k + 1) (by simp; omega)
            have h0 : x ≤ y := h 0 (by simp)
            rw [List.sum_cons, List.sum_cons]
            omega
      have h2 := ls hl' h1
      rw [List.sum_cons, List.sum_cons] at hs
      obtain rfl : x = y := by omega
      rw [ih hl' h1 (by omega)]
theorem shareL_all {b : List Int} (hb : ∀ z ∈ b, 0 ≤ z) : shareL b.sum b = b := by
  have sn : 0 ≤ b.sum := sum_nonneg hb
  refine eq_of_le shareL_len (fun n hn => ?_) (shareL_sum hb sn (Int.le_refl _))
  unfold shareL
  by_cases c : b.sum = 0
  · rw [if_pos c, gI_nat (by simp; omega), List.getElem_map]
    exact hb _ (gI_mem hn)
  · rw [if_neg c]
    have hw : 0 < b.sum := by omega
    obtain ⟨h1, h2, h3⟩ := shareL_apart (c := b.sum) (w := b.sum) (b := b) hw rfl hn
    rw [rS_get hn] at h1
    have e : b.sum * gI b n % b.sum = 0 := Int.mul_emod_right _ _
    rw [e, if_neg fun z => z.2 rfl] at h1
    have h4 : gI (liS b.sum b.sum b b.length) n * b.sum = gI b n * b.sum := by
      rw [Int.mul_comm (gI b n)]; omega
    exact Int.le_of_eq (Int.eq_of_mul_eq_mul_right (by omega) h4)
theorem levelL_all {b : List Int} (hb : ∀ z ∈ b, 0 ≤ z) : levelL b.sum b = b :=
  eq_of_le levelL_len (fun n hn => levelL_le hn) (levelL_sum hb (sum_nonneg hb) (Int.le_refl _))
section
variable {S : Sto} {k : KD} {xs ys : List D} {n m : Nat}
theorem neW_lc (hS : S[n]? = some (.lst xs)) (h1 : plainAll xs = true) (h2 : plainAll ys = true) (o1 : okEq 9 (.lst xs) = true) (o2 : okEq 9 (.lst ys) = true) (h : ∀ b : Bool, (b = true ↔ ys = xs) → k (.bl !b) S) : neW (.lst ys) (.cell n) S k :=
  eqW_lc (k := kNot k) hS h1 h2 o1 o2 h
theorem neW_cl (hS : S[n]? = some (.lst xs)) (h1 : plainAll xs = true) (h2 : plainAll ys = true) (o1 : okEq 9 (.lst xs) = true) (o2 : okEq 9 (.lst ys) = true) (h : ∀ b : Bool, (b = true ↔ xs = ys) → k (.bl !b) S) : neW (.cell n) (.lst ys) S k :=
  eqW_cl (k := kNot k) hS h1 h2 o1 o2 h
theorem neW_cc (hS : S[n]? = some (.lst xs)) (hT : S[m]? = some (.lst ys)) (h1 : plainAll xs = true) (h2 : plainAll ys = true) (o1 : okEq 9 (.lst xs) = true) (o2 : okEq 9 (.lst ys) = true) (h : ∀ b : Bool, (b = true ↔ xs = ys) → k (.bl !b) S) : neW (.cell n) (.cell m) S k :=
  eqW_cc (k := kNot k) hS hT h1 h2 o1 o2 h
theorem eqW_lcs (hS : S[n]? = some (.lst xs)) (h1 : plainAll xs = true) (o1 : okEq 9 (.lst xs) = true) (h : k (.bl true) S) : eqW (.lst xs) (.cell n) S k :=
  eqW_lc hS h1 h1 o1 o1 fun q e => by obtain rfl := e.mpr rfl; exact h
theorem eqW_cls (hS : S[n]? = some (.lst xs)) (h1 : plainAll xs = true) (o1 : okEq 9 (.lst xs) = true) (h : k (.bl true) S) : eqW (.cell n) (.lst xs) S k :=
  eqW_cl hS h1 h1 o1 o1 fun q e => by obtain rfl := e.mpr rfl; exact h
theorem eqW_ccs (hS : S[n]? = some (.lst xs)) (hT : S[m]? = some (.lst xs)) (h1 : plainAll xs = true) (o1 : okEq 9 (.lst xs) = true) (h : k (.bl true) S) : eqW (.cell n) (.cell m) S k :=
  eqW_cc hS hT h1 h1 o1 o1 fun q e => by obtain rfl := e.mpr rfl; exact h
theorem neW_lcs (hS : S[n]? = some (.lst xs)) (h1 : plainAll xs = true) (o1 : okEq 9 (.lst xs) = true) (h : k (.bl false) S) : neW (.lst xs) (.cell n) S k := eqW_lcs (k := kNot k) hS h1 o1 h
theorem neW_cls (hS : S[n]? = some (.lst xs)) (h1 : plainAll xs = true) (o1 : okEq 9 (.lst xs) = true) (h : k (.bl false) S) : neW (.cell n) (.lst xs) S k := eqW_cls (k := kNot k) hS h1 o1 h
theorem neW_ccs (hS : S[n]? = some (.lst xs)) (hT : S[m]? = some (.lst xs)) (h1 : plainAll xs = true) (o1 : okEq 9 (.lst xs) = true) (h : k (.bl false) S) : neW (.cell n) (.cell m) S k := eqW_ccs (k := kNot k) hS hT h1 o1 h
end
end Ab

namespace Ab
open PySem PySem.Spec PyProof.Rows L2
/-! ### list(reversed(a list)) -/
section
variable {prog : Program} {w : World} {A : Around} {E : Value → Shared → Prop} {s : Shared}
theorem list_init_rev {R : Result → Shared → Prop} {it l : Addr} {items : Array Value} (hh : A.handled = none) (hit : s.heap.IsRevIter it l ((items.size : Int) - 1)) (hl : s.heap.IsList l items) (hne : l ≠ it) (hn : items.size ≤ sizeLine) (S : Addr) (hS : s.heap.get? S = some { cls := .type "list", data := .seq #[] }) (hSi : S ≠ it) (hSl : S ≠ l)
    (hR : ∀ h' tk acc' c', (∀ b o, b ≠ S → b ≠ it → s.heap.get? b = some o → h'.get? b = some o) → h'.get? S = some { cls := .type "list", dict := none, data := .seq acc' c', slots := #[] } →
      ItemsOf (fun i v => items[items.size - 1 - i]? = some v) acc' items.size → R (.ok (.ret .none)) { s with heap := h', toks := tk }) :
    wpAny (model prog w) A.in1 (Builtin.«list.__init__» ⟨[.ref S, .ref it], []⟩)
      (fun fin s' => match fin with | .done f => R (.ok f) s' | .again c' => c'.quiet = true ∧ codeAny (model prog w) A c' R s') (fun e s' => R (.error e) s') s := by
  show wpAny _ _ (do let old ← Builtin.List.listItems (.ref S); Builtin.List.listUpdate (.ref S) (fun _ => #[]); letGo old.toList.reverse; Builtin.List.listExtendWith (.ref S) (.ref it) .none) _ _ s
  refine wpAny_bind ?_
  unfold Builtin.List.listItems
  refine wpAny_bind (wpAny_seqItems hS rfl (wpAny_pure ?_))
  show wpAny _ _ (updateSeq S (fun _ => #[]) >>= fun _ => letGo (#[] : Array Value).toList.reverse >>= fun _ => Builtin.List.listExtendWith (.ref S) (.ref it) .none) _ _ s
  refine wpAny_bind (wpAny_updateSeq hS rfl ?_)
  have hS₂ := Heap.get?_update_self (Obj.mapSeq (fun _ => (#[] : Array Value))) hS rfl
  have oth : ∀ b o, b ≠ S → s.heap.get? b = some o → (s.heap.update S (Obj.mapSeq (fun _ => (#[] : Array Value)))).get? b = some o :=
    fun b o hb e => (Heap.get?_update_other _ _ (Ne.symm hb)).trans e
  refine wpAny_bind (wpAny_letGo ?_)
  have hit1 : (s.heap.update S (Obj.mapSeq (fun _ => (#[] : Array Value)))).IsRevIter it l ((items.size : Int) - 1) := hit.at fun o e => oth it o (Ne.symm hSi) e
  have hl1 : (s.heap.update S (Obj.mapSeq (fun _ => (#[] : Array Value)))).IsList l items := by
    obtain ⟨o, ho, hc⟩ := hl
    exact ⟨o, oth l o (Ne.symm hSl) ho, hc⟩
  have W := (Walks.listRev (prog := prog) (w := w) (A := A.in1) hh it l hne items).toS
  have hSf : S ∉ [it, l] := by simp only [List.mem_cons, List.not_mem_nil, or_false, not_or]; exact ⟨hSi, hSl⟩
  generalize hhp : s.heap.update S (Obj.mapSeq (fun _ => (#[] : Array Value))) = hp at hit1 hl1 hS₂ oth
  have hT : ({ s with heap := hp } : Shared).TypeIs (.ref it) "list_reverseiterator" := Heap.IsRevIter.typeIs (s := { s with heap := hp }) hit1
  have h1 : Builtin.List.listSameRef (.ref S) (.ref it) = false := by simp [Builtin.List.listSameRef, hSi]
  unfold Builtin.List.listExtendWith
  refine wpAny_bind (wpAny_typeOf hT ?_)
  rw [if_neg (by rw [h1]; decide)]
  refine wpAny_bind (wpAny_pyIter_revIter (s := { s with heap := hp }) hit1 ?_)
  refine wpAny_bind (wpAny_holding ?_)
  unfold Builtin.List.listLengthHint
  refine wpAny_bind (wpAny_specialOf hT RT.nolen_lri ?_)
  show wpAny _ A.in1 (specialOf (Value.ref it) (Str.ofString "__length_hint__") >>= _) _ _ _
  refine wpAny_bind (wpAny_specialOf hT RT.hint_lri ?_)
  generalize hid : ("list_reverseiterator.__length_hint__" : String) = id0
  wp_delta
  rw [show splitId id0 = some ("list_reverseiterator", "__length_hint__") from by subst hid; decide +kernel]
  subst hid
  refine wpAny_bind (wpAny_isInstance (b := true) hT (by rw [isSubtype_type]; kernel_rfl) ?_)
  refine wpAny_pure ?_
  rw [if_neg (by decide)]
  have e0 : ((items.size : Nat) : Int) - 1 - ((0 : Nat) : Int) = (items.size : Int) - 1 := by omega
  refine wpAny_pure ⟨plainId_quiet F.plain_extend_loop _, codeAny_extend_loopS W hn _ hSf _ items.size 0 _ _ _ rfl (Nat.zero_le _) ⟨Nat.zero_le _, by rw [e0]; exact hit1, hl1⟩ hS₂ (ItemsOf.nil _) fun s' acc' c' hm hS' hacc => ?_⟩
  rw [Moved.eq_with hm]
  refine hR s'.heap s'.toks acc' c' (fun b o hb hb2 e => hm.heap b o (fun hmem => ?_) (oth b o hb e)) hS' hacc
  rcases List.mem_cons.mp hmem with e' | hmem
  · exact hb e'
  · exact hb2 (List.mem_singleton.mp hmem)
theorem call_list_rev {it l : Addr} {items : Array Value} {Q : Value → Shared → Prop} (hh : A.handled = none) (hit : s.heap.IsRevIter it l ((items.size : Int) - 1)) (hl : s.heap.IsList l items) (hne : l ≠ it) (hn : items.size ≤ sizeLine)
    (hQ : ∀ (h' : Heap) (tk : Nat) (acc : Array Value) (c' : Nat), (∀ b o, b ≠ it → s.heap.get? b = some o → h'.get? b = some o) → h'.get? s.heap.objs.size = some { cls := .type "list", dict := none, data := .seq acc c', slots := #[] } → ItemsOf (fun i v => items[items.size - 1 - i]? = some v) acc items.size →
      Q (.ref s.heap.objs.size) { s with heap := h', toks := tk }) :
    wpAny (model prog w) A (call (.type "list") [.ref it]) Q E s := by
  obtain ⟨oi, hoi, _⟩ := id hit
  obtain ⟨ol, hol, _⟩ := id hl
  have hSi : s.heap.objs.size ≠ it := Nat.ne_of_gt (Heap.lt_size hoi)
  have hSl : s.heap.objs.size ≠ l := Nat.ne_of_gt (Heap.lt_size hol)
  refine callType_codes (Q₁ := fun obj s₁ => obj = .ref s.heap.objs.size ∧ s₁ = { s with heap := s.heap.push { cls := .type "list", data := .seq #[] } }) F.called_list (F.typeCall_list_1 _) F.entry_list_init
    (code_list_new _ ⟨rfl, rfl⟩) fun obj s₁ h₁ => ?_
  obtain ⟨rfl, rfl⟩ := h₁
  have hS : (s.heap.push { cls := .type "list", data := .seq #[] }).get? s.heap.objs.size = some { cls := .type "list", data := .seq #[] } := Heap.get?_push_size _ rfl
  refine ⟨⟨_, hS, rfl⟩, F.args_list_init_2 _ _, list_init_rev (s := { s with heap := s.heap.push { cls := .type "list", data := .seq #[] } }) (A := A.in1) hh (hit.at fun o e => Heap.get?_push_of_some _ e) (hl.push _) hne hn _ hS hSi hSl fun h' tk acc' c' hk hS' hacc => ?_⟩
  exact ⟨rfl, hQ h' tk acc' c' (fun b o hb e => hk b o (Nat.ne_of_lt (Heap.lt_size e)) hb (Heap.get?_push_of_some _ e)) hS' hacc⟩
end
def tLstRev (K : PySem.W.Frag) (te : TE) : TE := fun σ H Q => te σ H fun v H1 => ∃ (a : Addr) (xs : List V), v = .ref a ∧ SqL K H1 a xs ∧ ∀ q, H1 q = none → Q (.ref q) (upd H1 q (.lst xs.reverse))
section
variable {X : Cx}
theorem pe_lstRev {e : Expr} {te : TE} {p p2 pos pos2 : Pos} (hc : X.calm = true) (hg : Gl X "list") (hm : X.mg "list" = none) (hg2 : Gl X "reversed") (hm2 : X.mg "reversed" = none) (he : PE X e te)
    (hs : starEach [e] X.env = (false, eval e X.env) :: starEach [] X.env := by rfl)
    (hs2 : starEach [.Call (.Name "reversed" p2) [e] [] pos2] X.env = (false, eval (.Call (.Name "reversed" p2) [e] [] pos2) X.env) :: starEach [] X.env := by rfl) :
    PE X (.Call (.Name "list" p) [.Call (.Name "reversed" p2) [e] [] pos2] [] pos) (tLstRev X.K te) := by
  refine ⟨fun pins s σ H Q I h => ?_⟩
  refine Call_ (ld_blt I hg hm boot_list (PyProof.Rows.callWith_type1 (args_cons (Call_ (ld_blt I hg2 hm2 PyProof.Rows.boot_reversed (PyProof.Rows.callWith_type1 (args_cons (thn (he.run pins s σ H _ I h) fun u s1 ⟨v, H1, I1, r1, q1⟩ => args_nil ?_) hs) hs rfl))) hs2) hs2 rfl))
  obtain ⟨a, xs, ev, hq, q⟩ := q1
  subst ev
  obtain rfl : u = Value.ref a := r1
  obtain ⟨its, rv, p', hz⟩ := I1.list hq
  refine call_reversed_list p'.isList (args_nil ?_)
  have k0 : ∀ b o, s1.heap.get? b = some o → (s1.heap.push (revObj a ((its.toArray.size : Int) - 1))).get? b = some o := fun b o e => Heap.get?_push_of_some _ e
  have I2 : Inv X pins σ H1 { s1 with heap := s1.heap.push (revObj a ((its.toArray.size : Int) - 1)) } := I1.kept (t' := s1.toks) k0
  obtain ⟨f0, f1, f2, f3, f4, f5⟩ := I1.fpOk (H' := H1) (b := s1.heap.objs.size) (Nat.le_refl _) (I1.hok.fresh (Nat.le_refl _))
  have hl := p'.isList
  obtain ⟨ol, hol, _⟩ := id hl
  have hne : a ≠ s1.heap.objs.size := Nat.ne_of_lt (Heap.lt_size hol)
  have hn : its.toArray.size ≤ sizeLine := by rw [List.size_toArray, ← rv.length]; exact hz
  refine call_list_rev (s := { s1 with heap := s1.heap.push (revObj a ((its.toArray.size : Int) - 1)) }) (I1.ok.hd hc) ⟨_, Heap.get?_push_size _ rfl, rfl, rfl⟩ (hl.push _) hne hn fun h' tk acc c' hk hS hi => ?_
  have hp0 : (s1.heap.push (revObj a ((its.toArray.size : Int) - 1))).get? s1.heap.objs.size = some (revObj a ((its.toArray.size : Int) - 1)) := Heap.get?_push_size _ rfl
  have hle : s1.heap.objs.size ≤ (s1.heap.push (revObj a ((its.toArray.size : Int) - 1))).objs.size := Nat.le_of_lt (Heap.lt_size hp0)
  refine ⟨.ref _, upd H1 _ (.lst xs.reverse), I1.laid (t' := tk) (h' := h') (fun b o e => hk b o (Nat.ne_of_lt (Heap.lt_size e)) (Heap.get?_push_of_some _ e)) hle (show ObjOk X.prog X.w _ _ _ (.lst xs.reverse) from ⟨by rw [List.length_reverse]; exact hz, acc.toList, c', RT.vals_rev rv hi, ?_⟩), rfl, q _ (I1.hok.fresh hle)⟩
  rw [Array.toArray_toList]
  exact hS
end
section
variable {X : Cx} {g : Gi} {W : WX} {a b c e o : Expr} {es : List Expr} {pos cpos apos : Pos} {wa wb wc we wo : WE} {wt wu : WT} {ws : WA}
variable {K : PySem.W.Frag} {H0 H : Hp} {r : List Addr} {S : Sto} {d : D} {v : V} {ds : List D}
/-- list(reversed(e)) -/
def kLstRev (k : KD) (d : D) (S : Sto) : Prop := ∃ xs, lview S d = some xs ∧ k (.lst xs.reverse) S
def kLstRevC (k : KD) (d : D) (S : Sto) : Prop := ∃ xs, lview S d = some xs ∧ k (.cell S.length) (S ++ [.lst xs.reverse])
def wLstRev (we : WE) : WE := fun (xc : HG XE) s S k => we xc s S (kLstRev k)
def wLstRevC (we : WE) : WE := fun (xc : HG XE) s S k => we xc s S (kLstRevC k)
theorem se_lstRev {p p2 pos2 : Pos} (hc : X.calm = true) (hg : Gl X "list") (hm : X.mg "list" = none) (hg2 : Gl X "reversed") (hm2 : X.mg "reversed" = none) (he : SE X g W e we)
    (hs : starEach [e] X.env = (false, eval e X.env) :: starEach [] X.env := by rfl)
    (hs2 : starEach [.Call (.Name "reversed" p2) [e] [] pos2] X.env = (false, eval (.Call (.Name "reversed" p2) [e] [] pos2) X.env) :: starEach [] X.env := by rfl) :
    SE X g W (.Call (.Name "list" p) [.Call (.Name "reversed" p2) [e] [] pos2] [] pos) (wLstRev we) := by
  obtain ⟨ta, pa, ga⟩ := he
  refine ⟨_, pe_lstRev hc hg hm hg2 hm2 pa hs hs2, fun H0 r S H s sv Q k xc si rs h ce cx => ?_⟩
  refine ga H0 r S H s sv _ _ xc si rs h (fun d v H1 r1 S1 H1' f1 s1 rl h1 => ?_) cx
  obtain ⟨xs, e1, hk⟩ := h1
  obtain ⟨a, ys, rfl, h2, h3⟩ := lview_rel s1 rl e1
  refine ⟨a, ys, rfl, h2, fun q hq => ?_⟩
  obtain ⟨s4, f4, rl4⟩ := s1.lst hq h3.reverse
  exact ce _ _ _ _ _ _ (f1.tr s1 f4) s4 rl4 hk
theorem se_lstRevC {p p2 pos2 : Pos} (hc : X.calm = true) (hg : Gl X "list") (hm : X.mg "list" = none) (hg2 : Gl X "reversed") (hm2 : X.mg "reversed" = none) (he : SE X g W e we)
    (hs : starEach [e] X.env = (false, eval e X.env) :: starEach [] X.env := by rfl)
    (hs2 : starEach [.Call (.Name "reversed" p2) [e] [] pos2] X.env = (false, eval (.Call (.Name "reversed" p2) [e] [] pos2) X.env) :: starEach [] X.env := by rfl) :
    SE X g W (.Call (.Name "list" p) [.Call (.Name "reversed" p2) [e] [] pos2] [] pos) (wLstRevC we) := by
  obtain ⟨ta, pa, ga⟩ := he
  refine ⟨_, pe_lstRev hc hg hm hg2 hm2 pa hs hs2, fun H0 r S H s sv Q k xc si rs h ce cx => ?_⟩
  refine ga H0 r S H s sv _ _ xc si rs h (fun d v H1 r1 S1 H1' f1 s1 rl h1 => ?_) cx
  obtain ⟨xs, e1, hk⟩ := h1
  obtain ⟨a, ys, rfl, h2, h3⟩ := lview_rel s1 rl e1
  refine ⟨a, ys, rfl, h2, fun q hq => ?_⟩
  obtain ⟨s4, f4, rl4⟩ := s1.newLst hq h3.reverse
  exact ce _ _ _ _ _ _ (f1.tr s1 f4) s4 rl4 hk
/-- list(range(e)) -/
def kLstRg (k : KD) : D → Sto → Prop
  | .int n, S => 0 ≤ n ∧ n ≤ 16777216 ∧ k (.lst (rngD 0 n.toNat)) S
  | _, _ => False
def kLstRgC (k : KD) : D → Sto → Prop
  | .int n, S => 0 ≤ n ∧ n ≤ 16777216 ∧ k (.cell S.length) (S ++ [.lst (rngD 0 n.toNat)])
  | _, _ => False
def wLstRg (we : WE) : WE := fun (xc : HG XE) s S k => we xc s S (kLstRg k)
def wLstRgC (we : WE) : WE := fun (xc : HG XE) s S k => we xc s S (kLstRgC k)
theorem rgV_rel {n : Int} (h : 0 ≤ n) : Rels K H0 r (rngD 0 n.toNat) (rgV 0 n) := by
  have e1 : rngD 0 n.toNat = ((List.range n.toNat).map fun (k : Nat) => (0 : Int) + (k : Int)).map D.int := by unfold rngD; rw [List.map_map]; rfl
  have e2 : rgV 0 n = ((List.range n.toNat).map fun (k : Nat) => (0 : Int) + (k : Int)).map V.int := by unfold rgV; rw [List.map_map, Int.sub_zero]; rfl
  rw [e1, e2]
  exact Rels.ints.mpr rfl
theorem se_lstRg {p p2 pos2 : Pos} (hc : X.calm = true) (hg : Gl X "list") (hm : X.mg "list" = none) (hg2 : Gl X "range") (hm2 : X.mg "range" = none) (he : SE X g W e we)
    (hs : starEach [e] X.env = (false, eval e X.env) :: starEach [] X.env := by rfl)
    (hs2 : starEach [.Call (.Name "range" p2) [e] [] pos2] X.env = (false, eval (.Call (.Name "range" p2) [e] [] pos2) X.env) :: starEach [] X.env := by rfl) :
    SE X g W (.Call (.Name "list" p) [.Call (.Name "range" p2) [e] [] pos2] [] pos) (wLstRg we) := by
  obtain ⟨ta, pa, ga⟩ := he
  refine ⟨_, pe_listRg hc hg hm (prg_1 hg2 hm2 pa hs) hs2, fun H0 r S H s sv Q k xc si rs h ce cx => ?_⟩
  refine ga H0 r S H s sv _ _ xc si rs h (fun d v H1 r1 S1 H1' f1 s1 rl h1 => ?_) cx
  unfold kLstRg at h1
  split at h1
  · rename_i n
    rw [rel_int rl]
    refine ⟨n, rfl, .of_le (by omega) (by omega) (by omega) (by omega), fun q hq => ?_⟩
    obtain ⟨s4, f4, rl4⟩ := s1.lst hq (rgV_rel h1.1)
    exact ce _ _ _ _ _ _ (f1.tr s1 f4) s4 rl4 h1.2.2
  · exact h1.elim
theorem se_lstRgC {p p2 pos2 : Pos} (hc : X.calm = true) (hg : Gl X "list") (hm : X.mg "list" = none) (hg2 : Gl X "range") (hm2 : X.mg "range" = none) (he : SE X g W e we)
    (hs : starEach [e] X.env = (false, eval e X.env) :: starEach [] X.env := by rfl)
    (hs2 : starEach [.Call (.Name "range" p2) [e] [] pos2] X.env = (false, eval (.Call (.Name "range" p2) [e] [] pos2) X.env) :: starEach [] X.env := by rfl) :
    SE X g W (.Call (.Name "list" p) [.Call (.Name "range" p2) [e] [] pos2] [] pos) (wLstRgC we) := by
  obtain ⟨ta, pa, ga⟩ := he
  refine ⟨_, pe_listRg hc hg hm (prg_1 hg2 hm2 pa hs) hs2, fun H0 r S H s sv Q k xc si rs h ce cx => ?_⟩
  refine ga H0 r S H s sv _ _ xc si rs h (fun d v H1 r1 S1 H1' f1 s1 rl h1 => ?_) cx
  unfold kLstRgC at h1
  split at h1
  · rename_i n
    rw [rel_int rl]
    refine ⟨n, rfl, .of_le (by omega) (by omega) (by omega) (by omega), fun q hq => ?_⟩
    obtain ⟨s4, f4, rl4⟩ := s1.newLst hq (rgV_rel h1.1)
    exact ce _ _ _ _ _ _ (f1.tr s1 f4) s4 rl4 h1.2.2
  · exact h1.elim
/-- range(i, j, -1) -/
def dwnD (hi : Int) (n : Nat) : List D := (List.range n).map fun (k : Nat) => D.int (hi - (k : Int))
theorem it_dwn {hi : Int} {n : Nat} : ItOk K g (Itc hi (-1) n) (dwnD hi n) (fun _ => True) H0 r H := by
  have hl : (dwnD hi n).length = n := by unfold dwnD; rw [List.length_map, List.length_range]
  refine ⟨fun i H0' r' S' H' f s gd hi2 => ?_, fun H0' r' S' H' f s gd => by rw [hl]; exact Nat.le_refl _⟩
  rw [hl] at hi2
  refine ⟨hi2, fun x H'' hy => ?_⟩
  obtain ⟨rfl, rfl⟩ := hy
  refine ⟨H0', .int (hi - i), .refl, s, ?_, ?_⟩
  · unfold dwnD
    rw [List.getElem?_map, List.getElem?_range hi2]
    rfl
  · have e : hi + (i : Nat) * (-1 : Int) = hi - i := by omega
    rw [e]
    exact rel_int'
def kRng3 (k : List D → (Sto → Prop) → Sto → Prop) : List D → Sto → Prop
  | [.int i, .int j, .int c], S => (c = -1 ∧ -(2 ^ 62) ≤ i ∧ i < 2 ^ 62 ∧ -(2 ^ 62) ≤ j ∧ j < 2 ^ 62) ∧ k (dwnD i (i - j).toNat) (fun _ => True) S
  | _, _ => False
def wRng3 (ws : WA) : WI := fun (xc : HG XE) s S k => ws xc s S (kRng3 k)
theorem rels3 {d d2 d3 : D} {vs : List V} (h : Rels K H0 r [d, d2, d3] vs) : ∃ v v2 v3, vs = [v, v2, v3] ∧ Rel K H0 r d v ∧ Rel K H0 r d2 v2 ∧ Rel K H0 r d3 v3 := by
  obtain ⟨v, vs', rfl, h1, h2⟩ := h.uncons
  obtain ⟨v2, v3, rfl, h3, h4⟩ := rels2 h2
  exact ⟨v, v2, v3, rfl, h1, h3, h4⟩
theorem si_rng3 {tg : Expr} {p : Pos} (hg : Gl X "range") (hm : X.mg "range" = none) (ha : SA X g W [a, b, c] ws) (hs : starEach [a, b, c] X.env = (false, eval a X.env) :: starEach [b, c] X.env := by rfl) (hs2 : (backTo pos (starEach [b, c] X.env)).any (·.1) = false := by rfl) :
    SI X g W tg (.Call (.Name "range" p) [a, b, c] [] pos) (wRng3 ws) := by
  obtain ⟨ta, pa, ga⟩ := ha
  refine ⟨_, pi_range3 hg hm pa hs hs2, fun H0 r S H s sv R k xc si rs h ce cx => ?_⟩
  refine ga H0 r S H s sv _ _ xc si rs h (fun ds vs H1 r1 S1 H1' f1 s1 rl h1 => ?_) cx
  unfold kRng3 at h1
  split at h1
  · obtain ⟨v, v2, v3, rfl, h2, h3, h4⟩ := rels3 rl
    obtain ⟨⟨rfl, b1, b2, b3, b4⟩, hk⟩ := h1
    rw [rel_int h2, rel_int h3, rel_int h4]
    exact ⟨_, _, _, _, rfl, .neg b1 b2 b3 b4, ce _ _ _ _ _ _ _ f1 s1 it_dwn hk⟩
  · exact h1.elim
/-- o.remove(e), of a list of whole numbers that has it -/
def kRem (k : KD) (o : D) : D → Sto → Prop
  | .int z, S => ∃ (n : Nat) (ns : List Int), o = .cell n ∧ S[n]? = some (.lst (ns.map D.int)) ∧ z ∈ ns ∧ k .non (S.set n (.lst ((ns.erase z).map D.int)))
  | _, _ => False
def wRem (wo we : WE) : WE := fun (xc : HG XE) s S k => wo xc s S fun o S1 => (∃ xs, lview S1 o = some xs) ∧ we xc s S1 (kRem k o)
theorem se_rem (hc : X.calm = true) (tk : Takes X W) (ho : SE X g W o wo) (he : SE X g W e we) (hbase : attributeBase o "remove" X.env (eval o X.env) = eval o X.env := by rfl)
    (hfew : ((backTo cpos (starEach [e] X.env)).all (fun x => !x.1) && (backToKw cpos (keywordEach [] X.env)).all (fun x => x.1.isSome)
      && decide (([e] : List Expr).length + ([] : List Keyword).length + (if ([] : List Keyword).isEmpty then 0 else 1) < 30)) = true := by rfl)
    (hline : (apos.endLine == cpos.line) = true := by rfl) (hs : starEach [e] X.env = (false, eval e X.env) :: starEach [] X.env := by rfl) (hplain : (backTo cpos (starEach [] X.env)).any (·.1) = false := by rfl) :
    SE X g W (.Call (.Attribute o "remove" apos) [e] [] cpos) (wRem wo we) := by
  obtain ⟨to, po, go⟩ := ho
  obtain ⟨te, pe, ge⟩ := he
  refine ⟨_, pe_remX hc tk po pe hbase hfew hline hs hplain, fun H0 r S H s sv Q k xc si rs h ce cx => ?_⟩
  refine go H0 r S H s sv _ _ xc si rs h (fun d v H1 r1 S1 H1' f1 s1 rl h1 => ?_) cx
  refine ⟨tyV_list s1 rl h1.1, ?_⟩
  refine ge H1 r1 S1 H1' s sv _ _ xc s1 (rs.fut f1) h1.2 (fun d2 v2 H2 r2 S2 H2' f2 s2 rl2 h2 => ?_) (cx.fut f1 s1)
  unfold kRem at h2
  split at h2
  · rename_i z
    obtain ⟨n, ns, rfl, e1, hz, hk⟩ := h2
    obtain ⟨p, ys, rfl, hr, h0, hp, hx⟩ := cel_lst s2 (rl.fut f2) e1
    obtain rfl := Rels.ints.mp hx
    refine ⟨p, ns, z, rfl, rel_int rl2, hp, fun _ => ?_, fun hn => absurd hz hn⟩
    obtain ⟨s4, f4⟩ := s2.wrLst hr e1 h0 (Rels.ints (ns := ns.erase z).mpr rfl)
    exact ce _ _ _ _ _ _ ((f1.tr s1 f2).tr s2 f4) s4 rel_non' hk
  · exact h2.elim
/-- o.pop(i) -/
def popAtF : D → List D → Sto → KD → Prop
  | .cell n, [.int i], S, k => -(2 ^ 62) ≤ i ∧ i < 2 ^ 62 ∧ ∃ xs j y, S[n]? = some (.lst xs) ∧ ixN xs.length i = some j ∧ xs[j]? = some y ∧ k y (S.set n (.lst (xs.eraseIdx j)))
  | _, _, _, _ => False
/-- o.clear() -/
def clrF : D → List D → Sto → KD → Prop
  | .cell n, [], S, k => ∃ xs, S[n]? = some (.lst xs) ∧ k .non (S.set n (.lst []))
  | _, _, _, _ => False
theorem good_clr : GoodM K g rClear clrF := by
  intro H0 r S H d ds x vs k Q si h1 h2 h ce
  unfold clrF at h
  split at h
  · rw [h2.unnil]
    obtain ⟨xs, e, hk⟩ := h
    obtain ⟨p, ys, rfl, hr, h0, hp, hx⟩ := cel_lst si h1 e
    obtain ⟨s2, f2⟩ := si.wrLst hr e h0 (Rels.nil)
    exact ⟨p, ys, rfl, rfl, hp, ce _ _ _ _ _ _ f2 s2 rel_non' hk⟩
  · exact h.elim
theorem se_clr (ho : SE X g W o wo) (hbase : attributeBase o "clear" X.env (eval o X.env) = eval o X.env := by rfl) (hline : (apos.endLine == cpos.line) = true := by rfl) :
    SE X g W (.Call (.Attribute o "clear" apos) [] [] cpos) (wM0 clrF wo) := se_m0 PySem.F.slot_list_clear PySem.F.type_list_clear mt_clear good_clr ho hbase hline
theorem rels_eraseIdx : ∀ {ds : List D} {vs : List V} (j : Nat), Rels K H0 r ds vs → Rels K H0 r (ds.eraseIdx j) (vs.eraseIdx j)
  | [], _, _, h => by rw [h.unnil]; exact Rels.nil
  | d :: ds, _, 0, h => by
    obtain ⟨y, ys, rfl, h1, h2⟩ := h.uncons
    exact h2
  | d :: ds, _, j + 1, h => by
    obtain ⟨y, ys, rfl, h1, h2⟩ := h.uncons
    exact Rels.cons h1 (rels_eraseIdx j h2)
theorem good_popAt : GoodM K g rPopAt popAtF := by
  intro H0 r S H d ds x vs k Q si h1 h2 h ce
  unfold popAtF at h
  split at h
  · obtain ⟨v, rfl, h3⟩ := rels1 h2
    obtain ⟨b1, b2, xs, j, y, e, hi, hy, hk⟩ := h
    obtain ⟨p, ys, rfl, hr, h0, hp, hx⟩ := cel_lst si h1 e
    obtain ⟨s2, f2⟩ := si.wrLst hr e h0 (rels_eraseIdx j hx)
    rw [← hx.length] at hi
    obtain ⟨v2, e1, e2⟩ := hx.get hy
    rw [rel_int h3]
    refine ⟨p, ys, _, j, v2, rfl, rfl, hp, by omega, by omega, (ixN_seq hi).1, e1, ce _ _ _ _ _ _ f2 s2 (e2.fut f2) hk⟩
  · exact h.elim
theorem se_popAt (ho : SE X g W o wo) (ha : SA X g W [e] ws)
    (hbase : attributeBase o "pop" X.env (eval o X.env) = eval o X.env := by rfl)
    (hfew : ((backTo cpos (starEach [e] X.env)).all (fun x => !x.1) && (backToKw cpos (keywordEach [] X.env)).all (fun x => x.1.isSome)
      && decide (([e] : List Expr).length + ([] : List Keyword).length + (if ([] : List Keyword).isEmpty then 0 else 1) < 30)) = true := by rfl)
    (hline : (apos.endLine == cpos.line) = true := by rfl) (hs : starEach [e] X.env = (false, eval e X.env) :: starEach [] X.env := by rfl) (hplain : (backTo cpos (starEach [] X.env)).any (·.1) = false := by rfl) :
    SE X g W (.Call (.Attribute o "pop" apos) [e] [] cpos) (wM popAtF wo ws) := se_m PySem.F.slot_list_pop PySem.F.type_list_pop mt_popAt good_popAt ho ha hbase hfew hline hs hplain
theorem kRng3_i {k : List D → (Sto → Prop) → Sto → Prop} {S : Sto} {a b c : Int} : kRng3 k [.int a, .int b, .int c] S = ((c = -1 ∧ -(2 ^ 62) ≤ a ∧ a < 2 ^ 62 ∧ -(2 ^ 62) ≤ b ∧ b < 2 ^ 62) ∧ k (dwnD a (a - b).toNat) (fun _ => True) S) := id rfl
theorem kLstRg_i {k : KD} {S : Sto} {n : Int} : kLstRg k (.int n) S = (0 ≤ n ∧ n ≤ 16777216 ∧ k (.lst (rngD 0 n.toNat)) S) := id rfl
theorem kLstRgC_i {k : KD} {S : Sto} {n : Int} : kLstRgC k (.int n) S = (0 ≤ n ∧ n ≤ 16777216 ∧ k (.cell S.length) (S ++ [.lst (rngD 0 n.toNat)])) := id rfl
theorem kRem_i {k : KD} {S : Sto} {o : D} {z : Int} : kRem k o (.int z) S = ∃ (n : Nat) (ns : List Int), o = .cell n ∧ S[n]? = some (.lst (ns.map D.int)) ∧ z ∈ ns ∧ k .non (S.set n (.lst ((ns.erase z).map D.int))) := id rfl
theorem popAtF_i {k : KD} {S : Sto} {n : Nat} {i : Int} : popAtF (.cell n) [.int i] S k = (-(2 ^ 62) ≤ i ∧ i < 2 ^ 62 ∧ ∃ xs j y, S[n]? = some (.lst xs) ∧ ixN xs.length i = some j ∧ xs[j]? = some y ∧ k y (S.set n (.lst (xs.eraseIdx j)))) := id rfl
theorem clrF_i {k : KD} {S : Sto} {n : Nat} : clrF (.cell n) [] S k = ∃ xs, S[n]? = some (.lst xs) ∧ k .non (S.set n (.lst [])) := id rfl
end
end Ab

namespace Ab
open PySem PySem.Spec PyProof.Rows L2
/-! the combinators, sealed: a kernel that compares two readings can't unfold them -/
theorem sld_ex {α : Type} (a : α) : ∃ b : α, b = a := ⟨a, rfl⟩
noncomputable def sld {α : Type} (a : α) : α := Classical.choose (sld_ex a)
theorem sld_eq {α : Type} (a : α) : sld a = a := Classical.choose_spec (sld_ex a)
noncomputable def vVar : (Nat) → (WE) := sld wVar
theorem vVar_s : vVar = wVar := sld_eq _
theorem vVar_q (i : Nat) (y0 : _) (s : _) (S : _) (k : _) : vVar i y0 s S k = (kOpt (slot s i) S k) := by rw [vVar_s]; rfl
noncomputable def vC : (D) → (WE) := sld wC
theorem vC_s : vC = wC := sld_eq _
theorem vC_q (d : D) (y0 : _) (y1 : _) (S : _) (k : _) : vC d y0 y1 S k = (k d S) := by rw [vC_s]; rfl
noncomputable def vOp : (OW) → (WE) → (WE) → (WE) := sld wOp
theorem vOp_s : vOp = wOp := sld_eq _
theorem vOp_q (f : OW) (wa wb : WE) (xc : _) (s : _) (S : _) (k : _) : vOp f wa wb xc s S k = (wa xc s S fun x S1 => wb xc s S1 fun y S2 => f x y S2 k) := by rw [vOp_s]; rfl
noncomputable def vNeg : (WE) → (WE) := sld wNeg
theorem vNeg_s : vNeg = wNeg := sld_eq _
theorem vNeg_q (wa : WE) (xc : _) (s : _) (S : _) (k : _) : vNeg wa xc s S k = (wa xc s S (kNeg k)) := by rw [vNeg_s]; rfl
noncomputable def vTest : (WE) → (WT) := sld wTest
theorem vTest_s : vTest = wTest := sld_eq _
theorem vTest_q (w : WE) (xc : _) (s : _) (S : _) (k : _) : vTest w xc s S k = (w xc s S (kBl k)) := by rw [vTest_s]; rfl
noncomputable def vChain : (OW) → (OW) → (WE) → (WE) → (WE) → (WE) := sld wChain
theorem vChain_s : vChain = wChain := sld_eq _
theorem vChain_q (f f' : OW) (wa wb wc : WE) (xc : _) (s : _) (S : _) (k : _) : vChain f f' wa wb wc xc s S k = (wa xc s S fun x S1 => wb xc s S1 fun y S2 => f x y S2 (kBl fun b S3 => if b = true then wc xc s S3 fun u S4 => f' y u S4 k else k (.bl false) S3)) := by rw [vChain_s]; rfl
noncomputable def vAnd : (WT) → (WT) → (WT) := sld wAnd
theorem vAnd_s : vAnd = wAnd := sld_eq _
theorem vAnd_q (wt wu : WT) (xc : _) (s : _) (S : _) (k : _) : vAnd wt wu xc s S k = (wt xc s S fun b S1 => if b = true then wu xc s S1 k else k false S1) := by rw [vAnd_s]; rfl
noncomputable def vOr : (WT) → (WT) → (WT) := sld wOr
theorem vOr_s : vOr = wOr := sld_eq _
theorem vOr_q (wt wu : WT) (xc : _) (s : _) (S : _) (k : _) : vOr wt wu xc s S k = (wt xc s S fun b S1 => if b = true then k true S1 else wu xc s S1 k) := by rw [vOr_s]; rfl
noncomputable def vNot : (WT) → (WT) := sld wNot
theorem vNot_s : vNot = wNot := sld_eq _
theorem vNot_q (wt : WT) (xc : _) (s : _) (S : _) (k : _) : vNot wt xc s S k = (wt xc s S fun b S1 => k (!b) S1) := by rw [vNot_s]; rfl
noncomputable def vAndV : (WE) → (WE) → (WE) := sld wAndV
theorem vAndV_s : vAndV = wAndV := sld_eq _
theorem vAndV_q (wa wb : WE) (xc : _) (s : _) (S : _) (k : _) : vAndV wa wb xc s S k = (wa xc s S (kBl fun b S1 => if b = true then wb xc s S1 k else k (.bl false) S1)) := by rw [vAndV_s]; rfl
noncomputable def vOrV : (WE) → (WE) → (WE) := sld wOrV
theorem vOrV_s : vOrV = wOrV := sld_eq _
theorem vOrV_q (wa wb : WE) (xc : _) (s : _) (S : _) (k : _) : vOrV wa wb xc s S k = (wa xc s S (kBl fun b S1 => if b = true then k (.bl true) S1 else wb xc s S1 k)) := by rw [vOrV_s]; rfl
noncomputable def vNotV : (WE) → (WE) := sld wNotV
theorem vNotV_s : vNotV = wNotV := sld_eq _
theorem vNotV_q (wa : WE) (xc : _) (s : _) (S : _) (k : _) : vNotV wa xc s S k = (wa xc s S (kNot k)) := by rw [vNotV_s]; rfl
noncomputable def vIfE : (WT) → (WE) → (WE) → (WE) := sld wIfE
theorem vIfE_s : vIfE = wIfE := sld_eq _
theorem vIfE_q (wt : WT) (wa wb : WE) (xc : _) (s : _) (S : _) (k : _) : vIfE wt wa wb xc s S k = (wt xc s S fun b S1 => if b = true then wa xc s S1 k else wb xc s S1 k) := by rw [vIfE_s]; rfl
noncomputable def vNoP : (WO) := sld wNoP
theorem vNoP_s : vNoP = wNoP := sld_eq _
theorem vNoP_q (y0 : _) (y1 : _) (S : _) (k : _) : vNoP  y0 y1 S k = (k none S) := by rw [vNoP_s]; rfl
noncomputable def vSoP : (WE) → (WO) := sld wSoP
theorem vSoP_s : vSoP = wSoP := sld_eq _
theorem vSoP_q (w : WE) (xc : _) (s : _) (S : _) (k : _) : vSoP w xc s S k = (w xc s S (kSoP k)) := by rw [vSoP_s]; rfl
noncomputable def vSl : (WE) → (WO) → (WO) → (WE) := sld wSl
theorem vSl_s : vSl = wSl := sld_eq _
theorem vSl_q (wa : WE) (wl wh : WO) (xc : _) (s : _) (S : _) (k : _) : vSl wa wl wh xc s S k = (wa xc s S fun x S1 => wl xc s S1 fun l S2 => wh xc s S2 fun u S3 => slW x l u S3 k) := by rw [vSl_s]; rfl
noncomputable def vNil : (WA) := sld wNil
theorem vNil_s : vNil = wNil := sld_eq _
theorem vNil_q (y0 : _) (y1 : _) (S : _) (k : _) : vNil  y0 y1 S k = (k [] S) := by rw [vNil_s]; rfl
noncomputable def vCons : (WE) → (WA) → (WA) := sld wCons
theorem vCons_s : vCons = wCons := sld_eq _
theorem vCons_q (wa : WE) (ws : WA) (xc : _) (s : _) (S : _) (k : _) : vCons wa ws xc s S k = (wa xc s S fun d S1 => ws xc s S1 fun ds S2 => k (d :: ds) S2) := by rw [vCons_s]; rfl
noncomputable def vTup : (WA) → (WE) := sld wTup
theorem vTup_s : vTup = wTup := sld_eq _
theorem vTup_q (ws : WA) (xc : _) (s : _) (S : _) (k : _) : vTup ws xc s S k = (ws xc s S fun ds S1 => ds.length ≤ sizeLine ∧ k (.tup ds) S1) := by rw [vTup_s]; rfl
noncomputable def vLst : (WA) → (WE) := sld wLst
theorem vLst_s : vLst = wLst := sld_eq _
theorem vLst_q (ws : WA) (xc : _) (s : _) (S : _) (k : _) : vLst ws xc s S k = (ws xc s S fun ds S1 => ds.length ≤ sizeLine ∧ k (.lst ds) S1) := by rw [vLst_s]; rfl
noncomputable def vLstC : (WA) → (WE) := sld wLstC
theorem vLstC_s : vLstC = wLstC := sld_eq _
theorem vLstC_q (ws : WA) (xc : _) (s : _) (S : _) (k : _) : vLstC ws xc s S k = (ws xc s S fun ds S1 => ds.length ≤ sizeLine ∧ k (.cell S1.length) (S1 ++ [.lst ds])) := by rw [vLstC_s]; rfl
noncomputable def vFrz : (WE) → (WE) := sld wFrz
theorem vFrz_s : vFrz = wFrz := sld_eq _
theorem vFrz_q (w : WE) (xc : _) (s : _) (S : _) (k : _) : vFrz w xc s S k = (w xc s S fun d S1 => frzW d S1 k) := by rw [vFrz_s]; rfl
noncomputable def vB : (CW) → (WA) → (WE) := sld wB
theorem vB_s : vB = wB := sld_eq _
theorem vB_q (f : CW) (ws : WA) (xc : _) (s : _) (S : _) (k : _) : vB f ws xc s S k = (ws xc s S fun ds S1 => f ds S1 k) := by rw [vB_s]; rfl
noncomputable def vIsi : (Ty) → (WE) → (WE) := sld wIsi
theorem vIsi_s : vIsi = wIsi := sld_eq _
theorem vIsi_q (n : Ty) (wa : WE) (xc : _) (s : _) (S : _) (k : _) : vIsi n wa xc s S k = (wa xc s S fun d S1 => ∃ b, isiD S1 n d = some b ∧ k (.bl b) S1) := by rw [vIsi_s]; rfl
noncomputable def vM : (MW) → (WE) → (WA) → (WE) := sld wM
theorem vM_s : vM = wM := sld_eq _
theorem vM_q (f : MW) (wo : WE) (ws : WA) (xc : _) (s : _) (S : _) (k : _) : vM f wo ws xc s S k = (wo xc s S fun o S1 => (∃ xs, lview S1 o = some xs) ∧ ws xc s S1 fun ds S2 => f o ds S2 k) := by rw [vM_s]; rfl
noncomputable def vM0 : (MW) → (WE) → (WE) := sld wM0
theorem vM0_s : vM0 = wM0 := sld_eq _
theorem vM0_q (f : MW) (wo : WE) (xc : _) (s : _) (S : _) (k : _) : vM0 f wo xc s S k = (wo xc s S fun o S1 => (∃ xs, lview S1 o = some xs) ∧ f o [] S1 k) := by rw [vM0_s]; rfl
noncomputable def vCall : (WF) → (WA) → (WE) := sld wCall
theorem vCall_s : vCall = wCall := sld_eq _
theorem vCall_q (wf : WF) (ws : WA) (xc : _) (s : _) (S : _) (k : _) : vCall wf ws xc s S k = (ws xc s S fun ds S1 => wf ds S1 k fun c S2 => xc c s S2) := by rw [vCall_s]; rfl
noncomputable def vSeqI : (WE) → (WI) := sld wSeqI
theorem vSeqI_s : vSeqI = wSeqI := sld_eq _
theorem vSeqI_q (wa : WE) (xc : _) (s : _) (S : _) (k : _) : vSeqI wa xc s S k = (wa xc s S fun x S1 => ∃ xs, sview S1 x = some xs ∧ k xs (gdOf S1 x) S1) := by rw [vSeqI_s]; rfl
noncomputable def vRng1 : (WA) → (WI) := sld wRng1
theorem vRng1_s : vRng1 = wRng1 := sld_eq _
theorem vRng1_q (ws : WA) (xc : _) (s : _) (S : _) (k : _) : vRng1 ws xc s S k = (ws xc s S (kRng1 k)) := by rw [vRng1_s]; rfl
noncomputable def vRng2 : (WA) → (WI) := sld wRng2
theorem vRng2_s : vRng2 = wRng2 := sld_eq _
theorem vRng2_q (ws : WA) (xc : _) (s : _) (S : _) (k : _) : vRng2 ws xc s S k = (ws xc s S (kRng2 k)) := by rw [vRng2_s]; rfl
noncomputable def vYes : (WT) := sld wYes
theorem vYes_s : vYes = wYes := sld_eq _
theorem vYes_q (y0 : _) (y1 : _) (S : _) (k : _) : vYes  y0 y1 S k = (k true S) := by rw [vYes_s]; rfl
noncomputable def vLc : (Nat) → (List Nat) → (WI) → (WT) → (WE) → (WE) := sld wLc
theorem vLc_s : vLc = wLc := sld_eq _
theorem vLc_q (i : Nat) (vs : List Nat) (wi : WI) (wt : WT) (we : WE) (xc : _) (s : _) (S : _) (k : _) : vLc i vs wi wt we xc s S k = (wi xc s S fun ds gd S1 => lcW i vs wt we ds gd s S1 fun acc S2 => k (.lst acc) S2) := by rw [vLc_s]; rfl
noncomputable def vLcC : (Nat) → (List Nat) → (WI) → (WT) → (WE) → (WE) := sld wLcC
theorem vLcC_s : vLcC = wLcC := sld_eq _
theorem vLcC_q (i : Nat) (vs : List Nat) (wi : WI) (wt : WT) (we : WE) (xc : _) (s : _) (S : _) (k : _) : vLcC i vs wi wt we xc s S k = (wi xc s S fun ds gd S1 => lcW i vs wt we ds gd s S1 fun acc S2 => k (.cell S2.length) (S2 ++ [.lst acc])) := by rw [vLcC_s]; rfl
noncomputable def vNx : (WS) := sld wNx
theorem vNx_s : vNx = wNx := sld_eq _
theorem vNx_q (D : _) (s : _) (S : _) : vNx  D s S = (D.nx s S) := by rw [vNx_s]; rfl
noncomputable def vSeq : (WS) → (WS) → (WS) := sld wSeq
theorem vSeq_s : vSeq = wSeq := sld_eq _
theorem vSeq_q (a b : WS) (D : _) (s : _) (S : _) : vSeq a b D s S = (a { D with nx := b D } s S) := by rw [vSeq_s]; rfl
noncomputable def vNever : (WS) := sld wNever
theorem vNever_s : vNever = wNever := sld_eq _
theorem vNever_q (y0 : _) (y1 : _) (y2 : _) : vNever  y0 y1 y2 = (False) := by rw [vNever_s]; rfl
noncomputable def vDrop : (WE) → (WS) := sld wDrop
theorem vDrop_s : vDrop = wDrop := sld_eq _
theorem vDrop_q (we : WE) (D : _) (s : _) (S : _) : vDrop we D s S = (we D.xc s S fun _ S1 => D.nx s S1) := by rw [vDrop_s]; rfl
noncomputable def vRet : (WE) → (WS) := sld wRet
theorem vRet_s : vRet = wRet := sld_eq _
theorem vRet_q (we : WE) (D : _) (s : _) (S : _) : vRet we D s S = (we D.xc s S D.rt) := by rw [vRet_s]; rfl
noncomputable def vRetN : (WS) := sld wRetN
theorem vRetN_s : vRetN = wRetN := sld_eq _
theorem vRetN_q (D : _) (y1 : _) (S : _) : vRetN  D y1 S = (D.rt .non S) := by rw [vRetN_s]; rfl
noncomputable def vIf : (WT) → (WS) → (WS) → (WS) := sld wIf
theorem vIf_s : vIf = wIf := sld_eq _
theorem vIf_q (wt : WT) (w w2 : WS) (D : _) (s : _) (S : _) : vIf wt w w2 D s S = (wt D.xc s S fun b S1 => if b = true then w D s S1 else w2 D s S1) := by rw [vIf_s]; rfl
noncomputable def vSet : (Nat) → (WE) → (WS) := sld wSet
theorem vSet_s : vSet = wSet := sld_eq _
theorem vSet_q (i : Nat) (we : WE) (D : _) (s : _) (S : _) : vSet i we D s S = (we D.xc s S fun d S1 => D.nx (s.set i (some d)) S1) := by rw [vSet_s]; rfl
noncomputable def vSto : (WE) → (WE) → (WE) → (WS) := sld wSto
theorem vSto_s : vSto = wSto := sld_eq _
theorem vSto_q (we wo wa : WE) (D : _) (s : _) (S : _) : vSto we wo wa D s S = (we D.xc s S fun d S1 => wo D.xc s S1 fun o S2 => wa D.xc s S2 fun y S3 => kSto d (D.nx s) o y S3) := by rw [vSto_s]; rfl
noncomputable def vFor : (Nat) → (WI) → (WS) → (WS) := sld wFor
theorem vFor_s : vFor = wFor := sld_eq _
theorem vFor_q (i : Nat) (wi : WI) (w : WS) (D : _) (s : _) (S : _) : vFor i wi w D s S = (wi D.xc s S fun ds gd S1 => forW i w D ds gd s S1) := by rw [vFor_s]; rfl
noncomputable def vWhile : (WT) → (WS) → (WS) := sld wWhile
theorem vWhile_s : vWhile = wWhile := sld_eq _
theorem vWhile_q (wt : WT) (w : WS) (D : _) (s : _) (S : _) : vWhile wt w D s S = (∃ P : Nat → Env → Sto → Prop, (∃ m, P m s S) ∧ ∀ m s' S', P m s' S' → wt D.xc s' S' fun b S1 => if b = true then w { D with nx := fun s2 S2 => ∃ m', m' < m ∧ P m' s2 S2 } s' S1 else D.nx s' S1) := by rw [vWhile_s]; rfl
noncomputable def vRaise : (Str) → (WS) := sld wRaise
theorem vRaise_s : vRaise = wRaise := sld_eq _
theorem vRaise_q (x : Str) (D : _) (s : _) (S : _) : vRaise x D s S = (D.xc x s S) := by rw [vRaise_s]; rfl
noncomputable def vDef : (Nat) → (Nat) → (WS) → (WF) := sld wDef
theorem vDef_s : vDef = wDef := sld_eq _
theorem vDef_q (np n : Nat) (w : WS) (ds : _) (S : _) (k : _) (xk : _) : vDef np n w ds S k xk = (ds.length = np ∧ w ⟨fun _ S' => k .non S', k, fun c _ S' => xk c S'⟩ (ds.map some ++ List.replicate (n - ds.length) none) S) := by rw [vDef_s]; rfl
noncomputable def vTrim : (WF) → (WF) := sld wTrim
theorem vTrim_s : vTrim = wTrim := sld_eq _
theorem vTrim_q (wf : WF) (ds : _) (S : _) (k : _) (xk : _) : vTrim wf ds S k xk = (wf ds S (fun d S' => d.pure = true ∧ S'.take S.length = S ∧ k d S) (fun c S' => S'.take S.length = S ∧ xk c S)) := by rw [vTrim_s]; rfl
noncomputable def vTrimC : (WF) → (WF) := sld wTrimC
theorem vTrimC_s : vTrimC = wTrimC := sld_eq _
theorem vTrimC_q (wf : WF) (ds : _) (S : _) (k : _) (xk : _) : vTrimC wf ds S k xk = (wf ds S (fun d S' => ∃ m xs, d = .cell m ∧ S.length ≤ m ∧ S'[m]? = some (.lst xs) ∧ pureAll xs = true ∧ S'.take S.length = S ∧ k (.cell S.length) (S ++ [.lst xs])) (fun c S' => S'.take S.length = S ∧ xk c S)) := by rw [vTrimC_s]; rfl
noncomputable def vTry : (Nat) → (List Str) → (Str → Bool) → (WS) → (Addr → Str → WS) → (WS) := sld wTry
theorem vTry_s : vTry = wTry := sld_eq _
theorem vTry_q (i : Nat) (rl : List Str) (cat : Str → Bool) (w : WS) (ws : Addr → Str → WS) (D : _) (s : _) (S : _) : vTry i rl cat w ws D s S = ( w { nx := D.nx, rt := D.rt, xc := fun c s1 S1 => rl.contains c = true ∧ if cat c = true then ∀ a : Addr, ws a c { nx := fun s2 S2 => D.nx (s2.set i none) S2, rt := D.rt, xc := fun _ _ _ => False } (s1.set i (some (.exn a c))) S1 else D.xc c s1 S1 } s S) := by rw [vTry_s]; rfl
noncomputable def vIsE : (Addr) → (Str) → (Bool) → (WE) → (WE) := sld wIsE
theorem vIsE_s : vIsE = wIsE := sld_eq _
theorem vIsE_q (a : Addr) (c : Str) (b : Bool) (wa : WE) (xc : _) (s : _) (S : _) (k : _) : vIsE a c b wa xc s S k = (wa xc s S fun d S1 => d = .exn a c ∧ k (.bl b) S1) := by rw [vIsE_s]; rfl
noncomputable def vFrzD : (WE) → (WE) := sld wFrzD
theorem vFrzD_s : vFrzD = wFrzD := sld_eq _
theorem vFrzD_q (w : WE) (xc : _) (s : _) (S : _) (k : _) : vFrzD w xc s S k = (w xc s S fun d S1 => frzDW d S1 k) := by rw [vFrzD_s]; rfl
noncomputable def vLstRev : (WE) → (WE) := sld wLstRev
theorem vLstRev_s : vLstRev = wLstRev := sld_eq _
theorem vLstRev_q (we : WE) (xc : _) (s : _) (S : _) (k : _) : vLstRev we xc s S k = (we xc s S (kLstRev k)) := by rw [vLstRev_s]; rfl
noncomputable def vLstRevC : (WE) → (WE) := sld wLstRevC
theorem vLstRevC_s : vLstRevC = wLstRevC := sld_eq _
theorem vLstRevC_q (we : WE) (xc : _) (s : _) (S : _) (k : _) : vLstRevC we xc s S k = (we xc s S (kLstRevC k)) := by rw [vLstRevC_s]; rfl
noncomputable def vLstRg : (WE) → (WE) := sld wLstRg
theorem vLstRg_s : vLstRg = wLstRg := sld_eq _
theorem vLstRg_q (we : WE) (xc : _) (s : _) (S : _) (k : _) : vLstRg we xc s S k = (we xc s S (kLstRg k)) := by rw [vLstRg_s]; rfl
noncomputable def vLstRgC : (WE) → (WE) := sld wLstRgC
theorem vLstRgC_s : vLstRgC = wLstRgC := sld_eq _
theorem vLstRgC_q (we : WE) (xc : _) (s : _) (S : _) (k : _) : vLstRgC we xc s S k = (we xc s S (kLstRgC k)) := by rw [vLstRgC_s]; rfl
noncomputable def vRng3 : (WA) → (WI) := sld wRng3
theorem vRng3_s : vRng3 = wRng3 := sld_eq _
theorem vRng3_q (ws : WA) (xc : _) (s : _) (S : _) (k : _) : vRng3 ws xc s S k = (ws xc s S (kRng3 k)) := by rw [vRng3_s]; rfl
noncomputable def vRem : (WE) → (WE) → (WE) := sld wRem
theorem vRem_s : vRem = wRem := sld_eq _
theorem vRem_q (wo we : WE) (xc : _) (s : _) (S : _) (k : _) : vRem wo we xc s S k = (wo xc s S fun o S1 => (∃ xs, lview S1 o = some xs) ∧ we xc s S1 (kRem k o)) := by rw [vRem_s]; rfl
theorem vDef_i {np n : Nat} {w : WS} {ds : List D} {S : Sto} {k : KD} {xk : XD} (h1 : ds.length = np) (h : w ⟨fun _ S' => k .non S', k, fun c _ S' => xk c S'⟩ (ds.map some ++ List.replicate (n - ds.length) none) S) : vDef np n w ds S k xk := by
  rw [vDef_q]; exact ⟨h1, h⟩
theorem vTrim_i {np n : Nat} {w : WS} {ds : List D} {S : Sto} {k : KD} {xk : XD} (h1 : ds.length = np) (h : w ⟨fun _ S' => D.pure .non = true ∧ S'.take S.length = S ∧ k .non S, fun d S' => d.pure = true ∧ S'.take S.length = S ∧ k d S, fun c _ S' => S'.take S.length = S ∧ xk c S⟩ (ds.map some ++ List.replicate (n - ds.length) none) S) : vTrim (vDef np n w) ds S k xk := by
  rw [vTrim_q]; exact vDef_i h1 h
theorem vTrimC_i {np n : Nat} {w : WS} {ds : List D} {S : Sto} {k : KD} {xk : XD} (h1 : ds.length = np) (h : w ⟨fun _ S' => ∃ m xs, D.non = .cell m ∧ S.length ≤ m ∧ S'[m]? = some (.lst xs) ∧ pureAll xs = true ∧ S'.take S.length = S ∧ k (.cell S.length) (S ++ [.lst xs]), fun d S' => ∃ m xs, d = .cell m ∧ S.length ≤ m ∧ S'[m]? = some (.lst xs) ∧ pureAll xs = true ∧ S'.take S.length = S ∧ k (.cell S.length) (S ++ [.lst xs]), fun c _ S' => S'.take S.length = S ∧ xk c S⟩ (ds.map some ++ List.replicate (n - ds.length) none) S) : vTrimC (vDef np n w) ds S k xk := by
  rw [vTrimC_q]; exact vDef_i h1 h
theorem vDef_l {np n : Nat} {w : WS} {ds : List D} {S : Sto} {k : KD} {xk : XD} (h : vDef np n w ds S k xk) : ds.length = np := by
  rw [vDef_q] at h; exact h.1
theorem vTrim_l {np n : Nat} {w : WS} {ds : List D} {S : Sto} {k : KD} {xk : XD} (h : vTrim (vDef np n w) ds S k xk) : ds.length = np := by
  rw [vTrim_q] at h; exact vDef_l h
theorem vTrimC_l {np n : Nat} {w : WS} {ds : List D} {S : Sto} {k : KD} {xk : XD} (h : vTrimC (vDef np n w) ds S k xk) : ds.length = np := by
  rw [vTrimC_q] at h; exact vDef_l h
theorem vseq_e {a b : WS} {Dk : Kd} {s : Env} {S : Sto} (h : a { Dk with nx := b Dk } s S) : vSeq a b Dk s S := by
  rw [vSeq_q]; exact h
theorem vseq_i {a b : WS} {Dk : Kd} {s : Env} {S : Sto} (h : ∀ R : Env → Sto → Prop, (∀ s' S', b Dk s' S' → R s' S') → a { Dk with nx := R } s S) : vSeq a b Dk s S := vseq_e (h _ fun _ _ h => h)
theorem vseq_cut {a b : WS} {Dk : Kd} {s : Env} {S : Sto} (M : Env → Sto → Prop) (h1 : ∀ R : Env → Sto → Prop, (∀ s' S', M s' S' → R s' S') → a { Dk with nx := R } s S) (h2 : ∀ s' S', M s' S' → b Dk s' S') : vSeq a b Dk s S := vseq_e (h1 _ h2)
theorem vwhile_inv {wt : WT} {w : WS} {Dk : Kd} {s : Env} {S : Sto} (P : Nat → Env → Sto → Prop) (m0 : Nat) (h0 : P m0 s S)
    (hs : ∀ m s' S', P m s' S' → ∀ nx : Env → Sto → Prop, (∀ m' s2 S2, m' < m → P m' s2 S2 → nx s2 S2) → wt Dk.xc s' S' fun b S1 => if b = true then w { Dk with nx := nx } s' S1 else Dk.nx s' S1) : vWhile wt w Dk s S := by
  rw [vWhile_s]; exact while_inv P m0 h0 hs
theorem vlc_map {i : Nat} {vs : List Nat} {we : WE} {ds : List D} {gd : Sto → Prop} {s : Env} {S : Sto} {fin : List D → Sto → Prop} (f : D → D) (hl : ds.length < sizeLine) (hg : gd S)
    (he : ∀ x ∈ ds, ∀ k : KD, k (f x) S → we noXC ((wipeD s vs).set i (some x)) S k) (hf : fin (ds.map f) S) : lcW i vs vYes we ds gd s S fin := by
  rw [vYes_s]; exact lc_map f hl hg he hf
theorem vlc_rel {i : Nat} {vs : List Nat} {we : WE} {ds : List D} {gd : Sto → Prop} {s : Env} {S : Sto} {fin : List D → Sto → Prop} (Q : Nat → D → D → Prop) (hl : ds.length < sizeLine) (hg : gd S)
    (he : ∀ n x, ds[n]? = some x → ∀ k : KD, (∀ y, Q n x y → k y S) → we noXC ((wipeD s vs).set i (some x)) S k)
    (hf : ∀ ys : List D, ys.length = ds.length → (∀ (n : Nat) (x y : D), ds[n]? = some x → ys[n]? = some y → Q n x y) → fin ys S) : lcW i vs vYes we ds gd s S fin := by
  rw [vYes_s]; exact lc_rel Q hl hg he hf
theorem vlc_inv {i : Nat} {vs : List Nat} {we : WE} {ds : List D} {gd : Sto → Prop} {s : Env} {S : Sto} {fin : List D → Sto → Prop} (P : Nat → List D → Sto → Prop) (hl : ds.length < sizeLine) (h0 : P 0 [] S)
    (he : ∀ n x acc S', ds[n]? = some x → P n acc S' → gd S' ∧ ∀ k : KD, (∀ y S2, P (n + 1) (acc ++ [y]) S2 → k y S2) → we noXC ((wipeD s vs).set i (some x)) S' k)
    (hf : ∀ acc S', P ds.length acc S' → gd S' ∧ fin acc S') : lcW i vs vYes we ds gd s S fin := by
  refine ⟨hl, P, h0, fun n x acc S' hx _ hp => ?_, fun acc S' _ hp => hf acc S' hp⟩
  refine ⟨(he n x acc S' hx hp).1, ?_⟩
  rw [vYes_q]
  rw [if_pos rfl]
  exact (he n x acc S' hx hp).2 _ fun y S2 h => h
theorem neW_q (x y : D) (S : Sto) (k : KD) : neW x y S k = eqW x y S (kNot k) := id rfl
theorem setq_0 {α : Type} (x y : α) (xs : List α) : (x :: xs).set 0 y = y :: xs := id rfl
theorem setq_s {α : Type} (x y : α) (n : Nat) (xs : List α) : (x :: xs).set (n + 1) y = x :: xs.set n y := id rfl
end Ab

namespace Ab
open PySem
theorem kLstRev_i {k : KD} {S : Sto} {d : D} : kLstRev k d S = ∃ xs, lview S d = some xs ∧ k (.lst xs.reverse) S := id rfl
theorem kLstRevC_i {k : KD} {S : Sto} {d : D} : kLstRevC k d S = ∃ xs, lview S d = some xs ∧ k (.cell S.length) (S ++ [.lst xs.reverse]) := id rfl
/-! ### rows of whole numbers, each a cell -/
def rowC (rows : List (List Int)) : Sto := rows.map fun r => .lst (vI r)
theorem rowC_len {rows : List (List Int)} : (rowC rows).length = rows.length := by unfold rowC; simp
theorem rowC_get {S : Sto} {rows : List (List Int)} {j : Nat} {r : List Int} (h : rows[j]? = some r) : (S ++ rowC rows)[S.length + j]? = some (.lst (vI r)) := by
  rw [List.getElem?_append_right (by omega), Nat.add_sub_cancel_left]
  unfold rowC
  rw [List.getElem?_map, h]
  rfl
theorem rowC_set {S : Sto} {rows : List (List Int)} {j : Nat} {r : List Int} : (S ++ rowC rows).set (S.length + j) (.lst (vI r)) = S ++ rowC (rows.set j r) := by
  rw [List.set_append_right _ _ (by omega), Nat.add_sub_cancel_left]
  unfold rowC
  rw [List.map_set]
theorem rowC_snoc {S : Sto} {rows : List (List Int)} {r : List Int} : S ++ rowC rows ++ [.lst (vI r)] = S ++ rowC (rows ++ [r]) := by
  unfold rowC
  rw [List.map_append, List.append_assoc]
  rfl
theorem at_cells {n m : Nat} {k : Int} (h0 : 0 ≤ k) (h1 : k < (m : Int)) : L2.atI (cellsD n m) k = some (.cell (n + k.toNat)) := by
  obtain ⟨j, rfl⟩ : ∃ j : Nat, k = (j : Int) := ⟨k.toNat, by omega⟩
  exact L2.atI_nat (by rw [cellsD_get (by omega)]; simp)
/-- what a member owes in a rank -/
def rkI (sh : List Dd) (j r : Int) : Int := (sh.map fun x => if x.a = j ∧ x.r = r then x.c else 0).sum
theorem rkI_snoc {sh : List Dd} {x : Dd} {j r : Int} : rkI (sh ++ [x]) j r = rkI sh j r + if x.a = j ∧ x.r = r then x.c else 0 := by
  unfold rkI
  rw [List.map_append, List.sum_append]
  simp
theorem rkI_nonneg {m : Int} {sh : List Dd} (h : ∀ x ∈ sh, x.Ok m) {j r : Int} : 0 ≤ rkI sh j r := by
  unfold rkI
  refine sum_nonneg fun z hz => ?_
  obtain ⟨x, hx, rfl⟩ := List.mem_map.mp hz
  have := h x hx
  unfold Dd.Ok at this
  split <;> omega
def rkRow (sh : List Dd) (j : Int) : List Int := [rkI sh j 0, rkI sh j 1, rkI sh j 2]
def rkM (m : Int) (sh : List Dd) : List (List Int) := (List.range m.toNat).map fun j => rkRow sh (j : Nat)
theorem rkM_len {m : Int} {sh : List Dd} : (rkM m sh).length = m.toNat := by unfold rkM; simp
theorem rkM_get {m : Int} {sh : List Dd} {j : Nat} (h : (j : Int) < m) : (rkM m sh)[j]? = some (rkRow sh j) := by
  unfold rkM
  rw [List.getElem?_map, List.getElem?_range (by omega)]
  rfl
theorem rkRow_get {sh : List Dd} {j r : Int} (h0 : 0 ≤ r) (h1 : r < 3) : gI (rkRow sh j) r = rkI sh j r := by
  have : r = 0 ∨ r = 1 ∨ r = 2 := by omega
  rcases this with rfl | rfl | rfl <;> rfl
theorem rkM_nil {m : Int} : rkM m [] = List.replicate m.toNat [0, 0, 0] := by
  unfold rkM
  apply List.ext_getElem?
  intro j
  by_cases h : j < m.toNat
  · rw [List.getElem?_map, List.getElem?_range h, List.getElem?_replicate, if_pos h]
    rfl
  · rw [List.getElem?_eq_none (by simp; omega), List.getElem?_eq_none (by simp; omega)]
theorem rkRow_snoc {sh : List Dd} {x : Dd} {m : Int} (hx : x.Ok m) : rkRow (sh ++ [x]) x.a = (rkRow sh x.a).set x.r.toNat (gI (rkRow sh x.a) x.r + x.c) := by
  unfold Dd.Ok at hx
  rw [rkRow_get (by omega) (by omega)]
  unfold rkRow
  rw [rkI_snoc, rkI_snoc, rkI_snoc]
  have : x.r = 0 ∨ x.r = 1 ∨ x.r = 2 := by omega
  rcases this with h | h | h <;> rw [h] <;> simp
theorem rkM_snoc {m : Int} {sh : List Dd} {x : Dd} (hx : x.Ok m) : rkM m (sh ++ [x]) = (rkM m sh).set x.a.toNat ((rkRow sh x.a).set x.r.toNat (gI (rkRow sh x.a) x.r + x.c)) := by
  have hx' := hx
  unfold Dd.Ok at hx'
  rw [← rkRow_snoc hx]
  apply List.ext_getElem?
  intro j
  by_cases h : (j : Int) < m
  · rw [rkM_get h]
    by_cases e : x.a.toNat = j
    · rw [e, List.getElem?_set_self (by rw [rkM_len]; omega)]
      congr 2
      omega
    · rw [List.getElem?_set_ne e, rkM_get h]
      congr 1
      unfold rkRow
      rw [rkI_snoc, rkI_snoc, rkI_snoc, if_neg (by omega), if_neg (by omega), if_neg (by omega)]
      simp
  · rw [List.getElem?_eq_none (by rw [rkM_len]; omega), List.getElem?_eq_none (by rw [List.length_set, rkM_len]; omega)]
theorem matL_map {rows : List (List Int)} : (rows.map vI).map D.lst = matL rows := by
  unfold matL
  rw [List.map_map]
  rfl
/-- rows that are cells are frozen -/
theorem fz_rows {S : Sto} {rows : List (List Int)} : ∃ S', FzR (S ++ rowC rows) (.lst (cellsD S.length rows.length)) (.lst (matL rows)) S' ∧ S'.take S.length = S := by
  obtain ⟨S', h1, h2, h3⟩ := fz_block (rows.map vI) (S ++ rowC rows) S.length fun i xs hx => by
    rw [List.getElem?_map] at hx
    cases e : rows[i]? with
    | none => rw [e] at hx; cases hx
    | some r =>
      rw [e] at hx
      cases hx
      exact rowC_get e
  rw [List.length_map, matL_map] at h1
  refine ⟨S', .lst h1, ?_⟩
  rw [take_of_get (l := S ++ rowC rows) (by rw [List.length_append]; omega) fun j hj => h3 j (.inl hj)]
  exact List.take_left' rfl
theorem gd_app {S T T' : Sto} {d : D} {xs : List D} (h : lview S d = some xs) : gdOf (S ++ T) d (S ++ T') := by
  unfold gdOf
  split
  · rename_i n
    have e : (match S[n]? with | some (.lst xs) => some xs | _ => none) = some xs := h
    split at e
    · rename_i ys hS
      have hn := (List.getElem?_eq_some_iff.mp hS).1
      rw [List.getElem?_append_left hn, List.getElem?_append_left hn]
    · cases e
  · trivial
theorem gd_app0 {S T' : Sto} {d : D} {xs : List D} (h : lview S d = some xs) : gdOf S d (S ++ T') := by
  have := gd_app (T := []) (T' := T') h
  rwa [List.append_nil] at this
theorem at_dueL' {sh : List Dd} {k : Nat} (h : k < sh.length) : L2.atI (dueL sh) (k : Int) = some (sh[k].d) := at_dueL (List.getElem?_eq_getElem h)
/-! ### comprehensions and loops over ranges and lists of one kind -/
theorem rng_int {m n : Nat} {x : D} (h : (rngD 0 m)[n]? = some x) : n < m ∧ x = .int (n : Int) := by
  obtain ⟨h1, h2⟩ := rngD_get h
  refine ⟨h1, ?_⟩
  rw [h2]
  congr 1
  omega
section
variable {α β : Type} {i : Nat} {vs : List Nat} {we : WE} {gd : Sto → Prop} {s : Env} {S : Sto} {fin : List D → Sto → Prop}
theorem vlc_rng (f : α → D) (m : Nat) (Q : Nat → α → Prop) (hl : m ≤ 1000000) (hg : gd S)
    (he : ∀ n : Nat, n < m → ∀ k : KD, (∀ a, Q n a → k (f a) S) → we noXC ((wipeD s vs).set i (some (.int (n : Int)))) S k)
    (hf : ∀ as : List α, as.length = m → (∀ (n : Nat) (a : α), as[n]? = some a → Q n a) → fin (as.map f) S) : lcW i vs vYes we (rngD 0 m) gd s S fin := by
  refine vlc_rel (fun n _ y => ∃ a, y = f a ∧ Q n a) (by rw [rngD_len]; exact szlt hl) hg (fun n x hx k hk => ?_) fun ys h1 h2 => ?_
  · obtain ⟨hn, rfl⟩ := rng_int hx
    exact he n hn k fun a ha => hk _ ⟨a, rfl, ha⟩
  · rw [rngD_len] at h1
    obtain ⟨as, rfl, ha⟩ := lift_map f Q ys fun n y hy => by
      have hn : n < ys.length := (List.getElem?_eq_some_iff.mp hy).1
      exact h2 n _ y (List.getElem?_eq_getElem (by rw [rngD_len]; omega)) hy
    exact hf as (by simpa using h1) ha
theorem vlc_list (f : α → D) (g : β → D) (bs : List β) (Q : Nat → β → α → Prop) (hl : bs.length ≤ 1000000) (hg : gd S)
    (he : ∀ (n : Nat) (b : β), bs[n]? = some b → ∀ k : KD, (∀ a, Q n b a → k (f a) S) → we noXC ((wipeD s vs).set i (some (g b))) S k)
    (hf : ∀ as : List α, as.length = bs.length → (∀ (n : Nat) (b : β) (a : α), bs[n]? = some b → as[n]? = some a → Q n b a) → fin (as.map f) S) : lcW i vs vYes we (bs.map g) gd s S fin := by
  refine vlc_rel (fun n _ y => ∃ a, y = f a ∧ ∀ b, bs[n]? = some b → Q n b a) (by rw [List.length_map]; exact szlt hl) hg (fun n x hx k hk => ?_) fun ys h1 h2 => ?_
  · rw [List.getElem?_map] at hx
    cases e : bs[n]? with
    | none => rw [e] at hx; cases hx
    | some b =>
      rw [e] at hx
      cases hx
      refine he n b e k fun a ha => hk _ ⟨a, rfl, fun b' hb' => ?_⟩
      rw [e] at hb'
      cases hb'
      exact ha
  · rw [List.length_map] at h1
    obtain ⟨as, rfl, ha⟩ := lift_map f (fun n a => ∀ b, bs[n]? = some b → Q n b a) ys fun n y hy => by
      have hn : n < ys.length := (List.getElem?_eq_some_iff.mp hy).1
      exact h2 n _ y (List.getElem?_eq_getElem (by rw [List.length_map]; omega)) hy
    exact hf as (by simpa using h1) fun n b a hb h => ha n a h b hb
variable {w : WS} {Dk : Kd}
theorem for_rng {m : Nat} (P : Nat → Env → Sto → Prop) (h0 : P 0 s S)
    (hs : ∀ n : Nat, n < m → ∀ s' S', P n s' S' → ∀ nx : Env → Sto → Prop, (∀ s2 S2, P (n + 1) s2 S2 → nx s2 S2) → w { Dk with nx := nx } (s'.set i (some (.int (n : Int)))) S')
    (hd : ∀ s' S', P m s' S' → Dk.nx s' S') : forW i w Dk (rngD 0 m) (fun _ => True) s S := by
  refine for_inv P h0 (fun n x s' S' hx hp => ⟨trivial, fun nx hnx => ?_⟩) fun s' S' hp => ⟨trivial, ?_⟩
  · obtain ⟨hn, rfl⟩ := rng_int hx
    exact hs n hn s' S' hp nx hnx
  · rw [rngD_len] at hp
    exact hd s' S' hp
theorem for_list (g : β → D) (bs : List β) (P : Nat → Env → Sto → Prop) (h0 : P 0 s S) (hg : ∀ n s' S', P n s' S' → gd S')
    (hs : ∀ (n : Nat) (b : β), bs[n]? = some b → ∀ s' S', P n s' S' → ∀ nx : Env → Sto → Prop, (∀ s2 S2, P (n + 1) s2 S2 → nx s2 S2) → w { Dk with nx := nx } (s'.set i (some (g b))) S')
    (hd : ∀ s' S', P bs.length s' S' → Dk.nx s' S') : forW i w Dk (bs.map g) gd s S := by
  refine for_inv P h0 (fun n x s' S' hx hp => ⟨hg n s' S' hp, fun nx hnx => ?_⟩) fun s' S' hp => ⟨hg _ s' S' hp, ?_⟩
  · rw [List.getElem?_map] at hx
    cases e : bs[n]? with
    | none => rw [e] at hx; cases hx
    | some b =>
      rw [e] at hx
      cases hx
      exact hs n b e s' S' hp nx hnx
  · rw [List.length_map] at hp
    exact hd s' S' hp
end
theorem all_get {v : List Int} {P : Int → Prop} (h : ∀ (n : Nat) (a : Int), v[n]? = some a → P a) : ∀ a ∈ v, P a := fun a ha => by
  obtain ⟨n, hn⟩ := List.mem_iff_getElem?.mp ha
  exact h n a hn
/-! ### the same dues with other amounts -/
def withA (sh : List Dd) (as : List Int) : List Dd := List.zipWith (fun x c => ⟨x.a, x.b, x.r, c⟩) sh as
theorem withA_len {sh : List Dd} {as : List Int} (h : as.length = sh.length) : (withA sh as).length = sh.length := by unfold withA; simp [h]
theorem withA_get {sh : List Dd} {as : List Int} {n : Nat} {x : Dd} (h : sh[n]? = some x) (hl : n < as.length) : (withA sh as)[n]? = some ⟨x.a, x.b, x.r, gI as n⟩ := by
  unfold withA
  rw [List.getElem?_zipWith, h, List.getElem?_eq_getElem hl, gI_nat hl]
theorem withA_ok {m : Int} {sh : List Dd} {as : List Int} (hs : ∀ x ∈ sh, x.Ok m) (ha : ∀ c ∈ as, 0 ≤ c ∧ c ≤ 1000000000000) : ∀ x ∈ withA sh as, x.Ok m := fun x hx => by
  obtain ⟨n, hn⟩ := List.mem_iff_getElem?.mp hx
  unfold withA at hn
  rw [List.getElem?_zipWith] at hn
  cases e : sh[n]? with
  | none => rw [e] at hn; cases hn
  | some z =>
    cases e2 : as[n]? with
    | none => rw [e, e2] at hn; cases hn
    | some c =>
      rw [e, e2] at hn
      cases hn
      have h1 := hs z (List.mem_of_getElem? e)
      have h2 := ha c (List.mem_of_getElem? e2)
      unfold Dd.Ok at *
      exact ⟨h1.1, h1.2.1, h1.2.2.1, h1.2.2.2.1, h1.2.2.2.2.1, h1.2.2.2.2.2.1, h1.2.2.2.2.2.2.1, h2.1, h2.2⟩
theorem list_eq {α : Type} {a b : List α} (hl : a.length = b.length) (h : ∀ (n : Nat) (x y : α), a[n]? = some x → b[n]? = some y → x = y) : a = b := by
  apply List.ext_getElem?
  intro n
  by_cases hn : n < a.length
  · rw [List.getElem?_eq_getElem hn, List.getElem?_eq_getElem (by omega)]
    rw [h n _ _ (List.getElem?_eq_getElem hn) (List.getElem?_eq_getElem (by omega))]
  · rw [List.getElem?_eq_none (by omega), List.getElem?_eq_none (by omega)]
/-! ### two cells behind a store -/
section
variable {S : Sto} {a b c : Cel}
theorem app_get0 {T : Sto} : (S ++ a :: T)[S.length]? = some a := by simp
theorem app_get1 {T : Sto} : (S ++ a :: b :: T)[S.length + 1]? = some b := by
  rw [List.getElem?_append_right (by omega), Nat.add_sub_cancel_left]
  rfl
theorem app_set0 {T : Sto} : (S ++ a :: T).set S.length c = S ++ c :: T := by
  rw [List.set_append_right _ _ (Nat.le_refl _), Nat.sub_self]
  rfl
theorem app_set1 {T : Sto} : (S ++ a :: b :: T).set (S.length + 1) c = S ++ a :: c :: T := by
  rw [List.set_append_right _ _ (by omega), Nat.add_sub_cancel_left]
  rfl
end
theorem eqW_res {S : Sto} {k : KD} {xs ys : List D} {a b : D} (hx : Res S (.lst xs) a) (hy : Res S (.lst ys) b) (pa : a.plain = true) (pb : b.plain = true) (oa : okEq 9 a = true) (ob : okEq 9 b = true) (h : ∀ q : Bool, (q = true ↔ a = b) → k (.bl q) S) : eqW (.lst xs) (.lst ys) S k :=
  ⟨a, b, hx, hy, oa, ob, h _ (eqv_iff _ _ pa pb)⟩
theorem res_rows {S T : Sto} {rows : List (List Int)} {n : Nat} (h : ∀ (i : Nat) (r : List Int), rows[i]? = some r → S[n + i]? = some (.lst (vI r))) : Res S (.lst (cellsD n rows.length)) (.lst (matL rows)) := by
  refine .lst (by rw [cellsD_len, matL_len]) fun i x y e1 e2 => ?_
  obtain ⟨r, hr, rfl⟩ := matL_get e2
  have hi : i < rows.length := (List.getElem?_eq_some_iff.mp hr).1
  rw [cellsD_get hi] at e1
  cases e1
  exact res_cell (h i r hr) (vI_plain r)
end Ab

namespace Ab
open PySem
/-! ### parts: small ones -/
theorem pR_int (a : Int) : pR (a : Rat) = .tup [.int a, .int 1] := by
  unfold pR
  rw [Rat.num_intCast, Rat.den_intCast]
  rfl
theorem pR_0 : pR 0 = .tup [.int 0, .int 1] := pR_int 0
theorem pR_1 : pR 1 = .tup [.int 1, .int 1] := pR_int 1
theorem SzR.int {n : Nat} {a : Int} (h : Sz n a) (hn : 0 < n) : SzR n (a : Rat) := by
  refine ⟨by rw [Rat.num_intCast]; exact h, ?_⟩
  rw [Rat.den_intCast]
  exact Nat.one_lt_two_pow (by omega)
theorem SzR.zero {n : Nat} (hn : 0 < n) : SzR n 0 := SzR.int (a := 0) (by unfold Sz; exact Nat.two_pow_pos n) hn
theorem num_nonneg_iff {q : Rat} : 0 ≤ q ↔ 0 ≤ q.num := Rat.num_nonneg.symm
/-- less a whole number, not below 0: no greater above, nor beneath -/
theorem SzR.subInt {n : Nat} {q : Rat} {a : Int} (h : SzR n q) (ha : 0 ≤ a) (hq : (a : Rat) ≤ q) : SzR n (q - (a : Rat)) := by
  have h2 := minus_eq q (a : Rat)
  rw [Rat.num_intCast, Rat.den_intCast] at h2
  rw [← h2]
  have hd := den_pos q
  have h3 := (Rat.le_iff _ _).mp hq
  rw [Rat.num_intCast, Rat.den_intCast] at h3
  have h4 : 0 ≤ a * (q.den : Int) := Int.mul_nonneg ha (by omega)
  refine ⟨Sz.of_abs h.1 (Nat.le_trans (num_le _ _) ?_), Sz.of_abs h.2 ?_⟩
  · simp at h3 ⊢
    omega
  · rw [Int.natAbs_natCast]
    exact Nat.le_trans (den_le (by simp; omega)) (by simp)
theorem rat_mul_nonneg {a b : Rat} (h1 : 0 ≤ a) (h2 : 0 ≤ b) : 0 ≤ a * b := Rat.mul_nonneg h1 h2
/-! ### what a lay lays out, rank by rank -/
def minR (x : Rat) (a : Rat) : Rat := if a < x then a else x
def laidR : Rat → List Int → List Rat
  | _, [] => []
  | q, a :: as => minR q a :: laidR (q - minR q a) as
theorem laidR_len : ∀ {q : Rat} {as : List Int}, (laidR q as).length = as.length
  | _, [] => rfl
  | q, a :: as => by
    show (laidR _ as).length + 1 = as.length + 1
    rw [laidR_len]
def gR (v : List Rat) (i : Int) : Rat := v.getD i.toNat 0
theorem gR_nat {v : List Rat} {n : Nat} (h : n < v.length) : gR v n = v[n] := by
  unfold gR
  rw [List.getD_eq_getElem?_getD]
  simp [h]
theorem at_gR {v : List Rat} {k : Int} (h0 : 0 ≤ k) (h1 : k < (v.length : Int)) : L2.atI (ratL v) k = some (pR (gR v k)) := by
  obtain ⟨j, rfl⟩ : ∃ j : Nat, k = (j : Int) := ⟨k.toNat, by omega⟩
  have hj : j < v.length := by omega
  rw [gR_nat hj]
  exact at_ratL (List.getElem?_eq_getElem hj)
theorem gR_mem {v : List Rat} {k : Int} (h0 : 0 ≤ k) (h1 : k < (v.length : Int)) : gR v k ∈ v := by
  obtain ⟨j, rfl⟩ : ∃ j : Nat, k = (j : Int) := ⟨k.toNat, by omega⟩
  rw [gR_nat (by omega)]
  exact List.getElem_mem _
theorem laidR_size {n : Nat} : ∀ {as : List Int} {q : Rat}, SzR n q → 0 < n → 0 ≤ q → (∀ a ∈ as, 0 ≤ a ∧ Sz n a) → ∀ x ∈ laidR q as, SzR n x ∧ 0 ≤ x
  | [], q, _, _, _, _, x, hx => by simp [laidR] at hx
  | a :: as, q, h, hn, hq, ha, x, hx => by
    have h1 := ha a (by simp)
    have h0 : (0 : Rat) ≤ (a : Rat) := by exact_mod_cast h1.1
    rcases List.mem_cons.mp hx with rfl | hx
    · unfold minR
      split
      · exact ⟨SzR.int h1.2 hn, h0⟩
      · exact ⟨h, hq⟩
    · refine laidR_size (as := as) (q := q - minR q a) ?_ hn ?_ (fun b hb => ha b (by simp [hb])) x hx
      · unfold minR
        split
        · rename_i hlt
          exact h.subInt h1.1 (by grind)
        · have : q - q = 0 := by grind
          rw [this]
          exact SzR.zero hn
      · unfold minR
        split <;> grind
/-- three ranks -/
theorem laidR_three {q : Rat} {a b c : Int} (ha : 0 ≤ a) (hb : 0 ≤ b) (hc : 0 ≤ c) (hq : 0 ≤ q) (hm : q ≤ (a : Rat) + b + c) :
    ∃ x y z : Rat, laidR q [a, b, c] = [x, y, z] ∧ 0 ≤ x ∧ x ≤ a ∧ 0 ≤ y ∧ y ≤ b ∧ 0 ≤ z ∧ z ≤ c ∧ x + y + z = q ∧ (0 < y → x = a) ∧ (0 < z → x = a ∧ y = b) := by
  have h1 : (0 : Rat) ≤ a := by exact_mod_cast ha
  have h2 : (0 : Rat) ≤ b := by exact_mod_cast hb
  have h3 : (0 : Rat) ≤ c := by exact_mod_cast hc
  refine ⟨minR q a, minR (q - minR q a) b, minR (q - minR q a - minR (q - minR q a) b) c, rfl, ?_⟩
  unfold minR
  refine ⟨?_, ?_, ?_, ?_, ?_, ?_, ?_, ?_, ?_⟩ <;> grind
/-! ### what is paid on a due -/
def laidA (qs : List Rat) (sh : List Dd) (j : Int) : List Rat := laidR (gR qs j) (rkRow sh j)
def payR (qs : List Rat) (sh : List Dd) (x : Dd) : Rat := if rkI sh x.a x.r = 0 then 0 else gR (laidA qs sh x.a) x.r * Rat.divInt x.c (rkI sh x.a x.r)
def paidL (qs : List Rat) (sh : List Dd) : List Rat := sh.map (payR qs sh)
theorem paidL_len {qs : List Rat} {sh : List Dd} : (paidL qs sh).length = sh.length := by unfold paidL; simp
theorem laidA_len {qs : List Rat} {sh : List Dd} {j : Int} : (laidA qs sh j).length = 3 := by unfold laidA; rw [laidR_len]; rfl
/-- what a member owes in all -/
def rkT (sh : List Dd) (j : Int) : Int := rkI sh j 0 + rkI sh j 1 + rkI sh j 2
theorem rkI_le {m : Int} {sh : List Dd} (h : ∀ x ∈ sh, x.Ok m) {j r : Int} : rkI sh j r ≤ 1000000000000 * (sh.length : Int) := by
  unfold rkI
  have := sum_le (b := 1000000000000) (v := sh.map fun x => if x.a = j ∧ x.r = r then x.c else 0) fun z hz => by
    obtain ⟨x, hx, rfl⟩ := List.mem_map.mp hz
    have := h x hx
    unfold Dd.Ok at this
    split <;> omega
  rwa [List.length_map] at this
theorem rkRow_nonneg {m : Int} {sh : List Dd} (h : ∀ x ∈ sh, x.Ok m) {j : Int} : ∀ a ∈ rkRow sh j, 0 ≤ a ∧ a ≤ 1000000000000 * (sh.length : Int) := by
  unfold rkRow
  intro a ha
  simp at ha
  rcases ha with rfl | rfl | rfl <;> exact ⟨rkI_nonneg h, rkI_le h⟩
theorem rkI_mem {m : Int} {sh : List Dd} (h : ∀ x ∈ sh, x.Ok m) {x : Dd} (hx : x ∈ sh) : x.c ≤ rkI sh x.a x.r := by
  induction sh with
  | nil => simp at hx
  | cons y sh ih =>
    have e : rkI (y :: sh) x.a x.r = (if y.a = x.a ∧ y.r = x.r then y.c else 0) + rkI sh x.a x.r := by
      unfold rkI; rw [List.map_cons, List.sum_cons]
    have h0 := @rkI_nonneg m sh (fun z hz => h z (by simp [hz])) x.a x.r
    have hy := h y (by simp)
    unfold Dd.Ok at hy
    rw [e]
    rcases List.mem_cons.mp hx with rfl | hx
    · rw [if_pos ⟨rfl, rfl⟩]; omega
    · have := ih (fun z hz => h z (by simp [hz])) hx
      split <;> omega
theorem divInt_eq (a b : Int) : Rat.divInt a b = (a : Rat) / (b : Rat) := Rat.divInt_eq_div a b
theorem num_eq (q : Rat) : (q.num : Rat) = q * (q.den : Int) := by
  have hd : ((q.den : Int) : Rat) ≠ 0 := by
    have := den_pos q
    exact_mod_cast (show (q.den : Int) ≠ 0 by omega)
  have h' : (q.num : Rat) / ((q.den : Int) : Rat) = q := by
    rw [← Rat.divInt_eq_div]
    exact Rat.num_divInt_den q
  grind
theorem rdiv_nonneg {a b : Rat} (h1 : 0 ≤ a) (h2 : 0 < b) : 0 ≤ a / b := Rat.not_lt.mp fun h => by
  have := (Rat.div_lt_iff h2).mp h
  grind
theorem rdiv_le {a b c : Rat} (h2 : 0 < b) (h : a ≤ c * b) : a / b ≤ c := Rat.not_lt.mp fun h' => by
  have := (Rat.lt_div_iff h2).mp h'
  grind
theorem den_ratpos (q : Rat) : (0 : Rat) < ((q.den : Int) : Rat) := by
  have := den_pos q
  exact_mod_cast this
/-- what each of a member's three ranks lays out by each coin -/
def shareF (qs : List Rat) (sh : List Dd) (j r : Int) : Rat := if rkI sh j r = 0 then 0 else gR (laidA qs sh j) r / (rkI sh j r : Int)
theorem payR_eq {qs : List Rat} {sh : List Dd} {x : Dd} : payR qs sh x = shareF qs sh x.a x.r * (x.c : Int) := by
  unfold payR shareF
  split
  · grind
  · rw [divInt_eq]; grind
theorem pay_split {sh : List Dd} {m j : Int} (hs : ∀ x ∈ sh, x.Ok m) (f : Int → Rat) : (sh.map fun x => if x.a = j then f x.r * (x.c : Int) else 0).sum = f 0 * (rkI sh j 0 : Int) + f 1 * (rkI sh j 1 : Int) + f 2 * (rkI sh j 2 : Int) := by
  induction sh with
  | nil =>
    have e : ∀ r, rkI [] j r = 0 := fun _ => rfl
    rw [e, e, e]
    have e0 : ((0 : Int) : Rat) = 0 := rfl
    rw [e0, List.map_nil, List.sum_nil]
    grind
  | cons y sh ih =>
    have e : ∀ r, rkI (y :: sh) j r = (if y.a = j ∧ y.r = r then y.c else 0) + rkI sh j r := fun r => by
      unfold rkI; rw [List.map_cons, List.sum_cons]
    have hy := hs y (by simp)
    unfold Dd.Ok at hy
    have h3 : y.r = 0 ∨ y.r = 1 ∨ y.r = 2 := by omega
    rw [List.map_cons, List.sum_cons, ih fun z hz => hs z (by simp [hz]), e, e, e]
    by_cases hj : y.a = j
    · rcases h3 with h | h | h <;> simp [hj, h] <;> grind
    · simp [hj]
      grind
/-- the laying out of a member: three parts -/
structure Laid (qs : List Rat) (sh : List Dd) (j : Int) : Prop where
  lo : ∀ r, 0 ≤ r → r < 3 → 0 ≤ gR (laidA qs sh j) r ∧ gR (laidA qs sh j) r ≤ (rkI sh j r : Int)
  all : gR (laidA qs sh j) 0 + gR (laidA qs sh j) 1 + gR (laidA qs sh j) 2 = gR qs j
  ord : ∀ r t, 0 ≤ r → r < t → t < 3 → 0 < gR (laidA qs sh j) t → gR (laidA qs sh j) r = (rkI sh j r : Int)
theorem laid_of {m : Int} {qs : List Rat} {sh : List Dd} {j : Int} (hs : ∀ x ∈ sh, x.Ok m) (h0 : 0 ≤ gR qs j) (h1 : gR qs j ≤ (rkT sh j : Int)) : Laid qs sh j := by
  obtain ⟨x, y, z, e, p1, p2, p3, p4, p5, p6, p7, p8, p9⟩ := laidR_three (q := gR qs j) (rkI_nonneg hs (j := j) (r := 0)) (rkI_nonneg hs (j := j) (r := 1)) (rkI_nonneg hs (j := j) (r := 2)) h0 (by
    unfold rkT at h1
    exact_mod_cast h1)
  have e' : laidA qs sh j = [x, y, z] := e
  have g0 : gR (laidA qs sh j) 0 = x := by rw [e']; rfl
  have g1 : gR (laidA qs sh j) 1 = y := by rw [e']; rfl
  have g2 : gR (laidA qs sh j) 2 = z := by rw [e']; rfl
  refine ⟨fun r h0 h1 => ?_, by rw [g0, g1, g2]; exact p7, fun r t hr ht ht2 hp => ?_⟩
  · have : r = 0 ∨ r = 1 ∨ r = 2 := by omega
    rcases this with rfl | rfl | rfl
    · rw [g0]; exact ⟨p1, p2⟩
    · rw [g1]; exact ⟨p3, p4⟩
    · rw [g2]; exact ⟨p5, p6⟩
  · have : (r = 0 ∧ t = 1) ∨ (r = 0 ∧ t = 2) ∨ (r = 1 ∧ t = 2) := by omega
    rcases this with ⟨rfl, rfl⟩ | ⟨rfl, rfl⟩ | ⟨rfl, rfl⟩
    · rw [g1] at hp; rw [g0]; exact p8 hp
    · rw [g2] at hp; rw [g0]; exact (p9 hp).1
    · rw [g2] at hp; rw [g1]; exact (p9 hp).2
theorem shareF_mul {qs : List Rat} {sh : List Dd} {j r : Int} (h : Laid qs sh j) (h0 : 0 ≤ r) (h1 : r < 3) : shareF qs sh j r * (rkI sh j r : Int) = gR (laidA qs sh j) r := by
  unfold shareF
  have := h.lo r h0 h1
  split
  · rename_i e
    rw [e] at this
    have e0 : ((0 : Int) : Rat) = 0 := rfl
    rw [e0] at this
    grind
  · rename_i e
    have : ((rkI sh j r : Int) : Rat) ≠ 0 := by exact_mod_cast e
    grind
theorem pay_total {m : Int} {qs : List Rat} {sh : List Dd} {j : Int} (hs : ∀ x ∈ sh, x.Ok m) (h : Laid qs sh j) : (sh.map fun x => if x.a = j then payR qs sh x else 0).sum = gR qs j := by
  have e : (sh.map fun x => if x.a = j then payR qs sh x else 0) = sh.map fun x => if x.a = j then shareF qs sh j x.r * (x.c : Int) else 0 := by
    apply List.map_congr_left
    intro x _
    split
    · rename_i hj
      rw [payR_eq, hj]
    · rfl
  rw [e, pay_split hs, shareF_mul h (by omega) (by omega), shareF_mul h (by omega) (by omega), shareF_mul h (by omega) (by omega), h.all]
theorem pay_rng {m : Int} {qs : List Rat} {sh : List Dd} {x : Dd} (hs : ∀ x ∈ sh, x.Ok m) (hx : x ∈ sh) (h : Laid qs sh x.a) : 0 ≤ payR qs sh x ∧ payR qs sh x ≤ (x.c : Int) := by
  have hxo := hs x hx
  unfold Dd.Ok at hxo
  have hl := h.lo x.r (by omega) (by omega)
  have hm := shareF_mul h (r := x.r) (by omega) (by omega)
  rw [payR_eq]
  have c0 : (0 : Rat) ≤ (x.c : Int) := by exact_mod_cast hxo.2.2.2.2.2.2.2.1
  have hf : 0 ≤ shareF qs sh x.a x.r ∧ shareF qs sh x.a x.r ≤ 1 := by
    unfold shareF at hm ⊢
    split
    · constructor <;> grind
    · rename_i e
      have h0 : (0 : Rat) < (rkI sh x.a x.r : Int) := by
        have := rkI_nonneg hs (j := x.a) (r := x.r)
        exact_mod_cast (show 0 < rkI sh x.a x.r by omega)
      constructor
      · exact rdiv_nonneg hl.1 h0
      · exact rdiv_le h0 (by grind)
  refine ⟨rat_mul_nonneg hf.1 c0, ?_⟩
  have := rat_mul_nonneg (a := 1 - shareF qs sh x.a x.r) (b := (x.c : Int)) (by grind) c0
  grind
theorem pay_pair {qs : List Rat} {sh : List Dd} {x y : Dd} (ha : x.a = y.a) (hr : x.r = y.r) : payR qs sh x * (y.c : Int) = payR qs sh y * (x.c : Int) := by
  rw [payR_eq, payR_eq, ha, hr]
  grind
theorem pay_ahead {m : Int} {qs : List Rat} {sh : List Dd} {x y : Dd} (hs : ∀ x ∈ sh, x.Ok m) (hx : x ∈ sh) (hy : y ∈ sh) (h : Laid qs sh x.a) (ha : x.a = y.a) (hr : x.r < y.r) (hp : 0 < payR qs sh y) : payR qs sh x = (x.c : Int) := by
  have hxo := hs x hx
  have hyo := hs y hy
  unfold Dd.Ok at hxo hyo
  have hly := h.lo y.r (by omega) (by omega)
  have hmy := shareF_mul h (r := y.r) (by omega) (by omega)
  have hmx := shareF_mul h (r := x.r) (by omega) (by omega)
  rw [payR_eq] at hp ⊢
  rw [← ha] at hp
  have hpos : 0 < gR (laidA qs sh x.a) y.r := by
    rcases Rat.le_iff_lt_or_eq.mp hly.1 with h1 | h1
    · exact h1
    · exfalso
      unfold shareF at hp
      rw [← h1] at hp
      split at hp <;> grind
  have e := h.ord x.r y.r (by omega) hr (by omega) hpos
  rw [e] at hmx
  by_cases h0 : rkI sh x.a x.r = 0
  · have := rkI_mem hs hx
    have hc : x.c = 0 := by omega
    rw [hc]
    have e0 : ((0 : Int) : Rat) = 0 := rfl
    rw [e0]
    grind
  · have h0' : ((rkI sh x.a x.r : Int) : Rat) ≠ 0 := by exact_mod_cast h0
    have : shareF qs sh x.a x.r = 1 := by grind
    rw [this]
    grind
end Ab
namespace Ab
open PySem
theorem laidR_take : ∀ {as : List Int} {q : Rat} {n : Nat} {a : Int}, as[n]? = some a → laidR q (as.take (n + 1)) = laidR q (as.take n) ++ [minR (q - (laidR q (as.take n)).sum) a]
  | [], _, _, _, h => by simp at h
  | b :: as, q, 0, a, h => by
    simp at h
    subst h
    show [minR q b] = [] ++ [minR (q - 0) b]
    have : q - 0 = q := by grind
    rw [this]
    rfl
  | b :: as, q, n + 1, a, h => by
    have ih := laidR_take (as := as) (q := q - minR q b) (n := n) (a := a) (by simpa using h)
    show minR q b :: laidR (q - minR q b) (as.take (n + 1)) = (minR q b :: laidR (q - minR q b) (as.take n)) ++ [minR (q - (minR q b :: laidR (q - minR q b) (as.take n)).sum) a]
    rw [ih, List.sum_cons, List.cons_append]
    congr 3
    congr 1
    grind
theorem laidR_rest {n : Nat} : ∀ {as : List Int} {q : Rat}, SzR n q → 0 < n → 0 ≤ q → (∀ a ∈ as, 0 ≤ a ∧ Sz n a) → SzR n (q - (laidR q as).sum) ∧ 0 ≤ q - (laidR q as).sum
  | [], q, h, _, hq, _ => by
    have : q - (laidR q []).sum = q := by
      show q - 0 = q
      grind
    rw [this]
    exact ⟨h, hq⟩
  | a :: as, q, h, hn, hq, ha => by
    have h1 := ha a (by simp)
    have e : q - (laidR q (a :: as)).sum = (q - minR q a) - (laidR (q - minR q a) as).sum := by
      show q - (minR q a :: laidR (q - minR q a) as).sum = _
      rw [List.sum_cons]
      grind
    rw [e]
    refine laidR_rest (as := as) ?_ hn ?_ fun b hb => ha b (by simp [hb])
    · unfold minR
      split
      · exact h.subInt h1.1 (by grind)
      · have : q - q = 0 := by grind
        rw [this]
        exact SzR.zero hn
    · unfold minR
      split <;> grind
def matR (m : List (List Rat)) : List D := m.map fun v => .lst (ratL v)
theorem at_matR {m : List (List Rat)} {k : Int} (h0 : 0 ≤ k) (h1 : k < (m.length : Int)) : L2.atI (matR m) k = some (.lst (ratL (m.getD k.toNat []))) := by
  obtain ⟨j, rfl⟩ : ∃ j : Nat, k = (j : Int) := ⟨k.toNat, by omega⟩
  have hj : j < m.length := by omega
  refine L2.atI_nat ?_
  unfold matR
  rw [List.getElem?_map, List.getElem?_eq_getElem hj]
  simp [List.getD_eq_getElem?_getD, hj]
theorem at_matL' {m : List (List Int)} {k : Int} (h0 : 0 ≤ k) (h1 : k < (m.length : Int)) : L2.atI (matL m) k = some (.lst (vI (m.getD k.toNat []))) := by
  obtain ⟨j, rfl⟩ : ∃ j : Nat, k = (j : Int) := ⟨k.toNat, by omega⟩
  have hj : j < m.length := by omega
  refine L2.atI_nat ?_
  unfold matL
  rw [List.getElem?_map, List.getElem?_eq_getElem hj]
  simp [List.getD_eq_getElem?_getD, hj]
theorem rkM_at {m j : Int} {sh : List Dd} (h0 : 0 ≤ j) (h1 : j < m) : L2.atI (matL (rkM m sh)) j = some (.lst (vI (rkRow sh j))) := by
  rw [at_matL' h0 (by rw [rkM_len]; omega), List.getD_eq_getElem?_getD, rkM_get (by omega)]
  rw [show ((j.toNat : Nat) : Int) = j by omega]
  rfl
end Ab

namespace Ab
open PySem
/-! ### what each gets -/
def gotP (qs : List Rat) (sh pre : List Dd) (j : Int) : Rat := (pre.map fun x => if x.b = j then payR qs sh x else 0).sum
def gotM (m : Nat) (qs : List Rat) (sh pre : List Dd) : List Rat := (List.range m).map fun j => gotP qs sh pre (j : Nat)
theorem gotM_len {m : Nat} {qs : List Rat} {sh pre : List Dd} : (gotM m qs sh pre).length = m := by unfold gotM; simp
theorem gotM_at {m : Nat} {qs : List Rat} {sh pre : List Dd} {j : Nat} (h : j < m) : (gotM m qs sh pre)[j]? = some (gotP qs sh pre j) := by
  unfold gotM
  rw [List.getElem?_map, List.getElem?_range h]
  rfl
theorem gotM_get {m : Nat} {qs : List Rat} {sh pre : List Dd} {j : Int} (h0 : 0 ≤ j) (h : j < (m : Int)) : gR (gotM m qs sh pre) j = gotP qs sh pre j := by
  obtain ⟨n, rfl⟩ : ∃ n : Nat, j = (n : Int) := ⟨j.toNat, by omega⟩
  unfold gR
  rw [List.getD_eq_getElem?_getD, Int.toNat_natCast, gotM_at (by omega)]
  rfl
theorem gotP_snoc {qs : List Rat} {sh pre : List Dd} {x : Dd} {j : Int} : gotP qs sh (pre ++ [x]) j = gotP qs sh pre j + if x.b = j then payR qs sh x else 0 := by
  unfold gotP
  rw [List.map_append, List.sum_append, List.map_cons, List.map_nil, List.sum_cons, List.sum_nil]
  grind
theorem gotM_snoc {m : Nat} {qs : List Rat} {sh pre : List Dd} {x : Dd} (h0 : 0 ≤ x.b) (h1 : x.b < (m : Int)) : gotM m qs sh (pre ++ [x]) = (gotM m qs sh pre).set x.b.toNat (gotP qs sh pre x.b + payR qs sh x) := by
  apply List.ext_getElem?
  intro j
  by_cases h : j < m
  · rw [gotM_at h, gotP_snoc]
    by_cases e : x.b.toNat = j
    · subst e
      rw [List.getElem?_set_self (by rw [gotM_len]; exact h), show ((x.b.toNat : Nat) : Int) = x.b by omega, if_pos rfl]
    · rw [List.getElem?_set_ne e, gotM_at h, if_neg (by omega)]
      congr 1
      grind
  · rw [List.getElem?_eq_none (by rw [gotM_len]; omega), List.getElem?_eq_none (by rw [List.length_set, gotM_len]; omega)]
theorem gotM_nil {m : Nat} {qs : List Rat} {sh : List Dd} : gotM m qs sh [] = List.replicate m 0 := by
  apply List.ext_getElem?
  intro j
  by_cases h : j < m
  · rw [gotM_at h, List.getElem?_replicate, if_pos h]
    rfl
  · rw [List.getElem?_eq_none (by rw [gotM_len]; omega), List.getElem?_eq_none (by simp; omega)]
theorem gotP_size {k : Nat} {qs : List Rat} {sh : List Dd} {j : Int} : ∀ {pre : List Dd}, (∀ x ∈ pre, SzR k (payR qs sh x)) → SzR ((k + 1) * pre.length + 1) (gotP qs sh pre j)
  | [], _ => SzR.zero (by omega)
  | x :: pre, h => by
    have ih := gotP_size (k := k) (qs := qs) (sh := sh) (j := j) (pre := pre) fun y hy => h y (by simp [hy])
    have e : gotP qs sh (x :: pre) j = (if x.b = j then payR qs sh x else 0) + gotP qs sh pre j := by
      unfold gotP; rw [List.map_cons, List.sum_cons]
    rw [e]
    split
    · refine ((h x (by simp)).add ih).mono ?_
      rw [List.length_cons, Nat.mul_add]
      omega
    · have : (0 : Rat) + gotP qs sh pre j = gotP qs sh pre j := by grind
      rw [this]
      refine ih.mono ?_
      rw [List.length_cons, Nat.mul_add]
      omega
/-- a sum, by keys -/
theorem sum_key {α : Type} {f : α → Int} {g : α → Rat} {m : Nat} : ∀ {xs : List α}, (∀ x ∈ xs, 0 ≤ f x ∧ f x < (m : Int)) → ((List.range m).map fun (j : Nat) => (xs.map fun x => if f x = (j : Int) then g x else 0).sum).sum = (xs.map g).sum
  | [], _ => by
    have : ∀ l : List Nat, (l.map fun (j : Nat) => (([] : List α).map fun x => if f x = (j : Int) then g x else 0).sum).sum = 0 := by
      intro l
      induction l with
      | nil => rfl
      | cons a l ih =>
        rw [List.map_cons, List.sum_cons, ih]
        show (0 : Rat) + 0 = 0
        grind
    exact this _
  | x :: xs, h => by
    have ih := sum_key (f := f) (g := g) (m := m) (xs := xs) fun y hy => h y (by simp [hy])
    have h0 := h x (by simp)
    have e : ∀ l : List Nat, l.Nodup → (l.map fun (j : Nat) => ((x :: xs).map fun x => if f x = (j : Int) then g x else 0).sum).sum = (if (f x).toNat ∈ l then g x else 0) + (l.map fun (j : Nat) => (xs.map fun x => if f x = (j : Int) then g x else 0).sum).sum := by
      intro l
      induction l with
      | nil => intro _; simp; grind
      | cons a l ih2 =>
        intro hn
        have hn' := List.nodup_cons.mp hn
        rw [List.map_cons, List.sum_cons, List.map_cons, List.sum_cons, ih2 hn'.2, List.map_cons, List.sum_cons]
        by_cases hc : f x = (a : Int)
        · have : (f x).toNat = a := by omega
          rw [if_pos hc, this, if_neg hn'.1, if_pos (show a ∈ a :: l by simp)]
          grind
        · have : (f x).toNat ≠ a := by omega
          rw [if_neg hc]
          simp only [List.mem_cons, this, false_or]
          grind
    rw [e _ List.nodup_range, if_pos (by rw [List.mem_range]; omega), ih, List.map_cons, List.sum_cons]
/-! ### pairs: parts not in lowest terms -/
def frD (t : Int × Int) : D := .tup [.int t.1, .int t.2]
def frL (v : List (Int × Int)) : List D := v.map frD
theorem frL_len {v : List (Int × Int)} : (frL v).length = v.length := by unfold frL; simp
theorem ratL_fr {qs : List Rat} : ratL qs = frL (qs.map fun q => (q.num, (q.den : Int))) := by
  unfold ratL frL
  rw [List.map_map]
  rfl
theorem at_frL {v : List (Int × Int)} {n : Nat} {t : Int × Int} (h : v[n]? = some t) : L2.atI (frL v) (n : Int) = some (frD t) := L2.atI_nat (by unfold frL; rw [List.getElem?_map, h]; rfl)
theorem frL_pure (v : List (Int × Int)) : pureAll (frL v) = true := pureAll_iff.mpr fun x hx => by
  unfold frL at hx
  obtain ⟨z, _, rfl⟩ := List.mem_map.mp hx
  rfl
theorem frL_set {v : List (Int × Int)} {n : Nat} {t : Int × Int} : (frL v).set n (frD t) = frL (v.set n t) := by
  unfold frL
  rw [List.map_set]
section
variable {S : Sto} {k : KD} {t : Int × Int}
theorem ix_fr0 : ixD S (frD t) 0 = some (.int t.1) := by
  show L2.atI [D.int t.1, D.int t.2] 0 = _
  exact atI_0
theorem ix_fr1 : ixD S (frD t) 1 = some (.int t.2) := by
  show L2.atI [D.int t.1, D.int t.2] 1 = _
  exact atI_1
theorem len_fr : lenF [frD t] S k = k (.int 2) S := by
  unfold frD; rw [lenF_t]; rfl
theorem isi_fr {t : Int × Int} {ty : Ty} : isiD S ty (frD t) = some (decide (ty = .tuple)) := rfl
end
def valF (t : Int × Int) : Rat := (t.1 : Rat) / (t.2 : Rat)
theorem valF_mul {t : Int × Int} (h : 0 < t.2) : (t.1 : Rat) = valF t * (t.2 : Int) := by
  unfold valF
  have : ((t.2 : Int) : Rat) ≠ 0 := by exact_mod_cast (show t.2 ≠ 0 by omega)
  grind
theorem valF_q {q : Rat} : valF (q.num, (q.den : Int)) = q := by
  unfold valF
  rw [← Rat.divInt_eq_div]
  exact Rat.num_divInt_den q
theorem val_cross {a b : Int × Int} (ha : 0 < a.2) (hb : 0 < b.2) (h : valF a = valF b) : a.1 * b.2 = b.1 * a.2 := by
  have h1 := valF_mul ha
  have h2 := valF_mul hb
  have : ((a.1 * b.2 : Int) : Rat) = ((b.1 * a.2 : Int) : Rat) := by
    rw [Rat.intCast_mul, Rat.intCast_mul, h1, h2, h]
    grind
  exact_mod_cast this
/-! ### a rank's lay, by what is ahead -/
def clampR (q ahead most : Rat) : Rat := if (if q - ahead < 0 then 0 else q - ahead) < most then (if q - ahead < 0 then 0 else q - ahead) else most
theorem laid_clamp {qs : List Rat} {sh : List Dd} {m j r : Int} (hs : ∀ x ∈ sh, x.Ok m) (hq : 0 ≤ gR qs j) (h0 : 0 ≤ r) (h1 : r < 3) : gR (laidA qs sh j) r = clampR (gR qs j) (((rkRow sh j).take r.toNat).sum : Int) (rkI sh j r : Int) := by
  have a0 : (0 : Rat) ≤ (rkI sh j 0 : Int) := by exact_mod_cast rkI_nonneg hs
  have b0 : (0 : Rat) ≤ (rkI sh j 1 : Int) := by exact_mod_cast rkI_nonneg hs
  have c0 : (0 : Rat) ≤ (rkI sh j 2 : Int) := by exact_mod_cast rkI_nonneg hs
  have : r = 0 ∨ r = 1 ∨ r = 2 := by omega
  rcases this with rfl | rfl | rfl
  · show minR (gR qs j) (rkI sh j 0 : Int) = clampR (gR qs j) (((0 : Int)) : Rat) _
    have e0 : ((0 : Int) : Rat) = 0 := rfl
    rw [e0]
    unfold minR clampR
    grind
  · show minR (gR qs j - minR (gR qs j) (rkI sh j 0 : Int)) (rkI sh j 1 : Int) = clampR (gR qs j) (((rkI sh j 0 + 0 : Int)) : Rat) _
    rw [Int.add_zero]
    unfold minR clampR
    grind
  · show minR (gR qs j - minR (gR qs j) (rkI sh j 0 : Int) - minR (gR qs j - minR (gR qs j) (rkI sh j 0 : Int)) (rkI sh j 1 : Int)) (rkI sh j 2 : Int) = clampR (gR qs j) (((rkI sh j 0 + (rkI sh j 1 + 0) : Int)) : Rat) _
    rw [Int.add_zero, Rat.intCast_add]
    unfold minR clampR
    grind
theorem rat_mul_neg {a b : Rat} (h1 : a < 0) (h2 : 0 < b) : a * b < 0 := by
  have := Rat.mul_pos (a := -a) (b := b) (by grind) h2
  grind
theorem clamp_int (q : Rat) (ah most : Int) : (((if most * (q.den : Int) < (if 0 > q.num - ah * (q.den : Int) then 0 else q.num - ah * (q.den : Int)) then most * (q.den : Int) else (if 0 > q.num - ah * (q.den : Int) then 0 else q.num - ah * (q.den : Int))) : Int) : Rat) = clampR q ah most * ((q.den : Int) : Rat) := by
  have hd := den_ratpos q
  have hn := num_eq q
  have e1 : ((q.num - ah * (q.den : Int) : Int) : Rat) = (q - ah) * ((q.den : Int) : Rat) := by
    rw [Rat.intCast_sub, Rat.intCast_mul, hn]
    grind
  have e2 : ((most * (q.den : Int) : Int) : Rat) = most * ((q.den : Int) : Rat) := Rat.intCast_mul _ _
  have e0 : ((0 : Int) : Rat) = 0 := rfl
  unfold clampR
  generalize q.num - ah * (q.den : Int) = y at e1
  generalize most * (q.den : Int) = z at e2
  generalize ((q.den : Int) : Rat) = d at hd e1 e2
  generalize q - (ah : Rat) = u at e1
  have c1 : (0 > y) ↔ u < 0 := by
    have : ((y : Rat) < 0) ↔ u < 0 := by
      rw [e1]
      constructor
      · intro h
        rcases Rat.not_le.mp (fun h' : (0 : Rat) ≤ u => by have := rat_mul_nonneg h' (Rat.le_of_lt hd); grind) with h2
        exact h2
      · intro h
        exact rat_mul_neg h hd
    rw [← this]
    constructor
    · intro h; exact_mod_cast h
    · intro h; exact_mod_cast h
  have c2 : ∀ (a : Int) (v : Rat), (a : Rat) = v * d → ((z < a) ↔ (most : Rat) < v) := fun a v ha => by
    have : ((z : Rat) < (a : Rat)) ↔ (most : Rat) < v := by
      rw [e2, ha]
      constructor
      · intro h
        refine Rat.not_le.mp fun h' => ?_
        have := rat_mul_nonneg (a := (most : Rat) - v) (b := d) (by grind) (Rat.le_of_lt hd)
        grind
      · intro h
        have := Rat.mul_pos (a := v - (most : Rat)) (b := d) (by grind) hd
        grind
    rw [← this]
    constructor
    · intro h; exact_mod_cast h
    · intro h; exact_mod_cast h
  by_cases h1 : u < 0
  · have h2 := c2 0 0 (by rw [e0]; grind)
    simp only [c1, h1, if_true, h2]
    by_cases h3 : (most : Rat) < 0
    · rw [if_pos h3, if_neg (by grind), e2]
    · rw [if_neg h3]
      by_cases h4 : (0 : Rat) < most
      · rw [if_pos h4, e0]; clear c1 c2; grind
      · have hm : (most : Rat) = 0 := Rat.le_antisymm (Rat.not_lt.mp h4) (Rat.not_lt.mp h3)
        rw [if_neg h4, e0, hm]; clear c1 c2; grind
  · have h2 := c2 y u e1
    simp only [c1, h1, if_false, h2]
    by_cases h3 : (most : Rat) < u
    · rw [if_pos h3, if_neg (by grind), e2]
    · rw [if_neg h3]
      by_cases h4 : u < most
      · rw [if_pos h4, e1]
      · have hm : (most : Rat) = u := Rat.le_antisymm (Rat.not_lt.mp h4) (Rat.not_lt.mp h3)
        rw [if_neg h4, e1, hm]
end Ab

namespace Ab
open PySem
/-! ### stops -/
def optD : Option Int → D
  | none => .non
  | some z => .int z
def optL (v : List (Option Int)) : List D := v.map optD
theorem optL_len {v : List (Option Int)} : (optL v).length = v.length := by unfold optL; simp
theorem optL_pure (v : List (Option Int)) : pureAll (optL v) = true := pureAll_iff.mpr fun x hx => by
  unfold optL at hx
  obtain ⟨z, _, rfl⟩ := List.mem_map.mp hx
  cases z <;> rfl
theorem at_optL {v : List (Option Int)} {n : Nat} {o : Option Int} (h : v[n]? = some o) : L2.atI (optL v) (n : Int) = some (optD o) := L2.atI_nat (by unfold optL; rw [List.getElem?_map, h]; rfl)
theorem optL_snoc {v : List (Option Int)} {o : Option Int} : optL v ++ [optD o] = optL (v ++ [o]) := by unfold optL; simp
def stopF (q : Rat) : Int → Int → List Int → Option Int
  | _, _, [] => none
  | ahead, r, a :: as => if q < ((ahead + a : Int) : Rat) then some r else stopF q (ahead + a) (r + 1) as
def stop3 (q : Rat) (row : List Int) : Option Int := stopF q 0 0 row
theorem lt_int_iff {q : Rat} {z : Int} : q < (z : Rat) ↔ q.num < z * (q.den : Int) := by
  rw [← ratlt_iff, Rat.num_intCast, Rat.den_intCast]
  simp
def stopsL (qs : List Rat) (sh : List Dd) : List (Option Int) := (List.range qs.length).map fun j => stop3 (gR qs (j : Nat)) (rkRow sh (j : Nat))
theorem stopsL_len {qs : List Rat} {sh : List Dd} : (stopsL qs sh).length = qs.length := by unfold stopsL; simp
theorem stopsL_get {qs : List Rat} {sh : List Dd} {j : Nat} (h : j < qs.length) : (stopsL qs sh)[j]? = some (stop3 (gR qs (j : Nat)) (rkRow sh (j : Nat))) := by
  unfold stopsL
  rw [List.getElem?_map, List.getElem?_range h]
  rfl
/-- .. from the last rank down -/
def standN (q : Rat) (row : List Int) : Nat → Option Int
  | 0 => none
  | n + 1 => if q < (((row.take (3 - n)).sum : Int) : Rat) then some (2 - (n : Int)) else standN q row n
theorem stand_stop {q : Rat} {a b c : Int} : standN q [a, b, c] 3 = stop3 q [a, b, c] := by
  have s1 : (([a, b, c] : List Int).take (3 - 2)).sum = 0 + a := by simp
  have s2 : (([a, b, c] : List Int).take (3 - 1)).sum = 0 + a + b := by simp
  have s3 : (([a, b, c] : List Int).take (3 - 0)).sum = 0 + a + b + c := by simp; omega
  unfold standN
  rw [s1]
  unfold standN
  rw [s2]
  unfold standN
  rw [s3]
  rfl
end Ab

namespace Ab
open PySem
/-! ### whole numbers in lists -/
theorem inF_vI {z : Int} : ∀ {v : List Int}, inF (.int z) (vI v) = decide (z ∈ v)
  | [] => by simp [inF, vI]
  | a :: v => by
    have ih := inF_vI (z := z) (v := v)
    have e : inF (.int z) (vI (a :: v)) = (eqF (.int a) (.int z) || inF (.int z) (vI v)) := rfl
    have e2 : eqF (.int a) (.int z) = decide (a = z) := by unfold eqF; first | rfl | simp
    rw [e, ih, e2]
    by_cases h : a = z
    · subst h; simp
    · by_cases h2 : z ∈ v
      · simp [h2]
      · simp [h, h2, Ne.symm h]
theorem flat_vI {v : List Int} : (vI v).all D.flat = true := by
  rw [List.all_eq_true]
  intro x hx
  unfold vI at hx
  obtain ⟨z, _, rfl⟩ := List.mem_map.mp hx
  rfl
theorem inW_vI {neg : Bool} {z : Int} {d : D} {v : List Int} {S : Sto} {k : KD} (hd : lview S d = some (vI v)) (h : k (.bl (if neg then !decide (z ∈ v) else decide (z ∈ v))) S) : inW neg (.int z) d S k :=
  ⟨vI v, lv_sview hd, rfl, flat_vI, by rw [inF_vI]; exact h⟩
def intsL (m : Int) : List Int := (List.range m.toNat).map fun (k : Nat) => (k : Int)
theorem rngD_vI {m : Int} : rngD 0 m.toNat = vI (intsL m) := by
  unfold rngD vI intsL
  rw [List.map_map]
  apply List.map_congr_left
  intro k _
  show D.int (0 + (k : Int)) = D.int (k : Int)
  congr 1
  omega
theorem intsL_len {m : Int} : (intsL m).length = m.toNat := by unfold intsL; simp
theorem intsL_mem {m z : Int} : z ∈ intsL m ↔ 0 ≤ z ∧ z < m := by
  unfold intsL
  rw [List.mem_map]
  constructor
  · rintro ⟨k, hk, rfl⟩
    rw [List.mem_range] at hk
    omega
  · rintro ⟨h0, h1⟩
    exact ⟨z.toNat, by rw [List.mem_range]; omega, by omega⟩
theorem intsL_nodup {m : Int} : (intsL m).Nodup := by
  unfold intsL
  exact List.Pairwise.map _ (fun a b h e => h (Int.ofNat.inj e)) List.nodup_range
/-! ### who pays whom -/
def PdP (b : Int) (R : List Int) (x : Dd) : Prop := 0 < x.c ∧ x.b = b ∧ x.a ∈ R
instance {b : Int} {R : List Int} {x : Dd} : Decidable (PdP b R x) := by unfold PdP; infer_instance
structure Peel (m : Int) (sh : List Dd) (L R : List Int) : Prop where
  perm : (L ++ R).Perm (intsL m)
  order : ∀ (i : Nat) (b : Int), L[i]? = some b → ∀ x ∈ sh, 0 < x.c → x.b = b → x.a ∈ L.take i
theorem Peel.start {m : Int} {sh : List Dd} : Peel m sh [] (intsL m) := ⟨List.Perm.refl _, fun i b h => by simp at h⟩
theorem Peel.nodup {m : Int} {sh : List Dd} {L R : List Int} (h : Peel m sh L R) : (L ++ R).Nodup := h.perm.nodup_iff.mpr intsL_nodup
theorem Peel.mem {m : Int} {sh : List Dd} {L R : List Int} (h : Peel m sh L R) {z : Int} : (z ∈ L ∨ z ∈ R) ↔ 0 ≤ z ∧ z < m := by
  rw [← intsL_mem, ← h.perm.mem_iff, List.mem_append]
theorem Peel.next {m : Int} {sh : List Dd} {L R : List Int} {b : Int} (h : Peel m sh L R) (hs : ∀ x ∈ sh, x.Ok m) (hb : b ∈ R) (hu : ∀ x ∈ sh, ¬ PdP b R x) : Peel m sh (L ++ [b]) (R.erase b) := by
  refine ⟨?_, fun i c hc x hx hp hxb => ?_⟩
  · refine List.Perm.trans ?_ h.perm
    rw [List.append_assoc]
    refine List.Perm.append_left _ ?_
    exact (List.perm_cons_erase hb).symm
  · by_cases hi : i < L.length
    · rw [List.getElem?_append_left hi] at hc
      rw [List.take_append_of_le_length (by omega)]
      exact h.order i c hc x hx hp hxb
    · have hi2 : i = L.length := by
        have := (List.getElem?_eq_some_iff.mp hc).1
        rw [List.length_append, List.length_singleton] at this
        omega
      subst hi2
      rw [List.getElem?_append_right (Nat.le_refl _), Nat.sub_self] at hc
      cases hc
      rw [List.take_left' rfl]
      have hxo := hs x hx
      unfold Dd.Ok at hxo
      rcases h.mem.mpr ⟨hxo.1, hxo.2.1⟩ with h1 | h1
      · exact h1
      · exact absurd ⟨hp, hxb, h1⟩ (hu x hx)
/-- where nothing is stuck there is an order of all -/
def Stuck (sh : List Dd) (R : List Int) : Prop := ∀ b ∈ R, ∃ x ∈ sh, PdP b R x
/-! ### rings -/
def nthD (sh : List Dd) (n : Int) : Dd := sh.getD n.toNat ⟨0, 0, 0, 0⟩
theorem nthD_at {sh : List Dd} {n : Int} (h0 : 0 ≤ n) (h1 : n < (sh.length : Int)) : L2.atI (dueL sh) n = some (nthD sh n).d := by
  obtain ⟨j, rfl⟩ : ∃ j : Nat, n = (j : Int) := ⟨n.toNat, by omega⟩
  have hj : j < sh.length := by omega
  refine at_dueL ?_
  unfold nthD
  rw [List.getD_eq_getElem?_getD, Int.toNat_natCast, List.getElem?_eq_getElem hj]
  rfl
theorem nthD_mem {sh : List Dd} {n : Int} (h0 : 0 ≤ n) (h1 : n < (sh.length : Int)) : nthD sh n ∈ sh := by
  unfold nthD
  rw [List.getD_eq_getElem?_getD, List.getElem?_eq_getElem (by omega)]
  exact List.getElem_mem _
theorem nthD_some {sh : List Dd} {n : Nat} {x : Dd} (h : sh[n]? = some x) : nthD sh n = x := by
  unfold nthD
  rw [List.getD_eq_getElem?_getD, Int.toNat_natCast, h]
  rfl
structure IsRing (sh : List Dd) (rg : List Int) : Prop where
  ne : rg ≠ []
  rng : ∀ n ∈ rg, 0 ≤ n ∧ n < (sh.length : Int) ∧ 0 < (nthD sh n).c
  once : (rg.map fun n => (nthD sh n).a).Nodup
  round : ∀ k : Nat, k < rg.length → (nthD sh (gI rg k)).b = (nthD sh (gI rg ((k + 1) % rg.length : Nat))).a
/-- going back from payee to payer -/
structure Back (sh : List Dd) (came back : List Int) (mem : Int) : Prop where
  len : came.length = back.length
  nodup : came.Nodup
  rng : ∀ n ∈ back, 0 ≤ n ∧ n < (sh.length : Int) ∧ 0 < (nthD sh n).c
  pay : ∀ k : Nat, k < back.length → (nthD sh (gI back k)).b = gI came k ∧ (nthD sh (gI back k)).a = gI (came ++ [mem]) (k + 1 : Nat)
theorem gI_app {v : List Int} {z : Int} {k : Nat} (h : k < v.length) : gI (v ++ [z]) k = gI v k := by
  rw [gI_nat (by rw [List.length_append]; omega), gI_nat h, List.getElem_append_left h]
theorem gI_app_last {v : List Int} {z : Int} : gI (v ++ [z]) (v.length : Nat) = z := by
  rw [gI_nat (by rw [List.length_append]; simp), List.getElem_append_right (Nat.le_refl _)]
  simp
theorem Back.start {sh : List Dd} {m : Int} : Back sh [] [] m := ⟨rfl, List.nodup_nil, fun n h => by simp at h, fun k h => by simp at h⟩
theorem Back.next {sh : List Dd} {came back : List Int} {mem : Int} {i : Nat} {x : Dd} (h : Back sh came back mem) (hm : mem ∉ came) (hi : sh[i]? = some x) (hc : 0 < x.c) (hb : x.b = mem) : Back sh (came ++ [mem]) (back ++ [(i : Int)]) x.a := by
  have hx := nthD_some hi
  have hlt := (List.getElem?_eq_some_iff.mp hi).1
  refine ⟨by simp [h.len], ?_, fun n hn => ?_, fun k hk => ?_⟩
  · refine List.nodup_append.mpr ⟨h.nodup, by simp, fun a ha b hb' => ?_⟩
    rw [List.mem_singleton] at hb'
    subst hb'
    exact fun e => hm (e ▸ ha)
  · rcases List.mem_append.mp hn with hn | hn
    · exact h.rng n hn
    · rw [List.mem_singleton] at hn
      subst hn
      rw [hx]
      exact ⟨by omega, by omega, hc⟩
  · by_cases hk2 : k < back.length
    · have := h.pay k hk2
      rw [gI_app hk2, gI_app (by rw [h.len]; exact hk2), gI_app (by rw [List.length_append, h.len, List.length_singleton]; omega)]
      exact this
    · have hk3 : k = back.length := by rw [List.length_append, List.length_singleton] at hk; omega
      subst hk3
      rw [gI_app_last, hx, ← h.len, gI_app_last]
      refine ⟨hb, ?_⟩
      have := @gI_app_last (came ++ [mem]) x.a
      rw [List.length_append, List.length_singleton] at this
      exact this.symm
theorem gI_drop {v : List Int} {i k : Nat} (h : i + k < v.length) : gI (v.drop i) k = gI v (i + k : Nat) := by
  rw [gI_nat (by rw [List.length_drop]; omega), gI_nat h, List.getElem_drop]
theorem gI_rev {v : List Int} {k : Nat} (h : k < v.length) : gI v.reverse k = gI v (v.length - 1 - k : Nat) := by
  rw [gI_nat (by rw [List.length_reverse]; exact h), gI_nat (by omega), List.getElem_reverse]
theorem Back.ring {sh : List Dd} {came back : List Int} {mem : Int} {j : Nat} (h : Back sh came back mem) (hj : came[j]? = some mem) : IsRing sh (back.drop j).reverse := by
  have hjl := (List.getElem?_eq_some_iff.mp hj).1
  have hjb : j < back.length := by rw [← h.len]; exact hjl
  have hl : (back.drop j).reverse.length = back.length - j := by rw [List.length_reverse, List.length_drop]
  have hgj : gI came j = mem := by rw [gI_nat hjl]; exact (List.getElem?_eq_some_iff.mp hj).2
  -- the k-th of the ring
  have hk : ∀ k : Nat, k < back.length - j → gI (back.drop j).reverse k = gI back (back.length - 1 - k : Nat) := fun k hk => by
    rw [gI_rev (by rw [List.length_drop]; omega), List.length_drop, gI_drop (by omega)]
    congr 2
    omega
  -- its payer, its payee
  have hp : ∀ k : Nat, k < back.length - j → (nthD sh (gI (back.drop j).reverse k)).a = if k = 0 then mem else gI came (back.length - k : Nat) := fun k hk' => by
    rw [hk k hk', (h.pay _ (by omega)).2]
    by_cases e : k = 0
    · subst e
      rw [if_pos rfl, show back.length - 1 - 0 + 1 = came.length by rw [h.len]; omega, gI_app_last]
    · rw [if_neg e, show back.length - 1 - k + 1 = back.length - k by omega, gI_app (by rw [h.len]; omega)]
  refine ⟨fun e => ?_, fun n hn => h.rng n (List.mem_of_mem_drop (List.mem_reverse.mp hn)), ?_, fun k hk' => ?_⟩
  · rw [e] at hl
    simp at hl
    omega
  · refine List.pairwise_iff_getElem.mpr fun a b ha hb hab => ?_
    rw [List.length_map, hl] at ha hb
    have gg : ∀ k : Nat, k < back.length - j → ((back.drop j).reverse.map fun n => (nthD sh n).a)[k]? = some (if k = 0 then mem else gI came (back.length - k : Nat)) := fun k hk' => by
      rw [List.getElem?_map, List.getElem?_eq_getElem (by rw [hl]; exact hk'), ← hp k hk', gI_nat (by rw [hl]; exact hk')]
      rfl
    have nd := h.nodup
    have ga := gg a ha
    have gb := gg b hb
    rw [List.getElem?_eq_getElem (by rw [List.length_map, hl]; omega)] at ga gb
    have inj : ∀ p q : Nat, p < came.length → q < came.length → gI came p = gI came q → p = q := fun p q hp' hq' e => by
      rw [gI_nat hp', gI_nat hq'] at e
      exact (List.getElem_inj nd).mp e
    intro e
    rw [Option.some.inj ga, Option.some.inj gb, if_neg (show b ≠ 0 by omega)] at e
    by_cases ea : a = 0
    · rw [if_pos ea, ← hgj] at e
      have := inj _ _ hjl (by rw [h.len]; omega) e
      omega
    · rw [if_neg ea] at e
      have := inj _ _ (by rw [h.len]; omega) (by rw [h.len]; omega) e
      omega
  · rw [hl] at hk' ⊢
    rw [hk k hk', (h.pay _ (by omega)).1]
    by_cases e : k + 1 = back.length - j
    · rw [e, Nat.mod_self, hp 0 (by omega), if_pos rfl, ← hgj]
      congr 2
      omega
    · rw [Nat.mod_eq_of_lt (by omega), hp (k + 1) (by omega), if_neg (by omega)]
      congr 2
      omega
theorem len_le_of_subset : ∀ {a b : List Int}, a.Nodup → (∀ z ∈ a, z ∈ b) → a.length ≤ b.length
  | [], _, _, _ => Nat.zero_le _
  | x :: a, b, hn, hs => by
    have hn' := List.nodup_cons.mp hn
    have hx := hs x (by simp)
    have := len_le_of_subset (a := a) (b := b.erase x) hn'.2 fun z hz => by
      have hzx : z ≠ x := fun e => hn'.1 (e ▸ hz)
      exact (List.mem_erase_of_ne hzx).mpr (hs z (by simp [hz]))
    rw [List.length_erase_of_mem hx] at this
    have := List.length_pos_of_mem hx
    rw [List.length_cons]
    omega
theorem nthD_withA {sh : List Dd} {as : List Int} {n : Int} (hl : as.length = sh.length) (h0 : 0 ≤ n) (h1 : n < (sh.length : Int)) : nthD (withA sh as) n = ⟨(nthD sh n).a, (nthD sh n).b, (nthD sh n).r, gI as n⟩ := by
  obtain ⟨j, rfl⟩ : ∃ j : Nat, n = (j : Int) := ⟨n.toNat, by omega⟩
  have hj : j < sh.length := by omega
  rw [nthD_some (withA_get (List.getElem?_eq_getElem hj) (by omega)), nthD_some (List.getElem?_eq_getElem hj)]
theorem withA_self {sh : List Dd} : withA sh (sh.map Dd.c) = sh := by
  refine list_eq (withA_len (by simp)) fun n x y h1 h2 => ?_
  have hn := (List.getElem?_eq_some_iff.mp h2).1
  rw [withA_get h2 (by simpa using hn)] at h1
  cases h1
  have : gI (sh.map Dd.c) n = y.c := by
    rw [gI_nat (by simpa using hn), List.getElem_map, (List.getElem?_eq_some_iff.mp h2).2]
  rw [this]
/-! ### members taken away till none is left -/
def pb (sh : List Dd) (R : List Int) (b : Int) : Bool := sh.any fun x => decide (PdP b R x)
theorem pb_iff {sh : List Dd} {R : List Int} {b : Int} : pb sh R b = true ↔ ∃ x ∈ sh, PdP b R x := by
  unfold pb
  rw [List.any_eq_true]
  simp
def filN (sh : List Dd) (R0 : List Int) : Nat → List Int
  | 0 => R0
  | n + 1 => (filN sh R0 n).filter (pb sh (filN sh R0 n))
theorem filN_len {sh : List Dd} {R0 : List Int} : ∀ n, (filN sh R0 n).length ≤ R0.length
  | 0 => Nat.le_refl _
  | n + 1 => Nat.le_trans (List.length_filter_le _ _) (filN_len n)
theorem filN_stuck {sh : List Dd} {R0 R : List Int} (h0 : ∀ z ∈ R, z ∈ R0) (h : Stuck sh R) : ∀ n, ∀ z ∈ R, z ∈ filN sh R0 n
  | 0 => h0
  | n + 1 => fun z hz => by
    have ih := filN_stuck h0 h n
    show z ∈ (filN sh R0 n).filter (pb sh (filN sh R0 n))
    rw [List.mem_filter]
    refine ⟨ih z hz, pb_iff.mpr ?_⟩
    obtain ⟨x, hx, h1, h2, h3⟩ := h z hz
    exact ⟨x, hx, h1, h2, ih _ h3⟩
theorem filN_peel {m : Int} {sh : List Dd} {L : List Int} (h : Peel m sh L []) : ∀ n, ∀ z ∈ filN sh (intsL m) n, z ∈ L ∧ z ∉ L.take n
  | 0 => fun z hz => by
    refine ⟨?_, by simp⟩
    have := h.mem.mpr (intsL_mem.mp hz)
    simpa using this
  | n + 1 => fun z hz => by
    have ih := filN_peel h n
    have hz2 : z ∈ (filN sh (intsL m) n).filter (pb sh (filN sh (intsL m) n)) := hz
    rw [List.mem_filter] at hz2
    obtain ⟨x, hx, h1, h2, h3⟩ := pb_iff.mp hz2.2
    have hzn := ih z hz2.1
    refine ⟨hzn.1, fun hin => ?_⟩
    by_cases hn : n < L.length
    · have e : L[n]? = some L[n] := List.getElem?_eq_getElem hn
      rw [take_succ_of e] at hin
      rcases List.mem_append.mp hin with hin | hin
      · exact hzn.2 hin
      · rw [List.mem_singleton] at hin
        exact (ih _ h3).2 (h.order n _ e x hx h1 (by rw [h2, hin]))
    · rw [List.take_of_length_le (by omega)] at hin
      have := hzn.2
      rw [List.take_of_length_le (by omega)] at this
      exact this hin
theorem filN_none {m : Int} {sh : List Dd} {L : List Int} (h : Peel m sh L []) : filN sh (intsL m) m.toNat = [] := by
  cases e : filN sh (intsL m) m.toNat with
  | nil => rfl
  | cons z zs =>
    exfalso
    obtain ⟨h1, h2⟩ := filN_peel h m.toNat z (by rw [e]; simp)
    have hl := h.perm.length_eq
    rw [List.append_nil, intsL_len] at hl
    rw [List.take_of_length_le (by omega)] at h2
    exact h2 h1
/-- ringless just where nothing is stuck -/
theorem filN_ne {m : Int} {sh : List Dd} {L R : List Int} (h : Peel m sh L R) (hst : Stuck sh R) (hR : R ≠ []) : filN sh (intsL m) m.toNat ≠ [] := fun e => by
  cases R with
  | nil => exact hR rfl
  | cons z zs =>
    have := filN_stuck (R0 := intsL m) (fun y hy => intsL_mem.mpr (h.mem.mp (.inr hy))) hst m.toNat z (by simp)
    rw [e] at this
    simp at this
end Ab

namespace Ab
open PySem
/-! ### whole numbers in lists -/
/-! ### dues without a bound above -/
def Dd.In (m : Int) (x : Dd) : Prop := 0 ≤ x.a ∧ x.a < m ∧ 0 ≤ x.b ∧ x.b < m ∧ x.a ≠ x.b ∧ 0 ≤ x.r ∧ x.r < 3 ∧ 0 ≤ x.c
theorem Dd.Ok.inn {m : Int} {x : Dd} (h : x.Ok m) : x.In m := by
  unfold Dd.Ok at h
  exact ⟨h.1, h.2.1, h.2.2.1, h.2.2.2.1, h.2.2.2.2.1, h.2.2.2.2.2.1, h.2.2.2.2.2.2.1, h.2.2.2.2.2.2.2.1⟩
theorem Peel.step {m : Int} {sh : List Dd} {L R : List Int} {b : Int} (h : Peel m sh L R) (hs : ∀ x ∈ sh, x.In m) (hb : b ∈ R) (hu : ∀ x ∈ sh, ¬ PdP b R x) : Peel m sh (L ++ [b]) (R.erase b) := by
  refine ⟨?_, fun i c hc x hx hp hxb => ?_⟩
  · refine List.Perm.trans ?_ h.perm
    rw [List.append_assoc]
    refine List.Perm.append_left _ ?_
    exact (List.perm_cons_erase hb).symm
  · by_cases hi : i < L.length
    · rw [List.getElem?_append_left hi] at hc
      rw [List.take_append_of_le_length (by omega)]
      exact h.order i c hc x hx hp hxb
    · have hi2 : i = L.length := by
        have := (List.getElem?_eq_some_iff.mp hc).1
        rw [List.length_append, List.length_singleton] at this
        omega
      subst hi2
      rw [List.getElem?_append_right (Nat.le_refl _), Nat.sub_self] at hc
      cases hc
      rw [List.take_left' rfl]
      have hxo := hs x hx
      unfold Dd.In at hxo
      rcases h.mem.mpr ⟨hxo.1, hxo.2.1⟩ with h1 | h1
      · exact h1
      · exact absurd ⟨hp, hxb, h1⟩ (hu x hx)
theorem withA_in {m : Int} {sh : List Dd} {as : List Int} (hs : ∀ x ∈ sh, x.In m) (ha : ∀ c ∈ as, 0 ≤ c) : ∀ x ∈ withA sh as, x.In m := fun x hx => by
  obtain ⟨n, hn⟩ := List.mem_iff_getElem?.mp hx
  unfold withA at hn
  rw [List.getElem?_zipWith] at hn
  cases e : sh[n]? with
  | none => rw [e] at hn; cases hn
  | some y =>
    rw [e] at hn
    cases e2 : as[n]? with
    | none => rw [e2] at hn; cases hn
    | some c =>
      rw [e2] at hn
      cases hn
      have hy := hs y (List.mem_of_getElem? e)
      unfold Dd.In at *
      exact ⟨hy.1, hy.2.1, hy.2.2.1, hy.2.2.2.1, hy.2.2.2.2.1, hy.2.2.2.2.2.1, hy.2.2.2.2.2.2.1, ha c (List.mem_of_getElem? e2)⟩
/-! ### taking off along a ring -/
def subR (c : Int) (l rg : List Int) : List Int := rg.foldl (fun l n => l.set n.toNat (gI l n - c)) l
theorem subR_app {c : Int} {l a b : List Int} : subR c l (a ++ b) = subR c (subR c l a) b := by
  unfold subR
  exact List.foldl_append
theorem subR_one {c n : Int} {l a : List Int} : subR c l (a ++ [n]) = (subR c l a).set n.toNat (gI (subR c l a) n - c) := by
  rw [subR_app]
  rfl
theorem subR_len {c : Int} : ∀ {rg l : List Int}, (subR c l rg).length = l.length
  | [], _ => rfl
  | n :: ns, l => by
    show (subR c (l.set n.toNat (gI l n - c)) ns).length = l.length
    rw [subR_len, List.length_set]
theorem gI_setK {l : List Int} {i k : Nat} {v : Int} (hk : k < l.length) : gI (l.set i v) k = if i = k then v else gI l k := by
  unfold gI
  rw [Int.toNat_natCast, List.getD_eq_getElem?_getD, List.getD_eq_getElem?_getD, List.getElem?_set]
  split
  · rename_i e
    subst e
    rw [if_pos hk]
    rfl
  · rfl
theorem subR_get {c : Int} : ∀ {rg l : List Int}, rg.Nodup → (∀ n ∈ rg, 0 ≤ n ∧ n < (l.length : Int)) → ∀ k : Nat, k < l.length → gI (subR c l rg) k = if (k : Int) ∈ rg then gI l k - c else gI l k
  | [], l, _, _, k, hk => by simp [subR]
  | n :: ns, l, hn, hr, k, hk => by
    show gI (subR c (l.set n.toNat (gI l n - c)) ns) k = _
    have hn2 := List.nodup_cons.mp hn
    rw [subR_get hn2.2 (fun x hx => by rw [List.length_set]; exact hr x (List.mem_cons_of_mem _ hx)) k (by rw [List.length_set]; exact hk), gI_setK hk]
    have h0 := hr n (by simp)
    by_cases e : n.toNat = k
    · have e2 : n = (k : Int) := by omega
      subst e2
      rw [if_pos e, if_neg hn2.1, if_pos (by simp)]
    · rw [if_neg e]
      have e2 : (k : Int) ≠ n := by omega
      simp [e2]
theorem gI_at {l : List Int} {k : Nat} {z : Int} (h : l[k]? = some z) : gI l k = z := by
  unfold gI
  rw [Int.toNat_natCast, List.getD_eq_getElem?_getD, h]
  rfl
def pos (l : List Int) : Nat := l.countP fun z => decide (0 < z)
theorem pos_le : ∀ {l l' : List Int}, l'.length = l.length → (∀ (k : Nat) (x y : Int), l[k]? = some x → l'[k]? = some y → 0 < y → 0 < x) → pos l' ≤ pos l
  | [], [], _, _ => Nat.le_refl _
  | x :: xs, y :: ys, hl, h => by
    have ih := pos_le (l := xs) (l' := ys) (by simpa using hl) fun k a b ha hb => h (k + 1) a b (by simpa using ha) (by simpa using hb)
    have h0 := h 0 x y rfl rfl
    unfold pos at *
    rw [List.countP_cons, List.countP_cons]
    by_cases c : 0 < y
    · simp [c, h0 c, ih]
    · simp [c]
      omega
theorem pos_lt : ∀ {l l' : List Int}, l'.length = l.length → (∀ (k : Nat) (x y : Int), l[k]? = some x → l'[k]? = some y → 0 < y → 0 < x) → (∃ (k : Nat) (x y : Int), l[k]? = some x ∧ l'[k]? = some y ∧ 0 < x ∧ ¬ 0 < y) → pos l' < pos l
  | [], [], _, _, ⟨k, x, y, e, _⟩ => by simp at e
  | x :: xs, y :: ys, hl, h, ⟨k, a, b, e1, e2, e3, e4⟩ => by
    have hl2 : ys.length = xs.length := by simpa using hl
    have hh : ∀ (k : Nat) (x y : Int), xs[k]? = some x → ys[k]? = some y → 0 < y → 0 < x := fun k a b ha hb => h (k + 1) a b (by simpa using ha) (by simpa using hb)
    have h0 := h 0 x y rfl rfl
    cases k with
    | zero =>
      have ih := pos_le hl2 hh
      cases e1
      cases e2
      unfold pos at *
      rw [List.countP_cons, List.countP_cons]
      simp [e3, e4]
      omega
    | succ k =>
      have ih := pos_lt hl2 hh ⟨k, a, b, by simpa using e1, by simpa using e2, e3, e4⟩
      unfold pos at *
      rw [List.countP_cons, List.countP_cons]
      by_cases c : 0 < y
      · simp [c, h0 c, ih]
      · simp [c]
        omega
def runC (l : List Int) (cs : List (List Int × Int)) : List Int := cs.foldl (fun l p => subR p.2 l p.1) l
theorem runC_one {l : List Int} {cs : List (List Int × Int)} {p : List Int × Int} : runC l (cs ++ [p]) = subR p.2 (runC l cs) p.1 := by
  unfold runC
  rw [List.foldl_append]
  rfl
structure CutAt (sh : List Dd) (l : List Int) (p : List Int × Int) : Prop where
  ring : IsRing (withA sh l) p.1
  len : p.1.length ≤ 1000
  min : p.2 ∈ p.1.map (gI l)
  le : ∀ z ∈ p.1.map (gI l), p.2 ≤ z
def CutsOk (sh : List Dd) (l : List Int) (cs : List (List Int × Int)) : Prop := ∀ (i : Nat) (p : List Int × Int), cs[i]? = some p → CutAt sh (runC l (cs.take i)) p
theorem CutsOk.nil {sh : List Dd} {l : List Int} : CutsOk sh l [] := fun i p h => by simp at h
theorem CutsOk.one {sh : List Dd} {l : List Int} {cs : List (List Int × Int)} {p : List Int × Int} (h : CutsOk sh l cs) (hp : CutAt sh (runC l cs) p) : CutsOk sh l (cs ++ [p]) := fun i q hq => by
  by_cases hi : i < cs.length
  · rw [List.getElem?_append_left hi] at hq
    rw [List.take_append_of_le_length (by omega)]
    exact h i q hq
  · have hi2 : i = cs.length := by
      have := (List.getElem?_eq_some_iff.mp hq).1
      rw [List.length_append, List.length_singleton] at this
      omega
    subst hi2
    rw [List.getElem?_append_right (Nat.le_refl _), Nat.sub_self] at hq
    cases hq
    rw [List.take_left' rfl]
    exact hp
structure CutOk (l l' : List Int) (p : List Int × Int) : Prop where
  len : l'.length = l.length
  nn : ∀ z ∈ l', 0 ≤ z
  pos : pos l' < pos l
  coins : 0 < p.2
  get : ∀ k : Nat, k < l.length → gI l' k = if (k : Int) ∈ p.1 then gI l k - p.2 else gI l k
  nodup : p.1.Nodup
  rng : ∀ n ∈ p.1, 0 ≤ n ∧ n < (l.length : Int) ∧ p.2 ≤ gI l n
theorem CutAt.ok {sh : List Dd} {l : List Int} {p : List Int × Int} (h : CutAt sh l p) (hl : l.length = sh.length) (hn : ∀ z ∈ l, 0 ≤ z) : CutOk l (subR p.2 l p.1) p := by
  have nd : p.1.Nodup := List.Pairwise.of_map _ (fun a b h e => h (by rw [e])) h.ring.once
  have rg : ∀ n ∈ p.1, 0 ≤ n ∧ n < (l.length : Int) ∧ 0 < gI l n := fun n hn => by
    have := h.ring.rng n hn
    rw [withA_len hl] at this
    rw [nthD_withA hl this.1 this.2.1] at this
    exact ⟨this.1, by omega, this.2.2⟩
  have gt := subR_get (c := p.2) nd (fun n hn => ⟨(rg n hn).1, (rg n hn).2.1⟩)
  have cp : 0 < p.2 := by
    obtain ⟨n, hn, e⟩ := List.mem_map.mp h.min
    rw [← e]
    exact (rg n hn).2.2
  have nn : ∀ z ∈ subR p.2 l p.1, 0 ≤ z := fun z hz => by
    obtain ⟨k, hk⟩ := List.mem_iff_getElem?.mp hz
    have hkl := (List.getElem?_eq_some_iff.mp hk).1
    rw [subR_len] at hkl
    rw [← gI_at hk, gt k hkl]
    split
    · rename_i hm
      have := h.le _ (List.mem_map.mpr ⟨_, hm, rfl⟩)
      omega
    · rw [gI_nat hkl]
      exact hn _ (List.getElem_mem hkl)
  refine ⟨subR_len, nn, pos_lt subR_len (fun k x y hx hy c => ?_) ?_, cp, gt, nd, fun n hn => ⟨(rg n hn).1, (rg n hn).2.1, h.le _ (List.mem_map.mpr ⟨_, hn, rfl⟩)⟩⟩
  · have hkl := (List.getElem?_eq_some_iff.mp hx).1
    have := gt k hkl
    rw [gI_at hx, gI_at hy] at this
    split at this <;> omega
  · obtain ⟨n, hn, e⟩ := List.mem_map.mp h.min
    have hr := rg n hn
    have hkl : n.toNat < l.length := by omega
    have en : n = (n.toNat : Int) := by omega
    have g2 := gt n.toNat hkl
    rw [← en, if_pos hn, e] at g2
    refine ⟨n.toNat, l[n.toNat], (subR p.2 l p.1)[n.toNat]'(by rw [subR_len]; exact hkl), List.getElem?_eq_getElem hkl, List.getElem?_eq_getElem _, ?_, ?_⟩
    · rw [← gI_nat hkl, ← en]
      exact hr.2.2
    · rw [← gI_nat, ← en, g2]
      omega
theorem CutsOk.ok {sh : List Dd} {l : List Int} : ∀ {cs : List (List Int × Int)}, CutsOk sh l cs → l.length = sh.length → (∀ z ∈ l, 0 ≤ z) → ∀ i : Nat, (runC l (cs.take i)).length = sh.length ∧ ∀ z ∈ runC l (cs.take i), 0 ≤ z := fun {cs} h hl hn i => by
  induction i with
  | zero => exact ⟨hl, hn⟩
  | succ i ih =>
    cases e : cs[i]? with
    | none =>
      have : cs.length ≤ i := List.getElem?_eq_none_iff.mp e
      rw [List.take_of_length_le (by omega)]
      rwa [List.take_of_length_le this] at ih
    | some p =>
      have o := (h i p e).ok ih.1 ih.2
      rw [take_succ_of e, runC_one]
      exact ⟨by rw [subR_len]; exact ih.1, o.nn⟩
def cutsD (cs : List (List Int × Int)) : List D := cs.map fun p => .tup [.lst (vI p.1), .int p.2]
theorem cutsD_pure (cs : List (List Int × Int)) : pureAll (cutsD cs) = true := by
  unfold cutsD
  induction cs with
  | nil => rfl
  | cons p ps ih =>
    rw [List.map_cons]
    have h1 : (D.tup [.lst (vI p.1), .int p.2]).pure = true := by
      unfold D.pure pureAll
      rw [lst_pure (vI_pure _)]
      rfl
    unfold pureAll
    rw [h1, ih]
    rfl
end Ab

namespace Ab
open PySem
/-! ### what each gets and pays, when a ring is cut -/
theorem sum_setI : ∀ {v : List Int} {i : Nat} {a : Int}, i < v.length → (v.set i a).sum = v.sum - gI v i + a
  | x :: xs, 0, a, _ => by
    simp [gI]
    omega
  | x :: xs, i + 1, a, h => by
    have ih := sum_setI (v := xs) (i := i) (a := a) (by simpa using h)
    have e : gI (x :: xs) ((i + 1 : Nat) : Int) = gI xs (i : Nat) := by
      unfold gI
      rw [Int.toNat_natCast, Int.toNat_natCast]
      rfl
    rw [e]
    simp only [List.set_cons_succ, List.sum_cons, ih]
    omega
theorem withA_set {sh : List Dd} {l : List Int} {i : Nat} {v : Int} {x : Dd} (hl : l.length = sh.length) (hi : sh[i]? = some x) : withA sh (l.set i v) = (withA sh l).set i ⟨x.a, x.b, x.r, v⟩ := by
  refine List.ext_getElem? fun k => ?_
  unfold withA
  rw [List.getElem?_zipWith, List.getElem?_set, List.getElem?_set, List.getElem?_zipWith, List.length_zipWith]
  have hil := (List.getElem?_eq_some_iff.mp hi).1
  by_cases e : i = k
  · subst e
    rw [if_pos rfl, if_pos rfl, if_pos (by omega), if_pos (by omega), hi]
  · rw [if_neg e, if_neg e]
def flow (j : Int) (x : Dd) : Int := (if x.b = j then x.c else 0) - (if x.a = j then x.c else 0)
def flows (sh : List Dd) (l : List Int) (j : Int) : Int := ((withA sh l).map (flow j)).sum
theorem flows_set {sh : List Dd} {l : List Int} {j c n : Int} (hl : l.length = sh.length) (h0 : 0 ≤ n) (h1 : n < (sh.length : Int)) : flows sh (l.set n.toNat (gI l n - c)) j = flows sh l j - flow j ⟨(nthD sh n).a, (nthD sh n).b, (nthD sh n).r, c⟩ := by
  obtain ⟨i, rfl⟩ : ∃ i : Nat, n = (i : Int) := ⟨n.toNat, by omega⟩
  have hi : i < sh.length := by omega
  have ex : sh[i]? = some sh[i] := List.getElem?_eq_getElem hi
  rw [nthD_some ex, Int.toNat_natCast]
  have ew := withA_get (as := l) ex (by omega)
  unfold flows
  rw [withA_set hl ex, List.map_set, sum_setI (by rw [List.length_map, withA_len hl]; exact hi)]
  have eg : gI ((withA sh l).map (flow j)) i = flow j ⟨sh[i].a, sh[i].b, sh[i].r, gI l i⟩ := gI_at (by rw [List.getElem?_map, ew]; rfl)
  rw [eg]
  unfold flow
  dsimp only
  split <;> split <;> omega
theorem flows_sub {sh : List Dd} {j c : Int} : ∀ {rg l : List Int}, l.length = sh.length → (∀ n ∈ rg, 0 ≤ n ∧ n < (sh.length : Int)) → flows sh (subR c l rg) j = flows sh l j - (rg.map fun n => flow j ⟨(nthD sh n).a, (nthD sh n).b, (nthD sh n).r, c⟩).sum
  | [], l, _, _ => by simp [subR]
  | n :: ns, l, hl, h => by
    show flows sh (subR c (l.set n.toNat (gI l n - c)) ns) j = _
    have h0 := h n (by simp)
    rw [flows_sub (by rw [List.length_set]; exact hl) (fun x hx => h x (by simp [hx])), flows_set hl h0.1 h0.2, List.map_cons, List.sum_cons]
    omega
theorem IsRing.turn {sh : List Dd} {rg : List Int} (h : IsRing sh rg) : (rg.map fun n => (nthD sh n).b).Perm (rg.map fun n => (nthD sh n).a) := by
  cases rg with
  | nil => exact List.Perm.refl _
  | cons r rs =>
    have e : ((r :: rs).map fun n => (nthD sh n).b) = (rs.map fun n => (nthD sh n).a) ++ [(nthD sh r).a] := by
      refine List.ext_getElem (by simp) fun k h1 h2 => ?_
      rw [List.length_map] at h1
      have hr := h.round k h1
      rw [gI_nat h1] at hr
      rw [List.getElem_map, hr]
      have hm : (k + 1) % (r :: rs).length < (r :: rs).length := Nat.mod_lt _ (by simp)
      rw [gI_nat hm]
      rw [List.length_cons] at h1
      by_cases hk : k < rs.length
      · rw [List.getElem_append_left (by rw [List.length_map]; exact hk), List.getElem_map]
        have e : (k + 1) % (r :: rs).length = k + 1 := Nat.mod_eq_of_lt (by rw [List.length_cons]; omega)
        simp only [e, List.getElem_cons_succ]
      · have hk2 : k = rs.length := by omega
        subst hk2
        rw [List.getElem_append_right (by simp)]
        simp
    rw [e]
    exact List.perm_append_comm
theorem flow_sum {j c : Int} {sh : List Dd} : ∀ {rg : List Int}, (rg.map fun n => flow j ⟨(nthD sh n).a, (nthD sh n).b, (nthD sh n).r, c⟩).sum = ((rg.map fun n => (nthD sh n).b).map fun b => if b = j then c else 0).sum - ((rg.map fun n => (nthD sh n).a).map fun b => if b = j then c else 0).sum
  | [] => rfl
  | n :: ns => by
    simp only [List.map_cons, List.sum_cons]
    rw [flow_sum (rg := ns)]
    unfold flow
    dsimp only
    omega
theorem ring_pay {sh : List Dd} {l rg : List Int} (hl : l.length = sh.length) (h : IsRing (withA sh l) rg) : (∀ n ∈ rg, 0 ≤ n ∧ n < (sh.length : Int)) ∧ (rg.map fun n => (nthD sh n).b).Perm (rg.map fun n => (nthD sh n).a) := by
  have hr : ∀ n ∈ rg, 0 ≤ n ∧ n < (sh.length : Int) := fun n hn => by
    have := h.rng n hn
    rw [withA_len hl] at this
    exact ⟨this.1, this.2.1⟩
  refine ⟨hr, ?_⟩
  have e1 : (rg.map fun n => (nthD (withA sh l) n).b) = rg.map fun n => (nthD sh n).b := List.map_congr_left fun n hn => by rw [nthD_withA hl (hr n hn).1 (hr n hn).2]
  have e2 : (rg.map fun n => (nthD (withA sh l) n).a) = rg.map fun n => (nthD sh n).a := List.map_congr_left fun n hn => by rw [nthD_withA hl (hr n hn).1 (hr n hn).2]
  have := h.turn
  rwa [e1, e2] at this
theorem flows_cut {sh : List Dd} {l : List Int} {p : List Int × Int} {j : Int} (h : CutAt sh l p) (hl : l.length = sh.length) : flows sh (subR p.2 l p.1) j = flows sh l j := by
  obtain ⟨h1, h2⟩ := ring_pay hl h.ring
  rw [flows_sub hl h1, flow_sum, perm_sum (h2.map _)]
  omega
theorem cuts_flows {sh : List Dd} {l : List Int} {cs : List (List Int × Int)} {j : Int} (h : CutsOk sh l cs) (hl : l.length = sh.length) (hn : ∀ z ∈ l, 0 ≤ z) : ∀ i : Nat, flows sh (runC l (cs.take i)) j = flows sh l j := fun i => by
  induction i with
  | zero => rfl
  | succ i ih =>
    cases e : cs[i]? with
    | none =>
      have : cs.length ≤ i := List.getElem?_eq_none_iff.mp e
      rw [List.take_of_length_le (by omega)]
      rwa [List.take_of_length_le this] at ih
    | some p =>
      rw [take_succ_of e, runC_one, flows_cut (h i p e) ((h.ok hl hn i).1), ih]
theorem cuts_le {sh : List Dd} {l : List Int} {cs : List (List Int × Int)} (h : CutsOk sh l cs) (hl : l.length = sh.length) (hn : ∀ z ∈ l, 0 ≤ z) : ∀ i k : Nat, k < l.length → gI (runC l (cs.take i)) k ≤ gI l k := fun i => by
  induction i with
  | zero => intro k _; exact Int.le_refl _
  | succ i ih =>
    intro k hk
    cases e : cs[i]? with
    | none =>
      have := ih k hk
      have h3 : cs.length ≤ i := List.getElem?_eq_none_iff.mp e
      rw [List.take_of_length_le (by omega)]
      rwa [List.take_of_length_le h3] at this
    | some p =>
      have hp := ih k hk
      have ho := h.ok hl hn i
      have o := (h i p e).ok ho.1 ho.2
      rw [take_succ_of e, runC_one]
      have := o.get k (by omega)
      have := o.coins
      split at * <;> omega
/-- a ring is stuck -/
theorem ring_stuck {sh : List Dd} {rg : List Int} (h : IsRing sh rg) : Stuck sh (rg.map fun n => (nthD sh n).b) := fun b hb => by
  obtain ⟨n, hn, rfl⟩ := List.mem_map.mp hb
  have hr := h.rng n hn
  exact ⟨nthD sh n, nthD_mem hr.1 hr.2.1, hr.2.2, rfl, h.turn.mem_iff.mpr (List.mem_map.mpr ⟨n, hn, rfl⟩)⟩
theorem ring_fil {m : Int} {sh : List Dd} {rg : List Int} (hs : ∀ x ∈ sh, x.In m) (h : IsRing sh rg) : filN sh (intsL m) m.toNat ≠ [] := fun e => by
  obtain ⟨n, hn⟩ := List.exists_mem_of_ne_nil _ h.ne
  have hr := h.rng n hn
  have := filN_stuck (R0 := intsL m) (fun z hz => by
    obtain ⟨n, hn, rfl⟩ := List.mem_map.mp hz
    have hr := h.rng n hn
    have := hs _ (nthD_mem hr.1 hr.2.1)
    exact intsL_mem.mpr ⟨this.2.2.1, this.2.2.2.1⟩) (ring_stuck h) m.toNat _ (List.mem_map.mpr ⟨n, hn, rfl⟩)
  rw [e] at this
  cases this
theorem cuts_none {m : Int} {sh : List Dd} {l : List Int} {cs : List (List Int × Int)} (hs : ∀ x ∈ withA sh l, x.In m) (h : CutsOk sh l cs) (hf : filN (withA sh l) (intsL m) m.toNat = []) : cs = [] := by
  cases cs with
  | nil => rfl
  | cons p ps => exact absurd hf (ring_fil hs (h 0 p rfl).ring)
theorem stuck_fil {m : Int} {sh : List Dd} {L L2 R : List Int} (hf : Peel m sh L []) (h : Peel m sh L2 R) (hst : Stuck sh R) (hR : R ≠ []) : False := filN_ne h hst hR (filN_none hf)
theorem flow_nets {j : Int} : ∀ {sh : List Dd}, (sh.map fun x => if x.b = j then x.c else 0).sum + (sh.map fun x => if x.a = j then -x.c else 0).sum = (sh.map (flow j)).sum
  | [] => rfl
  | x :: xs => by
    have ih := flow_nets (j := j) (sh := xs)
    simp only [List.map_cons, List.sum_cons]
    rw [← ih]
    unfold flow
    split <;> split <;> omega
theorem nets_same {m : Int} {sh : List Dd} {l l' : List Int} (hm : 0 ≤ m) (hs : ∀ x ∈ withA sh l, x.Ok m) (hs' : ∀ x ∈ withA sh l', x.Ok m) (h : ∀ j, flows sh l' j = flows sh l j) : (withA sh l').foldl netB (zeros m.toNat) = (withA sh l).foldl netB (zeros m.toNat) := by
  refine ext_gI (by rw [netBs_len, netBs_len]) fun j h0 h1 => ?_
  rw [netBs_get (m := m) h0 (by rw [zeros_len]; omega) hs', netBs_get (m := m) h0 (by rw [zeros_len]; omega) hs]
  have := h j
  unfold flows at this
  rw [Int.add_assoc, Int.add_assoc, flow_nets, flow_nets, this]
end Ab

namespace Ab
open PySem PySem.Spec PyProof.Rows L2
/-! ### a module's tuple of texts -/
def ConstT (K : PySem.W.Frag) (a : Addr) (xs : List Str) : Prop := ∃ (o : Obj) (its : Array Value) (n : Nat), K.lookup a = some o ∧ o.cls = .type "tuple" ∧ o.data = .seq its n ∧ its.size ≤ sizeLine ∧ Vals (xs.map V.str) its.toList
theorem constT_mk {K : PySem.W.Frag} {a : Addr} {od : Option Addr} {its : Array Value} {n : Nat} {sl : Array (Option Value)} {xs : List Str} (h : K.lookup a = some ⟨.type "tuple", od, .seq its n, sl⟩) (hz : its.size ≤ sizeLine) (r : Vals (xs.map V.str) its.toList) : ConstT K a xs := ⟨_, its, n, h, rfl, rfl, hz, r⟩
theorem rels_strs {K : PySem.W.Frag} {H0 : Hp} {r : List Addr} : ∀ {xs : List Str}, Rels K H0 r (xs.map D.str) (xs.map V.str)
  | [] => Rels.nil
  | x :: xs => Rels.cons (by unfold Rel; rfl) rels_strs
theorem se_gtup {X : Cx} {g : Gi} {W : WX} {pos : Pos} {x : Str} {a : Addr} {xs : List Str} (hg : Gl X x) (hm : X.mg x = some (.ref a)) (hk : ConstT X.K a xs) (hd : (x == ("__debug__" : Str)) = false := by decide) : SE X g W (.Name x pos) (wC (.tup (xs.map D.str))) :=
  ⟨_, pe_glob (v := .ref a) hg hm rfl hd, fun H0 r S H s sv Q k xc si rs h ce _ => ce _ _ H0 r S H .refl si (by unfold Rel; exact ⟨a, _, rfl, .inr hk, rels_strs⟩) h⟩
end Ab

namespace Ab
open PySem
/-! ### layers -/
theorem share_le {c : Int} {b : List Int} (hb : ∀ z ∈ b, 0 ≤ z) (c0 : 0 ≤ c) (c1 : c ≤ b.sum) {k : Nat} (hk : k < b.length) : 0 ≤ gI (shareL c b) k ∧ gI (shareL c b) k ≤ gI b k := by
  have hg : 0 ≤ gI b k := hb _ (gI_mem hk)
  by_cases e : b.sum = 0
  · have e1 : shareL c b = b.map fun _ => 0 := by unfold shareL; rw [if_pos e]
    have : gI (shareL c b) k = 0 := by
      rw [e1, gI_nat (by simpa using hk)]
      simp
    omega
  · have hw : 0 < b.sum := by
      have := sum_nonneg hb
      omega
    have e1 : shareL c b = liS c b.sum b b.length := by unfold shareL; rw [if_neg e]
    rw [e1, liS_get (Nat.le_refl _), qS_get hk]
    have q0 : 0 ≤ c * gI b k / b.sum := Int.ediv_nonneg (Int.mul_nonneg c0 hg) (Int.le_of_lt hw)
    have m1 : c * gI b k ≤ b.sum * gI b k := Int.mul_le_mul_of_nonneg_right c1 hg
    have q1 : c * gI b k / b.sum ≤ gI b k := by
      have := Int.ediv_le_ediv hw m1
      rwa [Int.mul_ediv_cancel_left _ (by omega)] at this
    split
    · rename_i h
      have hr := h.2.2
      rw [rS_get hk] at hr
      refine ⟨by omega, ?_⟩
      have em := Int.emod_add_mul_ediv (c * gI b k) b.sum
      have := @emod_lo (c * gI b k) b.sum hw
      rcases Int.lt_or_le (c * gI b k / b.sum) (gI b k) with l | l
      · omega
      · have : b.sum * gI b k ≤ b.sum * (c * gI b k / b.sum) := Int.mul_le_mul_of_nonneg_left l (Int.le_of_lt hw)
        omega
    · omega
theorem level_le {c : Int} {b : List Int} (hb : ∀ z ∈ b, 0 ≤ z) (c0 : 0 ≤ c) (c1 : c ≤ b.sum) {k : Nat} (hk : k < b.length) : 0 ≤ gI (levelL c b) k ∧ gI (levelL c b) k ≤ gI b k := by
  have hg : 0 ≤ gI b k := hb _ (gI_mem hk)
  have L0 := (levelI_ok hb c0 c1).1
  refine ⟨?_, levelL_le hk⟩
  rw [levelL_get hk]
  split <;> split <;> omega
def Fit (n : Nat) (v : List Int) : Prop := v.length = n ∧ ∀ k : Nat, k < n → 0 ≤ gI v k ∧ gI v k ≤ 100000000000000
theorem Fit.mem {n : Nat} {v : List Int} (h : Fit n v) : ∀ z ∈ v, 0 ≤ z ∧ z ≤ 100000000000000 := fun z hz => by
  obtain ⟨k, hk⟩ := List.mem_iff_getElem?.mp hz
  have hl := (List.getElem?_eq_some_iff.mp hk).1
  rw [← gI_at hk]
  exact h.2 k (by have := h.1; omega)
theorem zip_get {f : Int → Int → Int} {a b : List Int} {k : Nat} (ha : k < a.length) (hb : k < b.length) : gI (List.zipWith f a b) k = f (gI a k) (gI b k) := by
  refine gI_at ?_
  rw [List.getElem?_zipWith, List.getElem?_eq_getElem ha, List.getElem?_eq_getElem hb, gI_nat ha, gI_nat hb]
def minB (a b : List Int) : List Int := List.zipWith (fun x y => if y < x then y else x) a b
def subB (a b : List Int) : List Int := List.zipWith (fun x y => x - y) a b
def bndB (g s : List Int) : List Int := List.zipWith (fun x y => if x = 0 then y else 0) g s
def minI (a b : Int) : Int := if b < a then b else a
def rowR (g pl : List Int) (own : Int) (w : Str) (r st : List Int) : List Int × List Int :=
  if w = "pledge" then (minB r pl, minB r pl ++ [0])
  else if w = "share" then (minB r st, minB r st ++ [0])
  else if w = "own" then (shareL (minI own r.sum) r, (r.map fun _ => 0) ++ [minI own r.sum])
  else if w = "others" then (shareL (minI (bndB g st).sum r.sum) r, shareL (minI (bndB g st).sum r.sum) (bndB g st) ++ [0])
  else (shareL (minI (bndB g st).sum r.sum) r, levelL (minI (bndB g st).sum r.sum) (bndB g st) ++ [0])
structure LSt where
  rests : List Int
  stock : List Int
  rows : List (Str × List Int × List Int)
def stepR (g pl : List Int) (own : Int) (s : LSt) (w : Str) : LSt := ⟨subB s.rests (rowR g pl own w s.rests s.stock).1, if w = "pledge" then s.stock else subB s.stock (rowR g pl own w s.rests s.stock).2, s.rows ++ [(w, (rowR g pl own w s.rests s.stock).1, (rowR g pl own w s.rests s.stock).2)]⟩
def runR (g pl sh : List Int) (own : Int) (ws : List Str) : LSt := ws.foldl (stepR g pl own) ⟨g, sh, []⟩
theorem runR_one {g pl sh : List Int} {own : Int} {ws : List Str} {w : Str} : runR g pl sh own (ws ++ [w]) = stepR g pl own (runR g pl sh own ws) w := by
  unfold runR
  rw [List.foldl_append]
  rfl
theorem minB_fit {n : Nat} {a b : List Int} (ha : Fit n a) (hb : Fit n b) : (minB a b).length = n ∧ ∀ k : Nat, k < n → 0 ≤ gI (minB a b) k ∧ gI (minB a b) k ≤ gI a k ∧ gI (minB a b) k ≤ gI b k := by
  refine ⟨by unfold minB; rw [List.length_zipWith, ha.1, hb.1]; omega, fun k hk => ?_⟩
  unfold minB
  rw [zip_get (by rw [ha.1]; exact hk) (by rw [hb.1]; exact hk)]
  have := ha.2 k hk
  have := hb.2 k hk
  split <;> omega
theorem bndB_fit {n : Nat} {g s : List Int} (hg : g.length = n) (hs : Fit n s) : Fit n (bndB g s) ∧ ∀ k : Nat, k < n → gI (bndB g s) k ≤ gI s k := by
  have key : ∀ k : Nat, k < n → gI (bndB g s) k = if gI g k = 0 then gI s k else 0 := fun k hk => by
    unfold bndB
    rw [zip_get (by rw [hg]; exact hk) (by rw [hs.1]; exact hk)]
  refine ⟨⟨by unfold bndB; rw [List.length_zipWith, hg, hs.1]; omega, fun k hk => ?_⟩, fun k hk => ?_⟩
  · rw [key k hk]
    have := hs.2 k hk
    split <;> omega
  · rw [key k hk]
    have := hs.2 k hk
    split <;> omega
theorem sub_fit {n : Nat} {a b : List Int} (ha : Fit n a) (hl : n ≤ b.length) (h : ∀ k : Nat, k < n → 0 ≤ gI b k ∧ gI b k ≤ gI a k) : Fit n (subB a b) := by
  refine ⟨by unfold subB; rw [List.length_zipWith, ha.1]; omega, fun k hk => ?_⟩
  unfold subB
  rw [zip_get (by rw [ha.1]; exact hk) (by omega)]
  have := ha.2 k hk
  have := h k hk
  omega
theorem minI_ok {a b : Int} (ha : 0 ≤ a) (hb : 0 ≤ b) : 0 ≤ minI a b ∧ minI a b ≤ a ∧ minI a b ≤ b := by
  unfold minI
  split <;> omega
theorem gI_front {v : List Int} {z : Int} {k : Nat} (h : k < v.length) : gI (v ++ [z]) k = gI v k := gI_app h
structure RowOk (n : Nat) (r st : List Int) (p : List Int × List Int) (w : Str) : Prop where
  len1 : p.1.length = n
  len2 : p.2.length = n + 1
  le1 : ∀ k : Nat, k < n → 0 ≤ gI p.1 k ∧ gI p.1 k ≤ gI r k
  le2 : w ≠ "pledge" → ∀ k : Nat, k < n → 0 ≤ gI p.2 k ∧ gI p.2 k ≤ gI st k
theorem row_ok {n : Nat} {g pl r st : List Int} {own : Int} {w : Str} (hg : g.length = n) (hp : Fit n pl) (hr : Fit n r) (hs : Fit n st) (ho : 0 ≤ own) : RowOk n r st (rowR g pl own w r st) w := by
  have r0 : ∀ z ∈ r, 0 ≤ z := fun z hz => (hr.mem z hz).1
  have rs := sum_nonneg r0
  obtain ⟨hb, hbl⟩ := bndB_fit hg hs
  have b0 : ∀ z ∈ bndB g st, 0 ≤ z := fun z hz => (hb.mem z hz).1
  have bs := sum_nonneg b0
  obtain ⟨c0, _, c1⟩ := minI_ok ho rs
  obtain ⟨d0, d1, d2⟩ := minI_ok bs rs
  unfold rowR
  split
  · rename_i e
    obtain ⟨h1, h2⟩ := minB_fit hr hp
    exact ⟨h1, by rw [List.length_append, h1]; rfl, fun k hk => ⟨(h2 k hk).1, (h2 k hk).2.1⟩, fun z => absurd e z⟩
  split
  · obtain ⟨h1, h2⟩ := minB_fit hr hs
    exact ⟨h1, by rw [List.length_append, h1]; rfl, fun k hk => ⟨(h2 k hk).1, (h2 k hk).2.1⟩, fun _ k hk => by dsimp only; rw [gI_front (by rw [h1]; exact hk)]; exact ⟨(h2 k hk).1, (h2 k hk).2.2⟩⟩
  split
  · refine ⟨by rw [shareL_len, hr.1], by rw [List.length_append, List.length_map, hr.1]; rfl, fun k hk => share_le r0 c0 c1 (by rw [hr.1]; exact hk), fun _ k hk => ?_⟩
    dsimp only
    rw [gI_front (by rw [List.length_map, hr.1]; exact hk), gI_nat (by rw [List.length_map, hr.1]; exact hk), List.getElem_map]
    exact ⟨Int.le_refl _, (hs.2 k hk).1⟩
  split
  · refine ⟨by rw [shareL_len, hr.1], by rw [List.length_append, shareL_len, hb.1]; rfl, fun k hk => share_le r0 d0 d2 (by rw [hr.1]; exact hk), fun _ k hk => ?_⟩
    dsimp only
    rw [gI_front (by rw [shareL_len, hb.1]; exact hk)]
    have := share_le b0 d0 d1 (by rw [hb.1]; exact hk)
    have := hbl k hk
    omega
  · refine ⟨by rw [shareL_len, hr.1], by rw [List.length_append, levelL_len, hb.1]; rfl, fun k hk => share_le r0 d0 d2 (by rw [hr.1]; exact hk), fun _ k hk => ?_⟩
    dsimp only
    rw [gI_front (by rw [levelL_len, hb.1]; exact hk)]
    have := level_le b0 d0 d1 (by rw [hb.1]; exact hk)
    have := hbl k hk
    omega
structure LOk (n : Nat) (s : LSt) : Prop where
  rests : Fit n s.rests
  stock : Fit n s.stock
theorem step_ok {n : Nat} {g pl : List Int} {own : Int} {w : Str} {s : LSt} (hg : g.length = n) (hp : Fit n pl) (ho : 0 ≤ own) (h : LOk n s) : LOk n (stepR g pl own s w) := by
  have ok := row_ok (w := w) hg hp h.rests h.stock ho
  refine ⟨sub_fit h.rests (by rw [ok.len1]; exact Nat.le_refl _) ok.le1, ?_⟩
  unfold stepR
  dsimp only
  split
  · exact h.stock
  · rename_i e
    exact sub_fit h.stock (by rw [ok.len2]; omega) (ok.le2 e)
theorem run_ok {n : Nat} {g pl sh : List Int} {own : Int} (hg : Fit n g) (hp : Fit n pl) (hs : Fit n sh) (ho : 0 ≤ own) : ∀ (ws : List Str) (i : Nat), LOk n (runR g pl sh own (ws.take i)) ∧ (runR g pl sh own (ws.take i)).rows.length = min i ws.length := fun ws i => by
  induction i with
  | zero => exact ⟨⟨hg, hs⟩, by simp [runR]⟩
  | succ i ih =>
    cases e : ws[i]? with
    | none =>
      have : ws.length ≤ i := List.getElem?_eq_none_iff.mp e
      rw [List.take_of_length_le this] at ih
      rw [List.take_of_length_le (by omega)]
      exact ⟨ih.1, by rw [ih.2]; omega⟩
    | some w =>
      have hl := (List.getElem?_eq_some_iff.mp e).1
      rw [take_succ_of e, runR_one]
      refine ⟨step_ok hg.1 hp ho ih.1, ?_⟩
      unfold stepR
      dsimp only
      rw [List.length_append, ih.2, List.length_singleton]
      omega
def rowsD (v : List (Str × List Int × List Int)) : List D := v.map fun x => .tup [.str x.1, .lst (vI x.2.1), .lst (vI x.2.2)]
theorem rowsD_len {v : List (Str × List Int × List Int)} : (rowsD v).length = v.length := by unfold rowsD; simp
theorem rowsD_pure (v : List (Str × List Int × List Int)) : pureAll (rowsD v) = true := pureAll_iff.mpr fun x hx => by
  unfold rowsD at hx
  obtain ⟨p, _, rfl⟩ := List.mem_map.mp hx
  unfold D.pure
  refine pureAll_iff.mpr fun y hy => ?_
  simp only [List.mem_cons, List.not_mem_nil, or_false] at hy
  rcases hy with rfl | rfl | rfl
  · rfl
  · exact lst_pure (vI_pure _)
  · exact lst_pure (vI_pure _)
def layersL : List Str := ["pledge", "share", "own", "others", "level"]
def strL (v : List Str) : List D := v.map D.str
theorem inF_strL {z : Str} : ∀ {v : List Str}, inF (.str z) (strL v) = decide (z ∈ v)
  | [] => by simp [inF, strL]
  | x :: xs => by
    have ih := inF_strL (z := z) (v := xs)
    unfold inF strL at *
    rw [List.map_cons, List.any_cons, ih]
    by_cases e : x = z
    · subst e; simp [eqF]
    · have : (z = x) = False := by simp [Ne.symm e]
      simp [eqF, e, this]
theorem flat_strL {v : List Str} : (strL v).all D.flat = true := by
  rw [List.all_eq_true]
  intro x hx
  unfold strL at hx
  obtain ⟨z, _, rfl⟩ := List.mem_map.mp hx
  rfl
theorem inW_strL {neg : Bool} {z : Str} {d : D} {v : List Str} {S : Sto} {k : KD} (hd : sview S d = some (strL v)) (h : k (.bl (if neg then !decide (z ∈ v) else decide (z ∈ v))) S) : inW neg (.str z) d S k :=
  ⟨_, hd, rfl, flat_strL, by rw [inF_strL]; exact h⟩
theorem vI_app1 {v : List Int} {z : Int} : vI v ++ [D.int z] = vI (v ++ [z]) := by unfold vI; simp
end Ab

namespace Ab
open PySem
/-! ### one due a pair -/
def owedI (sh : List Dd) (a b r : Int) : Int := (sh.map fun x => if x.a = a ∧ x.b = b ∧ x.r = r then x.c else 0).sum
def exI (l h r : Int) (x : Dd) : Int := (if x.a = l ∧ x.b = h ∧ x.r = r then x.c else 0) - (if x.a = h ∧ x.b = l ∧ x.r = r then x.c else 0)
def difI (sh : List Dd) (l h r : Int) : Int := owedI sh l h r - owedI sh h l r
theorem dif_sum {l h r : Int} : ∀ {sh : List Dd}, difI sh l h r = (sh.map (exI l h r)).sum
  | [] => rfl
  | x :: xs => by
    have ih := dif_sum (l := l) (h := h) (r := r) (sh := xs)
    unfold difI owedI at *
    simp only [List.map_cons, List.sum_cons]
    rw [← ih]
    unfold exI
    omega
theorem owed_perm {a b : List Dd} (h : a.Perm b) (l k r : Int) : owedI a l k r = owedI b l k r := perm_sum (h.map _)
theorem dif_perm {a b : List Dd} (h : a.Perm b) : difI a = difI b := by
  funext l k r
  unfold difI
  rw [owed_perm h, owed_perm h]
def pairP (c l h r : Int) : List Dd := if 0 < c then [⟨l, h, r, c⟩] else if c < 0 then [⟨h, l, r, -c⟩] else []
abbrev D3 := Int → Int → Int → Int
def pairH (D : D3) (l r : Nat) : Nat → List Dd
  | 0 => []
  | n + 1 => pairH D l r n ++ pairP (D l ((l : Int) + 1 + (n : Int)) r) l ((l : Int) + 1 + (n : Int)) r
def pairLo (D : D3) (m r : Nat) : Nat → List Dd
  | 0 => []
  | l + 1 => pairLo D m r l ++ pairH D l r (m - (l + 1))
def pairR (D : D3) (m : Nat) : Nat → List Dd
  | 0 => []
  | r + 1 => pairR D m r ++ pairLo D m r m
def pairG (D : D3) (m : Nat) : List Dd := pairR D m 3
theorem pairP_mem {c l h r : Int} {x : Dd} (hx : x ∈ pairP c l h r) : (0 < c ∧ x = ⟨l, h, r, c⟩) ∨ (c < 0 ∧ x = ⟨h, l, r, -c⟩) := by
  unfold pairP at hx
  split at hx
  · exact .inl ⟨by assumption, List.mem_singleton.mp hx⟩
  · split at hx
    · exact .inr ⟨by assumption, List.mem_singleton.mp hx⟩
    · cases hx
theorem pairP_len {c l h r : Int} : (pairP c l h r).length ≤ 1 := by
  unfold pairP
  split
  · simp
  · split <;> simp
theorem pairH_mem {D : D3} {l r : Nat} {x : Dd} : ∀ {n : Nat}, x ∈ pairH D l r n → ∃ k : Nat, k < n ∧ x ∈ pairP (D l ((l : Int) + 1 + (k : Int)) r) l ((l : Int) + 1 + (k : Int)) r
  | n + 1, h => by
    rcases List.mem_append.mp (show x ∈ pairH D l r n ++ _ from h) with h | h
    · obtain ⟨k, k1, k2⟩ := pairH_mem h
      exact ⟨k, by omega, k2⟩
    · exact ⟨n, by omega, h⟩
theorem pairLo_mem {D : D3} {m r : Nat} {x : Dd} : ∀ {n : Nat}, x ∈ pairLo D m r n → ∃ l k : Nat, l < n ∧ k < m - (l + 1) ∧ x ∈ pairP (D l ((l : Int) + 1 + (k : Int)) r) l ((l : Int) + 1 + (k : Int)) r
  | n + 1, h => by
    rcases List.mem_append.mp (show x ∈ pairLo D m r n ++ _ from h) with h | h
    · obtain ⟨l, k, k1, k2, k3⟩ := pairLo_mem h
      exact ⟨l, k, by omega, k2, k3⟩
    · obtain ⟨k, k1, k2⟩ := pairH_mem h
      exact ⟨n, k, by omega, k1, k2⟩
theorem pairR_mem {D : D3} {m : Nat} {x : Dd} : ∀ {n : Nat}, x ∈ pairR D m n → ∃ r l k : Nat, r < n ∧ l < m ∧ k < m - (l + 1) ∧ x ∈ pairP (D l ((l : Int) + 1 + (k : Int)) r) l ((l : Int) + 1 + (k : Int)) r
  | n + 1, h => by
    rcases List.mem_append.mp (show x ∈ pairR D m n ++ _ from h) with h | h
    · obtain ⟨r, l, k, k0, k1, k2, k3⟩ := pairR_mem h
      exact ⟨r, l, k, by omega, k1, k2, k3⟩
    · obtain ⟨l, k, k1, k2, k3⟩ := pairLo_mem h
      exact ⟨n, l, k, by omega, k1, k2, k3⟩
theorem pairG_in {D : D3} {m : Nat} {x : Dd} (h : x ∈ pairG D m) : x.In m ∧ 0 < x.c ∧ ((x.c = D x.a x.b x.r ∧ x.a < x.b) ∨ (x.c = - D x.b x.a x.r ∧ x.b < x.a)) := by
  obtain ⟨r, l, k, k0, k1, k2, k3⟩ := pairR_mem h
  unfold Dd.In
  rcases pairP_mem k3 with ⟨c, rfl⟩ | ⟨c, rfl⟩
  · dsimp only
    exact ⟨⟨by omega, by omega, by omega, by omega, by omega, by omega, by omega, by omega⟩, c, .inl ⟨rfl, by omega⟩⟩
  · dsimp only
    exact ⟨⟨by omega, by omega, by omega, by omega, by omega, by omega, by omega, by omega⟩, by omega, .inr ⟨rfl, by omega⟩⟩
/-! sums over them -/
def rsum (t : Nat → Int) : Nat → Int
  | 0 => 0
  | n + 1 => rsum t n + t n
theorem rsum_zero {t : Nat → Int} : ∀ {n : Nat}, (∀ k, k < n → t k = 0) → rsum t n = 0
  | 0, _ => rfl
  | n + 1, h => by
    show rsum t n + t n = 0
    rw [rsum_zero (fun k hk => h k (by omega)), h n (by omega)]
    rfl
theorem rsum_one {t : Nat → Int} {k0 : Nat} : ∀ {n : Nat}, k0 < n → (∀ k, k < n → k ≠ k0 → t k = 0) → rsum t n = t k0
  | n + 1, hk, h => by
    show rsum t n + t n = t k0
    by_cases e : n = k0
    · subst e
      rw [rsum_zero (fun k hk => h k (by omega) (by omega)), Int.zero_add]
    · rw [rsum_one (n := n) (by omega) (fun k hk => h k (by omega)), h n (by omega) e, Int.add_zero]
theorem rsum_add {t u : Nat → Int} : ∀ {n : Nat}, rsum (fun k => t k + u k) n = rsum t n + rsum u n
  | 0 => rfl
  | n + 1 => by
    show rsum (fun k => t k + u k) n + (t n + u n) = rsum t n + t n + (rsum u n + u n)
    rw [rsum_add]
    omega
theorem rsum_congr {t u : Nat → Int} : ∀ {n : Nat}, (∀ k, k < n → t k = u k) → rsum t n = rsum u n
  | 0, _ => rfl
  | n + 1, h => by
    show rsum t n + t n = rsum u n + u n
    rw [rsum_congr (fun k hk => h k (by omega)), h n (by omega)]
def sum3 (m : Nat) (t : D3) : Int := rsum (fun r => rsum (fun l => rsum (fun k => t l ((l : Int) + 1 + (k : Int)) r) (m - (l + 1))) m) 3
theorem sum3_pair {f : Dd → Int} {D : D3} {m : Nat} : ((pairG D m).map f).sum = sum3 m fun l h r => ((pairP (D l h r) l h r).map f).sum := by
  have h1 : ∀ (l r n : Nat), ((pairH D l r n).map f).sum = rsum (fun k => ((pairP (D l ((l : Int) + 1 + (k : Int)) r) l ((l : Int) + 1 + (k : Int)) r).map f).sum) n := fun l r n => by
    induction n with
    | zero => rfl
    | succ n ih =>
      show ((pairH D l r n ++ pairP _ _ _ _).map f).sum = rsum _ n + _
      rw [List.map_append, List.sum_append, ih]
  have h2 : ∀ (r n : Nat), ((pairLo D m r n).map f).sum = rsum (fun l => rsum (fun k => ((pairP (D l ((l : Int) + 1 + (k : Int)) r) l ((l : Int) + 1 + (k : Int)) r).map f).sum) (m - (l + 1))) n := fun r n => by
    induction n with
    | zero => rfl
    | succ n ih =>
      show ((pairLo D m r n ++ pairH _ _ _ _).map f).sum = rsum _ n + _
      rw [List.map_append, List.sum_append, ih, h1]
  have h3 : ∀ (n : Nat), ((pairR D m n).map f).sum = rsum (fun r => rsum (fun l => rsum (fun k => ((pairP (D l ((l : Int) + 1 + (k : Int)) r) l ((l : Int) + 1 + (k : Int)) r).map f).sum) (m - (l + 1))) m) n := fun n => by
    induction n with
    | zero => rfl
    | succ n ih =>
      show ((pairR D m n ++ pairLo _ _ _ _).map f).sum = rsum _ n + _
      rw [List.map_append, List.sum_append, ih, h2]
  exact h3 3
theorem sum3_add {m : Nat} {t u : D3} : sum3 m (fun l h r => t l h r + u l h r) = sum3 m t + sum3 m u := by
  unfold sum3
  rw [← rsum_add]
  refine rsum_congr fun r _ => ?_
  rw [← rsum_add]
  refine rsum_congr fun l _ => ?_
  rw [← rsum_add]
theorem sum3_congr {m : Nat} {t u : D3} (h : ∀ l h r : Int, 0 ≤ l → l < h → h < m → 0 ≤ r → r < 3 → t l h r = u l h r) : sum3 m t = sum3 m u := rsum_congr fun r hr => rsum_congr fun l hl => rsum_congr fun k hk => h _ _ _ (by omega) (by omega) (by omega) (by omega) (by omega)
theorem sum3_zero {m : Nat} {t : D3} (h : ∀ l h r : Int, 0 ≤ l → l < h → h < m → 0 ≤ r → r < 3 → t l h r = 0) : sum3 m t = 0 := rsum_zero fun r hr => rsum_zero fun l hl => rsum_zero fun k hk => h _ _ _ (by omega) (by omega) (by omega) (by omega) (by omega)
theorem sum3_one {m : Nat} {t : D3} {l0 h0 r0 : Int} (a0 : 0 ≤ l0) (a1 : l0 < h0) (a2 : h0 < m) (a3 : 0 ≤ r0) (a4 : r0 < 3) (h : ∀ l h r : Int, 0 ≤ l → l < h → h < m → 0 ≤ r → r < 3 → ¬ (l = l0 ∧ h = h0 ∧ r = r0) → t l h r = 0) : sum3 m t = t l0 h0 r0 := by
  obtain ⟨l, rfl⟩ : ∃ l : Nat, l0 = (l : Int) := ⟨l0.toNat, by omega⟩
  obtain ⟨r, rfl⟩ : ∃ r : Nat, r0 = (r : Int) := ⟨r0.toNat, by omega⟩
  obtain ⟨k, rfl⟩ : ∃ k : Nat, h0 = (l : Int) + 1 + (k : Int) := ⟨(h0 - l - 1).toNat, by omega⟩
  unfold sum3
  rw [rsum_one (k0 := r) (by omega) fun r' hr' hne => rsum_zero fun l' hl' => rsum_zero fun k' hk' => h _ _ _ (by omega) (by omega) (by omega) (by omega) (by omega) (by omega)]
  rw [rsum_one (k0 := l) (by omega) fun l' hl' hne => rsum_zero fun k' hk' => h _ _ _ (by omega) (by omega) (by omega) (by omega) (by omega) (by omega)]
  rw [rsum_one (k0 := k) (by omega) fun k' hk' hne => h _ _ _ (by omega) (by omega) (by omega) (by omega) (by omega) (by omega)]
def gJ (j l h c : Int) : Int := (if h = j then c else 0) - (if l = j then c else 0)
theorem pairP_flow {j c l h r : Int} : ((pairP c l h r).map (flow j)).sum = gJ j l h c := by
  unfold pairP gJ
  split
  · simp [flow]
  · split
    · simp only [List.map_cons, List.map_nil, List.sum_cons, List.sum_nil, flow]
      split <;> split <;> omega
    · have : c = 0 := by omega
      subst this
      simp
theorem pair_flow {j : Int} {m : Nat} : ∀ {sh : List Dd}, (∀ x ∈ sh, x.In m) → ((pairG (difI sh) m).map (flow j)).sum = (sh.map (flow j)).sum := fun {sh} hs => by
  rw [sum3_pair]
  have e : (sum3 m fun l h r => ((pairP (difI sh l h r) l h r).map (flow j)).sum) = sum3 m fun l h r => gJ j l h (difI sh l h r) := sum3_congr fun l h r _ _ _ _ _ => pairP_flow
  rw [e]
  clear e
  induction sh with
  | nil =>
    exact sum3_zero fun l h r _ _ _ _ _ => by
      rw [dif_sum]
      simp [gJ]
  | cons x xs ih =>
    have e : (sum3 m fun l h r => gJ j l h (difI (x :: xs) l h r)) = sum3 m fun l h r => gJ j l h (exI l h r x) + gJ j l h (difI xs l h r) := sum3_congr fun l h r _ _ _ _ _ => by
      rw [dif_sum, dif_sum, List.map_cons, List.sum_cons]
      unfold gJ
      split <;> split <;> omega
    rw [e, sum3_add, ih (fun y hy => hs y (by simp [hy])), List.map_cons, List.sum_cons]
    have hx := hs x (by simp)
    unfold Dd.In at hx
    congr 1
    rcases Int.lt_or_gt_of_ne hx.2.2.2.2.1 with l | l
    · have ex : exI x.a x.b x.r x = x.c := by
        unfold exI
        rw [if_pos ⟨rfl, rfl, rfl⟩, if_neg (fun z => by omega)]
        omega
      rw [sum3_one (l0 := x.a) (h0 := x.b) (r0 := x.r) hx.1 l hx.2.2.2.1 hx.2.2.2.2.2.1 hx.2.2.2.2.2.2.1 fun l' h' r' _ _ _ _ _ hne => ?_]
      · rw [ex]
        unfold gJ flow
        split <;> split <;> omega
      · have e0 : exI l' h' r' x = 0 := by
          unfold exI
          rw [if_neg (fun z => hne ⟨z.1.symm, z.2.1.symm, z.2.2.symm⟩), if_neg (fun z => by omega)]
          rfl
        rw [e0]
        simp [gJ]
    · have ex : exI x.b x.a x.r x = - x.c := by
        unfold exI
        rw [if_neg (fun z => by omega), if_pos ⟨rfl, rfl, rfl⟩]
        omega
      rw [sum3_one (l0 := x.b) (h0 := x.a) (r0 := x.r) hx.2.2.1 l hx.2.1 hx.2.2.2.2.2.1 hx.2.2.2.2.2.2.1 fun l' h' r' _ _ _ _ _ hne => ?_]
      · rw [ex]
        unfold gJ flow
        split <;> split <;> omega
      · have e0 : exI l' h' r' x = 0 := by
          unfold exI
          rw [if_neg (fun z => by omega), if_neg (fun z => hne ⟨z.2.1.symm, z.1.symm, z.2.2.symm⟩)]
          rfl
        rw [e0]
        simp [gJ]
theorem pair_dif {D : D3} {m : Nat} {l0 h0 r0 : Int} (a0 : 0 ≤ l0) (a1 : l0 < h0) (a2 : h0 < m) (a3 : 0 ≤ r0) (a4 : r0 < 3) : difI (pairG D m) l0 h0 r0 = D l0 h0 r0 := by
  rw [dif_sum, sum3_pair, sum3_one a0 a1 a2 a3 a4 fun l h r _ _ _ _ _ hne => ?_]
  · unfold pairP
    split
    · simp only [List.map_cons, List.map_nil, List.sum_cons, List.sum_nil]
      unfold exI
      rw [if_pos ⟨rfl, rfl, rfl⟩, if_neg (fun z => by dsimp only at z; omega)]
      dsimp only
      omega
    · split
      · simp only [List.map_cons, List.map_nil, List.sum_cons, List.sum_nil]
        unfold exI
        rw [if_neg (fun z => by dsimp only at z; omega), if_pos ⟨rfl, rfl, rfl⟩]
        dsimp only
        omega
      · simp
        omega
  · unfold pairP
    split
    · simp only [List.map_cons, List.map_nil, List.sum_cons, List.sum_nil, exI]
      rw [if_neg (fun z => hne ⟨z.1, z.2.1, z.2.2⟩), if_neg (fun z => by omega)]
      rfl
    · split
      · simp only [List.map_cons, List.map_nil, List.sum_cons, List.sum_nil, exI]
        rw [if_neg (fun z => by omega), if_neg (fun z => hne ⟨z.2.1, z.1, z.2.2⟩)]
        rfl
      · simp
theorem pairG_congr {D E : D3} {m : Nat} (h : ∀ l h r : Int, 0 ≤ l → l < h → h < m → 0 ≤ r → r < 3 → D l h r = E l h r) : pairG D m = pairG E m := by
  have h1 : ∀ (l r n : Nat), l < m → r < 3 → n ≤ m - (l + 1) → pairH D l r n = pairH E l r n := fun l r n hl hr hn => by
    induction n with
    | zero => rfl
    | succ n ih =>
      show pairH D l r n ++ pairP _ _ _ _ = pairH E l r n ++ pairP _ _ _ _
      rw [ih (by omega), h _ _ _ (by omega) (by omega) (by omega) (by omega) (by omega)]
  have h2 : ∀ (r n : Nat), r < 3 → n ≤ m → pairLo D m r n = pairLo E m r n := fun r n hr hn => by
    induction n with
    | zero => rfl
    | succ n ih =>
      show pairLo D m r n ++ pairH _ _ _ _ = pairLo E m r n ++ pairH _ _ _ _
      rw [ih (by omega), h1 _ _ _ (by omega) hr (Nat.le_refl _)]
  have h3 : ∀ (n : Nat), n ≤ 3 → pairR D m n = pairR E m n := fun n hn => by
    induction n with
    | zero => rfl
    | succ n ih =>
      show pairR D m n ++ pairLo _ _ _ _ = pairR E m n ++ pairLo _ _ _ _
      rw [ih (by omega), h2 _ _ (by omega) (Nat.le_refl _)]
  exact h3 3 (Nat.le_refl _)
theorem pair_again {D : D3} {m : Nat} : pairG (difI (pairG D m)) m = pairG D m := pairG_congr fun _ _ _ a0 a1 a2 a3 a4 => pair_dif a0 a1 a2 a3 a4
end Ab

namespace Ab
open PySem
/-! ### nets, without a bound of the amounts -/
theorem netBs_in {m : Int} {j : Int} (j0 : 0 ≤ j) : ∀ {sh : List Dd} {v : List Int}, (v.length : Int) = m → (∀ x ∈ sh, x.In m) → gI (sh.foldl netB v) j = gI v j + (sh.map (flow j)).sum
  | [], v, _, _ => by simp
  | x :: sh, v, hv, h => by
    show gI (sh.foldl netB (netB v x)) j = _
    have hx := h x (by simp)
    unfold Dd.In at hx
    rw [netBs_in j0 (by rw [netB_len]; exact hv) (fun y hy => h y (by simp [hy]))]
    unfold netB
    rw [bump_get hx.2.2.1 (by rw [bump_len]; have := hx.2.2.2.1; omega) j0, bump_get hx.1 (by have := hx.2.1; omega) j0]
    simp only [List.map_cons, List.sum_cons]
    unfold flow
    split <;> split <;> omega
theorem netBs_netsIn {m : Int} {sh : List Dd} (hm : 0 ≤ m) (hs : ∀ x ∈ sh, x.In m) : sh.foldl netB (zeros m.toNat) = netsI m sh := by
  refine ext_gI (by rw [netBs_len, zeros_len, netsI_len]) fun j h0 h1 => ?_
  rw [netBs_len, zeros_len] at h1
  rw [netBs_in (m := m) h0 (by rw [zeros_len]; omega) hs]
  unfold netsI claimsI
  rw [bumps_get h0 (fun x hx => by have := hs x hx; rw [bumps_len, zeros_len]; exact ⟨this.1, by have := this.2.1; omega⟩), bumps_get h0 (fun x hx => by have := hs x hx; rw [zeros_len]; exact ⟨this.2.2.1, by have := this.2.2.2.1; omega⟩)]
  rw [Int.add_assoc, flow_nets]
theorem nets_alike {m : Int} {a b : List Dd} (hm : 0 ≤ m) (ha : ∀ x ∈ a, x.In m) (hb : ∀ x ∈ b, x.In m) (h : ∀ j, (a.map (flow j)).sum = (b.map (flow j)).sum) : a.foldl netB (zeros m.toNat) = b.foldl netB (zeros m.toNat) := by
  refine ext_gI (by rw [netBs_len, netBs_len]) fun j h0 h1 => ?_
  rw [netBs_in (m := m) h0 (by rw [zeros_len]; omega) ha, netBs_in (m := m) h0 (by rw [zeros_len]; omega) hb, h]
theorem bump_sum {v : List Int} {i c : Int} (h0 : 0 ≤ i) (h1 : i < (v.length : Int)) : (bump v i c).sum = v.sum + c := by
  unfold bump
  rw [sum_setI (by omega)]
  have : ((i.toNat : Nat) : Int) = i := by omega
  rw [this]
  omega
theorem netBs_sum {m : Int} : ∀ {sh : List Dd} {v : List Int}, (v.length : Int) = m → (∀ x ∈ sh, x.In m) → (sh.foldl netB v).sum = v.sum
  | [], v, _, _ => rfl
  | x :: sh, v, hv, h => by
    show (sh.foldl netB (netB v x)).sum = _
    have hx := h x (by simp)
    unfold Dd.In at hx
    rw [netBs_sum (by rw [netB_len]; exact hv) (fun y hy => h y (by simp [hy]))]
    unfold netB
    rw [bump_sum hx.2.2.1 (by rw [bump_len]; omega), bump_sum hx.1 (by omega)]
    omega
theorem zeros_sum {n : Nat} : (zeros n).sum = 0 := by
  unfold zeros
  induction n with
  | zero => rfl
  | succ n ih => rw [List.replicate_succ, List.sum_cons, ih]; rfl
/-- the house's dues, summed -/
theorem houseP_flow {m : Int} {v : List Int} {i : Nat} {j : Int} (hi : (i : Int) < m) : ((houseP m v i).map (flow j)).sum = (if (i : Int) = j then gI v i else 0) - (if m = j then gI v i else 0) := by
  unfold houseP
  split
  · simp only [List.map_cons, List.map_nil, List.sum_cons, List.sum_nil, flow]
    split <;> split <;> omega
  · split
    · simp only [List.map_cons, List.map_nil, List.sum_cons, List.sum_nil, flow]
      split <;> split <;> omega
    · have : gI v i = 0 := by omega
      simp [this]
theorem houseL_flow {m : Int} {v : List Int} {j : Int} : ∀ {n : Nat}, (n : Int) ≤ m → ((houseL m v n).map (flow j)).sum = rsum (fun i => (if (i : Int) = j then gI v i else 0) - (if m = j then gI v i else 0)) n
  | 0, _ => rfl
  | n + 1, h => by
    show ((houseL m v n ++ houseP m v n).map (flow j)).sum = rsum _ n + _
    rw [List.map_append, List.sum_append, houseL_flow (by omega), houseP_flow (by omega)]
theorem rsum_list : ∀ {v : List Int}, rsum (fun i => gI v i) v.length = v.sum := fun {v} => by
  have key : ∀ n, n ≤ v.length → rsum (fun i => gI v i) n = (v.take n).sum := fun n => by
    induction n with
    | zero => intro _; rfl
    | succ n ih =>
      intro h
      show rsum _ n + gI v n = _
      rw [ih (by omega), take_succ_of (List.getElem?_eq_getElem (by omega)), List.sum_append, gI_nat (by omega)]
      simp
  rw [key v.length (Nat.le_refl _), List.take_length]
theorem rsum_neg {t : Nat → Int} : ∀ {n : Nat}, rsum (fun i => - t i) n = - rsum t n
  | 0 => rfl
  | n + 1 => by
    show rsum _ n + - t n = - (rsum t n + t n)
    rw [rsum_neg]
    omega
theorem houseL_in {m : Int} {v : List Int} : ∀ {n : Nat}, (n : Int) ≤ m → ∀ x ∈ houseL m v n, x.In (m + 1)
  | 0, _, x, h => by cases h
  | n + 1, hn, x, h => by
    rcases List.mem_append.mp (show x ∈ houseL m v n ++ houseP m v n from h) with h | h
    · exact houseL_in (by omega) x h
    · unfold houseP at h
      unfold Dd.In
      split at h
      · rw [List.mem_singleton.mp h]
        dsimp only
        omega
      · split at h
        · rw [List.mem_singleton.mp h]
          dsimp only
          omega
        · cases h
theorem house_nets {m : Int} {v : List Int} (hm : 0 ≤ m) (hv : (v.length : Int) = m) (hs : v.sum = 0) : (houseL m v m.toNat).foldl netB (zeros (m + 1).toNat) = v ++ [0] := by
  refine ext_gI (by rw [netBs_len, zeros_len, List.length_append, List.length_singleton]; omega) fun j h0 h1 => ?_
  rw [netBs_len, zeros_len] at h1
  rw [netBs_in (m := m + 1) h0 (by rw [zeros_len]; omega) (houseL_in (by omega)), zeros_get, houseL_flow (by omega)]
  by_cases e : m = j
  · subst e
    have e1 : rsum (fun i : Nat => (if (i : Int) = m then gI v i else 0) - (if m = m then gI v i else 0)) m.toNat = rsum (fun i => - gI v i) m.toNat := rsum_congr fun k hk => by
      rw [if_neg (by omega), if_pos rfl]
      omega
    rw [e1, rsum_neg, show m.toNat = v.length by omega, rsum_list, hs]
    have := @gI_app_last v 0
    rw [show ((v.length : Nat) : Int) = m from hv] at this
    rw [this]
    rfl
  · obtain ⟨k, rfl⟩ : ∃ k : Nat, j = (k : Int) := ⟨j.toNat, by omega⟩
    rw [rsum_one (k0 := k) (by omega) fun i hi hne => by rw [if_neg (by omega), if_neg e]; rfl]
    rw [if_pos rfl, if_neg e, gI_app (by omega)]
    omega
theorem pair_nets {m : Int} {sh : List Dd} (hm : 0 ≤ m) (hs : ∀ x ∈ sh, x.In m) : (pairG (difI sh) m.toNat).foldl netB (zeros m.toNat) = sh.foldl netB (zeros m.toNat) := by
  have e : ((m.toNat : Nat) : Int) = m := by omega
  refine nets_alike hm (fun x hx => by have := (pairG_in hx).1; rwa [e] at this) hs fun j => ?_
  exact pair_flow fun x hx => by rw [e]; exact hs x hx
theorem owed_nonneg {m : Int} {sh : List Dd} (hs : ∀ x ∈ sh, x.In m) (a b r : Int) : 0 ≤ owedI sh a b r := by
  unfold owedI
  refine sum_nonneg fun z hz => ?_
  obtain ⟨x, hx, rfl⟩ := List.mem_map.mp hz
  have := hs x hx
  unfold Dd.In at this
  split <;> omega
theorem pair_le {m : Int} {sh : List Dd} (hs : ∀ x ∈ sh, x.In m) {n : Nat} {x : Dd} (hx : x ∈ pairG (difI sh) n) : x.c ≤ owedI sh x.a x.b x.r := by
  have h1 := owed_nonneg hs x.a x.b x.r
  have h2 := owed_nonneg hs x.b x.a x.r
  rcases (pairG_in hx).2.2 with ⟨e, _⟩ | ⟨e, _⟩
  · rw [e]
    unfold difI
    omega
  · rw [e]
    unfold difI
    omega
theorem pairH_len {D : D3} {l r : Nat} : ∀ n, (pairH D l r n).length ≤ n
  | 0 => Nat.le_refl _
  | n + 1 => by
    show (pairH D l r n ++ pairP _ _ _ _).length ≤ n + 1
    rw [List.length_append]
    have := pairH_len (D := D) (l := l) (r := r) n
    have := @pairP_len (D l ((l : Int) + 1 + (n : Int)) r) l ((l : Int) + 1 + (n : Int)) r
    omega
theorem pairLo_len {D : D3} {m r : Nat} (hm : m ≤ 9) : ∀ n, (pairLo D m r n).length ≤ n * 9
  | 0 => Nat.le_refl _
  | n + 1 => by
    show (pairLo D m r n ++ pairH _ _ _ _).length ≤ (n + 1) * 9
    rw [List.length_append]
    have := pairLo_len (D := D) (m := m) (r := r) hm n
    have := pairH_len (D := D) (l := n) (r := r) (m - (n + 1))
    omega
theorem pairG_len {D : D3} {m : Nat} (hm : m ≤ 9) : (pairG D m).length ≤ 300 := by
  have key : ∀ n, (pairR D m n).length ≤ n * 81 := fun n => by
    induction n with
    | zero => exact Nat.le_refl _
    | succ n ih =>
      show (pairR D m n ++ pairLo _ _ _ _).length ≤ (n + 1) * 81
      rw [List.length_append]
      have := pairLo_len (D := D) (m := m) (r := n) hm m
      omega
  have := key 3
  unfold pairG
  omega
end Ab

namespace Ab
open PySem
/-! ### a rational that a whole number makes whole -/
def Wh (N : Int) (q : Rat) : Prop := ∃ z : Int, q * (N : Rat) = (z : Rat)
theorem Wh.int {N a : Int} : Wh N (a : Rat) := ⟨a * N, by rw [Rat.intCast_mul]⟩
theorem Wh.zero {N : Int} : Wh N 0 := ⟨0, by grind⟩
theorem Wh.add {N : Int} {p q : Rat} (hp : Wh N p) (hq : Wh N q) : Wh N (p + q) := by
  obtain ⟨x, hx⟩ := hp
  obtain ⟨y, hy⟩ := hq
  exact ⟨x + y, by rw [Rat.intCast_add, ← hx, ← hy]; grind⟩
theorem Wh.sub {N : Int} {p q : Rat} (hp : Wh N p) (hq : Wh N q) : Wh N (p - q) := by
  obtain ⟨x, hx⟩ := hp
  obtain ⟨y, hy⟩ := hq
  exact ⟨x - y, by rw [Rat.intCast_sub, ← hx, ← hy]; grind⟩
theorem Wh.more {N M : Int} {q : Rat} (h : Wh N q) : Wh (N * M) q := by
  obtain ⟨x, hx⟩ := h
  exact ⟨x * M, by rw [Rat.intCast_mul, Rat.intCast_mul, ← hx]; grind⟩
theorem Wh.dvd {N M : Int} {q : Rat} (h : Wh N q) (hd : N ∣ M) : Wh M q := by
  obtain ⟨k, rfl⟩ := hd
  exact h.more
theorem Wh.mulInt {N a : Int} {q : Rat} (h : Wh N q) : Wh N (q * (a : Rat)) := by
  obtain ⟨x, hx⟩ := h
  exact ⟨x * a, by rw [Rat.intCast_mul, ← hx]; grind⟩
theorem Wh.divInt {N a : Int} {q : Rat} (h : Wh N q) (ha : a ≠ 0) : Wh (N * a) (q / (a : Rat)) := by
  obtain ⟨x, hx⟩ := h
  refine ⟨x, ?_⟩
  have h0 : (a : Rat) ≠ 0 := by exact_mod_cast ha
  rw [← hx, Rat.intCast_mul]
  grind
theorem Wh.den {N : Int} {q : Rat} (h : Wh N q) : (q.den : Int) ∣ N := by
  obtain ⟨z, hz⟩ := h
  have e := num_eq q
  have h2 : ((q.num * N : Int) : Rat) = ((z * (q.den : Int) : Int) : Rat) := by
    rw [Rat.intCast_mul, Rat.intCast_mul, e, ← hz]
    grind
  have h3 : q.num * N = z * (q.den : Int) := by exact_mod_cast h2
  have h4 : (q.den : Int) ∣ q.num * N := ⟨z, by rw [h3]; exact Int.mul_comm _ _⟩
  have h5 : q.den ∣ q.num.natAbs * N.natAbs := by
    have := Int.natAbs_dvd_natAbs.mpr h4
    rwa [Int.natAbs_mul, Int.natAbs_natCast] at this
  have h6 : q.den ∣ N.natAbs := Nat.Coprime.dvd_of_dvd_mul_left (Nat.Coprime.symm q.reduced) h5
  exact Int.ofNat_dvd_left.mpr h6
theorem Wh.size {N : Int} {q : Rat} {k b : Nat} (h : Wh N q) (h0 : N ≠ 0) (hN : Sz k N) (hq : 0 ≤ q) {B : Int} (hB : q ≤ (B : Rat)) (hb : Sz b B) : SzR (k + b) q := by
  have hd := h.den
  have d1 : q.den ≤ N.natAbs := Nat.le_of_dvd (by omega) (Int.ofNat_dvd_left.mp hd)
  have s1 : Sz k (q.den : Int) := by
    unfold Sz at *
    rw [Int.natAbs_natCast]
    omega
  refine ⟨?_, s1.mono (by omega)⟩
  have e := num_eq q
  have n0 := num_nonneg_iff.mp hq
  have dp := den_ratpos q
  have h1 : ((q.num : Int) : Rat) ≤ ((B * (q.den : Int) : Int) : Rat) := by
    rw [Rat.intCast_mul, e]
    exact Rat.mul_le_mul_of_nonneg_right hB (Rat.le_of_lt dp)
  have h2 : q.num ≤ B * (q.den : Int) := by exact_mod_cast h1
  have h3 := hb.mul s1
  unfold Sz at *
  rw [Nat.add_comm k b]
  omega
end Ab

namespace Ab
open PySem
/-! ### the rank in which a lay ends -/
def inn (qs : List Rat) (sh : List Dd) (j r : Int) : Prop := 0 < gR (laidA qs sh j) r ∧ gR (laidA qs sh j) r < (rkI sh j r : Int)
open Classical in
noncomputable def actM (qs : List Rat) (sh : List Dd) (j : Int) : Int := if inn qs sh j 0 then rkI sh j 0 else if inn qs sh j 1 then rkI sh j 1 else if inn qs sh j 2 then rkI sh j 2 else 1
theorem clamp_cases (q a m : Rat) : (q - a ≤ 0 ∧ (clampR q a m = 0 ∨ clampR q a m = m)) ∨ (0 < q - a ∧ q - a < m ∧ clampR q a m = q - a) ∨ (m ≤ q - a ∧ clampR q a m = m) := by
  unfold clampR
  by_cases h1 : q - a < 0
  · rw [if_pos h1]
    refine .inl ⟨Rat.le_of_lt h1, ?_⟩
    split
    · exact .inl rfl
    · exact .inr rfl
  · rw [if_neg h1]
    by_cases h2 : q - a < m
    · rw [if_pos h2]
      by_cases h3 : q - a = 0
      · exact .inl ⟨by grind, .inl h3⟩
      · exact .inr (.inl ⟨by grind, h2, rfl⟩)
    · rw [if_neg h2]
      exact .inr (.inr ⟨by grind, rfl⟩)
theorem laid_ahead {m : Int} {qs : List Rat} {sh : List Dd} {j r : Int} (hs : ∀ x ∈ sh, x.Ok m) (hq : 0 ≤ gR qs j) (h0 : 0 ≤ r) (h1 : r < 3) : gR (laidA qs sh j) r = 0 ∨ gR (laidA qs sh j) r = (rkI sh j r : Int) ∨ (inn qs sh j r ∧ gR (laidA qs sh j) r = gR qs j - (((rkRow sh j).take r.toNat).sum : Int)) := by
  have e := laid_clamp (j := j) hs hq h0 h1
  rcases clamp_cases (gR qs j) (((rkRow sh j).take r.toNat).sum : Int) (rkI sh j r : Int) with ⟨_, h | h⟩ | ⟨h2, h3, h⟩ | ⟨_, h⟩
  · exact .inl (e.trans h)
  · exact .inr (.inl (e.trans h))
  · refine .inr (.inr ⟨?_, e.trans h⟩)
    unfold inn
    rw [e, h]
    exact ⟨h2, h3⟩
  · exact .inr (.inl (e.trans h))
theorem inn_lay {m : Int} {qs : List Rat} {sh : List Dd} {j r : Int} (hs : ∀ x ∈ sh, x.Ok m) (hq : 0 ≤ gR qs j) (h0 : 0 ≤ r) (h1 : r < 3) (h : inn qs sh j r) : gR (laidA qs sh j) r = gR qs j - (((rkRow sh j).take r.toNat).sum : Int) := by
  rcases laid_ahead (j := j) hs hq h0 h1 with e | e | ⟨_, e⟩
  · have := h.1
    rw [e] at this
    exact absurd this (Rat.lt_irrefl)
  · have := h.2
    rw [e] at this
    exact absurd this (Rat.lt_irrefl)
  · exact e
theorem actM_eq {m : Int} {qs : List Rat} {sh : List Dd} {j r : Int} (hs : ∀ x ∈ sh, x.Ok m) (hq : 0 ≤ gR qs j) (h0 : 0 ≤ r) (h1 : r < 3) (h : inn qs sh j r) : actM qs sh j = rkI sh j r := by
  have a0 : (0 : Rat) ≤ (rkI sh j 0 : Int) := by exact_mod_cast rkI_nonneg hs
  have b0 : (0 : Rat) ≤ (rkI sh j 1 : Int) := by exact_mod_cast rkI_nonneg hs
  have e := inn_lay hs hq h0 h1 h
  have hp := h.1
  rw [e] at hp
  unfold actM
  rcases (show r = 0 ∨ r = 1 ∨ r = 2 by omega) with rfl | rfl | rfl
  · rw [if_pos h]
  · have n0 : ¬ inn qs sh j 0 := fun g => by
      have e2 := inn_lay hs hq (by decide) (by decide) g
      have g2 := g.2
      rw [e2] at g2
      have t1 : ((rkRow sh j).take (Int.toNat 1)).sum = rkI sh j 0 := by simp [rkRow]
      have t0 : ((rkRow sh j).take (Int.toNat 0)).sum = 0 := by simp [rkRow]
      rw [t1] at hp
      rw [t0] at g2
      grind
    rw [if_neg n0, if_pos h]
  · have t2 : ((rkRow sh j).take (Int.toNat 2)).sum = rkI sh j 0 + rkI sh j 1 := by simp [rkRow]
    rw [t2, Rat.intCast_add] at hp
    have n0 : ¬ inn qs sh j 0 := fun g => by
      have e2 := inn_lay hs hq (by decide) (by decide) g
      have g2 := g.2
      rw [e2] at g2
      have t0 : ((rkRow sh j).take (Int.toNat 0)).sum = 0 := by simp [rkRow]
      rw [t0] at g2
      grind
    have n1 : ¬ inn qs sh j 1 := fun g => by
      have e2 := inn_lay hs hq (by decide) (by decide) g
      have g2 := g.2
      rw [e2] at g2
      have t1 : ((rkRow sh j).take (Int.toNat 1)).sum = rkI sh j 0 := by simp [rkRow]
      rw [t1] at g2
      grind
    rw [if_neg n0, if_neg n1, if_pos h]
theorem actM_rng {m : Int} {qs : List Rat} {sh : List Dd} {j : Int} (hs : ∀ x ∈ sh, x.Ok m) : 1 ≤ actM qs sh j ∧ actM qs sh j ≤ 1 + (rkI sh j 0 + rkI sh j 1 + rkI sh j 2) := by
  have a0 : 0 ≤ rkI sh j 0 := rkI_nonneg hs
  have b0 : 0 ≤ rkI sh j 1 := rkI_nonneg hs
  have c0 : 0 ≤ rkI sh j 2 := rkI_nonneg hs
  have key : ∀ r, inn qs sh j r → 0 < rkI sh j r := fun r h => by
    have h2 := h.1
    have h3 := h.2
    have : (0 : Rat) < (rkI sh j r : Int) := by grind
    exact_mod_cast this
  unfold actM
  split
  · rename_i h
    have := key _ h
    omega
  · split
    · rename_i h
      have := key _ h
      omega
    · split
      · rename_i h
        have := key _ h
        omega
      · omega
theorem pay_wh {m D : Int} {qs : List Rat} {sh : List Dd} {x : Dd} (hs : ∀ x ∈ sh, x.Ok m) (hq : 0 ≤ gR qs x.a) (hx : x ∈ sh) (hD : Wh D (gR qs x.a)) : Wh (D * actM qs sh x.a) (payR qs sh x) := by
  have ho := hs x hx
  unfold Dd.Ok at ho
  rw [payR_eq]
  unfold shareF
  split
  · rw [Rat.zero_mul]
    exact Wh.zero
  · rename_i hm
    refine Wh.mulInt ?_
    rcases laid_ahead (j := x.a) hs hq ho.2.2.2.2.2.1 ho.2.2.2.2.2.2.1 with e | e | ⟨h, e⟩
    · rw [e]
      have : (0 : Rat) / (rkI sh x.a x.r : Int) = 0 := by grind
      rw [this]
      exact Wh.zero
    · rw [e]
      have hm2 : ((rkI sh x.a x.r : Int) : Rat) ≠ 0 := by exact_mod_cast hm
      have : ((rkI sh x.a x.r : Int) : Rat) / (rkI sh x.a x.r : Int) = ((1 : Int) : Rat) := by grind
      rw [this]
      exact Wh.int
    · rw [actM_eq hs hq ho.2.2.2.2.2.1 ho.2.2.2.2.2.2.1 h, e]
      exact (hD.sub Wh.int).divInt hm
end Ab

namespace Ab
open PySem
/-! ### what all pays together are made whole by -/
theorem Wh.self {q : Rat} : Wh (q.den : Int) q := ⟨q.num, (num_eq q).symm⟩
def prodI (f : Nat → Int) : Nat → Int
  | 0 => 1
  | n + 1 => prodI f n * f n
theorem prodI_dvd {f : Nat → Int} : ∀ {n k : Nat}, k < n → f k ∣ prodI f n
  | n + 1, k, h => by
    show f k ∣ prodI f n * f n
    by_cases e : k = n
    · subst e
      exact ⟨prodI f k, Int.mul_comm _ _⟩
    · obtain ⟨c, hc⟩ := prodI_dvd (f := f) (n := n) (k := k) (by omega)
      exact ⟨c * f n, by rw [hc, Int.mul_assoc]⟩
theorem prodI_up {f : Nat → Int} : ∀ {n k : Nat}, k ≤ n → prodI f k ∣ prodI f n
  | n, k, h => by
    induction n with
    | zero =>
      obtain rfl : k = 0 := by omega
      exact ⟨1, rfl⟩
    | succ n ih =>
      by_cases e : k = n + 1
      · subst e
        exact ⟨1, by rw [Int.mul_one]⟩
      · obtain ⟨c, hc⟩ := ih (by omega)
        exact ⟨c * f n, by show prodI f n * f n = _; rw [hc, Int.mul_assoc]⟩
theorem prodI_pos {f : Nat → Int} : ∀ {n : Nat}, (∀ k, k < n → 0 < f k) → 0 < prodI f n
  | 0, _ => (by show (0 : Int) < 1; decide)
  | n + 1, h => Int.mul_pos (prodI_pos fun k hk => h k (by omega)) (h n (by omega))
theorem prodI_size {f : Nat → Int} {b : Nat} : ∀ {n : Nat}, (∀ k, k < n → Sz b (f k)) → Sz (b * n + 1) (prodI f n)
  | 0, _ => by unfold Sz prodI; simp
  | n + 1, h => by
    have h1 := prodI_size (f := f) (b := b) (n := n) fun k hk => h k (by omega)
    have h2 := h n (by omega)
    have := h1.mul h2
    rw [show b * (n + 1) + 1 = b * n + 1 + b by rw [Nat.mul_succ]; omega]
    exact this
theorem Wh.sum {N : Int} {α : Type} {f : α → Rat} : ∀ {xs : List α}, (∀ x ∈ xs, Wh N (f x)) → Wh N (xs.map f).sum
  | [], _ => by
    simpa using Wh.zero
  | x :: xs, h => by
    rw [List.map_cons, List.sum_cons]
    exact (h x (by simp)).add (Wh.sum fun y hy => h y (by simp [hy]))
theorem gotP_wh {m N : Int} {qs : List Rat} {sh pre : List Dd} {j : Int} (hs : ∀ x ∈ sh, x.Ok m) (hp : ∀ x ∈ pre, x ∈ sh) (hq : ∀ k : Int, 0 ≤ k → k < m → 0 ≤ gR qs k) (hN : ∀ x ∈ pre, x.b = j → ∃ D : Int, Wh D (gR qs x.a) ∧ D * actM qs sh x.a ∣ N) : Wh N (gotP qs sh pre j) := by
  unfold gotP
  refine Wh.sum fun x hx => ?_
  split
  · rename_i e
    obtain ⟨D, h1, h2⟩ := hN x hx e
    have ho := hs x (hp x hx)
    unfold Dd.Ok at ho
    exact (pay_wh hs (hq _ ho.1 ho.2.1) (hp x hx) h1).dvd h2
  · exact Wh.zero
/-- all lays at once -/
theorem gotP_all {m : Int} {qs : List Rat} {sh pre : List Dd} {j : Int} (hs : ∀ x ∈ sh, x.Ok m) (hp : ∀ x ∈ pre, x ∈ sh) (hq : ∀ k : Int, 0 ≤ k → k < m → 0 ≤ gR qs k) : Wh (prodI (fun k => ((gR qs k).den : Int) * actM qs sh k) m.toNat) (gotP qs sh pre j) := gotP_wh hs hp hq fun x hx _ => by
  have ho := hs x (hp x hx)
  unfold Dd.Ok at ho
  refine ⟨((gR qs x.a).den : Int), Wh.self, ?_⟩
  have := prodI_dvd (f := fun k => ((gR qs k).den : Int) * actM qs sh k) (n := m.toNat) (k := x.a.toNat) (by omega)
  have e : ((x.a.toNat : Nat) : Int) = x.a := by omega
  rw [e] at this
  exact this
end Ab

namespace Ab
open PySem PySem.Spec PyProof.Rows L2

/-! ### objects -/
section
variable {K : PySem.W.Frag} {g : Gi} {H0 H : Hp} {r r' : List Addr} {S : Sto} {d : D} {v : V}
theorem relF_lookup {f : Str} {d : D} : ∀ {fs : List (Str × D)} {xs : List (Str × V)}, RelF K H0 r fs xs → fs.lookup f = some d → ∃ v, xs.lookup f = some v ∧ Rel K H0 r d v
  | [], _, _, e => by cases e
  | (x, y) :: fs, _, h, e => by
    obtain ⟨z, zs, rfl, h1, h2⟩ := h
    rw [List.lookup_cons] at e ⊢
    cases q : f == x with
    | true =>
      rw [q] at e
      cases e
      exact ⟨z, rfl, h1⟩
    | false =>
      rw [q] at e
      exact relF_lookup h2 e
theorem relF_none {f : Str} : ∀ {fs : List (Str × D)} {xs : List (Str × V)}, RelF K H0 r fs xs → fs.lookup f = none → xs.lookup f = none
  | [], _, h, _ => by
    cases (show _ = [] from h)
    rfl
  | (x, y) :: fs, _, h, e => by
    obtain ⟨z, zs, rfl, h1, h2⟩ := h
    rw [List.lookup_cons] at e ⊢
    cases q : f == x with
    | true => rw [q] at e; cases e
    | false =>
      rw [q] at e
      exact relF_none h2 e
theorem relF_len : ∀ {fs : List (Str × D)} {xs : List (Str × V)}, RelF K H0 r fs xs → xs.length = fs.length
  | [], _, h => by
    cases (show _ = [] from h)
    rfl
  | (x, y) :: fs, _, h => by
    obtain ⟨z, zs, rfl, h1, h2⟩ := h
    rw [List.length_cons, List.length_cons, relF_len h2]
def putD (f : Str) (d : D) : List (Str × D) → List (Str × D)
  | [] => [(f, d)]
  | (g, x) :: r => if g = f then (g, d) :: r else (g, x) :: putD f d r
theorem putD_rel {f : Str} (hd : Rel K H0 r d v) : ∀ {fs : List (Str × D)} {xs : List (Str × V)}, RelF K H0 r fs xs → RelF K H0 r (putD f d fs) (L2.putF f v xs)
  | [], _, h => by
    cases (show _ = [] from h)
    exact ⟨v, [], rfl, hd, rfl⟩
  | (x, y) :: fs, _, h => by
    obtain ⟨z, zs, rfl, h1, h2⟩ := h
    unfold putD L2.putF
    by_cases q : x = f
    · rw [if_pos q, if_pos q]
      exact ⟨v, zs, rfl, hd, h2⟩
    · rw [if_neg q, if_neg q]
      exact ⟨z, _, rfl, h1, putD_rel hd h2⟩
theorem obj_rel {n : Nat} {C : Str} {fs : List (Str × D)} (si : Sim K g H0 r S H) (h : Rel K H0 r (.cell n) v) (e : S[n]? = some (.obj C fs)) :
    ∃ p dx xs, v = .ref p ∧ r[n]? = some p ∧ H0 p = none ∧ H p = some (.ins (g.cl C) dx xs) ∧ RelF K H0 r fs xs := by
  unfold Rel at h
  obtain ⟨p, rfl, hr⟩ := h
  obtain ⟨h0, dx, ys, h1, h2⟩ := si.cel n p _ hr e
  exact ⟨p, dx, ys, rfl, hr, h0, h1, h2⟩
end
section
variable {X : Cx} {g : Gi} {W : WX} {e o value : Expr} {es : List Expr} {pos cpos apos pos' p : Pos} {we wo wv : WE} {ws : WA}
def kFld (C f : Str) (k : KD) : D → Sto → Prop := fun (x0 : HG D) x1 => match x0, x1 with
  | .cell n, S => ∃ fs d, S[n]? = some (.obj C fs) ∧ fs.lookup f = some d ∧ k d S
  | _, _ => False
def wFld (C f : Str) (we : WE) : WE := fun (xc : HG XE) s S k => we xc s S (kFld C f k)
theorem se_fld {C f : Str} (c : Cls X.K (g.cl C)) (n : NoAttr X.K (g.cl C) f) (he : SE X g W e we) (hb : attributeBase e f X.env (eval e X.env) = eval e X.env := by rfl) : SE X g W (.Attribute e f pos) (wFld C f we) := by
  obtain ⟨te, pe, ge⟩ := he
  refine ⟨_, pe_fld pe hb, fun H0 r S H s sv Q k xc si rs h ce cx => ?_⟩
  refine ge H0 r S H s sv _ _ xc si rs h (fun d v H1 r1 S1 H1' f1 s1 rl h1 => ?_) cx
  unfold kFld at h1
  split at h1
  · obtain ⟨fs, d, e1, e2, hk⟩ := h1
    obtain ⟨p, dx, xs, rfl, q1, q2, q3, q4⟩ := obj_rel s1 rl e1
    obtain ⟨u, l1, l2⟩ := relF_lookup q4 e2
    exact ⟨p, _, dx, xs, u, rfl, q3, c, n, l1, ce _ _ _ _ _ _ f1 s1 l2 hk⟩
  · exact h1.elim
def kSetF (C f : Str) (d : D) (nx : Sto → Prop) : D → Sto → Prop := fun (x0 : HG D) x1 => match x0, x1 with
  | .cell n, S => ∃ fs, S[n]? = some (.obj C fs) ∧ fs.length < 1000 ∧ nx (S.set n (.obj C (putD f d fs)))
  | _, _ => False
def wSetF (C f : Str) (wv wo : WE) : WS := fun (D : HG Kd) s S => wv D.xc s S fun d S1 => wo D.xc s S1 fun y S2 => kSetF C f d (D.nx s) y S2
theorem ss_setF {C f : Str} (c : Cls X.K (g.cl C)) (n : NoAttr X.K (g.cl C) f) (hv : SE X g W value wv) (ho : SE X g W o wo) (hs : swapsWith value (some (.Attribute o f pos')) pos.line X.env = pure false := by rfl) :
    SS X g W (.Assign [.Attribute o f pos'] value pos) (wSetF C f wv wo) := by
  obtain ⟨tv, pv, gv⟩ := hv
  obtain ⟨to, po, go⟩ := ho
  refine ⟨_, ps_fld po pv hs, fun H0 r S H s sv Dk Dv si rs h ct => ?_⟩
  refine gv H0 r S H s sv _ _ _ si rs h (fun d v H1 r1 S1 H1' f1 s1 rl h1 => ?_) (ct.x rs)
  refine go H1 r1 S1 H1' s sv _ _ _ s1 (rs.fut f1) h1 (fun y u H2 r2 S2 H2' f2 s2 rl2 h2 => ?_) ((ct.x rs).fut f1 s1)
  unfold kSetF at h2
  split at h2
  · obtain ⟨fs, e1, hl, hk⟩ := h2
    obtain ⟨p, dx, xs, rfl, q1, q2, q3, q4⟩ := obj_rel s2 rl2 e1
    have f12 := f1.tr s1 f2
    have q5 := putD_rel (f := f) (rl.fut f2) q4
    refine ⟨p, _, dx, xs, rfl, q3, c, n, by rw [relF_len q4]; exact hl, ?_⟩
    obtain ⟨s3, f3⟩ := s2.write (o := .ins (g.cl C) dx (L2.putF f v xs)) (c' := .obj C (putD f d fs)) q1 e1 q2 fun H' e' => ⟨q2, dx, _, e', q5⟩
    exact ct.1 _ _ _ _ _ _ (f12.tr s2 f3) s3 (rs.fut (f12.tr s2 f3)) hk
  · exact h2.elim
/-! calls of methods -/
def isO (C m : Str) : D → Sto → Prop := fun (x0 : HG D) x1 => match x0, x1 with
  | .cell n, S => ∃ fs, S[n]? = some (.obj C fs) ∧ fs.lookup m = none
  | _, _ => False
def wMeth (C m : Str) (wf : WF) (wo : WE) (ws : WA) : WE := fun (xc : HG XE) s S k => wo xc s S fun o S1 => isO C m o S1 ∧ ws xc s S1 fun ds S2 => wf (o :: ds) S2 k fun c S3 => xc c s S3
def tMethE (C : Addr) (m : Str) (sp : Sp) (E : L2.St → XK) (ta : TE) (t : TA) : TE := fun σ H Q => ta σ H fun x H1 => ∃ a dx fs, x = .ref a ∧ H1 a = some (.ins C dx fs) ∧ fs.lookup m = none ∧ t σ H1 fun vs H2 => sp (x :: vs) H2 Q (E σ)
/-- the tree of a call of a method -/
def methTree (X : Cx) (o : Expr) (m : Str) (pl : Sem Bool) (ap cp : Pos) (xs : List Expr) : Sem Value :=
  eval o X.env >>= fun ov => standAt ap.atName >>= fun _ => holding [ov] (getMethod ov m pl) >>= fun
    | (g, hd) => callWith cp g hd (backTo cp (starEach xs X.env)) (backToKw cp (keywordEach [] X.env))
theorem pe_methE {CX : CXT} {k : Nat} {f C : Addr} {m : Str} {fd : FuncData} {ps : List Str} {sp : Sp} {E : L2.St → XK} {ta : TE} {t : TA} {pl : Sem Bool} (fn : FnOk X.prog X.w X.K X.mg X.base CX k f fd ps sp) (room : Room k X.A) (bd : Binds X.K fd ps []) (pass : ∀ σ, PassesAt CX X σ (E σ)) (cls : Cls X.K C) (met : Meth X.K C m f) (obj : PE X o ta) (args : PA X (e :: es) t)
    (h1 : starEach (e :: es) X.env = (false, eval e X.env) :: starEach es X.env := by rfl) (h2 : (backTo pos (starEach es X.env)).any (·.1) = false := by rfl) (tree : eval (.Call (.Attribute o m apos) (e :: es) [] pos) X.env = methTree X o m pl apos pos (e :: es) := by rfl) :
    PE X (.Call (.Attribute o m apos) (e :: es) [] pos) (tMethE C m sp E ta t) := by
  constructor
  intro pn s0 env hp goal inv hyp
  refine PySem.W.methodCall_KW (pl := pl) (he := tree) (thn (obj.run pn s0 env hp _ inv hyp) ?_)
  rintro v0 s1 ⟨ov, hp1, inv1, rov, ad, dct, flds, rfl, here, noF, cont⟩
  have e0 : v0 = Value.ref ad := rov
  rw [e0]
  refine getmeth_ok inv1 here cls met noF ?_
  have ran := args.run pos pn s1 env hp1 _ inv1 cont
  refine PySem.W.callWith_K (first := [.ref ad]) (h₀ := X.base) inv1.ok.mod.kin met.kp (thn ran ?_) h1 h2
  rintro ws s2 ⟨vs, hp2, inv2, rel, spd⟩
  have all : Vals (V.ref ad :: vs) (Value.ref ad :: ws) := .cons rfl rel
  exact ⟨inv2.kIn, run_fnS fn room bd (pass env) inv2 all spd⟩
theorem pe_methE0 {CX : CXT} {k : Nat} {f C : Addr} {m : Str} {fd : FuncData} {ps : List Str} {sp : Sp} {E : L2.St → XK} {ta : TE} {pl : Sem Bool} (fn : FnOk X.prog X.w X.K X.mg X.base CX k f fd ps sp) (room : Room k X.A) (bd : Binds X.K fd ps []) (pass : ∀ σ, PassesAt CX X σ (E σ)) (cls : Cls X.K C) (met : Meth X.K C m f) (obj : PE X o ta)
    (tree : eval (.Call (.Attribute o m apos) [] [] pos) X.env = methTree X o m pl apos pos [] := by rfl) :
    PE X (.Call (.Attribute o m apos) [] [] pos) (tMethE C m sp E ta tNil) := by
  constructor
  intro pn s0 env hp goal inv hyp
  refine PySem.W.methodCall_KW (pl := pl) (he := tree) (thn (obj.run pn s0 env hp _ inv hyp) ?_)
  rintro v0 s1 ⟨ov, hp1, inv1, rov, ad, dct, flds, rfl, here, noF, cont⟩
  have e0 : v0 = Value.ref ad := rov
  rw [e0]
  refine getmeth_ok inv1 here cls met noF ?_
  have all : Vals [V.ref ad] [Value.ref ad] := .cons rfl .nil
  exact PySem.W.callWith_K0 (first := [.ref ad]) inv1.kIn met.kp (run_fnS fn room bd (pass env) inv1 all cont)
theorem meth_good {C m : Str} {k np : Nat} {f : Addr} {fd : FuncData} {ps : List Str} {wf : WF} {to : TE} {ta : TA} (hl : ∀ ds S kk xk, wf ds S kk xk → ds.length = np) (go : GoodE X g W to wo) (ga : GoodA X g W ta ws) :
    GoodE X g W (tMethE (g.cl C) m (spW X.K g np wf) (L2.WE W) to ta) (wMeth C m wf wo ws) := by
  intro H0 r S H s sv Q k xc si rs h ce cx
  refine go H0 r S H s sv _ _ xc si rs h (fun d v H1 r1 S1 H1' f1 s1 rl h1 => ?_) cx
  obtain ⟨h1, h2⟩ := h1
  unfold isO at h1
  split at h1
  · obtain ⟨fs, e1, e2⟩ := h1
    obtain ⟨p, dx, xs, rfl, q1, q2, q3, q4⟩ := obj_rel s1 rl e1
    refine ⟨p, dx, xs, rfl, q3, relF_none q4 e2, ?_⟩
    refine ga H1 r1 S1 H1' s sv _ _ xc s1 (rs.fut f1) h2 (fun ds vs H2 r2 S2 H2' f2 s2 rl2 h3 => ?_) (cx.fut f1 s1)
    have rl3 := Rels.cons (rl.fut f2) rl2
    have f12 := f1.tr s1 f2
    refine ⟨by rw [rl3.length]; exact hl _ _ _ _ h3, H2, r2, S2, _, _, _, s2, rl3, h3, ce.fut f12 s2, fun c H3 r3 S3 H3' f3 s3 q => ?_⟩
    exact cx _ _ _ _ _ (f12.tr s2 f3) s3 q
  · exact h1.elim
theorem se_meth {C m : Str} {k np : Nat} {f : Addr} {fd : FuncData} {ps : List Str} {wf : WF} {pl : Sem Bool} (F : FnOk X.prog X.w X.K X.mg X.base (L2.CX X.prog X.w) k f fd ps (spW X.K g np wf)) (hl : ∀ ds S kk xk, wf ds S kk xk → ds.length = np)
    (hr : Room k X.A) (c : Cls X.K (g.cl C)) (hm : Meth X.K (g.cl C) m f) (hb : Binds X.K fd ps []) (tk : Takes X W) (ho : SE X g W o wo) (ha : SA X g W (e :: es) ws)
    (h1 : starEach (e :: es) X.env = (false, eval e X.env) :: starEach es X.env := by rfl) (h2 : (backTo pos (starEach es X.env)).any (·.1) = false := by rfl) (tree : eval (.Call (.Attribute o m apos) (e :: es) [] pos) X.env = methTree X o m pl apos pos (e :: es) := by rfl) :
    SE X g W (.Call (.Attribute o m apos) (e :: es) [] pos) (wMeth C m wf wo ws) := by
  obtain ⟨to, po, go⟩ := ho
  obtain ⟨ta, pa, ga⟩ := ha
  exact ⟨_, pe_methE (pl := pl) F hr hb (fun σ => passAt tk σ) c hm po pa h1 h2 tree, meth_good (k := k) (f := f) (fd := fd) (ps := ps) hl go ga⟩
theorem se_meth0 {C m : Str} {k np : Nat} {f : Addr} {fd : FuncData} {ps : List Str} {wf : WF} {pl : Sem Bool} (F : FnOk X.prog X.w X.K X.mg X.base (L2.CX X.prog X.w) k f fd ps (spW X.K g np wf)) (hl : ∀ ds S kk xk, wf ds S kk xk → ds.length = np)
    (hr : Room k X.A) (c : Cls X.K (g.cl C)) (hm : Meth X.K (g.cl C) m f) (hb : Binds X.K fd ps []) (tk : Takes X W) (ho : SE X g W o wo) (tree : eval (.Call (.Attribute o m apos) [] [] pos) X.env = methTree X o m pl apos pos [] := by rfl) :
    SE X g W (.Call (.Attribute o m apos) [] [] pos) (wMeth C m wf wo wNil) := by
  obtain ⟨to, po, go⟩ := ho
  exact ⟨_, pe_methE0 (pl := pl) F hr hb (fun σ => passAt tk σ) c hm po tree, meth_good (k := k) (f := f) (fd := fd) (ps := ps) hl go fun _ _ _ _ _ _ _ _ _ si _ h ce _ => ce _ _ _ _ _ _ .refl si .nil h⟩
/-! a new object -/
def tMakeE (C : Addr) (sp : Sp) (E : L2.St → XK) (t : TA) : TE := fun σ H goal => t σ H fun vs H1 => ∀ ob dct, H1 ob = none → H1 dct = none → dct ≠ ob → sp (.ref ob :: vs) (upd (upd H1 dct (.own ob)) ob (.ins C dct [])) (fun v H2 => v = .non ∧ goal (.ref ob) H2) (E σ)
theorem run_makeE {CX : CXT} {k : Nat} {f C : Addr} {fd : FuncData} {ps : List Str} {sp : Sp} {E : L2.St → XK} {pn : List (Addr × Obj)} {env : L2.St} {hp : Hp} {s0 : Shared} {goal : VK} {ws : List Value} {vs : List V} (mk : Mk X.K C f) (fn : FnOk X.prog X.w X.K X.mg X.base CX k f fd ps sp) (room : Room (k + 1) X.A) (bd : Binds X.K fd ps [])
    (pass : PassesAt CX X env (E env)) (inv : Inv X pn env hp s0) (rel : Vals vs ws) (hyp : ∀ ob dct, hp ob = none → hp dct = none → dct ≠ ob → sp (.ref ob :: vs) (upd (upd hp dct (.own ob)) ob (.ins C dct [])) (fun v H2 => v = .non ∧ goal (.ref ob) H2) (E env)) :
    wpAny (model X.prog X.w) X.A (call (.ref C) ws) (EP X pn env goal) X.xe s0 := by
  have inv2 := Inv.made (C := C) inv
  have spd := hyp _ _ (inv.hok.fresh (Nat.le_succ _)) (inv.hok.fresh (Nat.le_refl _)) (Nat.ne_of_lt (Nat.lt_succ_self s0.heap.objs.size))
  have all : Vals (V.ref (s0.heap.objs.size + 1) :: vs) (Value.ref (s0.heap.objs.size + 1) :: ws) := .cons rfl rel
  have len : (Value.ref (s0.heap.objs.size + 1) :: ws ++ []).length = ps.length := by
    rw [List.append_nil, ← all.length]
    exact fn.len _ _ _ _ spd
  have bnd := bd _ _ inv2.kIn len
  rw [List.append_nil] at bnd
  have ran := fn.run _ X.stack _ _ ⟨_ :: ws, []⟩ _ _ _ _ (room.make C ws []) (inv2.env0.make C ws []) bnd all spd
  refine wpAny_call (make_map (f := f) inv.kIn mk.makes mk.init (beq_iff_eq.mp mk.fn) (codeAny_mono ran ?_))
  intro res s1 hres
  match res, hres with
  | .error x, hx => exact pass pn _ _ x s1 inv2 hx
  | .ok (.ret u), hv =>
    obtain ⟨v, hp3, inv3, rv, ev, fin⟩ := inv2.after hv
    subst ev
    exact ⟨rv, ⟨V.ref (s0.heap.objs.size + 1), hp3, inv3, rfl, fin⟩⟩
  | .ok .next, hv => exact hv.elim
  | .ok .brk, hv => exact hv.elim
  | .ok .cont, hv => exact hv.elim
theorem pe_makeE {CX : CXT} {k : Nat} {f C : Addr} {fd : FuncData} {ps : List Str} {sp : Sp} {E : L2.St → XK} {x : Str} {t : TA} (mk : Mk X.K C f) (fn : FnOk X.prog X.w X.K X.mg X.base CX k f fd ps sp) (room : Room (k + 1) X.A) (bd : Binds X.K fd ps []) (pass : ∀ σ, PassesAt CX X σ (E σ)) (gl : Gl X x) (gm : X.mg x = some (.ref C))
    (args : PA X (e :: es) t) (nd : (x == ("__debug__" : Str)) = false := by decide) (h1 : starEach (e :: es) X.env = (false, eval e X.env) :: starEach es X.env := by rfl) (h2 : (backTo pos (starEach es X.env)).any (·.1) = false := by rfl) :
    PE X (.Call (.Name x p) (e :: es) [] pos) (tMakeE C sp E t) := by
  constructor
  intro pn s0 env hp goal inv hyp
  refine wpAny_Call_Name_kw (ld_glob inv gl gm ?_ nd)
  have ran := args.run pos pn s0 env hp _ inv hyp
  refine PySem.W.callWith_K (h₀ := X.base) inv.ok.mod.kin mk.kp (thn ran ?_) h1 h2
  rintro ws s2 ⟨vs, hp2, inv2, rel, spd⟩
  exact ⟨inv2.kIn, run_makeE mk fn room bd (pass env) inv2 rel spd⟩
def wMake (C : Str) (wf : WF) (ws : WA) : WE := fun (xc : HG XE) s S k => ws xc s S fun ds S1 => wf (.cell S1.length :: ds) (S1 ++ [.obj C []]) (fun d S2 => d = .non ∧ k (.cell S1.length) S2) fun c S3 => xc c s S3
theorem Sim.newObj {K : PySem.W.Frag} {H0 H : Hp} {r : List Addr} {S : Sto} {C : Str} {x dx : Addr} (si : Sim K g H0 r S H) (hx : H x = none) (hd : H dx = none) (ne : dx ≠ x) :
    Sim K g H0 (r ++ [x]) (S ++ [.obj C []]) (upd (upd H dx (.own x)) x (.ins (g.cl C) dx [])) ∧ Fut H0 r H H0 (r ++ [x]) (upd (upd H dx (.own x)) x (.ins (g.cl C) dx [])) ∧ Rel K H0 (r ++ [x]) (.cell S.length) (.ref x) := by
  obtain ⟨s1, f1⟩ := si.junk (o := .own x) hd
  obtain ⟨s2, f2⟩ := s1.new (p := x) (o := .ins (g.cl C) dx []) (c := .obj C []) (by rw [upd_ne (Ne.symm ne)]; exact hx) fun H' e' => ⟨si.ex.none hx, dx, [], e', rfl⟩
  refine ⟨s2, f1.tr s1 f2, ?_⟩
  unfold Rel
  exact ⟨x, rfl, by rw [← si.len, List.getElem?_append_right (Nat.le_refl _), Nat.sub_self]; rfl⟩
theorem se_make {x C : Str} {k np : Nat} {f : Addr} {fd : FuncData} {ps : List Str} {wf : WF} (M : Mk X.K (g.cl C) f) (F : FnOk X.prog X.w X.K X.mg X.base (L2.CX X.prog X.w) k f fd ps (spW X.K g np wf)) (hl : ∀ ds S kk xk, wf ds S kk xk → ds.length = np)
    (hr : Room (k + 1) X.A) (hg : Gl X x) (hm : X.mg x = some (.ref (g.cl C))) (hb : Binds X.K fd ps []) (tk : Takes X W) (ha : SA X g W (e :: es) ws) (hdb : (x == ("__debug__" : Str)) = false := by decide)
    (he : starEach (e :: es) X.env = (false, eval e X.env) :: starEach es X.env := by rfl) (hpl : (backTo pos (starEach es X.env)).any (·.1) = false := by rfl) :
    SE X g W (.Call (.Name x p) (e :: es) [] pos) (wMake C wf ws) := by
  obtain ⟨ta, pa, ga⟩ := ha
  refine ⟨_, pe_makeE M F hr hb (fun σ => passAt tk σ) hg hm pa hdb he hpl, fun H0 r S H s sv Q k xc si rs h ce cx => ?_⟩
  refine ga H0 r S H s sv _ _ xc si rs h (fun ds vs H1 r1 S1 H1' f1 s1 rl h1 => ?_) cx
  intro x dx hx hd ne
  obtain ⟨s2, f2, rx⟩ := s1.newObj (C := C) hx hd ne
  have rl2 := Rels.cons rx (rl.fut f2)
  have f12 := f1.tr s1 f2
  refine ⟨by rw [rl2.length]; exact hl _ _ _ _ h1, H1, _, _, _, _, _, s2, rl2, h1, fun d v H3 r3 S3 H3' f3 s3 rl3 h3 => ?_, fun c H3 r3 S3 H3' f3 s3 q => ?_⟩
  · obtain ⟨e1, h3⟩ := h3
    subst e1
    exact ⟨rel_non rl3, ce _ _ _ _ _ _ (f12.tr s2 f3) s3 (rx.fut f3) h3⟩
  · exact cx _ _ _ _ _ (f12.tr s2 f3) s3 q
end

/-! ### cells made meanwhile are dropped -/
mutual
def D.clo (n : Nat) : D → Bool
  | .tup xs => cloAll n xs
  | .lst xs => cloAll n xs
  | .scr xs => cloAll n xs
  | .cell m => decide (m < n)
  | _ => true
def cloAll (n : Nat) : List D → Bool
  | [] => true
  | x :: xs => x.clo n && cloAll n xs
end
section
variable {K : PySem.W.Frag} {g : Gi} {H0 H : Hp} {r r' : List Addr} {S : Sto} {d : D} {v : V}
mutual
theorem Rel.clo (p : r <+: r') : ∀ {d : D} {v : V}, d.clo r.length = true → Rel K H0 r' d v → Rel K H0 r d v
  | .non, _, _, h => by unfold Rel at h ⊢; exact h
  | .bl _, _, _, h => by unfold Rel at h ⊢; exact h
  | .int _, _, _, h => by unfold Rel at h ⊢; exact h
  | .str _, _, _, h => by unfold Rel at h ⊢; exact h
  | .tup ds, _, c, h => by
    unfold Rel at h ⊢
    obtain ⟨a, xs, rfl, h1, h2⟩ := h
    exact ⟨a, xs, rfl, h1, Rels.clo p (by unfold D.clo at c; exact c) h2⟩
  | .lst ds, _, c, h => by
    unfold Rel at h ⊢
    obtain ⟨a, xs, rfl, h1, h2⟩ := h
    exact ⟨a, xs, rfl, h1, Rels.clo p (by unfold D.clo at c; exact c) h2⟩
  | .scr ds, _, c, h => by
    unfold Rel at h ⊢
    obtain ⟨a, xs, rfl, h1, h2⟩ := h
    exact ⟨a, xs, rfl, h1, Rels.clo p (by unfold D.clo at c; exact c) h2⟩
  | .cell n, _, c, h => by
    unfold Rel at h ⊢
    obtain ⟨a, rfl, h1⟩ := h
    refine ⟨a, rfl, ?_⟩
    have hn : n < r.length := by
      unfold D.clo at c
      exact of_decide_eq_true c
    rw [← pre_back p hn]
    exact h1
  | .exn ..,  _, _, h => by unfold Rel at h ⊢; exact h
theorem Rels.clo (p : r <+: r') : ∀ {ds : List D} {vs : List V}, cloAll r.length ds = true → Rels K H0 r' ds vs → Rels K H0 r ds vs
  | [], _, _, h => by rw [h.unnil]; exact Rels.nil
  | d :: ds, _, c, h => by
    unfold cloAll at c
    rw [Bool.and_eq_true] at c
    obtain ⟨y, ys, rfl, h1, h3⟩ := h.uncons
    exact Rels.cons (Rel.clo p c.1 h1) (Rels.clo p c.2 h3)
end
mutual
theorem clo_pure {n : Nat} : ∀ {d : D}, d.pure = true → d.clo n = true
  | .non, _ => by unfold D.clo; rfl
  | .bl _, _ => by unfold D.clo; rfl
  | .int _, _ => by unfold D.clo; rfl
  | .str _, _ => by unfold D.clo; rfl
  | .tup ds, h => by unfold D.clo; exact cloAll_pure (by unfold D.pure at h; exact h)
  | .lst ds, h => by unfold D.clo; exact cloAll_pure (by unfold D.pure at h; exact h)
  | .scr ds, h => by unfold D.clo; exact cloAll_pure (by unfold D.pure at h; exact h)
  | .cell n, h => by unfold D.pure at h; cases h
  | .exn .., h => by unfold D.pure at h; cases h
theorem cloAll_pure {n : Nat} : ∀ {ds : List D}, pureAll ds = true → cloAll n ds = true
  | [], _ => by unfold cloAll; rfl
  | d :: ds, h => by
    unfold pureAll at h
    rw [Bool.and_eq_true] at h
    unfold cloAll
    rw [clo_pure h.1, cloAll_pure h.2]
    rfl
end
def Cel.clo (n : Nat) : Cel → Bool
  | .lst xs => cloAll n xs
  | .obj _ fs => fs.all fun f => f.2.clo n
  | .dk kvs => kvs.all fun f => f.2.clo n
  | .dt kvs => kvs.all fun f => f.2.clo n
  | .dkf _ _ kvs => kvs.all fun f => f.2.clo n
  | .dtf _ _ kvs => kvs.all fun f => f.2.clo n
  | .tab _ _ => true
  | .dead => true
theorem RelF.clo (p : r <+: r') : ∀ {fs : List (Str × D)} {xs : List (Str × V)}, (fs.all fun f => f.2.clo r.length) = true → RelF K H0 r' fs xs → RelF K H0 r fs xs
  | [], _, _, h => h
  | (f, d) :: fs, _, c, h => by
    obtain ⟨y, ys, rfl, h1, h2⟩ := h
    rw [List.all_cons, Bool.and_eq_true] at c
    exact ⟨y, ys, rfl, h1.clo p c.1, RelF.clo p c.2 h2⟩
theorem RelK.clo {κ : Type} (p : r <+: r') : ∀ {fs : List (κ × D)} {xs : List (κ × V)}, (fs.all fun f => f.2.clo r.length) = true → RelK K H0 r' fs xs → RelK K H0 r fs xs
  | [], _, _, h => h
  | (f, d) :: fs, _, c, h => by
    obtain ⟨y, ys, rfl, h1, h2⟩ := h
    rw [List.all_cons, Bool.and_eq_true] at c
    exact ⟨y, ys, rfl, h1.clo p c.1, RelK.clo p c.2 h2⟩
theorem CelOk.clo {a : Addr} {c : Cel} (p : r <+: r') (hc : c.clo r.length = true) (h : CelOk K g H0 r' H a c) : CelOk K g H0 r H a c := by
  cases c with
  | lst ds =>
    obtain ⟨q, xs, h1, h2⟩ := h
    exact ⟨q, xs, h1, h2.clo p hc⟩
  | obj C fs =>
    obtain ⟨q, dx, xs, h1, h2⟩ := h
    exact ⟨q, dx, xs, h1, h2.clo p hc⟩
  | dk kvs =>
    obtain ⟨q, xs, h1, h2⟩ := h
    exact ⟨q, xs, h1, h2.clo p hc⟩
  | dt kvs =>
    obtain ⟨q, xs, h1, h2⟩ := h
    exact ⟨q, xs, h1, h2.clo p hc⟩
  | dkf o xs kvs =>
    obtain ⟨q, h1, h2⟩ := h
    exact ⟨q, h1, h2.clo p hc⟩
  | dtf o xs kvs =>
    obtain ⟨q, h1, h2⟩ := h
    exact ⟨q, h1, h2.clo p hc⟩
  | tab P q => exact h
  | dead => trivial
/-- the old cells stand as they were, or speak of old cells alone -/
def Kept (S S' : Sto) : Prop := S.length ≤ S'.length ∧ ∀ (i : Nat) (c : Cel), i < S.length → S'[i]? = some c → S[i]? = some c ∨ c.clo S.length = true
theorem Sim.trimM {H0' H' : Hp} {S' : Sto} (si : Sim K g H0 r S H) (f : Fut H0 r H H0' r' H') (s : Sim K g H0' r' S' H') (hk : Kept S S') : Sim K g H0' r (S'.take S.length) H' ∧ Fut H0 r H H0' r H' := by
  have hl : (S'.take S.length).length = S.length := by rw [List.length_take]; exact Nat.min_eq_left hk.1
  refine ⟨⟨s.ex, by rw [hl]; exact si.len, si.nd, fun a ha => s.there a (f.pre.subset ha), fun n a c e1 e2 => ?_⟩, ⟨f.ext, List.prefix_refl _, f.keep, fun a h1 h2 => absurd h1 h2, f.newF⟩⟩
  have hn : n < S.length := by
    have := (List.getElem?_eq_some_iff.mp e2).1
    omega
  rw [List.getElem?_take_of_lt hn] at e2
  have h2 := s.cel n a c (pre_get f.pre e1) e2
  rcases hk.2 n c hn e2 with q | q
  · exact (si.cel n a c e1 q).back f.pre h2
  · rw [← si.len] at q
    exact h2.clo f.pre q
end
def wTrimM (wf : WF) : WF := fun (ds : HG (List D)) S k xk => wf ds S (fun d S' => d.clo S.length = true ∧ Kept S S' ∧ k d (S'.take S.length)) (fun c S' => Kept S S' ∧ xk c (S'.take S.length))
theorem fn_trimM {P : Program} {w0 : World} {K : PySem.W.Frag} {g : Gi} {mg : Str → Option Value} {base : Heap} {CX : CXT} {k np : Nat} {f : Addr} {fd : FuncData} {ps : List Str} {wf : WF} (F : FnOk P w0 K mg base CX k f fd ps (spW K g np wf)) : FnOk P w0 K mg base CX k f fd ps (spW K g np (wTrimM wf)) :=
  F.imp fun vs H Q E h => by
    obtain ⟨h1, H0, r, S, ds, kk, xk, si, rl, hw, ce, cx⟩ := h
    refine ⟨h1, H0, r, S, ds, _, _, si, rl, hw, fun d v H0' r' S' H' f' s' rl' q => ?_, fun c H0' r' S' H' f' s' q => ?_⟩
    · obtain ⟨q1, q2, q3⟩ := q
      obtain ⟨s2, f2⟩ := si.trimM f' s' q2
      rw [← si.len] at q1
      exact ce _ _ _ _ _ _ f2 s2 (rl'.clo f'.pre q1) q3
    · obtain ⟨q2, q3⟩ := q
      obtain ⟨s2, f2⟩ := si.trimM f' s' q2
      exact cx _ _ _ _ _ f2 s2 q3
end Ab

namespace Ab
open PySem
/-! ### divisions of great numbers -/
theorem CDivX.ofTop {a b : Int} (ha : Sz 13400 a) (h0 : b ≠ 0) : CDivX a b := by
  refine ⟨h0, ?_⟩
  unfold Builtin.divisionGoesByPylong
  have h1 := ha.log2 (by decide)
  rw [Bool.and_eq_false_iff]
  by_cases c : (if (b == 0) = true then 0 else b.natAbs.log2 / 30 + 1) > 300
  · right
    rw [decide_eq_false_iff_not]
    dsimp only at c ⊢
    split <;> omega
  · left
    rw [decide_eq_false_iff_not]
    exact c
theorem log2_mul {x y k : Nat} (hy : y < 2 ^ k) (h0 : x * y ≠ 0) : (x * y).log2 < x.log2 + 1 + k := by
  have hx : x ≠ 0 := fun e => h0 (by rw [e, Nat.zero_mul])
  refine (Nat.log2_lt h0).mpr ?_
  have h1 : x < 2 ^ (x.log2 + 1) := (Nat.log2_lt hx).mp (Nat.lt_succ_self _)
  rw [Nat.pow_add]
  exact Nat.mul_lt_mul'' h1 hy
theorem CDivX.quo {a d q : Int} (h : a = d * q) (h0 : d ≠ 0) (hq : Sz 4000 q) : CDivX a d := by
  refine ⟨h0, ?_⟩
  unfold Builtin.divisionGoesByPylong
  rw [Bool.and_eq_false_iff]
  right
  rw [decide_eq_false_iff_not]
  have e : a.natAbs = d.natAbs * q.natAbs := by rw [h, Int.natAbs_mul]
  have d1 : (d == 0) = false := by simpa using h0
  by_cases a0 : a = 0
  · have : (a == 0) = true := by simpa using a0
    simp only [this, if_true]
    omega
  · have a1 : (a == 0) = false := by simpa using a0
    have := log2_mul (x := d.natAbs) hq (by rw [← e]; omega)
    rw [← e] at this
    simp only [a1, d1, Bool.false_eq_true, if_false]
    omega
/-! ### payments, by lays -/
theorem clampR_nonneg {q ah most : Rat} (h : 0 ≤ most) : 0 ≤ clampR q ah most := by
  unfold clampR
  split <;> split <;> grind
theorem clampR_le {q ah most : Rat} : clampR q ah most ≤ most := by
  unfold clampR
  split <;> split <;> grind
theorem clampR_mono {p q ah most : Rat} (h : q ≤ p) : clampR q ah most ≤ clampR p ah most := by
  unfold clampR
  grind
def ahI (sh : List Dd) (j r : Int) : Int := ((rkRow sh j).take r.toNat).sum
section
variable {m : Int} {sh pre : List Dd} {qs ps : List Rat} {x : Dd} {j r : Int}
theorem payR_clamp (hs : ∀ x ∈ sh, x.Ok m) (hx : x ∈ sh) (hq : 0 ≤ gR qs x.a) (h0 : rkI sh x.a x.r ≠ 0) : payR qs sh x = clampR (gR qs x.a) (ahI sh x.a x.r : Int) (rkI sh x.a x.r : Int) * (x.c : Int) / (rkI sh x.a x.r : Int) := by
  have ho := hs x hx
  unfold Dd.Ok at ho
  unfold payR
  rw [if_neg h0, laid_clamp hs hq (by omega) (by omega), divInt_eq]
  unfold ahI
  grind
theorem payR_nil (h0 : rkI sh x.a x.r = 0) : payR qs sh x = 0 := by
  unfold payR
  rw [if_pos h0]
theorem rdiv_mono {a b c : Rat} (hc : 0 < c) (h : a ≤ b) : a / c ≤ b / c := by
  refine rdiv_le hc ?_
  have : b / c * c = b := by grind
  rw [this]
  exact h
theorem payR_nonneg (hs : ∀ x ∈ sh, x.Ok m) (hx : x ∈ sh) (hq : 0 ≤ gR qs x.a) : 0 ≤ payR qs sh x := by
  by_cases h0 : rkI sh x.a x.r = 0
  · rw [payR_nil h0]; exact Rat.le_refl
  · rw [payR_clamp hs hx hq h0]
    have n0 := rkI_nonneg hs (j := x.a) (r := x.r)
    have ho := hs x hx
    unfold Dd.Ok at ho
    have n1 : (0 : Rat) < (rkI sh x.a x.r : Int) := by exact_mod_cast (show 0 < rkI sh x.a x.r by omega)
    have n2 : (0 : Rat) ≤ (x.c : Int) := by exact_mod_cast ho.2.2.2.2.2.2.2.1
    exact rdiv_nonneg (Rat.mul_nonneg (clampR_nonneg (Rat.le_of_lt n1)) n2) n1
theorem payR_mono (hs : ∀ x ∈ sh, x.Ok m) (hx : x ∈ sh) (hq : 0 ≤ gR qs x.a) (h : gR qs x.a ≤ gR ps x.a) : payR qs sh x ≤ payR ps sh x := by
  by_cases h0 : rkI sh x.a x.r = 0
  · rw [payR_nil h0, payR_nil h0]; exact Rat.le_refl
  · rw [payR_clamp hs hx hq h0, payR_clamp hs hx (by grind) h0]
    have n0 := rkI_nonneg hs (j := x.a) (r := x.r)
    have ho := hs x hx
    unfold Dd.Ok at ho
    have n1 : (0 : Rat) < (rkI sh x.a x.r : Int) := by exact_mod_cast (show 0 < rkI sh x.a x.r by omega)
    have n2 : (0 : Rat) ≤ (x.c : Int) := by exact_mod_cast ho.2.2.2.2.2.2.2.1
    exact rdiv_mono n1 (Rat.mul_le_mul_of_nonneg_right (clampR_mono h) n2)
theorem payR_congr (h : gR qs x.a = gR ps x.a) : payR qs sh x = payR ps sh x := by
  unfold payR laidA
  rw [h]
theorem sum_congr {α : Type} {f g : α → Rat} : ∀ {xs : List α}, (∀ x ∈ xs, f x = g x) → (xs.map f).sum = (xs.map g).sum
  | [], _ => rfl
  | x :: xs, h => by
    rw [List.map_cons, List.map_cons, List.sum_cons, List.sum_cons, h x (by simp), sum_congr fun y hy => h y (by simp [hy])]
theorem sum_mono {α : Type} {f g : α → Rat} : ∀ {xs : List α}, (∀ x ∈ xs, f x ≤ g x) → (xs.map f).sum ≤ (xs.map g).sum
  | [], _ => Rat.le_refl
  | x :: xs, h => by
    rw [List.map_cons, List.map_cons, List.sum_cons, List.sum_cons]
    have h1 := h x (by simp)
    have h2 := sum_mono (xs := xs) fun y hy => h y (by simp [hy])
    grind
theorem sum_nn {α : Type} {f : α → Rat} : ∀ {xs : List α}, (∀ x ∈ xs, 0 ≤ f x) → 0 ≤ (xs.map f).sum
  | [], _ => Rat.le_refl
  | x :: xs, h => by
    rw [List.map_cons, List.sum_cons]
    have h1 := h x (by simp)
    have h2 := sum_nn (xs := xs) fun y hy => h y (by simp [hy])
    grind
theorem gotP_congr (h : ∀ x ∈ pre, x.b = j → gR qs x.a = gR ps x.a) : gotP qs sh pre j = gotP ps sh pre j := by
  unfold gotP
  refine sum_congr fun x hx => ?_
  split
  · rename_i e
    exact payR_congr (h x hx e)
  · rfl
theorem gotP_nonneg (hs : ∀ x ∈ sh, x.Ok m) (hp : ∀ x ∈ pre, x ∈ sh) (hq : ∀ k : Int, 0 ≤ k → k < m → 0 ≤ gR qs k) : 0 ≤ gotP qs sh pre j := by
  unfold gotP
  refine sum_nn fun x hx => ?_
  split
  · have ho := hs x (hp x hx)
    unfold Dd.Ok at ho
    exact payR_nonneg hs (hp x hx) (hq _ ho.1 ho.2.1)
  · exact Rat.le_refl
theorem gotP_mono (hs : ∀ x ∈ sh, x.Ok m) (hp : ∀ x ∈ pre, x ∈ sh) (hq : ∀ k : Int, 0 ≤ k → k < m → 0 ≤ gR qs k ∧ gR qs k ≤ gR ps k) : gotP qs sh pre j ≤ gotP ps sh pre j := by
  unfold gotP
  refine sum_mono fun x hx => ?_
  split
  · have ho := hs x (hp x hx)
    unfold Dd.Ok at ho
    have := hq x.a ho.1 ho.2.1
    exact payR_mono hs (hp x hx) this.1 this.2
  · exact Rat.le_refl
theorem owes_rkT (hs : ∀ x ∈ sh, x.Ok m) (j0 : 0 ≤ j) : gI (owesI m sh) j = rkT sh j := by
  unfold owesI
  rw [bumps_get j0 fun x hx => by
    have ho := hs x hx
    unfold Dd.Ok at ho
    rw [zeros_len]
    omega, zeros_get, Int.zero_add]
  have e := pay_split hs (j := j) (fun _ => (1 : Rat))
  have e2 : (sh.map fun x => if x.a = j then (1 : Rat) * (x.c : Int) else 0).sum = (((sh.map fun x => if x.a = j then x.c else 0).sum : Int) : Rat) := by
    clear e hs
    induction sh with
    | nil => rfl
    | cons y sh ih =>
      rw [List.map_cons, List.sum_cons, List.map_cons, List.sum_cons, ih, Rat.intCast_add]
      congr 1
      split
      · rw [Rat.one_mul]
      · rfl
  rw [e2] at e
  unfold rkT
  have : (((sh.map fun x => if x.a = j then x.c else 0).sum : Int) : Rat) = ((rkI sh j 0 + rkI sh j 1 + rkI sh j 2 : Int) : Rat) := by
    rw [e, Rat.intCast_add, Rat.intCast_add]
    grind
  exact_mod_cast this
theorem rkT_nonneg (hs : ∀ x ∈ sh, x.Ok m) : 0 ≤ rkT sh j := by
  have h0 := rkI_nonneg hs (j := j) (r := 0)
  have h1 := rkI_nonneg hs (j := j) (r := 1)
  have h2 := rkI_nonneg hs (j := j) (r := 2)
  unfold rkT
  omega
theorem rkT_le (hs : ∀ x ∈ sh, x.Ok m) : rkT sh j ≤ 3000000000000 * (sh.length : Int) := by
  have h0 := rkI_le hs (j := j) (r := 0)
  have h1 := rkI_le hs (j := j) (r := 1)
  have h2 := rkI_le hs (j := j) (r := 2)
  unfold rkT
  omega
end
/-! ### the next lays -/
def nextR (m : Int) (qs : List Rat) (sh : List Dd) (ps : List Int) (k : Nat) : Rat := if ((gI ps k : Int) : Rat) + gotP qs sh sh k < ((gI (owesI m sh) k : Int) : Rat) then ((gI ps k : Int) : Rat) + gotP qs sh sh k else ((gI (owesI m sh) k : Int) : Rat)
def nextRL (m : Int) (qs : List Rat) (sh : List Dd) (ps : List Int) : List Rat := (List.range m.toNat).map (nextR m qs sh ps)
theorem nextRL_len {m : Int} {qs : List Rat} {sh : List Dd} {ps : List Int} : (nextRL m qs sh ps).length = m.toNat := by unfold nextRL; simp
theorem nextRL_get {m : Int} {qs : List Rat} {sh : List Dd} {ps : List Int} {k : Nat} (h : (k : Int) < m) : gR (nextRL m qs sh ps) k = nextR m qs sh ps k := by
  rw [gR_nat (by rw [nextRL_len]; omega)]
  unfold nextRL
  simp
theorem nextR_le {m : Int} {qs : List Rat} {sh : List Dd} {ps : List Int} {k : Nat} : nextR m qs sh ps k ≤ ((gI (owesI m sh) k : Int) : Rat) := by
  unfold nextR
  split
  · rename_i h; exact Rat.le_of_lt h
  · exact Rat.le_refl
theorem nextR_nonneg {m : Int} {qs : List Rat} {sh : List Dd} {ps : List Int} {k : Nat} (hs : ∀ x ∈ sh, x.Ok m) (hq : ∀ j : Int, 0 ≤ j → j < m → 0 ≤ gR qs j) (hp : 0 ≤ gI ps k) : 0 ≤ nextR m qs sh ps k := by
  have g0 := gotP_nonneg (pre := sh) (j := (k : Int)) hs (fun _ h => h) hq
  have p0 : (0 : Rat) ≤ (gI ps k : Int) := by exact_mod_cast hp
  have o0 : (0 : Rat) ≤ (gI (owesI m sh) k : Int) := by
    rw [owes_rkT hs (by omega)]
    exact_mod_cast rkT_nonneg hs
  unfold nextR
  split <;> grind
theorem nextR_congr {m : Int} {qs rs : List Rat} {sh : List Dd} {ps : List Int} {k : Nat} (h : ∀ x ∈ sh, x.b = (k : Int) → gR qs x.a = gR rs x.a) : nextR m qs sh ps k = nextR m rs sh ps k := by
  unfold nextR
  rw [gotP_congr h]
theorem nextR_mono {m : Int} {qs rs : List Rat} {sh : List Dd} {ps : List Int} {k : Nat} (hs : ∀ x ∈ sh, x.Ok m) (hq : ∀ k : Int, 0 ≤ k → k < m → 0 ≤ gR qs k ∧ gR qs k ≤ gR rs k) : nextR m qs sh ps k ≤ nextR m rs sh ps k := by
  have := gotP_mono (pre := sh) (j := (k : Int)) hs (fun _ h => h) hq
  unfold nextR
  grind
/-! lays below 0 lay out nothing -/
def posL (qs : List Rat) : List Rat := qs.map fun q => if q < 0 then 0 else q
theorem posL_get {qs : List Rat} {j : Int} : gR (posL qs) j = if gR qs j < 0 then 0 else gR qs j := by
  unfold gR posL
  rw [List.getD_eq_getElem?_getD, List.getD_eq_getElem?_getD, List.getElem?_map]
  cases qs[j.toNat]? with
  | none => simp
  | some q => rfl
theorem posL_len {qs : List Rat} : (posL qs).length = qs.length := by unfold posL; simp
theorem posL_nn {qs : List Rat} {j : Int} : 0 ≤ gR (posL qs) j := by
  rw [posL_get]
  split
  · exact Rat.le_refl
  · rename_i h
    exact Rat.not_lt.mp h
theorem posL_self {qs : List Rat} (h : ∀ q ∈ qs, 0 ≤ q) : posL qs = qs := by
  unfold posL
  refine (List.map_congr_left fun q hq => ?_).trans (List.map_id _)
  rw [if_neg (Rat.not_lt.mpr (h q hq))]
  rfl
theorem clamp_pos {q ah most : Rat} (h : 0 ≤ ah) : clampR (if q < 0 then 0 else q) ah most = clampR q ah most := by
  by_cases c : q < 0
  · rw [if_pos c]
    unfold clampR
    by_cases c2 : ah = 0
    · subst c2
      have e1 : ¬ ((0 : Rat) - 0 < 0) := by grind
      have e2 : q - 0 < 0 := by grind
      have e3 : (0 : Rat) - 0 = 0 := by grind
      rw [if_neg e1, if_pos e2, e3]
    · have e1 : (0 : Rat) - ah < 0 := by grind
      have e2 : q - ah < 0 := by grind
      rw [if_pos e1, if_pos e2]
  · rw [if_neg c]
/-- the lays are the next ones -/
def FixR (m : Int) (qs : List Rat) (sh : List Dd) (ps : List Int) : Prop := ∀ j : Nat, (j : Int) < m → nextR m (posL qs) sh ps j = gR qs j
theorem fix_rng {m : Int} {qs : List Rat} {sh : List Dd} {ps : List Int} (hs : ∀ x ∈ sh, x.Ok m) (hp : ∀ z ∈ ps, 0 ≤ z) (h : FixR m qs sh ps) (hl : (ps.length : Int) = m) {j : Nat} (hj : (j : Int) < m) : 0 ≤ gR qs j ∧ gR qs j ≤ ((gI (owesI m sh) j : Int) : Rat) := by
  rw [← h j hj]
  exact ⟨nextR_nonneg hs (fun _ _ _ => posL_nn) (hp _ (gI_mem (by omega))), nextR_le⟩
/-! ### a sheet that goes forward: the lays reckoned one by one -/
def recL (m : Int) (sh : List Dd) (ps : List Int) : Nat → List Rat
  | 0 => List.replicate m.toNat 0
  | k + 1 => (recL m sh ps k).set k (nextR m (recL m sh ps k) sh ps k)
section
variable {m : Int} {sh : List Dd} {ps : List Int}
theorem recL_len : ∀ {k : Nat}, (recL m sh ps k).length = m.toNat
  | 0 => by unfold recL; simp
  | k + 1 => by unfold recL; rw [List.length_set, recL_len]
theorem gR_set {v : List Rat} {n k : Nat} {a : Rat} (h : n < v.length) : gR (v.set n a) k = if k = n then a else gR v k := by
  unfold gR
  rw [List.getD_eq_getElem?_getD, List.getD_eq_getElem?_getD, Int.toNat_natCast]
  by_cases e : k = n
  · rw [if_pos e, e, List.getElem?_set_self h]
    rfl
  · rw [if_neg e, List.getElem?_set_ne (Ne.symm e)]
theorem recL_late : ∀ {k j : Nat}, k ≤ j → (j : Int) < m → gR (recL m sh ps k) j = 0
  | 0, j, _, h => by
    unfold recL gR
    rw [List.getD_eq_getElem?_getD, Int.toNat_natCast, List.getElem?_replicate, if_pos (by omega)]
    rfl
  | k + 1, j, h, hj => by
    unfold recL
    rw [gR_set (by rw [recL_len]; omega), if_neg (by omega)]
    exact recL_late (by omega) hj
theorem recL_old : ∀ {k j : Nat}, j < k → (k : Int) ≤ m → gR (recL m sh ps k) j = nextR m (recL m sh ps j) sh ps j
  | k + 1, j, h, hk => by
    show gR ((recL m sh ps k).set k (nextR m (recL m sh ps k) sh ps k)) j = _
    rw [gR_set (by rw [recL_len]; omega)]
    by_cases e : j = k
    · rw [if_pos e, e]
    · rw [if_neg e]
      exact recL_old (by omega) (by omega)
theorem recL_end {k j : Nat} (h : j < k) (hk : (k : Int) ≤ m) : gR (recL m sh ps k) j = gR (recL m sh ps m.toNat) j := by
  rw [recL_old h hk, recL_old (by omega) (by omega)]
def Fwd (sh : List Dd) : Prop := ∀ x ∈ sh, x.a < x.b
theorem recL_nn (hs : ∀ x ∈ sh, x.Ok m) (hp : ∀ z ∈ ps, 0 ≤ z) (hl : (ps.length : Int) = m) : ∀ (j k : Nat), (j : Int) < m → (k : Int) ≤ m → 0 ≤ gR (recL m sh ps k) j := fun j => by
  induction j using Nat.strongRecOn with
  | ind j ih =>
    intro k hj hk
    by_cases h : j < k
    · rw [recL_old h hk]
      refine nextR_nonneg hs (fun i i0 i1 => ?_) (hp _ (gI_mem (by omega)))
      obtain ⟨i, rfl⟩ : ∃ n : Nat, i = (n : Int) := ⟨i.toNat, by omega⟩
      by_cases c : i < j
      · exact ih i c j i1 (by omega)
      · rw [recL_late (by omega) i1]
        exact Rat.le_refl
    · rw [recL_late (by omega) hj]
      exact Rat.le_refl
theorem recL_fix (hs : ∀ x ∈ sh, x.Ok m) (hf : Fwd sh) {j : Nat} (hj : (j : Int) < m) : nextR m (recL m sh ps m.toNat) sh ps j = gR (recL m sh ps m.toNat) j := by
  rw [recL_old (by omega) (by omega)]
  refine nextR_congr fun x hx e => ?_
  have ho := hs x hx
  unfold Dd.Ok at ho
  have := hf x hx
  obtain ⟨i, hi⟩ : ∃ n : Nat, x.a = (n : Int) := ⟨x.a.toNat, by omega⟩
  rw [hi, recL_end (k := j) (by omega) (by omega)]
theorem recL_wh (hs : ∀ x ∈ sh, x.Ok m) (hf : Fwd sh) (hp : ∀ z ∈ ps, 0 ≤ z) (hl : (ps.length : Int) = m) : ∀ (j : Nat), (j : Int) < m → Wh (prodI (fun i => actM (recL m sh ps m.toNat) sh i) j) (gR (recL m sh ps m.toNat) j) := fun j => by
  have nn : ∀ k : Int, 0 ≤ k → k < m → 0 ≤ gR (recL m sh ps m.toNat) k := fun k k0 k1 => by
    obtain ⟨k, rfl⟩ : ∃ n : Nat, k = (n : Int) := ⟨k.toNat, by omega⟩
    exact recL_nn hs hp hl k m.toNat k1 (by omega)
  induction j using Nat.strongRecOn with
  | ind j ih =>
    intro hj
    rw [← recL_fix hs hf hj]
    have g : Wh (prodI (fun i => actM (recL m sh ps m.toNat) sh i) j) (gotP (recL m sh ps m.toNat) sh sh j) := by
      refine gotP_wh hs (fun _ h => h) nn fun x hx e => ?_
      have ho := hs x hx
      unfold Dd.Ok at ho
      have := hf x hx
      obtain ⟨i, hi⟩ : ∃ n : Nat, x.a = (n : Int) := ⟨x.a.toNat, by omega⟩
      rw [hi]
      refine ⟨_, ih i (by omega) (by omega), ?_⟩
      exact prodI_up (f := fun i => actM (recL m sh ps m.toNat) sh i) (n := j) (k := i + 1) (by omega)
    unfold nextR
    split
    · exact Wh.int.add g
    · exact Wh.int
theorem recL_size (hs : ∀ x ∈ sh, x.Ok m) (hf : Fwd sh) (hp : ∀ z ∈ ps, 0 ≤ z) (hl : (ps.length : Int) = m) (m9 : m ≤ 9) (hlen : sh.length ≤ 100) {j : Nat} (hj : (j : Int) < m) : SzR 520 (gR (recL m sh ps m.toNat) j) := by
  have hT : ∀ i : Int, 0 ≤ rkI sh i 0 + rkI sh i 1 + rkI sh i 2 ∧ rkI sh i 0 + rkI sh i 1 + rkI sh i 2 ≤ 300000000000000 := fun i => by
    have h0 := rkT_nonneg hs (j := i)
    have h1 := rkT_le hs (j := i)
    unfold rkT at h0 h1
    omega
  have hN : Sz (50 * j + 1) (prodI (fun i => actM (recL m sh ps m.toNat) sh i) j) := prodI_size fun k hk => by
    have h1 := actM_rng (qs := recL m sh ps m.toNat) (j := (k : Int)) hs
    have := hT k
    exact sz_le 300000000000001 (by omega) (by decide +kernel)
  have hpos : 0 < prodI (fun i => actM (recL m sh ps m.toNat) sh i) j := prodI_pos fun k hk => by
    have h1 := actM_rng (qs := recL m sh ps m.toNat) (j := (k : Int)) hs
    omega
  have hle : gR (recL m sh ps m.toNat) j ≤ ((300000000000000 : Int) : Rat) := by
    rw [← recL_fix hs hf hj]
    refine Rat.le_trans nextR_le ?_
    rw [owes_rkT hs (by omega)]
    have h1 : rkT sh j ≤ 300000000000000 := (hT j).2
    exact Rat.intCast_le_intCast.mpr h1
  exact ((recL_wh hs hf hp hl j hj).size (by omega) hN (recL_nn hs hp hl j _ hj (by omega)) hle (b := 50) (sz_le 300000000000000 (by decide) (by decide +kernel))).mono (by omega)
end
section
variable {m : Int} {sh pre : List Dd} {qs : List Rat} {x : Dd} {j : Int}
theorem payR_le (hs : ∀ x ∈ sh, x.Ok m) (hx : x ∈ sh) (hq : 0 ≤ gR qs x.a) : payR qs sh x ≤ (x.c : Int) := by
  have ho := hs x hx
  unfold Dd.Ok at ho
  have n2 : (0 : Rat) ≤ (x.c : Int) := by exact_mod_cast ho.2.2.2.2.2.2.2.1
  by_cases h0 : rkI sh x.a x.r = 0
  · rw [payR_nil h0]; exact n2
  · rw [payR_clamp hs hx hq h0]
    have n0 := rkI_nonneg hs (j := x.a) (r := x.r)
    have n1 : (0 : Rat) < (rkI sh x.a x.r : Int) := by exact_mod_cast (show 0 < rkI sh x.a x.r by omega)
    refine rdiv_le n1 ?_
    rw [Rat.mul_comm ((x.c : Int) : Rat)]
    exact Rat.mul_le_mul_of_nonneg_right clampR_le n2
theorem gotP_le (hs : ∀ x ∈ sh, x.Ok m) (hp : ∀ x ∈ pre, x ∈ sh) (hq : ∀ k : Int, 0 ≤ k → k < m → 0 ≤ gR qs k) : gotP qs sh pre j ≤ ((1000000000000 * (pre.length : Int) : Int) : Rat) := by
  unfold gotP
  induction pre with
  | nil =>
    have : (((1000000000000 * (([] : List Dd).length : Int) : Int)) : Rat) = 0 := by simp
    rw [this]
    exact Rat.le_refl
  | cons x pre ih =>
    have ho := hs x (hp x (by simp))
    unfold Dd.Ok at ho
    have h1 := ih fun y hy => hp y (by simp [hy])
    have h2 := payR_le hs (hp x (by simp)) (hq _ ho.1 ho.2.1)
    have h3 : ((x.c : Int) : Rat) ≤ ((1000000000000 : Int) : Rat) := Rat.intCast_le_intCast.mpr ho.2.2.2.2.2.2.2.2
    have h4 : (((0 : Int)) : Rat) ≤ ((1000000000000 : Int) : Rat) := Rat.intCast_le_intCast.mpr (by decide)
    have h5 : (((0 : Int)) : Rat) = 0 := rfl
    rw [h5] at h4
    have e : (((1000000000000 * ((x :: pre).length : Int) : Int)) : Rat) = ((1000000000000 : Int) : Rat) + ((1000000000000 * (pre.length : Int) : Int) : Rat) := by
      rw [← Rat.intCast_add, List.length_cons]
      congr 1
      omega
    rw [List.map_cons, List.sum_cons, e]
    split <;> grind
theorem got_size {n : Nat} (hs : ∀ x ∈ sh, x.Ok m) (hl : sh.length ≤ 100) (m9 : m ≤ 9) (hm : (qs.length : Int) = m) (hq : ∀ q ∈ qs, 0 ≤ q ∧ SzR n q) (i : Nat) (j : Int) : SzR ((n + 50) * 9 + 60) (gotP qs sh (sh.take i) j) := by
  have hq2 : ∀ k : Int, 0 ≤ k → k < m → 0 ≤ gR qs k ∧ SzR n (gR qs k) := fun k k0 k1 => hq _ (gR_mem k0 (by omega))
  have hmem : ∀ x ∈ sh.take i, x ∈ sh := fun x hx => List.mem_of_mem_take hx
  have hw := gotP_all (j := j) hs hmem fun k k0 k1 => (hq2 k k0 k1).1
  have hT : ∀ k : Int, 0 ≤ rkI sh k 0 + rkI sh k 1 + rkI sh k 2 ∧ rkI sh k 0 + rkI sh k 1 + rkI sh k 2 ≤ 300000000000000 := fun k => by
    have h0 := rkT_nonneg hs (j := k)
    have h1 := rkT_le hs (j := k)
    unfold rkT at h0 h1
    omega
  have hN : Sz ((n + 50) * m.toNat + 1) (prodI (fun k => ((gR qs k).den : Int) * actM qs sh k) m.toNat) := prodI_size fun k hk => by
    have h1 := actM_rng (qs := qs) (j := (k : Int)) hs
    have h2 := hT k
    exact (hq2 k (by omega) (by omega)).2.2.mul (sz_le 300000000000001 (by omega) (by decide +kernel))
  have hpos : 0 < prodI (fun k => ((gR qs k).den : Int) * actM qs sh k) m.toNat := prodI_pos fun k hk => by
    have h1 := actM_rng (qs := qs) (j := (k : Int)) hs
    exact Int.mul_pos (den_pos _) (by omega)
  have hle := gotP_le (j := j) hs hmem fun k k0 k1 => (hq2 k k0 k1).1
  have hlen : (sh.take i).length ≤ 100 := by rw [List.length_take]; omega
  have h9 : (n + 50) * m.toNat ≤ (n + 50) * 9 := Nat.mul_le_mul_left _ (by omega)
  refine (hw.size (by omega) hN (gotP_nonneg hs hmem fun k k0 k1 => (hq2 k k0 k1).1) hle (b := 50) (sz_le 100000000000000 ?_ (by decide +kernel))).mono (by omega)
  omega
/-! the ring of all members, each with the like -/
def ringL (m A r : Int) : List Dd := (List.range m.toNat).map fun (k : Nat) => ⟨k, ((k : Int) + 1) % m, r, A⟩
theorem ringL_len {m A r : Int} : (ringL m A r).length = m.toNat := by unfold ringL; simp
theorem ringL_ok {m A r : Int} (hm : 2 ≤ m) (r0 : 0 ≤ r) (r1 : r < 3) (A0 : 0 ≤ A) (A1 : A ≤ 1000000000000) : ∀ x ∈ ringL m A r, x.Ok m := fun x hx => by
  obtain ⟨k, hk, rfl⟩ := List.mem_map.mp hx
  have hk := List.mem_range.mp hk
  unfold Dd.Ok
  dsimp only
  have h1 := emod_lo (a := (k : Int) + 1) (b := m) (by omega)
  have h2 := emod_hi (a := (k : Int) + 1) (b := m) (by omega)
  refine ⟨by omega, by omega, h1, h2, ?_, r0, r1, A0, A1⟩
  by_cases c : (k : Int) + 1 < m
  · rw [Int.emod_eq_of_lt (by omega) c]
    omega
  · have : (k : Int) + 1 = m := by omega
    rw [this, Int.emod_self]
    omega
theorem sum_one {α : Type} {f : α → Rat} {a : α} : ∀ {xs : List α}, xs.Nodup → a ∈ xs → (∀ x ∈ xs, x ≠ a → f x = 0) → (xs.map f).sum = f a
  | [], _, h, _ => by simp at h
  | x :: xs, nd, h, h0 => by
    rw [List.map_cons, List.sum_cons]
    rw [List.nodup_cons] at nd
    by_cases e : x = a
    · subst e
      have : (xs.map f).sum = (xs.map fun _ => (0 : Rat)).sum := sum_congr fun y hy => h0 y (by simp [hy]) fun e => nd.1 (e ▸ hy)
      rw [this]
      have z : ∀ ys : List α, (ys.map fun _ => (0 : Rat)).sum = 0 := fun ys => by
        induction ys with
        | nil => rfl
        | cons y ys ih => rw [List.map_cons, List.sum_cons, ih]; grind
      rw [z]
      grind
    · rw [h0 x (by simp) e, sum_one nd.2 (by simpa [Ne.symm e] using h) fun y hy => h0 y (by simp [hy])]
      grind
theorem ringL_rkT {m A r : Int} (hm : 2 ≤ m) (r0 : 0 ≤ r) (r1 : r < 3) (A0 : 0 ≤ A) (A1 : A ≤ 1000000000000) {j : Int} (j0 : 0 ≤ j) (j1 : j < m) : rkT (ringL m A r) j = A := by
  have hs := ringL_ok hm r0 r1 A0 A1
  rw [← owes_rkT hs j0]
  unfold owesI
  rw [bumps_get j0 fun x hx => by
    have ho := hs x hx
    unfold Dd.Ok at ho
    rw [zeros_len]
    omega, zeros_get, Int.zero_add]
  have e : (((ringL m A r).map fun x => if x.a = j then x.c else 0).sum : Int) = ((List.range m.toNat).map fun (k : Nat) => if (k : Int) = j then A else 0).sum := by
    unfold ringL
    rw [List.map_map]
    rfl
  rw [e]
  obtain ⟨n, rfl⟩ : ∃ n : Nat, j = (n : Int) := ⟨j.toNat, by omega⟩
  have key : ∀ N : Nat, ((List.range N).map fun (k : Nat) => if (k : Int) = (n : Int) then A else 0).sum = if n < N then A else 0 := fun N => by
    induction N with
    | zero => simp
    | succ N ih =>
      rw [List.range_succ, List.map_append, List.sum_append, ih]
      simp only [List.map_cons, List.map_nil, List.sum_cons, List.sum_nil]
      (repeat' split) <;> omega
  rw [key, if_pos (by omega)]
/-- the payer of a member in the ring -/
theorem ringL_fix {m A r : Int} {qs : List Rat} {ps : List Int} {q : Rat} (hm : 2 ≤ m) (r0 : 0 ≤ r) (r1 : r < 3) (A0 : 0 ≤ A) (A1 : A ≤ 1000000000000) (hp : ∀ j : Nat, (j : Int) < m → gI ps j = 0) (h0 : 0 ≤ q) (h1 : q ≤ (A : Int)) (hq : ∀ j : Nat, (j : Int) < m → gR qs j = q) {j : Nat} (j1 : (j : Int) < m) : nextR m qs (ringL m A r) ps j = q := by
  have hs := ringL_ok hm r0 r1 A0 A1
  obtain ⟨i, hi, hij, hu⟩ : ∃ i : Nat, (i : Int) < m ∧ ((i : Int) + 1) % m = (j : Int) ∧ ∀ k : Nat, (k : Int) < m → ((k : Int) + 1) % m = (j : Int) → k = i := by
    by_cases c : j = 0
    · subst c
      refine ⟨(m - 1).toNat, by omega, ?_, fun k hk e => ?_⟩
      · rw [show (((m - 1).toNat : Nat) : Int) + 1 = m by omega, Int.emod_self]
        rfl
      · by_cases c2 : (k : Int) + 1 < m
        · rw [Int.emod_eq_of_lt (by omega) c2] at e
          omega
        · omega
    · refine ⟨j - 1, by omega, ?_, fun k hk e => ?_⟩
      · rw [show (((j - 1 : Nat)) : Int) + 1 = j by omega, Int.emod_eq_of_lt (by omega) j1]
      · by_cases c2 : (k : Int) + 1 < m
        · rw [Int.emod_eq_of_lt (by omega) c2] at e
          omega
        · rw [show (k : Int) + 1 = m by omega, Int.emod_self] at e
          omega
  have hpay : ∀ k : Nat, (k : Int) < m → payR qs (ringL m A r) ⟨k, ((k : Int) + 1) % m, r, A⟩ = q := fun k hk => by
    have hT := ringL_rkT hm r0 r1 A0 A1 (j := (k : Int)) (by omega) hk
    have ht := pay_total (j := (k : Int)) hs (laid_of hs (by rw [hq k hk]; exact h0) (by rw [hq k hk, hT]; exact h1))
    rw [hq k hk] at ht
    rw [← ht]
    have e : ((ringL m A r).map fun x => if x.a = (k : Int) then payR qs (ringL m A r) x else 0).sum = ((List.range m.toNat).map fun (l : Nat) => if (l : Int) = (k : Int) then payR qs (ringL m A r) ⟨l, ((l : Int) + 1) % m, r, A⟩ else 0).sum := by
      conv => lhs; arg 1; rw [ringL, List.map_map]
      rfl
    rw [e, sum_one (a := k) List.nodup_range (List.mem_range.mpr (by omega)) fun l _ hl => by rw [if_neg (by omega)], if_pos rfl]
  have hg : gotP qs (ringL m A r) (ringL m A r) j = q := by
    unfold gotP
    have e : ((ringL m A r).map fun x => if x.b = (j : Int) then payR qs (ringL m A r) x else 0).sum = ((List.range m.toNat).map fun (l : Nat) => if ((l : Int) + 1) % m = (j : Int) then payR qs (ringL m A r) ⟨l, ((l : Int) + 1) % m, r, A⟩ else 0).sum := by
      conv => lhs; arg 1; rw [ringL, List.map_map]
      rfl
    rw [e, sum_one (a := i) List.nodup_range (List.mem_range.mpr (by omega)) fun l hl ne => by
      have := List.mem_range.mp hl
      rw [if_neg fun z => ne (hu l (by omega) z)], if_pos hij, hpay i hi]
  unfold nextR
  rw [hg, hp j j1, owes_rkT hs (by omega), ringL_rkT hm r0 r1 A0 A1 (by omega) j1]
  have e0 : ((0 : Int) : Rat) = 0 := rfl
  rw [e0]
  split <;> grind
/-! ### rounds -/
def rnd (m : Int) (sh : List Dd) (ps : List Int) : Nat → List Rat
  | 0 => (owesI m sh).map fun z => ((z : Int) : Rat)
  | n + 1 => nextRL m (rnd m sh ps n) sh ps
theorem rnd_len {m : Int} {sh : List Dd} {ps : List Int} : ∀ {n : Nat}, (rnd m sh ps n).length = m.toNat
  | 0 => by unfold rnd; rw [List.length_map, owesI_len]
  | n + 1 => by unfold rnd; rw [nextRL_len]
theorem rnd_0 {m : Int} {sh : List Dd} {ps : List Int} {j : Nat} (hj : (j : Int) < m) : gR (rnd m sh ps 0) j = ((gI (owesI m sh) j : Int) : Rat) := by
  have := owesI_len (m := m) (sh := sh)
  rw [gR_nat (by rw [rnd_len]; omega)]
  unfold rnd
  rw [List.getElem_map, gI_nat (by omega)]
theorem rnd_s {m : Int} {sh : List Dd} {ps : List Int} {n j : Nat} (hj : (j : Int) < m) : gR (rnd m sh ps (n + 1)) j = nextR m (rnd m sh ps n) sh ps j := nextRL_get hj
theorem rnd_nn {m : Int} {sh : List Dd} {ps : List Int} (hs : ∀ x ∈ sh, x.Ok m) (hp : ∀ z ∈ ps, 0 ≤ z) (hl : (ps.length : Int) = m) : ∀ {n : Nat} (j : Int), 0 ≤ j → j < m → 0 ≤ gR (rnd m sh ps n) j
  | 0, j, j0, j1 => by
    obtain ⟨j, rfl⟩ : ∃ n : Nat, j = (n : Int) := ⟨j.toNat, by omega⟩
    rw [rnd_0 j1, owes_rkT hs j0]
    exact_mod_cast rkT_nonneg hs
  | n + 1, j, j0, j1 => by
    obtain ⟨j, rfl⟩ : ∃ n : Nat, j = (n : Int) := ⟨j.toNat, by omega⟩
    rw [rnd_s j1]
    exact nextR_nonneg hs (fun i i0 i1 => rnd_nn hs hp hl i i0 i1) (hp _ (gI_mem (by omega)))
theorem rnd_le {m : Int} {sh : List Dd} {ps : List Int} : ∀ {n j : Nat}, (j : Int) < m → gR (rnd m sh ps n) j ≤ ((gI (owesI m sh) j : Int) : Rat)
  | 0, j, h => by rw [rnd_0 h]; exact Rat.le_refl
  | n + 1, j, h => by rw [rnd_s h]; exact nextR_le
theorem rnd_down {m : Int} {sh : List Dd} {ps : List Int} (hs : ∀ x ∈ sh, x.Ok m) (hp : ∀ z ∈ ps, 0 ≤ z) (hl : (ps.length : Int) = m) : ∀ {n j : Nat}, (j : Int) < m → gR (rnd m sh ps (n + 1)) j ≤ gR (rnd m sh ps n) j
  | 0, j, h => by rw [rnd_s h, rnd_0 h]; exact nextR_le
  | n + 1, j, h => by
    rw [rnd_s h, rnd_s h]
    refine nextR_mono hs fun k k0 k1 => ⟨rnd_nn hs hp hl k k0 k1, ?_⟩
    obtain ⟨k, rfl⟩ : ∃ n : Nat, k = (n : Int) := ⟨k.toNat, by omega⟩
    exact rnd_down hs hp hl k1
/-- what makes all lays whole -/
def AllWh (m N : Int) (qs : List Rat) : Prop := ∀ j : Int, 0 ≤ j → j < m → Wh N (gR qs j)
noncomputable def actP (m : Int) (qs : List Rat) (sh : List Dd) : Int := prodI (fun k => actM qs sh k) m.toNat
theorem actP_pos {m : Int} {qs : List Rat} {sh : List Dd} (hs : ∀ x ∈ sh, x.Ok m) : 0 < actP m qs sh := prodI_pos fun k hk => by
  have h1 := actM_rng (qs := qs) (j := (k : Int)) hs
  omega
theorem actP_size {m : Int} {qs : List Rat} {sh : List Dd} (hs : ∀ x ∈ sh, x.Ok m) (hl : sh.length ≤ 100) (m9 : m ≤ 9) : Sz 451 (actP m qs sh) := by
  have : Sz (50 * m.toNat + 1) (actP m qs sh) := prodI_size fun k hk => by
    have h1 := actM_rng (qs := qs) (j := (k : Int)) hs
    have h0 := rkT_nonneg hs (j := (k : Int))
    have h2 := rkT_le hs (j := (k : Int))
    unfold rkT at h0 h2
    exact sz_le 300000000000001 (by omega) (by decide +kernel)
  exact this.mono (by omega)
theorem got_allwh {m N : Int} {qs : List Rat} {sh pre : List Dd} {j : Int} (hs : ∀ x ∈ sh, x.Ok m) (hp : ∀ x ∈ pre, x ∈ sh) (hq : ∀ k : Int, 0 ≤ k → k < m → 0 ≤ gR qs k) (hw : AllWh m N qs) : Wh (N * actP m qs sh) (gotP qs sh pre j) := gotP_wh hs hp hq fun x hx _ => by
  have ho := hs x (hp x hx)
  unfold Dd.Ok at ho
  refine ⟨N, hw _ ho.1 ho.2.1, ?_⟩
  have := prodI_dvd (f := fun k => actM qs sh k) (n := m.toNat) (k := x.a.toNat) (by omega)
  have e : ((x.a.toNat : Nat) : Int) = x.a := by omega
  rw [e] at this
  exact Int.mul_dvd_mul_left N this
theorem next_allwh {m N : Int} {qs : List Rat} {sh : List Dd} {ps : List Int} (hs : ∀ x ∈ sh, x.Ok m) (hq : ∀ k : Int, 0 ≤ k → k < m → 0 ≤ gR qs k) (hw : AllWh m N qs) : AllWh m (N * actP m qs sh) (nextRL m qs sh ps) := fun j j0 j1 => by
  obtain ⟨j, rfl⟩ : ∃ n : Nat, j = (n : Int) := ⟨j.toNat, by omega⟩
  rw [nextRL_get j1]
  unfold nextR
  split
  · exact Wh.int.add (got_allwh hs (fun _ h => h) hq hw)
  · exact Wh.int
noncomputable def rndN (m : Int) (sh : List Dd) (ps : List Int) : Nat → Int
  | 0 => 1
  | n + 1 => rndN m sh ps n * actP m (rnd m sh ps n) sh
theorem rnd_wh {m : Int} {sh : List Dd} {ps : List Int} (hs : ∀ x ∈ sh, x.Ok m) (hp : ∀ z ∈ ps, 0 ≤ z) (hl : (ps.length : Int) = m) : ∀ {n : Nat}, AllWh m (rndN m sh ps n) (rnd m sh ps n)
  | 0 => fun j j0 j1 => by
    obtain ⟨j, rfl⟩ : ∃ n : Nat, j = (n : Int) := ⟨j.toNat, by omega⟩
    rw [rnd_0 j1]
    exact Wh.int
  | n + 1 => next_allwh hs (rnd_nn hs hp hl) (rnd_wh hs hp hl)
theorem rndN_ok {m : Int} {sh : List Dd} {ps : List Int} (hs : ∀ x ∈ sh, x.Ok m) (hl : sh.length ≤ 100) (m9 : m ≤ 9) : ∀ {n : Nat}, 0 < rndN m sh ps n ∧ Sz (451 * n + 1) (rndN m sh ps n)
  | 0 => by unfold rndN Sz; decide
  | n + 1 => by
    have h := rndN_ok (ps := ps) hs hl m9 (n := n)
    refine ⟨Int.mul_pos h.1 (actP_pos hs), ?_⟩
    exact (h.2.mul (actP_size hs hl m9)).mono (by omega)
/-- parts that a number makes whole, in a range -/
theorem allwh_size {m N : Int} {qs : List Rat} {k : Nat} (hm : (qs.length : Int) = m) (hN : 0 < N) (hk : Sz k N) (hq : ∀ j : Int, 0 ≤ j → j < m → 0 ≤ gR qs j ∧ gR qs j ≤ ((300000000000000 : Int) : Rat)) (hw : AllWh m N qs) : ∀ q ∈ qs, 0 ≤ q ∧ SzR (k + 50) q := fun q hqq => by
  obtain ⟨j, hj⟩ := List.mem_iff_getElem?.mp hqq
  have hj' := (List.getElem?_eq_some_iff.mp hj).1
  have e : q = gR qs j := by rw [gR_nat hj']; exact (List.getElem?_eq_some_iff.mp hj).2.symm
  have h1 := hq j (by omega) (by omega)
  rw [e]
  exact ⟨h1.1, (hw j (by omega) (by omega)).size (by omega) hk h1.1 h1.2 (sz_le 300000000000000 (by decide) (by decide +kernel))⟩
theorem got_allsize {m N : Int} {qs : List Rat} {sh : List Dd} {k : Nat} (hs : ∀ x ∈ sh, x.Ok m) (hl : sh.length ≤ 100) (m9 : m ≤ 9) (hN : 0 < N) (hk : Sz k N) (hq : ∀ j : Int, 0 ≤ j → j < m → 0 ≤ gR qs j) (hw : AllWh m N qs) (i : Nat) (j : Int) : SzR (k + 501) (gotP qs sh (sh.take i) j) := by
  have hmem : ∀ x ∈ sh.take i, x ∈ sh := fun x hx => List.mem_of_mem_take hx
  have hle := gotP_le (j := j) hs hmem hq
  have hlen : (sh.take i).length ≤ 100 := by rw [List.length_take]; omega
  have hpos := Int.mul_pos hN (actP_pos (qs := qs) hs)
  refine ((got_allwh (j := j) hs hmem hq hw).size (by omega) (hk.mul (actP_size hs hl m9)) (gotP_nonneg hs hmem hq) hle (b := 50) (sz_le 100000000000000 (by omega) (by decide +kernel))).mono (by omega)
end
end Ab

namespace Ab
open PySem PySem.Spec PyProof.Rows L2 L2H

/-! ### a def that a suite hands its exception to -/
/-- the exception of a suite, by its class -/
structure ExAt (g : Gi) (rl : List Str) (c : Str) (oe : Obj) : Prop where
  z : Zc (.ref (g.cl c)) none oe
  d : ∃ vs, oe.data = .fields vs
  i : rl.contains c = true
structure FnE (P : Program) (w0 : World) (K : PySem.W.Frag) (mg : Str → Option Value) (base : Heap) (g : Gi) (rl : List Str) (k : Nat) (f : Addr) (fd : FuncData) (ps : List Str) (wf : Addr → Str → WF) : Prop where
  run : ∀ (A : Around) (outer : List PySem.Env) (s : Shared) (H : Hp) (as : Args) (us : List Value) (vs : List V) (goal : VK) (E : XK) (a : Addr) (oe : Obj) (c : Str), ExAt g rl c oe → RoomH k A → PinOk outer H s (a, oe) → Env0 P w0 K mg base A outer s H → BindsTo s fd as (ps.zip us) → Vals vs us → spW K g ps.length (wf a c) vs H goal E →
    codeAny (model P w0) A (.call (.ref f) as) (CR (L2.CX P w0) outer P w0 H s goal E) s
theorem fnE_ok {rl : List Str} {P : Program} {w0 : World} {K : PySem.W.Frag} {g : Gi} {mg : Str → Option Value} {base : Heap} {x qual : Str} {st : Stmt} {f : Addr} {fd : FuncData} {N ps : List Str} {k : Nat} {w : Addr → Str → WS} (F : Fun K x qual st f fd) (Sc : FnScope N ps (defScope st))
    (body : ∀ (cdv : Value) (A : Around) (outer : List PySem.Env) (s : Shared) (H : Hp) (E : XK) (a : Addr) (oe : Obj) (c : Str), ExAt g rl c oe → RoomH k (A.deeper (envOfC qual (defScope st) s.heap.objs.size f cdv)) →
      SSs (cxH (L2.CX P w0) P w0 K mg base N qual (defScope st) f cdv A outer s H E (a, oe)) g (fun cls d _ H => E cls d H) (defBody st) (w a c)) :
    FnE P w0 K mg base g rl (k + 1) f fd ps (fun a c => wDef ps.length N.length (w a c)) := by
  constructor
  intro A outer s H as us vs goal E a oe c ex room pin env bnd rel spd
  obtain ⟨hv, H0, r, S, ds, kk, xk, si, rl, hw, ce, cx⟩ := spd
  obtain ⟨oc, od, kV, doc, pm, an, cdv, ct, osl, rfl, lk, cod⟩ := F.ex
  have kin : K.In s.heap := env.mod.kin.keeps fun b o e => (env.bs b o e).1
  have lim : s.heap.NoLimit := env.mod.nolimit.keeps fun b o e => (env.bs b o e).1
  have kinds : ∀ y ∈ ps.zip us, (defScope st).names.lookup y.1 = some .local ∨ ((defScope st).names.lookup y.1 = some .cell ∧ ((cellsFrom (s.heap.objs.size + 1) (defScope st).names []).lookup y.1).isSome = true) := by
    rintro ⟨n, v⟩ hy
    cases Sc.par n (List.of_mem_zip hy).1 with
    | inl q => exact .inl q
    | inr q => exact .inr ⟨q, PySem.W.cellsFrom_some _ _ _ (.inl q)⟩
  have dp : A.depth < recursionLimit := room.depth
  refine codeAny_call_function dp (kin _ _ lk) rfl Sc.co Sc.gen rfl (PySem.W.codeRec_of kin cod) (bnd _ _ _ _ ?_)
  refine wpAny_newFunctionEnv_cells Sc.kind kinds fun en hen s1 inc => ?_
  cases hen
  have low : s1.heap.NoLimit := lim.keeps inc.toInCall.keep
  refine ⟨low, codeAny_func ?_⟩
  obtain ⟨t, pss, good⟩ := body cdv A outer s H E a oe c ex (room.deeper _)
  have inv : Inv (cxH (L2.CX P w0) P w0 K mg base N qual (defScope st) f cdv A outer s H E (a, oe)) [] (L2.start N vs) H s1 := inv_startH Sc pin env hv rel inc
  have tt := good H0 r S H _ _ ⟨fun _ S' => kk .non S', kk, fun c _ S' => xk c S'⟩ { nx := fun _ H' => goal .non H', rt := goal } si (relSt_start rl) hw.2 ⟨fun s' sv' H0' r' S' H' f' si' rs' h' => ce _ _ _ _ _ _ f' si' rel_non' h', ce, fun c s' sv' H0' r' S' H' f' si' rs' h' => cx _ _ _ _ _ f' si' h'⟩
  have done := pss.run [] s1 (L2.start N vs) H _ inv tt
  have told : ∀ {σ' : L2.St} {H' : Hp} {v : V} {u : Value} {s' : Shared}, Inv (cxH (L2.CX P w0) P w0 K mg base N qual (defScope st) f cdv A outer s H E (a, oe)) [] σ' H' s' → RelV v u → goal v H' → CE outer P w0 H s goal u s' := fun J rv q => ⟨_, _, J.os, J.bare, J.base, J.hok, rv, q⟩
  refine wpAny_mono done (fun fl s' hs => ?_) fun _ _ z => z
  match fl, hs with
  | .ret u, ⟨v, σ', H', J, rv, q⟩ => exact told J rv q
  | .next, ⟨σ', H', J, q⟩ => exact told (v := V.non) (u := Value.none) J rfl q
  | .brk, ⟨_, _, _, q⟩ => exact q.elim
  | .cont, ⟨_, _, _, q⟩ => exact q.elim
section
variable {X : Cx} {g : Gi} {W : WX} {e : Expr} {es : List Expr} {pos p p2 : Pos} {wa : WE} {ws : WA}
def wCallE (wf : WF) (ws : WA) : WE := fun (_ : HG XE) s S k => ws noXC s S fun ds S1 => wf ds S1 k fun _ _ => False
/-- called by a suite with its exception -/
def tCallE (sp : Sp) (t : TA) : TE := fun σ H goal => t σ H fun vs H1 => sp vs H1 goal fun _ _ _ => False
theorem pe_callE {rl : List Str} {a : Addr} {oe : Obj} {pn : List (Addr × Obj)} {c : Str} {k : Nat} {f : Addr} {fd : FuncData} {ps : List Str} {wf : Addr → Str → WF} {x : Str} {t : TA} (fn : FnE X.prog X.w X.K X.mg X.base g rl k f fd ps wf) (ex : ExAt g rl c oe) (room : RoomH k X.A) (gl : Gl X x) (gm : X.mg x = some (.ref f)) (kp : PySem.W.keepIn X.K (.ref f) = true) (bd : Binds X.K fd ps [])
    (args : PA (X.suite a ((a, oe) :: pn)) (e :: es) t) (nd : (x == ("__debug__" : Str)) = false := by decide) (h1 : starEach (e :: es) X.env = (false, eval e X.env) :: starEach es X.env := by rfl) (h2 : (backTo pos (starEach es X.env)).any (·.1) = false := by rfl) :
    PE (X.suite a ((a, oe) :: pn)) (.Call (.Name x p) (e :: es) [] pos) (tCallE (spW X.K g ps.length (wf a c)) t) := by
  constructor
  intro pins s0 env hp goal inv hyp
  refine wpAny_Call_Name_kw (ld_glob inv gl gm ?_ nd)
  have ran := args.run pos pins s0 env hp _ inv hyp
  refine PySem.W.callWith_K (h₀ := X.base) inv.ok.mod.kin kp (thn ran ?_) h1 h2
  rintro us s1 ⟨vs, hp1, inv1, rel, spd⟩
  refine ⟨inv1.kIn, ?_⟩
  have len : us.length = ps.length := by
    rw [← rel.length]
    exact spd.1
  have bnd := bd s1 us inv1.kIn (by rw [List.append_nil]; exact len)
  rw [List.append_nil] at bnd
  obtain ⟨q1, q2, q3, q4, q5⟩ := inv1.pin (a, oe) (List.mem_append.mpr (.inl List.mem_cons_self))
  have pin : PinOk X.stack hp1 s1 (a, oe) := ⟨q1, q2, fun z => (List.mem_cons.mp (inv1.stkSub a z)).elim q3 q4, q5⟩
  have room2 : RoomH k (X.suite a ((a, oe) :: pn)).A := ⟨room.dp, room.un⟩
  have goes := fn.run _ X.stack s1 hp1 ⟨us, []⟩ us vs goal (fun _ _ _ => False) a oe c ex room2 pin inv1.env0 bnd rel spd
  refine wpAny_call (codeAny_mono goes fun res s2 hres => ?_)
  match res, hres with
  | .error _, z =>
    obtain ⟨_, _, _, _, _, _, _, _, _, _, _, _, q⟩ := z
    exact q.elim
  | .ok (.ret u), z => exact inv1.after z
  | .ok .next, z => exact z.elim
  | .ok .brk, z => exact z.elim
  | .ok .cont, z => exact z.elim
theorem se_callE {rl : List Str} {a : Addr} {oe : Obj} {pn : List (Addr × Obj)} {c : Str} {k : Nat} {f : Addr} {fd : FuncData} {ps : List Str} {wf : Addr → Str → WF} {x : Str} (fn : FnE X.prog X.w X.K X.mg X.base g rl k f fd ps wf) (hl : ∀ a c ds S kk xk, wf a c ds S kk xk → ds.length = ps.length) (ex : ExAt g rl c oe) (room : RoomH k X.A) (gl : Gl X x) (gm : X.mg x = some (.ref f)) (kp : PySem.W.keepIn X.K (.ref f) = true) (bd : Binds X.K fd ps [])
    (ha : SA (X.suite a ((a, oe) :: pn)) g W (e :: es) ws) (nd : (x == ("__debug__" : Str)) = false := by decide) (h1 : starEach (e :: es) X.env = (false, eval e X.env) :: starEach es X.env := by rfl) (h2 : (backTo pos (starEach es X.env)).any (·.1) = false := by rfl) :
    SE (X.suite a ((a, oe) :: pn)) g W (.Call (.Name x p) (e :: es) [] pos) (wCallE (wf a c) ws) := by
  obtain ⟨ta, pa, ga⟩ := ha
  refine ⟨_, pe_callE fn ex room gl gm kp bd pa nd h1 h2, fun H0 r S H s sv Q k xc si rs h ce cx => ?_⟩
  refine ga H0 r S H s sv _ _ noXC si rs h (fun ds vs H1 r1 S1 H1' f1 s1 rl q => ?_) fun _ _ _ _ _ _ _ z => z.elim
  exact ⟨by rw [rl.length]; exact hl _ _ _ _ _ _ q, H1, r1, S1, ds, _, _, s1, rl, q, ce.fut f1 s1, fun _ _ _ _ _ _ _ z => z.elim⟩
/-- isinstance of an exception that the context holds -/
theorem call_isP {a D : Addr} {oe : Obj} (C : ExcC X.K D) (hz : Zc (.ref D) none oe) (hf : ∃ vs, oe.data = .fields vs) (hin : (a, oe) ∈ X.pn) : CallR X (.builtin "isinstance") (rIsE X.K D a) := by
  intro pins s0 env hp xs us goal inv rel hyp
  obtain ⟨cl, cv, b, rfl, only, kit, fin⟩ := hyp
  match rel with
  | .cons r1 (.cons r2 .nil) =>
    cases r1
    cases only _ r2
    have there := (inv.pin (a, oe) (List.mem_append_left _ hin)).1
    obtain ⟨fs, dat⟩ := hf
    have inst : PySem.W.InstAt s0.heap a oe D none := by
      cases oe
      cases hz.1
      cases hz.2
      cases dat
      exact ⟨there, rfl, rfl, trivial⟩
    refine PySem.W.kia_one (PySem.W.handS_kitx_exc C.hg C.hk C.hs C.hd C.ha C.hn C.ht C.hm) inv.kIn inst kit (fun z => nomatch z) fun tk => ?_
    exact ⟨.bl b, hp, inv.kept (t' := tk) fun _ _ z => z, rfl, fin⟩
theorem se_isP {rl : List Str} {a : Addr} {oe : Obj} {c y : Str} {b : Bool} {cv : V} {cvv : Value} (C : ExcC X.K (g.cl c)) (ex : ExAt g rl c oe) (hin : (a, oe) ∈ X.pn)
    (hk : PySem.W.kitOne X.K (.ref (g.cl c)) cvv = some b) (hcv : ∀ u, RelV cv u → u = cvv) (hg : Gl X "isinstance") (hm : X.mg "isinstance" = none) (ha : SE X g W e wa) (py : PE X (.Name y p2) (tC cv))
    (s1 : starEach [e, .Name y p2] X.env = (false, eval e X.env) :: starEach [.Name y p2] X.env := by rfl) (s2 : starEach [.Name y p2] X.env = (false, eval (.Name y p2) X.env) :: starEach [] X.env := by rfl) (s3 : (backTo pos (starEach [.Name y p2] X.env)).any (·.1) = false := by rfl) :
    SE X g W (.Call (.Name "isinstance" p) [e, .Name y p2] [] pos) (wIsE a c b wa) := by
  obtain ⟨ta, pa, ga⟩ := ha
  refine ⟨_, pe_callB (call_isP C ex.z ex.d hin) hg hm (by decide +kernel) (pa_cons pa (pa_cons py pa_nil s2) s1) (by decide) (by decide) s1 s3, fun H0 r S H s sv Q k xc si rs h ce cx => ?_⟩
  refine ga H0 r S H s sv _ _ xc si rs h (fun d v H1 r1 S1 H1' f1 s1 rl h1 => ?_) cx
  obtain ⟨e1, hk'⟩ := h1
  subst e1
  unfold Rel at rl
  subst rl
  exact ⟨_, _, _, rfl, hcv, hk, ce _ _ _ _ _ _ f1 s1 rel_bl' hk'⟩
end
/-! ### a sum that is a list which will be changed -/
def addCW : D → D → Sto → KD → Prop := fun x y S k => ∃ a b, rview S x = some a ∧ rview S y = some b ∧ a.length + b.length ≤ sizeLine ∧ k (.cell S.length) (S ++ [.lst (a ++ b)])
theorem good_addC {K : PySem.W.Frag} {g : Gi} : GoodO K g rCatX addCW := by
  intro H0 r S H d e x y k Q si h1 h2 hw ce
  obtain ⟨a, b, ea, eb, hl, hk⟩ := hw
  obtain ⟨p, xs, rfl, q1, q2⟩ := rview_rel si h1 ea
  obtain ⟨p', ys, rfl, q3, q4⟩ := rview_rel si h2 eb
  refine ⟨p, p', xs, ys, rfl, rfl, q1, q3, by rw [q2.length, q4.length]; exact hl, fun l hl' => ?_⟩
  obtain ⟨s4, f4, rl4⟩ := si.newLst hl' (q2.append q4)
  exact ce _ _ _ _ _ _ f4 s4 rl4 hk
theorem se_addC {X : Cx} {g : Gi} {W : WX} {a b : Expr} {pos : Pos} {wa wb : WE} (ha : SE X g W a wa) (hb : SE X g W b wb) : SE X g W (.BinOp a .Add b pos) (wOp addCW wa wb) := se_bin op_catX good_addC ha hb
/-! ### sorted backwards -/
def sortR : List D → Sto → KD → Prop
  | [x], S, k => ∃ ns : List Int, isInts S x ns ∧ ∀ ms : List Int, ms.Perm ns → ms.Pairwise (fun a b => b ≤ a) → k (.lst (ms.map .int)) S
  | _, _, _ => False
theorem se_sortedR {X : Cx} {g : Gi} {W : WX} {e : Expr} {ws : WA} {j : Nat} {p pos kpos cpos : Pos} (hg : Gl X "sorted") (hm : X.mg "sorted" = none) (ha : SA X g W [e] ws)
    (h1 : backTo pos (starEach [e] X.env) = (false, eval e X.env) :: backTo pos (starEach [] X.env) := by rfl) (h2 : (backTo pos (starEach [e] X.env)).any (·.1) = false := by rfl)
    (h3 : (backToKw pos (keywordEach [⟨some "reverse", .Constant (.bool true) j cpos, kpos⟩] X.env)).all (·.1.isSome) = true := by rfl) (h4 : (backToKw pos (keywordEach [⟨some "reverse", .Constant (.bool true) j cpos, kpos⟩] X.env)).any (·.1.isNone) = false := by rfl) (h5 : (backToKw pos (keywordEach [⟨some "reverse", .Constant (.bool true) j cpos, kpos⟩] X.env)).filterMap (·.1) = [Str.ofString "reverse"] := by rfl) :
    SE X g W (.Call (.Name "sorted" p) [e] [⟨some "reverse", .Constant (.bool true) j cpos, kpos⟩] pos) (wB sortR ws) := by
  obtain ⟨ta, pa, ga⟩ := ha
  refine ⟨_, pe_callBK (cr_sortedRev (b := true)) hg hm (by decide +kernel) pa (pk_cons pe_bl pk_nil) (by decide) (by decide) h1 h2 h3 h4 h5, fun H0 r S H s sv Q k xc si rs h ce cx => ?_⟩
  refine ga H0 r S H s sv _ _ xc si rs h (fun ds vs H1 r1 S1 H1' f1 s1 rl q => ?_) cx
  show rSortedKw X.K true [.bl true] vs [.bl true] H1' Q
  unfold sortR at q
  split at q
  · obtain ⟨v, rfl, q1⟩ := rels1 rl
    obtain ⟨ns, e1, hk⟩ := q
    obtain ⟨l, ys, rfl, q3, q4⟩ := lview_rel s1 q1 e1
    rw [Rels.ints] at q4
    subst q4
    refine ⟨l, ns, rfl, rfl, q3, fun ms z pm ord hz => ?_⟩
    obtain ⟨s4, f4, rl4⟩ := s1.lst hz (Rels.ints.mpr rfl)
    exact ce _ _ _ _ _ _ (f1.tr s1 f4) s4 rl4 (hk ms pm ord)
  · exact q.elim
end Ab

namespace Ab
open PySem PySem.Spec PyProof.Rows L2
noncomputable def vFld : (Str) → (Str) → (WE) → (WE) := sld wFld
theorem vFld_s : vFld = wFld := sld_eq _
theorem vFld_q (C f : Str) (we : WE) (xc : _) (s : _) (S : _) (k : _) : vFld C f we xc s S k = (we xc s S (kFld C f k)) := by rw [vFld_s]; rfl
noncomputable def vSetF : (Str) → (Str) → (WE) → (WE) → (WS) := sld wSetF
theorem vSetF_s : vSetF = wSetF := sld_eq _
theorem vSetF_q (C f : Str) (wv wo : WE) (D : _) (s : _) (S : _) : vSetF C f wv wo D s S = (wv D.xc s S fun d S1 => wo D.xc s S1 fun y S2 => kSetF C f d (D.nx s) y S2) := by rw [vSetF_s]; rfl
noncomputable def vMeth : (Str) → (Str) → (WF) → (WE) → (WA) → (WE) := sld wMeth
theorem vMeth_s : vMeth = wMeth := sld_eq _
theorem vMeth_q (C m : Str) (wf : WF) (wo : WE) (ws : WA) (xc : _) (s : _) (S : _) (k : _) : vMeth C m wf wo ws xc s S k = (wo xc s S fun o S1 => isO C m o S1 ∧ ws xc s S1 fun ds S2 => wf (o :: ds) S2 k fun c S3 => xc c s S3) := by rw [vMeth_s]; rfl
noncomputable def vMake : (Str) → (WF) → (WA) → (WE) := sld wMake
theorem vMake_s : vMake = wMake := sld_eq _
theorem vMake_q (C : Str) (wf : WF) (ws : WA) (xc : _) (s : _) (S : _) (k : _) : vMake C wf ws xc s S k = (ws xc s S fun ds S1 => wf (.cell S1.length :: ds) (S1 ++ [.obj C []]) (fun d S2 => d = .non ∧ k (.cell S1.length) S2) fun c S3 => xc c s S3) := by rw [vMake_s]; rfl
noncomputable def vTrimM : (WF) → (WF) := sld wTrimM
theorem vTrimM_s : vTrimM = wTrimM := sld_eq _
theorem vTrimM_q (wf : WF) (ds : _) (S : _) (k : _) (xk : _) : vTrimM wf ds S k xk = (wf ds S (fun d S' => d.clo S.length = true ∧ Kept S S' ∧ k d (S'.take S.length)) (fun c S' => Kept S S' ∧ xk c (S'.take S.length))) := by rw [vTrimM_s]; rfl
noncomputable def vCallE : (WF) → (WA) → (WE) := sld wCallE
theorem vCallE_s : vCallE = wCallE := sld_eq _
theorem vCallE_q (wf : WF) (ws : WA) (y0 : _) (s : _) (S : _) (k : _) : vCallE wf ws y0 s S k = (ws noXC s S fun ds S1 => wf ds S1 k fun _ _ => False) := by rw [vCallE_s]; rfl
theorem kFld_c {C f : Str} {k : KD} {n : Nat} {S : Sto} : kFld C f k (.cell n) S = ∃ fs d, S[n]? = some (.obj C fs) ∧ fs.lookup f = some d ∧ k d S := id rfl
theorem kSetF_c {C f : Str} {d : D} {nx : Sto → Prop} {n : Nat} {S : Sto} : kSetF C f d nx (.cell n) S = ∃ fs, S[n]? = some (.obj C fs) ∧ fs.length < 1000 ∧ nx (S.set n (.obj C (putD f d fs))) := id rfl
theorem isO_c {C m : Str} {n : Nat} {S : Sto} : isO C m (.cell n) S = ∃ fs, S[n]? = some (.obj C fs) ∧ fs.lookup m = none := id rfl
theorem vTrimM_i {np n : Nat} {w : WS} {ds : List D} {S : Sto} {k : KD} {xk : XD} (h1 : ds.length = np) (h : w ⟨fun _ S' => D.clo S.length .non = true ∧ Kept S S' ∧ k .non (S'.take S.length), fun d S' => d.clo S.length = true ∧ Kept S S' ∧ k d (S'.take S.length), fun c _ S' => Kept S S' ∧ xk c (S'.take S.length)⟩ (ds.map some ++ List.replicate (n - ds.length) none) S) : vTrimM (vDef np n w) ds S k xk := by
  rw [vTrimM_q]; exact vDef_i h1 h
theorem vTrimM_l {np n : Nat} {w : WS} {ds : List D} {S : Sto} {k : KD} {xk : XD} (h : vTrimM (vDef np n w) ds S k xk) : ds.length = np := by
  rw [vTrimM_q] at h; exact vDef_l h
theorem Kept.rfl' {S T : Sto} : Kept S (S ++ T) := ⟨by rw [List.length_append]; omega, fun i c hi e => .inl (by rwa [List.getElem?_append_left hi] at e)⟩
theorem Kept.self {S : Sto} : Kept S S := ⟨Nat.le_refl _, fun i c hi e => .inl e⟩
end Ab

namespace Ab
open PySem
/-! ### books -/
structure Deal where
  a : Int
  b : Int
  w : Int
  u : Int
  c : Int
  d : Int
  r : Int
  s : Str
def dealD (x : Deal) : D := .tup [.int x.a, .int x.b, .int x.w, .int x.u, .int x.c, .int x.d, .int x.r, .str x.s]
def dealL (ks : List Deal) : List D := ks.map dealD
theorem dealL_len {ks : List Deal} : (dealL ks).length = ks.length := by unfold dealL; simp
theorem dealL_snoc {ks : List Deal} {x : Deal} : dealL ks ++ [dealD x] = dealL (ks ++ [x]) := by unfold dealL; simp
theorem dealL_set {ks : List Deal} {n : Nat} {x : Deal} : (dealL ks).set n (dealD x) = dealL (ks.set n x) := by unfold dealL; rw [List.map_set]
theorem dealL_pure (ks : List Deal) : pureAll (dealL ks) = true := pureAll_iff.mpr fun x hx => by
  unfold dealL at hx
  obtain ⟨z, _, rfl⟩ := List.mem_map.mp hx
  rfl
theorem at_dealL {ks : List Deal} {n : Nat} {x : Deal} (h : ks[n]? = some x) : L2.atI (dealL ks) (n : Int) = some (dealD x) := L2.atI_nat (by unfold dealL; rw [List.getElem?_map, h]; rfl)
theorem dealD_plain (x : Deal) : (dealD x).plain = true := by
  unfold dealD D.plain
  rfl
def bookF (m w n : Int) (q : Nat) : List (Str × D) := [("many", .int m), ("wares", .int w), ("now", .int n), ("kept", .cell q)]
theorem bookF_many {m w n : Int} {q : Nat} : (bookF m w n q).lookup ("many" : Str) = some (D.int m) := rfl
theorem bookF_wares {m w n : Int} {q : Nat} : (bookF m w n q).lookup ("wares" : Str) = some (D.int w) := rfl
theorem bookF_now {m w n : Int} {q : Nat} : (bookF m w n q).lookup ("now" : Str) = some (D.int n) := rfl
theorem bookF_kept {m w n : Int} {q : Nat} : (bookF m w n q).lookup ("kept" : Str) = some (D.cell q) := rfl
theorem bookF_put {m w n n' : Int} {q : Nat} : putD ("now" : Str) (D.int n') (bookF m w n q) = bookF m w n' q := rfl
theorem dealD_pure (x : Deal) : (dealD x).pure = true := rfl
theorem tm_self {S : Sto} {k : KD} {d : D} (hd : d.pure = true) (h : k d S) : d.clo S.length = true ∧ Kept S S ∧ k d (S.take S.length) := ⟨clo_pure hd, .self, by rw [List.take_length]; exact h⟩
theorem tm_x {S : Sto} {c : Str} {xk : XD} (h : xk c S) : Kept S S ∧ xk c (S.take S.length) := ⟨.self, by rw [List.take_length]; exact h⟩
/-- old cells written anew, junk behind -/
theorem Kept.set {S : Sto} {q : Nat} {c : Cel} (hc : c.clo S.length = true) : Kept S (S.set q c) := by
  refine ⟨by rw [List.length_set]; exact Nat.le_refl _, fun i c' hi e => ?_⟩
  by_cases h : q = i
  · subst h
    rw [List.getElem?_set_self hi] at e
    cases e
    exact .inr hc
  · rw [List.getElem?_set_ne h] at e
    exact .inl e
theorem tm_set {S : Sto} {q : Nat} {c : Cel} {k : KD} {d : D} (hc : c.clo S.length = true) (hd : d.pure = true) (h : k d (S.set q c)) : d.clo S.length = true ∧ Kept S (S.set q c) ∧ k d ((S.set q c).take S.length) :=
  ⟨clo_pure hd, .set hc, by
    have := List.take_length (l := S.set q c)
    rw [List.length_set] at this
    rw [this]; exact h⟩
theorem clo_lst {n : Nat} {xs : List D} (h : pureAll xs = true) : (Cel.lst xs).clo n = true := cloAll_pure h
theorem Kept.trans {S S' S'' : Sto} (a : Kept S S') (b : Kept S' S'') (h : ∀ (i : Nat) (c : Cel), i < S.length → S''[i]? = some c → S'[i]? = some c ∨ c.clo S.length = true) : Kept S S'' :=
  ⟨Nat.le_trans a.1 b.1, fun i c hi e => (h i c hi e).elim (fun q => a.2 i c hi q) .inr⟩
/-! what a deal must be -/
def memBad (m a b : Int) : Prop := ¬ (0 ≤ a ∧ a < m) ∨ ¬ (0 ≤ b ∧ b < m) ∨ a = b
def termBad (wn w u c d r : Int) : Prop := ¬ (0 ≤ w ∧ w < wn) ∨ ¬ (1 ≤ u ∧ u ≤ 1000000) ∨ ¬ (1 ≤ c ∧ c ≤ 1000000000) ∨ ¬ (0 ≤ d ∧ d ≤ 1000000) ∨ ¬ (0 ≤ r ∧ r ≤ 2)
instance {m a b : Int} : Decidable (memBad m a b) := by unfold memBad; exact inferInstance
instance {wn w u c d r : Int} : Decidable (termBad wn w u c d r) := by unfold termBad; exact inferInstance
def termD (x : Deal) : D := .tup [.int x.a, .int x.b, .int x.w, .int x.u, .int x.c, .int x.d, .int x.r]
theorem termD_plain (x : Deal) : (termD x).plain = true := by
  unfold termD D.plain
  rfl
theorem dealD_ok (n : Nat) (x : Deal) (h : PyData.strOk x.s = true) : okEq (n + 2) (dealD x) = true := by
  unfold dealD okEq
  rw [List.all_eq_true]
  intro y hy
  simp at hy
  rcases hy with rfl | rfl | rfl | rfl | rfl | rfl | rfl | rfl <;> unfold okEq
  all_goals first | rfl | exact h
/-- the first refusal that is due, of a deal that is struck -/
def strikeE (m wn n : Int) (x : Deal) : Option Str := if memBad m x.a x.b then some "NoMember" else if termBad wn x.w x.u x.c x.d x.r then some "NoTerms" else if x.d < n then some "Closed" else none
theorem strikeE_none {m wn n : Int} {x : Deal} (h1 : ¬ memBad m x.a x.b) (h2 : ¬ termBad wn x.w x.u x.c x.d x.r) (h3 : ¬ x.d < n) : strikeE m wn n x = none := by
  unfold strikeE
  rw [if_neg h1, if_neg h2, if_neg h3]
theorem atI_7 {x0 x1 x2 x3 x4 x5 x6 x7 : D} {r : List D} : L2.atI (x0 :: x1 :: x2 :: x3 :: x4 :: x5 :: x6 :: x7 :: r) 7 = some x7 := @L2.atI_nat D (x0 :: x1 :: x2 :: x3 :: x4 :: x5 :: x6 :: x7 :: r) 7 x7 rfl
end Ab

namespace Ab
open PySem
/-! ### days of a book -/
def dealV (x : Deal) : List D := [.int x.a, .int x.b, .int x.w, .int x.u, .int x.c, .int x.d, .int x.r, .str x.s]
theorem dealD_v (x : Deal) : dealD x = .tup (dealV x) := rfl
def StOk (x : Deal) : Prop := x.s = "standing" ∨ x.s = "settled" ∨ x.s = "broken"
theorem StOk.str {x : Deal} (h : StOk x) : PyData.strOk x.s = true := by
  rcases h with h | h | h <;> rw [h] <;> decide +kernel
def onDay (ks : List Deal) (d : Int) (j : Nat) : Bool := match ks[j]? with
  | some x => decide (x.d = d) && decide (x.s ≠ "broken")
  | none => false
theorem onDay_some {ks : List Deal} {d : Int} {j : Nat} {x : Deal} (h : ks[j]? = some x) : onDay ks d j = (decide (x.d = d) && decide (x.s ≠ "broken")) := by
  unfold onDay
  rw [h]
def numsTo (ks : List Deal) (d : Int) (n : Nat) : List Nat := (List.range n).filter (onDay ks d)
def numsOn (ks : List Deal) (d : Int) : List Nat := numsTo ks d ks.length
theorem numsTo_s {ks : List Deal} {d : Int} {n : Nat} : numsTo ks d (n + 1) = if onDay ks d n = true then numsTo ks d n ++ [n] else numsTo ks d n := by
  unfold numsTo
  rw [List.range_succ, List.filter_append]
  split
  · rename_i h
    rw [List.filter_cons_of_pos h]; rfl
  · rename_i h
    rw [List.filter_cons_of_neg h, List.filter_nil, List.append_nil]
theorem numsTo_len {ks : List Deal} {d : Int} {n : Nat} : (numsTo ks d n).length ≤ n := by
  have := List.length_filter_le (onDay ks d) (List.range n)
  rw [List.length_range] at this
  exact this
theorem numsOn_mem {ks : List Deal} {d : Int} {j : Nat} : j ∈ numsOn ks d ↔ ∃ x, ks[j]? = some x ∧ x.d = d ∧ x.s ≠ "broken" := by
  unfold numsOn numsTo
  rw [List.mem_filter, List.mem_range]
  constructor
  · rintro ⟨h1, h2⟩
    have e := List.getElem?_eq_getElem h1
    rw [onDay_some e] at h2
    exact ⟨_, e, by simpa using h2⟩
  · rintro ⟨x, h1, h2, h3⟩
    refine ⟨(List.getElem?_eq_some_iff.mp h1).1, ?_⟩
    rw [onDay_some h1]
    simp [h2, h3]
theorem numsOn_nodup {ks : List Deal} {d : Int} : (numsOn ks d).Nodup := List.Nodup.sublist List.filter_sublist List.nodup_range
theorem numsOn_len {ks : List Deal} {d : Int} : (numsOn ks d).length ≤ ks.length := numsTo_len
def setSt (ks : List Deal) (j : Nat) (s : Str) : List Deal := match ks[j]? with
  | some x => ks.set j { x with s := s }
  | none => ks
theorem setSt_len {ks : List Deal} {j : Nat} {s : Str} : (setSt ks j s).length = ks.length := by
  unfold setSt
  split
  · rw [List.length_set]
  · rfl
theorem setSt_get {ks : List Deal} {j i : Nat} {s : Str} {x : Deal} (h : ks[i]? = some x) : (setSt ks j s)[i]? = some (if i = j then { x with s := s } else x) := by
  unfold setSt
  split
  · rename_i y hy
    by_cases e : i = j
    · subst e
      rw [h] at hy
      cases hy
      rw [List.getElem?_set_self (List.getElem?_eq_some_iff.mp h).1, if_pos rfl]
    · rw [List.getElem?_set_ne (Ne.symm e), if_neg e]
      exact h
  · rename_i hy
    rw [if_neg]
    · exact h
    · intro e
      rw [← e, h] at hy
      cases hy
def closeK (n : Int) (ks : List Deal) : List Deal := ks.map fun (x : Deal) => if x.d = n ∧ x.s = ("standing" : Str) then { x with s := "settled" } else x
theorem closeK_len {n : Int} {ks : List Deal} : (closeK n ks).length = ks.length := by unfold closeK; simp
def stepC (ks : List Deal) (j : Nat) : List Deal := match ks[j]? with
  | some x => if x.s = "standing" then setSt ks j "settled" else ks
  | none => ks
def closeN (ks : List Deal) (js : List Nat) : List Deal := js.foldl stepC ks
theorem stepC_len {ks : List Deal} {j : Nat} : (stepC ks j).length = ks.length := by
  unfold stepC
  split
  · split
    · exact setSt_len
    · rfl
  · rfl
theorem stepC_get {ks : List Deal} {i j : Nat} {x : Deal} (h : ks[i]? = some x) : (stepC ks j)[i]? = some (if i = j ∧ x.s = "standing" then { x with s := "settled" } else x) := by
  unfold stepC
  split
  · rename_i y hy
    by_cases e : i = j
    · subst e
      rw [h] at hy
      cases hy
      by_cases c : x.s = ("standing" : Str)
      · rw [if_pos c, setSt_get h, if_pos rfl, if_pos ⟨rfl, c⟩]
      · rw [if_neg c, if_neg (fun z => c z.2)]
        exact h
    · rw [if_neg (fun (z : i = j ∧ x.s = ("standing" : Str)) => e z.1)]
      by_cases c : y.s = ("standing" : Str)
      · rw [if_pos c, setSt_get h, if_neg e]
      · rw [if_neg c]
        exact h
  · rename_i hy
    rw [if_neg]
    · exact h
    · rintro ⟨e, _⟩
      rw [← e, h] at hy
      cases hy
theorem closeN_len {ks : List Deal} : ∀ {js : List Nat}, (closeN ks js).length = ks.length := fun {js} => by
  unfold closeN
  induction js generalizing ks with
  | nil => rfl
  | cons j js ih => rw [List.foldl_cons, ih, stepC_len]
theorem closeN_get {i : Nat} : ∀ {js : List Nat} {ks : List Deal} {x : Deal}, js.Nodup → ks[i]? = some x → (closeN ks js)[i]? = some (if i ∈ js ∧ x.s = "standing" then { x with s := "settled" } else x)
  | [], ks, x, _, h => by
    rw [if_neg (fun z => by simp at z)]
    exact h
  | j :: js, ks, x, nd, h => by
    rw [List.nodup_cons] at nd
    have h1 := stepC_get (j := j) h
    have h2 := closeN_get (js := js) nd.2 h1
    show (closeN (stepC ks j) js)[i]? = _
    rw [h2]
    congr 1
    by_cases e : i = j
    · subst e
      have ni : i ∉ js := nd.1
      rw [if_neg (fun z => ni z.1)]
      by_cases c : x.s = "standing"
      · rw [if_pos ⟨rfl, c⟩, if_pos ⟨by simp, c⟩]
      · rw [if_neg (fun z => c z.2), if_neg (fun z => c z.2)]
    · have e1 : (if i = j ∧ x.s = "standing" then ({ x with s := "settled" } : Deal) else x) = x := if_neg fun z => e z.1
      rw [e1]
      by_cases c : i ∈ js ∧ x.s = "standing"
      · rw [if_pos c, if_pos ⟨by simp [c.1], c.2⟩]
      · rw [if_neg c, if_neg (fun z => c ⟨by simpa [e] using z.1, z.2⟩)]
theorem closeN_all {n : Int} {ks : List Deal} : closeN ks (numsOn ks n) = closeK n ks := list_eq (by rw [closeN_len, closeK_len]) fun i x y e1 e2 => by
  have hi : i < ks.length := by
    have := (List.getElem?_eq_some_iff.mp e2).1
    rwa [closeK_len] at this
  have ez : ks[i]? = some ks[i] := List.getElem?_eq_getElem hi
  rw [closeN_get numsOn_nodup ez] at e1
  unfold closeK at e2
  rw [List.getElem?_map, ez] at e2
  cases e1
  cases e2
  show _ = (if ks[i].d = n ∧ ks[i].s = ("standing" : Str) then ({ ks[i] with s := "settled" } : Deal) else ks[i])
  have hm : (i ∈ numsOn ks n ∧ ks[i].s = "standing") ↔ (ks[i].d = n ∧ ks[i].s = "standing") := by
    rw [numsOn_mem]
    constructor
    · rintro ⟨⟨x, h1, h2, _⟩, h4⟩
      rw [ez] at h1
      cases h1
      exact ⟨h2, h4⟩
    · rintro ⟨h1, h2⟩
      exact ⟨⟨_, ez, h1, by rw [h2]; decide⟩, h2⟩
  by_cases c : ks[i].d = n ∧ ks[i].s = "standing"
  · rw [if_pos c, if_pos (hm.mpr c)]
  · rw [if_neg c, if_neg (fun z => c (hm.mp z))]
theorem closeK_st {n : Int} {ks : List Deal} (h : ∀ x ∈ ks, StOk x) : ∀ x ∈ closeK n ks, StOk x := fun x hx => by
  unfold closeK at hx
  obtain ⟨y, hy, rfl⟩ := List.mem_map.mp hx
  split
  · exact .inr (.inl rfl)
  · exact h y hy
/-! the numbers, as data -/
def natL (js : List Nat) : List D := js.map fun (j : Nat) => D.int (j : Int)
theorem natL_vI (js : List Nat) : natL js = vI (js.map fun (j : Nat) => (j : Int)) := by
  unfold natL vI
  rw [List.map_map]
  rfl
theorem natL_len {js : List Nat} : (natL js).length = js.length := by unfold natL; simp
theorem natL_plain (js : List Nat) : plainAll (natL js) = true := by rw [natL_vI]; exact vI_plain _
theorem natL_pure (js : List Nat) : pureAll (natL js) = true := by rw [natL_vI]; exact vI_pure _
theorem natL_snoc {js : List Nat} {j : Nat} : natL js ++ [.int (j : Int)] = natL (js ++ [j]) := by unfold natL; simp
/-! the days' numbers that a closing finds -/
def stands (ks : List Deal) (j : Nat) : Bool := match ks[j]? with
  | some x => decide (x.s = "standing")
  | none => false
theorem stands_some {ks : List Deal} {j : Nat} {x : Deal} (h : ks[j]? = some x) : stands ks j = decide (x.s = "standing") := by
  unfold stands
  rw [h]
/-! ### a book and the rows kept beside it -/
def rowD (x : Deal) : Cel := .lst (dealV x)
theorem dealV_pure (x : Deal) : pureAll (dealV x) = true := rfl
structure Bk (S : Sto) (b q r : Nat) (cs : List Nat) (m wn n : Int) (ks rs : List Deal) : Prop where
  ob : S[b]? = some (.obj "Book" (bookF m wn n q))
  kp : S[q]? = some (.lst (dealL ks))
  rw : S[r]? = some (.lst (cs.map .cell))
  nd : cs.Nodup
  len : cs.length = rs.length
  row : ∀ (i c : Nat) (x : Deal), cs[i]? = some c → rs[i]? = some x → S[c]? = some (.lst (dealV x))
  qr : q ≠ r
  qc : q ∉ cs
  rc : r ∉ cs
theorem nodup_ix {α : Type} {l : List α} (nd : l.Nodup) {i j : Nat} {x : α} (h1 : l[i]? = some x) (h2 : l[j]? = some x) : i = j := by
  obtain ⟨l1, g1⟩ := List.getElem?_eq_some_iff.mp h1
  obtain ⟨l2, g2⟩ := List.getElem?_eq_some_iff.mp h2
  have p := List.pairwise_iff_getElem.mp nd
  rcases Nat.lt_trichotomy i j with c | c | c
  · exact absurd (g1.trans g2.symm) (p i j l1 l2 c)
  · exact c
  · exact absurd (g2.trans g1.symm) (p j i l2 l1 c)
variable {S : Sto} {b q r : Nat} {cs : List Nat} {m wn n : Int} {ks rs : List Deal}
theorem Bk.bq (h : Bk S b q r cs m wn n ks rs) : b ≠ q := fun e => by
  have := h.ob
  rw [e, h.kp] at this
  cases this
theorem Bk.br (h : Bk S b q r cs m wn n ks rs) : b ≠ r := fun e => by
  have := h.ob
  rw [e, h.rw] at this
  cases this
theorem Bk.bl (h : Bk S b q r cs m wn n ks rs) : b < S.length := (List.getElem?_eq_some_iff.mp h.ob).1
theorem Bk.ql (h : Bk S b q r cs m wn n ks rs) : q < S.length := (List.getElem?_eq_some_iff.mp h.kp).1
theorem Bk.rl (h : Bk S b q r cs m wn n ks rs) : r < S.length := (List.getElem?_eq_some_iff.mp h.rw).1
theorem Bk.at (h : Bk S b q r cs m wn n ks rs) {i : Nat} {x : Deal} (e : rs[i]? = some x) : ∃ c, cs[i]? = some c ∧ S[c]? = some (.lst (dealV x)) := by
  have hi := (List.getElem?_eq_some_iff.mp e).1
  rw [← h.len] at hi
  exact ⟨_, List.getElem?_eq_getElem hi, h.row _ _ _ (List.getElem?_eq_getElem hi) e⟩
theorem Bk.to (h : Bk S b q r cs m wn n ks rs) {i c : Nat} (e : cs[i]? = some c) : ∃ x, rs[i]? = some x ∧ S[c]? = some (.lst (dealV x)) := by
  have hi := (List.getElem?_eq_some_iff.mp e).1
  rw [h.len] at hi
  exact ⟨_, List.getElem?_eq_getElem hi, h.row _ _ _ e (List.getElem?_eq_getElem hi)⟩
theorem Bk.cl (h : Bk S b q r cs m wn n ks rs) {c : Nat} (e : c ∈ cs) : c < S.length := by
  obtain ⟨i, e⟩ := List.mem_iff_getElem?.mp e
  obtain ⟨x, _, e2⟩ := h.to e
  exact (List.getElem?_eq_some_iff.mp e2).1
theorem Bk.bc (h : Bk S b q r cs m wn n ks rs) : b ∉ cs := fun e => by
  obtain ⟨i, e⟩ := List.mem_iff_getElem?.mp e
  obtain ⟨x, _, e2⟩ := h.to e
  rw [h.ob] at e2
  cases e2
theorem Bk.setK (h : Bk S b q r cs m wn n ks rs) (ks' : List Deal) : Bk (S.set q (.lst (dealL ks'))) b q r cs m wn n ks' rs where
  ob := by rw [List.getElem?_set_ne h.bq.symm]; exact h.ob
  kp := List.getElem?_set_self h.ql
  rw := by rw [List.getElem?_set_ne h.qr]; exact h.rw
  nd := h.nd
  len := h.len
  row := fun i c x e1 e2 => by
    rw [List.getElem?_set_ne (fun e => h.qc (by rw [e]; exact List.mem_of_getElem? e1))]
    exact h.row i c x e1 e2
  qr := h.qr
  qc := h.qc
  rc := h.rc
theorem Bk.setN (h : Bk S b q r cs m wn n ks rs) (n' : Int) : Bk (S.set b (.obj "Book" (bookF m wn n' q))) b q r cs m wn n' ks rs where
  ob := List.getElem?_set_self h.bl
  kp := by rw [List.getElem?_set_ne h.bq]; exact h.kp
  rw := by rw [List.getElem?_set_ne h.br]; exact h.rw
  nd := h.nd
  len := h.len
  row := fun i c x e1 e2 => by
    rw [List.getElem?_set_ne (fun e => h.bc (by rw [e]; exact List.mem_of_getElem? e1))]
    exact h.row i c x e1 e2
  qr := h.qr
  qc := h.qc
  rc := h.rc
theorem Bk.setR (h : Bk S b q r cs m wn n ks rs) {i c : Nat} (e : cs[i]? = some c) (x : Deal) : Bk (S.set c (.lst (dealV x))) b q r cs m wn n ks (rs.set i x) where
  ob := by rw [List.getElem?_set_ne (fun z => h.bc (by rw [← z]; exact List.mem_of_getElem? e))]; exact h.ob
  kp := by rw [List.getElem?_set_ne (fun z => h.qc (by rw [← z]; exact List.mem_of_getElem? e))]; exact h.kp
  rw := by rw [List.getElem?_set_ne (fun z => h.rc (by rw [← z]; exact List.mem_of_getElem? e))]; exact h.rw
  nd := h.nd
  len := by rw [List.length_set]; exact h.len
  row := fun i' c' x' e1 e2 => by
    by_cases hi : i = i'
    · subst hi
      rw [e] at e1
      cases e1
      have hl := (List.getElem?_eq_some_iff.mp e2).1
      rw [List.length_set] at hl
      rw [List.getElem?_set_self hl] at e2
      cases e2
      exact List.getElem?_set_self (h.cl (List.mem_of_getElem? e))
    · rw [List.getElem?_set_ne hi] at e2
      rw [List.getElem?_set_ne]
      · exact h.row i' c' x' e1 e2
      · intro ec
        subst ec
        refine hi ?_
        obtain ⟨l1, g1⟩ := List.getElem?_eq_some_iff.mp e
        obtain ⟨l2, g2⟩ := List.getElem?_eq_some_iff.mp e1
        exact nodup_ix h.nd e e1
  qr := h.qr
  qc := h.qc
  rc := h.rc
theorem Bk.app (h : Bk S b q r cs m wn n ks rs) (T : Sto) : Bk (S ++ T) b q r cs m wn n ks rs where
  ob := by rw [List.getElem?_append_left h.bl]; exact h.ob
  kp := by rw [List.getElem?_append_left h.ql]; exact h.kp
  rw := by rw [List.getElem?_append_left h.rl]; exact h.rw
  nd := h.nd
  len := h.len
  row := fun i c x e1 e2 => by
    rw [List.getElem?_append_left (h.cl (List.mem_of_getElem? e1))]
    exact h.row i c x e1 e2
  qr := h.qr
  qc := h.qc
  rc := h.rc
/-- a new row, its cell at the store's end -/
theorem Bk.snoc (h : Bk S b q r cs m wn n ks rs) (x : Deal) : Bk ((S ++ [Cel.lst (dealV x)]).set r (Cel.lst ((cs ++ [S.length]).map .cell))) b q r (cs ++ [S.length]) m wn n ks (rs ++ [x]) := by
  have h2 := h.app [Cel.lst (dealV x)]
  have nl : S.length ∉ cs := fun e => Nat.lt_irrefl _ (h.cl e)
  refine ⟨?_, ?_, List.getElem?_set_self h2.rl, ?_, ?_, ?_, h.qr, ?_, ?_⟩
  · rw [List.getElem?_set_ne h.br.symm]; exact h2.ob
  · rw [List.getElem?_set_ne h.qr.symm]; exact h2.kp
  · exact List.nodup_append.mpr ⟨h.nd, by simp, fun y hy z hz e => nl (by rw [List.mem_singleton] at hz; rw [← hz, ← e]; exact hy)⟩
  · rw [List.length_append, List.length_append, h.len]; rfl
  · intro i c y e1 e2
    by_cases hi : i < cs.length
    · rw [List.getElem?_append_left hi] at e1
      rw [List.getElem?_append_left (by rw [← h.len]; exact hi)] at e2
      rw [List.getElem?_set_ne (fun e => h.rc (by rw [e]; exact List.mem_of_getElem? e1))]
      exact h2.row i c y e1 e2
    · have hl := (List.getElem?_eq_some_iff.mp e1).1
      rw [List.length_append, List.length_singleton] at hl
      obtain rfl : i = cs.length := by omega
      rw [List.getElem?_concat_length] at e1
      rw [h.len, List.getElem?_concat_length] at e2
      cases e1
      cases e2
      rw [List.getElem?_set_ne (fun e => Nat.lt_irrefl _ (e ▸ h.rl)), List.getElem?_concat_length]
  · intro e
    rcases List.mem_append.mp e with e | e
    · exact h.qc e
    · rw [List.mem_singleton] at e
      have := h.ql
      omega
  · intro e
    rcases List.mem_append.mp e with e | e
    · exact h.rc e
    · rw [List.mem_singleton] at e
      have := h.rl
      omega
/-- what a book's methods, and writes of rows, may change -/
def Bf (b q : Nat) (cs : List Nat) (S S' : Sto) : Prop := S'.length = S.length ∧ ∀ (i : Nat) (c : Cel), S'[i]? = some c → S[i]? = some c ∨ (c.clo S.length = true ∧ (i = b ∨ i = q ∨ i ∈ cs))
theorem Bf.refl {S : Sto} : Bf b q cs S S := ⟨rfl, fun _ _ h => .inl h⟩
theorem Bf.set {S S' : Sto} {j : Nat} {c : Cel} (h : Bf b q cs S S') (hc : c.clo S.length = true) (hj : j = b ∨ j = q ∨ j ∈ cs) : Bf b q cs S (S'.set j c) := by
  refine ⟨by rw [List.length_set]; exact h.1, fun i c' e => ?_⟩
  by_cases hq : j = i
  · subst hq
    by_cases hl : j < S'.length
    · rw [List.getElem?_set_self hl] at e
      cases e
      exact .inr ⟨hc, hj⟩
    · rw [List.getElem?_eq_none (by rw [List.length_set]; omega)] at e
      cases e
  · rw [List.getElem?_set_ne hq] at e
    exact h.2 i c' e
theorem Bf.trans {S S' S'' : Sto} (h : Bf b q cs S S') (h2 : Bf b q cs S' S'') : Bf b q cs S S'' := ⟨h2.1.trans h.1, fun i c e => by
  rcases h2.2 i c e with e | e
  · exact h.2 i c e
  · rw [h.1] at e
    exact .inr e⟩
theorem Bf.setK {S S' : Sto} (h : Bf b q cs S S') (ks : List Deal) : Bf b q cs S (S'.set q (.lst (dealL ks))) := h.set (clo_lst (dealL_pure _)) (.inr (.inl rfl))
theorem Bf.setR {S S' : Sto} {i c : Nat} (h : Bf b q cs S S') (e : cs[i]? = some c) (x : Deal) : Bf b q cs S (S'.set c (.lst (dealV x))) := h.set (clo_lst (dealV_pure _)) (.inr (.inr (List.mem_of_getElem? e)))
theorem bookF_clo {m wn n : Int} {q : Nat} {N : Nat} (h : q < N) : (Cel.obj "Book" (bookF m wn n q)).clo N = true := by
  unfold Cel.clo bookF
  simp only [List.all_cons, List.all_nil, Bool.and_true]
  unfold D.clo
  simp [h]
theorem Bf.setN {S S' : Sto} (h : Bf b q cs S S') (hq : q < S.length) (m wn n : Int) : Bf b q cs S (S'.set b (.obj "Book" (bookF m wn n q))) := h.set (bookF_clo hq) (.inl rfl)
theorem Bf.kept {S S' T : Sto} (h : Bf b q cs S S') : Kept S (S' ++ T) := by
  refine ⟨by rw [List.length_append, h.1]; omega, fun i c hi e => ?_⟩
  rw [List.getElem?_append_left (by rw [h.1]; exact hi)] at e
  exact (h.2 i c e).imp_right fun z => z.1
theorem Bf.take {S S' T : Sto} (h : Bf b q cs S S') : (S' ++ T).take S.length = S' := List.take_left' h.1
theorem Bf.tm {S S' T : Sto} {k : KD} {d : D} (h : Bf b q cs S S') (hd : d.pure = true) (hk : k d S') : d.clo S.length = true ∧ Kept S (S' ++ T) ∧ k d ((S' ++ T).take S.length) := ⟨clo_pure hd, h.kept, by rw [h.take]; exact hk⟩
theorem Bf.tm0 {S S' : Sto} {k : KD} {d : D} (h : Bf b q cs S S') (hd : d.pure = true) (hk : k d S') : d.clo S.length = true ∧ Kept S S' ∧ k d (S'.take S.length) := by
  have := h.tm (T := []) hd hk
  rwa [List.append_nil] at this
theorem Bf.tmx {S S' T : Sto} {xk : XD} {c : Str} (h : Bf b q cs S S') (hk : xk c S') : Kept S (S' ++ T) ∧ xk c ((S' ++ T).take S.length) := ⟨h.kept, by rw [h.take]; exact hk⟩
/-- a cell that is no part of a book is kept -/
theorem Bf.at {S S' : Sto} {i : Nat} {c : Cel} (h : Bf b q cs S S') (e : S[i]? = some c) (hb : i ≠ b) (hq : i ≠ q) (hc : i ∉ cs) : S'[i]? = some c := by
  have hi := (List.getElem?_eq_some_iff.mp e).1
  rw [← h.1] at hi
  have e2 := List.getElem?_eq_getElem hi
  rcases h.2 i _ e2 with z | z
  · rw [e2, ← z, e]
  · rcases z.2 with z | z | z
    · exact absurd z hb
    · exact absurd z hq
    · exact absurd z hc
theorem sto_put {S : Sto} {q j : Nat} {xs : List D} {d y : D} {nx : Sto → Prop} (hS : S[q]? = some (.lst xs)) (hj : xs[j]? = some y) (h : nx (S.set q (.lst (xs.set j d)))) : kSto d nx (.cell q) (.int (j : Int)) S := by
  have := (List.getElem?_eq_some_iff.mp hj).1
  rw [kSto_c]
  exact ⟨xs, j, hS, ixN_in (by omega) (by omega), h⟩
theorem at_dealL0 {ks : List Deal} {n : Nat} {x : Deal} (h : ks[n]? = some x) : (dealL ks)[n]? = some (dealD x) := by
  unfold dealL
  rw [List.getElem?_map, h]
  rfl
theorem closeN_snoc {ks : List Deal} {js : List Nat} {j : Nat} : closeN ks (js ++ [j]) = stepC (closeN ks js) j := by
  unfold closeN
  rw [List.foldl_append]
  rfl
theorem filter_snoc {α : Type} {p : α → Bool} {l : List α} {a : α} : (l ++ [a]).filter p = if p a = true then l.filter p ++ [a] else l.filter p := by
  rw [List.filter_append]
  split
  · rename_i h
    rw [List.filter_cons_of_pos h]; rfl
  · rename_i h
    rw [List.filter_cons_of_neg h, List.filter_nil, List.append_nil]
theorem take_snoc {α : Type} {l : List α} {i : Nat} {a : α} (h : l[i]? = some a) : l.take (i + 1) = l.take i ++ [a] := by
  obtain ⟨h1, h2⟩ := List.getElem?_eq_some_iff.mp h
  subst h2
  exact (List.take_append_getElem h1).symm
theorem nodup_take {α : Type} {l : List α} (h : l.Nodup) {i : Nat} {a : α} (e : l[i]? = some a) : a ∉ l.take i := fun z => by
  obtain ⟨j, ej⟩ := List.mem_iff_getElem?.mp z
  have hj := (List.getElem?_eq_some_iff.mp ej).1
  rw [List.length_take] at hj
  rw [List.getElem?_take] at ej
  split at ej
  · have := nodup_ix h e ej
    omega
  · cases ej
theorem set_same {α : Type} {S : List α} {q : Nat} {c : α} (h : S[q]? = some c) : S.set q c = S := by
  obtain ⟨h1, h2⟩ := List.getElem?_eq_some_iff.mp h
  subst h2
  exact List.set_getElem_self h1
theorem rh_units {k : Nat} {A : Around} (r : L2H.RoomH k A) : A.units + 64 < cLine := by
  have := r.un
  omega
theorem vlc_rngf {i : Nat} {vs : List Nat} {wt : WT} {we : WE} {gd : Sto → Prop} {s : Env} {S : Sto} {fin : List D → Sto → Prop} (p : Nat → Bool) (f : Nat → D) (m : Nat) (hl : m ≤ 1000000) (hg : gd S)
    (ht : ∀ n : Nat, n < m → ∀ k : Bool → Sto → Prop, k (p n) S → wt noXC ((wipeD s vs).set i (some (.int (n : Int)))) S k)
    (he : ∀ n : Nat, n < m → p n = true → ∀ k : KD, k (f n) S → we noXC ((wipeD s vs).set i (some (.int (n : Int)))) S k)
    (hf : fin (((List.range m).filter p).map f) S) : lcW i vs wt we (rngD 0 m) gd s S fin := by
  have er : rngD 0 m = (List.range m).map fun (n : Nat) => D.int (n : Int) := by
    unfold rngD
    refine List.map_congr_left fun n _ => ?_
    show D.int (0 + (n : Int)) = D.int (n : Int)
    rw [Int.zero_add]
  let toN : D → Nat := fun d => match d with
    | .int z => z.toNat
    | _ => 0
  refine lc_filter (fun d => p (toN d)) (fun d => f (toN d)) (by rw [rngD_len]; exact szlt hl) hg (fun x hx k hk => ?_) (fun x hx hp k hk => ?_) ?_
  · rw [er] at hx
    obtain ⟨n, hn, rfl⟩ := List.mem_map.mp hx
    exact ht n (List.mem_range.mp hn) k hk
  · rw [er] at hx
    obtain ⟨n, hn, rfl⟩ := List.mem_map.mp hx
    exact he n (List.mem_range.mp hn) hp k hk
  · rw [er, List.filter_map, List.map_map]
    exact hf
/-! the days' states -/
def termL (x : Deal) : List D := [.int x.a, .int x.b, .int x.w, .int x.u, .int x.c, .int x.d, .int x.r]
def termV (x : Deal) : List Int := [x.a, x.b, x.w, x.u, x.c, x.d, x.r]
theorem termL_v (x : Deal) : termL x = vI (termV x) := rfl
theorem termL_pure (x : Deal) : pureAll (termL x) = true := rfl
theorem termL_plain (x : Deal) : plainAll (termL x) = true := by
  rw [termL_v]
  exact vI_plain _
/-- seven numbers are terms -/
theorem termV_of {v : List Int} (h : v.length = 7) : ∃ x : Deal, x.s = "standing" ∧ vI v = termL x := by
  match v, h with
  | [a, b, w, u, c, d, r], _ => exact ⟨⟨a, b, w, u, c, d, r, "standing"⟩, rfl, rfl⟩
/-- the deals that stand or are settled, none broken -/
def NoBrk (ks : List Deal) : Prop := ∀ x ∈ ks, x.s = "standing" ∨ x.s = "settled"
theorem NoBrk.ok {ks : List Deal} (h : NoBrk ks) : ∀ x ∈ ks, StOk x := fun x hx => (h x hx).imp_right .inl
theorem NoBrk.close {ks : List Deal} {n : Int} (h : NoBrk ks) : NoBrk (closeK n ks) := fun x hx => by
  unfold closeK at hx
  obtain ⟨y, hy, rfl⟩ := List.mem_map.mp hx
  split
  · exact .inr rfl
  · exact h y hy
theorem NoBrk.snoc {ks : List Deal} {x : Deal} (h : NoBrk ks) (hx : x.s = "standing") : NoBrk (ks ++ [x]) := fun y hy => by
  rcases List.mem_append.mp hy with hy | hy
  · exact h y hy
  · rw [List.mem_singleton] at hy
    rw [hy]
    exact .inl hx
theorem closeK_get {n : Int} {ks : List Deal} {i : Nat} {x : Deal} (h : ks[i]? = some x) : (closeK n ks)[i]? = some (if x.d = n ∧ x.s = ("standing" : Str) then { x with s := "settled" } else x) := by
  unfold closeK
  rw [List.getElem?_map, h]
  rfl
/-- some of the rows, closed -/
def closeTo (n : Int) (ks : List Deal) (i : Nat) : List Deal := closeK n (ks.take i) ++ ks.drop i
theorem closeTo_0 {n : Int} {ks : List Deal} : closeTo n ks 0 = ks := rfl
theorem closeTo_len {n : Int} {ks : List Deal} : closeTo n ks ks.length = closeK n ks := by
  unfold closeTo
  rw [List.take_length, List.drop_length, List.append_nil]
theorem closeTo_get {n : Int} {ks : List Deal} {i : Nat} {x : Deal} (h : ks[i]? = some x) : (closeTo n ks i)[i]? = some x := by
  have hi := (List.getElem?_eq_some_iff.mp h).1
  unfold closeTo
  rw [List.getElem?_append_right (by rw [closeK_len, List.length_take]; omega), closeK_len, List.length_take, List.getElem?_drop, Nat.min_eq_left (by omega), show i + (i - i) = i by omega]
  exact h
theorem closeTo_s {n : Int} {ks : List Deal} {i : Nat} {x : Deal} (h : ks[i]? = some x) : closeTo n ks (i + 1) = (closeTo n ks i).set i (if x.d = n ∧ x.s = ("standing" : Str) then { x with s := "settled" } else x) := by
  have hi := (List.getElem?_eq_some_iff.mp h).1
  have hd : ks.drop i = x :: ks.drop (i + 1) := by
    rw [List.drop_eq_getElem_cons hi]
    congr 1
    exact (List.getElem?_eq_some_iff.mp h).2
  unfold closeTo
  rw [take_snoc h, hd]
  have hl : (closeK n (ks.take i)).length = i := by rw [closeK_len, List.length_take]; omega
  have hk : closeK n (ks.take i ++ [x]) = closeK n (ks.take i) ++ [if x.d = n ∧ x.s = ("standing" : Str) then { x with s := "settled" } else x] := by
    unfold closeK
    rw [List.map_append]
    rfl
  rw [hk, List.set_append_right _ _ (by omega), hl, Nat.sub_self, List.set_cons_zero, List.append_assoc]
  rfl
/-- why a deal is refused, as the laws name it -/
def dueS : Option Str → Str
  | none => ""
  | some e => if e = "NoMember" then "member" else if e = "NoTerms" then "terms" else "closed"
theorem told_ok {n : Nat} {a c : Str} (h1 : PyData.strOk a = true) (h2 : PyData.strOk c = true) : okEq (n + 2) (.tup [.str a, .str c]) = true := by
  unfold okEq
  rw [List.all_eq_true]
  intro y hy
  simp at hy
  rcases hy with rfl | rfl <;> unfold okEq
  · exact h1
  · exact h2
end Ab

namespace Ab
open PySem
/-! ### deals that are changed, broken off, set right -/
def standE (ks : List Deal) (i : Int) : Option Str := if 0 ≤ i then
    match ks[i.toNat]? with
    | none => some "NoDeal"
    | some x => if x.s = ("broken" : Str) then some "Gone" else if x.s = ("settled" : Str) then some "Settled" else none
  else some "NoDeal"
theorem standE_no {ks : List Deal} {i : Int} (h : ¬ (0 ≤ i ∧ i < ks.length)) : standE ks i = (some "NoDeal" : Option Str) := by
  unfold standE
  by_cases c : 0 ≤ i
  · rw [if_pos c, List.getElem?_eq_none (by omega)]
  · rw [if_neg c]
theorem standE_at {ks : List Deal} {j : Nat} {x : Deal} (h : ks[j]? = some x) : standE ks (j : Int) = (if x.s = ("broken" : Str) then some "Gone" else if x.s = ("settled" : Str) then some "Settled" else none : Option Str) := by
  unfold standE
  rw [if_pos (by omega), show ((j : Int)).toNat = j by omega, h]
/-- the deals are such as a book keeps -/
structure DealOk (m wn : Int) (x : Deal) : Prop where
  st : StOk x
  a : 0 ≤ x.a ∧ x.a < m
  b : 0 ≤ x.b ∧ x.b < m
  w : 0 ≤ x.w ∧ x.w < wn
  u : 1 ≤ x.u ∧ x.u ≤ 1000000
  c : 1 ≤ x.c ∧ x.c ≤ 1000000000
  d : 0 ≤ x.d ∧ x.d ≤ 1000000
  r : 0 ≤ x.r ∧ x.r ≤ 2
  ne : x.a ≠ x.b
theorem DealOk.of {m wn n : Int} {x : Deal} (hs : StOk x) (h : strikeE m wn n x = none) : DealOk m wn x ∧ n ≤ x.d := by
  unfold strikeE at h
  by_cases h1 : memBad m x.a x.b
  · rw [if_pos h1] at h; cases h
  rw [if_neg h1] at h
  by_cases h2 : termBad wn x.w x.u x.c x.d x.r
  · rw [if_pos h2] at h; cases h
  rw [if_neg h2] at h
  by_cases h3 : x.d < n
  · rw [if_pos h3] at h; cases h
  unfold memBad at h1
  unfold termBad at h2
  exact ⟨⟨hs, by omega, by omega, by omega, by omega, by omega, by omega, by omega, by omega⟩, by omega⟩
def AllOk (m wn : Int) (ks : List Deal) : Prop := ∀ x ∈ ks, DealOk m wn x
theorem AllOk.at {m wn : Int} {ks : List Deal} (h : AllOk m wn ks) {j : Nat} {x : Deal} (e : ks[j]? = some x) : DealOk m wn x := h x (List.mem_of_getElem? e)
theorem AllOk.set {m wn : Int} {ks : List Deal} (h : AllOk m wn ks) {j : Nat} {x : Deal} (hx : DealOk m wn x) : AllOk m wn (ks.set j x) := fun y hy => by
  rcases List.mem_or_eq_of_mem_set hy with z | z
  · exact h y z
  · rw [z]; exact hx
theorem AllOk.snoc {m wn : Int} {ks : List Deal} (h : AllOk m wn ks) {x : Deal} (hx : DealOk m wn x) : AllOk m wn (ks ++ [x]) := fun y hy => by
  rcases List.mem_append.mp hy with z | z
  · exact h y z
  · rw [List.mem_singleton] at z
    rw [z]; exact hx
theorem DealOk.put {m wn : Int} {x : Deal} (h : DealOk m wn x) {s : Str} (hs : s = "standing" ∨ s = "settled" ∨ s = "broken") : DealOk m wn { x with s := s } := ⟨hs, h.a, h.b, h.w, h.u, h.c, h.d, h.r, h.ne⟩
theorem AllOk.close {m wn : Int} {ks : List Deal} (h : AllOk m wn ks) {n : Int} : AllOk m wn (closeK n ks) := fun y hy => by
  unfold closeK at hy
  obtain ⟨x, hx, rfl⟩ := List.mem_map.mp hy
  split
  · exact (h x hx).put (.inr (.inl rfl))
  · exact h x hx
theorem AllOk.setSt {m wn : Int} {ks : List Deal} (h : AllOk m wn ks) {j : Nat} {s : Str} (hs : s = "standing" ∨ s = "settled" ∨ s = "broken") : AllOk m wn (setSt ks j s) := by
  unfold Ab.setSt
  split
  · rename_i x ex
    exact h.set ((h.at ex).put hs)
  · exact h
theorem setSt_at {ks : List Deal} {j : Nat} {s : Str} {x : Deal} (h : ks[j]? = some x) : setSt ks j s = ks.set j { x with s := s } := by
  unfold setSt
  rw [h]
theorem standE_none {ks : List Deal} {j : Nat} {x : Deal} (h : ks[j]? = some x) (hs : StOk x) (e : standE ks (j : Int) = none) : x.s = "standing" := by
  rw [standE_at h] at e
  by_cases c1 : x.s = ("broken" : Str)
  · rw [if_pos c1] at e; cases e
  rw [if_neg c1] at e
  by_cases c2 : x.s = ("settled" : Str)
  · rw [if_pos c2] at e; cases e
  rcases hs with h | h | h
  · exact h
  · exact absurd h c2
  · exact absurd h c1
def changeE (n : Int) (ks : List Deal) (i c d : Int) : Option Str := match standE ks i with
  | some e => some e
  | none => if ¬ (1 ≤ c ∧ c ≤ 1000000000) ∨ ¬ (0 ≤ d ∧ d ≤ 1000000) then some "NoTerms" else if d < n then some "Closed" else none
theorem changeE_cases {n : Int} {ks : List Deal} {i c d : Int} {e : Str} (h : changeE n ks i c d = some e) : e = "NoDeal" ∨ e = "Gone" ∨ e = "Settled" ∨ e = "NoTerms" ∨ e = "Closed" := by
  unfold changeE at h
  split at h
  · rename_i e2 h2
    cases h
    unfold standE at h2
    split at h2
    · split at h2
      · cases h2; exact .inl rfl
      · split at h2
        · cases h2; exact .inr (.inl rfl)
        split at h2
        · cases h2; exact .inr (.inr (.inl rfl))
        · cases h2
    · cases h2; exact .inl rfl
  · split at h
    · cases h; exact .inr (.inr (.inr (.inl rfl)))
    split at h
    · cases h; exact .inr (.inr (.inr (.inr rfl)))
    · cases h
/-- why a deal is not changed, as the laws name it -/
def dueC (e : Str) : Str := if e = "NoDeal" then "deal" else if e = "Gone" then "gone" else if e = "Settled" then "settled" else if e = "Standing" then "standing" else if e = "NoTerms" then "terms" else "closed"
/-- a line of a day's sheet -/
def sheetD (x : Deal) : D := .tup [.int x.a, .int x.b, .int x.r, .int x.c]
def sheetL (ks : List Deal) (js : List Nat) : List D := js.map fun j => match ks[j]? with
  | some x => sheetD x
  | none => .non
theorem sheetL_len {ks : List Deal} {js : List Nat} : (sheetL ks js).length = js.length := by unfold sheetL; simp
theorem sheetL_snoc {ks : List Deal} {js : List Nat} {j : Nat} {x : Deal} (h : ks[j]? = some x) : sheetL ks js ++ [sheetD x] = sheetL ks (js ++ [j]) := by
  unfold sheetL
  rw [List.map_append, List.map_cons, List.map_nil, h]
theorem sheetD_plain (x : Deal) : (sheetD x).plain = true := by
  unfold sheetD D.plain
  rfl
theorem plainAll_of {xs : List D} (h : ∀ x ∈ xs, x.plain = true) : plainAll xs = true := by
  induction xs with
  | nil => unfold plainAll; rfl
  | cons a t ih =>
    unfold plainAll
    rw [h a (by simp), ih fun x hx => h x (by simp [hx])]
    rfl
theorem sheetL_plain {ks : List Deal} {js : List Nat} : plainAll (sheetL ks js) = true := plainAll_of fun x hx => by
  unfold sheetL at hx
  obtain ⟨j, _, rfl⟩ := List.mem_map.mp hx
  split
  · exact sheetD_plain _
  · unfold D.plain; rfl
theorem sheetL_pure {ks : List Deal} {js : List Nat} : pureAll (sheetL ks js) = true := pureAll_iff.mpr fun x hx => by
  unfold sheetL at hx
  obtain ⟨j, _, rfl⟩ := List.mem_map.mp hx
  split
  · rfl
  · rfl
theorem sheetL_ok {n : Nat} {ks : List Deal} {js : List Nat} : okEq (n + 3) (.lst (sheetL ks js)) = true := by
  unfold okEq
  rw [List.all_eq_true]
  intro x hx
  unfold sheetL at hx
  obtain ⟨j, _, rfl⟩ := List.mem_map.mp hx
  split
  · unfold sheetD okEq
    rw [List.all_eq_true]
    intro y hy
    simp at hy
    rcases hy with rfl | rfl | rfl | rfl <;> unfold okEq <;> rfl
  · unfold okEq; rfl
theorem natL_ok {n : Nat} {js : List Nat} : okEq (n + 2) (.lst (natL js)) = true := by
  rw [natL_vI]
  exact vI_ok _
/-! rows -/
variable {S : Sto} {b q r : Nat} {cs : List Nat} {m wn n : Int} {ks rs : List Deal}
theorem Bk.rix (h : Bk S b q r cs m wn n ks rs) {i c : Nat} (e : cs[i]? = some c) : ixD S (.cell r) (i : Int) = some (.cell c) := (lv_ix (lview_c h.rw)).trans (L2.atI_nat (by rw [List.getElem?_map, e]; rfl))
theorem Bk.rlen (h : Bk S b q r cs m wn n ks rs) : (cs.map D.cell).length = rs.length := by rw [List.length_map, h.len]
/-- the state of one row -/
theorem Bk.rowSt (h : Bk S b q r cs m wn n ks ks) {i c : Nat} {x : Deal} (e : cs[i]? = some c) (ex : ks[i]? = some x) (s : Str) : Bk ((S.set q (.lst (dealL (setSt ks i s)))).set c (.lst (dealV { x with s := s }))) b q r cs m wn n (setSt ks i s) (setSt ks i s) := by
  have h2 := (h.setK (setSt ks i s)).setR e { x with s := s }
  rw [← setSt_at ex] at h2
  exact h2
/-- a new row, whose cell stands already -/
theorem Bk.push (h : Bk S b q r cs m wn n ks rs) {c : Nat} {x : Deal} (e : S[c]? = some (.lst (dealV x))) (hc : c ∉ cs) (hq : c ≠ q) (hr : c ≠ r) : Bk (S.set r (.lst ((cs ++ [c]).map .cell))) b q r (cs ++ [c]) m wn n ks (rs ++ [x]) := by
  refine ⟨?_, ?_, List.getElem?_set_self h.rl, ?_, ?_, ?_, h.qr, ?_, ?_⟩
  · rw [List.getElem?_set_ne h.br.symm]; exact h.ob
  · rw [List.getElem?_set_ne h.qr.symm]; exact h.kp
  · exact List.nodup_append.mpr ⟨h.nd, by simp, fun y hy z hz e => hc (by rw [List.mem_singleton] at hz; rw [← hz, ← e]; exact hy)⟩
  · rw [List.length_append, List.length_append, h.len]; rfl
  · intro i c' y e1 e2
    by_cases hi : i < cs.length
    · rw [List.getElem?_append_left hi] at e1
      rw [List.getElem?_append_left (by rw [← h.len]; exact hi)] at e2
      rw [List.getElem?_set_ne (fun e => h.rc (by rw [e]; exact List.mem_of_getElem? e1))]
      exact h.row i c' y e1 e2
    · have hl := (List.getElem?_eq_some_iff.mp e1).1
      rw [List.length_append, List.length_singleton] at hl
      obtain rfl : i = cs.length := by omega
      rw [List.getElem?_concat_length] at e1
      rw [h.len, List.getElem?_concat_length] at e2
      cases e1
      cases e2
      rw [List.getElem?_set_ne (fun e => hr e.symm)]
      exact e
  · intro e
    rcases List.mem_append.mp e with e | e
    · exact h.qc e
    · rw [List.mem_singleton] at e
      exact hq e.symm
  · intro e
    rcases List.mem_append.mp e with e | e
    · exact h.rc e
    · rw [List.mem_singleton] at e
      exact hr e.symm
theorem Bk.end_nc (h : Bk S b q r cs m wn n ks rs) : S.length ∉ cs := fun e => Nat.lt_irrefl _ (h.cl e)
theorem Bk.end_nq (h : Bk S b q r cs m wn n ks rs) : S.length ≠ q := fun e => Nat.lt_irrefl _ (e ▸ h.ql)
theorem Bk.end_nr (h : Bk S b q r cs m wn n ks rs) : S.length ≠ r := fun e => Nat.lt_irrefl _ (e ▸ h.rl)
/-- a book strikes a deal whose row is the newest cell; the row is pushed -/
theorem Bk.struck (h : Bk S b q r cs m wn n ks ks) (x : Deal) : Bk (((S ++ [Cel.lst (dealV x)] : Sto).set q (.lst (dealL (ks ++ [x])))).set r (.lst ((cs ++ [S.length]).map .cell))) b q r (cs ++ [S.length]) m wn n (ks ++ [x]) (ks ++ [x]) := by
  refine ((h.app [Cel.lst (dealV x)]).setK (ks ++ [x])).push ?_ h.end_nc h.end_nq h.end_nr
  rw [List.getElem?_set_ne (fun e => h.end_nq e.symm), List.getElem?_concat_length]
theorem vlc_mapl {β : Type} {i : Nat} {vs : List Nat} {we : WE} {gd : Sto → Prop} {s : Env} {S : Sto} {fin : List D → Sto → Prop} (f : β → D) (g : β → D) (bs : List β) (hl : bs.length ≤ 1000000) (hg : gd S)
    (he : ∀ b ∈ bs, ∀ k : KD, k (f b) S → we noXC ((wipeD s vs).set i (some (g b))) S k)
    (hf : fin (bs.map f) S) : lcW i vs vYes we (bs.map g) gd s S fin := by
  refine vlc_list (id : D → D) g bs (fun _ b a => a = f b) hl hg (fun n b hb k hk => he b (List.mem_of_getElem? hb) k (hk _ rfl)) fun as l h => ?_
  have e : as.map id = bs.map f := by
    rw [List.map_id]
    refine list_eq (by rw [l, List.length_map]) fun n x y e1 e2 => ?_
    rw [List.getElem?_map] at e2
    cases hb : bs[n]? with
    | none => rw [hb] at e2; cases e2
    | some b =>
      rw [hb] at e2
      cases e2
      exact h n b x hb e1
  rw [e]
  exact hf
end Ab

namespace Ab
open PySem
/-! ### deals set right by a contrary one -/
def settledE (ks : List Deal) (i : Int) : Option Str := if 0 ≤ i then
    match ks[i.toNat]? with
    | none => some "NoDeal"
    | some x => if x.s = ("broken" : Str) then some "Gone" else if x.s = ("standing" : Str) then some "Standing" else none
  else some "NoDeal"
theorem settledE_no {ks : List Deal} {i : Int} (h : ¬ (0 ≤ i ∧ i < ks.length)) : settledE ks i = (some "NoDeal" : Option Str) := by
  unfold settledE
  by_cases c : 0 ≤ i
  · rw [if_pos c, List.getElem?_eq_none (by omega)]
  · rw [if_neg c]
theorem settledE_at {ks : List Deal} {j : Nat} {x : Deal} (h : ks[j]? = some x) : settledE ks (j : Int) = (if x.s = ("broken" : Str) then some "Gone" else if x.s = ("standing" : Str) then some "Standing" else none : Option Str) := by
  unfold settledE
  rw [if_pos (by omega), show ((j : Int)).toNat = j by omega, h]
def contr (x : Deal) (d : Int) : Deal := { a := x.b, b := x.a, w := x.w, u := x.u, c := x.c, d := d, r := x.r, s := "standing" }
def contrE (n : Int) (ks : List Deal) (i d : Int) : Option Str := match settledE ks i with
  | some e => some e
  | none => if ¬ (0 ≤ d ∧ d ≤ 1000000) then some "NoTerms" else if d < n then some "Closed" else none
theorem contrE_cases {n : Int} {ks : List Deal} {i d : Int} {e : Str} (h : contrE n ks i d = some e) : e = "NoDeal" ∨ e = "Gone" ∨ e = "Standing" ∨ e = "NoTerms" ∨ e = "Closed" := by
  unfold contrE at h
  split at h
  · rename_i e2 h2
    cases h
    unfold settledE at h2
    split at h2
    · split at h2
      · cases h2; exact .inl rfl
      · split at h2
        · cases h2; exact .inr (.inl rfl)
        split at h2
        · cases h2; exact .inr (.inr (.inl rfl))
        · cases h2
    · cases h2; exact .inl rfl
  · split at h
    · cases h; exact .inr (.inr (.inr (.inl rfl)))
    split at h
    · cases h; exact .inr (.inr (.inr (.inr rfl)))
    · cases h
theorem contr_strike {m wn n d : Int} {x : Deal} (h : DealOk m wn x) : strikeE m wn n (contr x d) = (if ¬ (0 ≤ d ∧ d ≤ 1000000) then some "NoTerms" else if d < n then some "Closed" else none : Option Str) := by
  have h1 := h.a
  have h2 := h.b
  have h3 := h.ne
  have h4 := h.w
  have h5 := h.u
  have h6 := h.c
  have h7 := h.r
  unfold strikeE contr
  dsimp only
  rw [if_neg (by unfold memBad; omega)]
  by_cases c : 0 ≤ d ∧ d ≤ 1000000
  · rw [if_neg (by unfold termBad; omega)]
    symm
    rw [if_neg (fun z => z c)]
  · rw [if_pos (by unfold termBad; omega), if_pos c]
theorem contr_ok {m wn d : Int} {x : Deal} (h : DealOk m wn x) (hd : 0 ≤ d ∧ d ≤ 1000000) : DealOk m wn (contr x d) := ⟨.inl rfl, h.b, h.a, h.w, h.u, h.c, hd, h.r, fun e => h.ne e.symm⟩
/-! numbers of a day that stand -/
def stTo (ks : List Deal) (n : Int) (i : Nat) : List Nat := (List.range i).filter fun j => onDay ks n j && stands ks j
theorem stTo_s {ks : List Deal} {d : Int} {n : Nat} : stTo ks d (n + 1) = if (onDay ks d n && stands ks n) = true then stTo ks d n ++ [n] else stTo ks d n := by
  unfold stTo
  rw [List.range_succ, filter_snoc]
theorem stTo_len {ks : List Deal} {d : Int} {n : Nat} : (stTo ks d n).length ≤ n := by
  have := List.length_filter_le (fun j => onDay ks d j && stands ks j) (List.range n)
  rw [List.length_range] at this
  exact this
theorem stTo_all {ks : List Deal} {n : Int} : stTo ks n ks.length = (numsOn ks n).filter (stands ks) := by
  unfold stTo numsOn numsTo
  rw [List.filter_filter]
  congr 1
  funext j
  rw [Bool.and_comm]
theorem toldI_ok {n : Nat} {a : Str} {z : Int} (h1 : PyData.strOk a = true) : okEq (n + 2) (.tup [.str a, .int z]) = true := by
  unfold okEq
  rw [List.all_eq_true]
  intro y hy
  simp at hy
  rcases hy with rfl | rfl <;> unfold okEq
  · exact h1
  · rfl
end Ab

namespace Ab
open PySem PySem.Spec PyProof.Rows L2
/-! ### dicts of ints and texts -/
def keyD : D → Option Key
  | .int i => some (.inl i)
  | .str s => some (.inr s)
  | _ => none
def kD : Key → D
  | .inl i => .int i
  | .inr s => .str s
def valD (kvs : List (Key × D)) (k : Key) : Option D := (kvs.find? fun kv => decide (kv.1 = k)).map (·.2)
def putKD (kvs : List (Key × D)) (k : Key) (d : D) : List (Key × D) :=
  if (kvs.any fun kv => decide (kv.1 = k)) = true then kvs.map (fun kv => if kv.1 = k then (kv.1, d) else kv) else kvs ++ [(k, d)]
def dview (S : Sto) : D → Option (List (Key × D))
  | .cell n => match S[n]? with
    | some (.dk kvs) => some kvs
    | some (.dkf _ _ kvs) => some kvs
    | _ => none
  | _ => none
section
variable {X : Cx} {g : Gi} {W : WX} {a b c e o i f : Expr} {pos apos cpos : Pos} {wa wb wc we wo wi wf : WE}
variable {K : PySem.W.Frag} {H0 H0' H H' : Hp} {r r' : List Addr} {S S' : Sto} {d x y : D} {v u : V}
theorem rel_key {k : Key} (h : Rel K H0 r y v) (e : keyD y = some k) : v = kV k := by
  unfold keyD at e
  split at e
  · cases e; exact rel_int h
  · cases e; exact rel_str h
  · cases e
theorem rel_kD {k : Key} : Rel K H0 r (kD k) (kV k) := by
  cases k with
  | inl i => unfold kD kV Rel; rfl
  | inr s => unfold kD kV Rel; rfl
theorem relK_val : ∀ {kvs : List (Key × D)} {xs : List (Key × V)} (k : Key), RelK K H0 r kvs xs → (valD kvs k = none ∧ valV xs k = none) ∨ ∃ d v, valD kvs k = some d ∧ valV xs k = some v ∧ Rel K H0 r d v
  | [], xs, k, h => by
    have : xs = [] := h
    subst this
    exact .inl ⟨rfl, rfl⟩
  | (f, d) :: ds, xs, k, h => by
    obtain ⟨y, ys, rfl, h1, h2⟩ := h
    by_cases c : f = k
    · refine .inr ⟨d, y, ?_, valV_pos c, h1⟩
      unfold valD
      simp [List.find?_cons, c]
    · rw [valV_neg c]
      have e : valD ((f, d) :: ds) k = valD ds k := by
        unfold valD
        simp [List.find?_cons, c]
      rw [e]
      exact relK_val k h2
theorem relK_any : ∀ {kvs : List (Key × D)} {xs : List (Key × V)} (k : Key), RelK K H0 r kvs xs → (kvs.any fun kv => decide (kv.1 = k)) = xs.any fun kv => decide (kv.1 = k)
  | [], xs, k, h => by
    have : xs = [] := h
    subst this
    rfl
  | (f, d) :: ds, xs, k, h => by
    obtain ⟨y, ys, rfl, h1, h2⟩ := h
    rw [List.any_cons, List.any_cons, relK_any k h2]
theorem relK_map : ∀ {kvs : List (Key × D)} {xs : List (Key × V)} (k : Key), RelK K H0 r kvs xs → Rel K H0 r d v → RelK K H0 r (kvs.map fun kv => if kv.1 = k then (kv.1, d) else kv) (xs.map fun kv => if kv.1 = k then (kv.1, v) else kv)
  | [], xs, k, h, _ => by
    have : xs = [] := h
    subst this
    exact rfl
  | (f, d') :: ds, xs, k, h, hd => by
    obtain ⟨y, ys, rfl, h1, h2⟩ := h
    rw [List.map_cons, List.map_cons]
    by_cases c : f = k
    · rw [if_pos c, if_pos c]
      exact ⟨v, _, rfl, hd, relK_map k h2 hd⟩
    · rw [if_neg c, if_neg c]
      exact ⟨y, _, rfl, h1, relK_map k h2 hd⟩
theorem relK_snoc {κ : Type} {k : κ} : ∀ {kvs : List (κ × D)} {xs : List (κ × V)}, RelK K H0 r kvs xs → Rel K H0 r d v → RelK K H0 r (kvs ++ [(k, d)]) (xs ++ [(k, v)])
  | [], xs, h, hd => by
    have : xs = [] := h
    subst this
    exact ⟨v, [], rfl, hd, rfl⟩
  | (f, d') :: ds, xs, h, hd => by
    obtain ⟨y, ys, rfl, h1, h2⟩ := h
    exact ⟨y, _, rfl, h1, relK_snoc h2 hd⟩
theorem relK_put {kvs : List (Key × D)} {xs : List (Key × V)} (k : Key) (h : RelK K H0 r kvs xs) (hd : Rel K H0 r d v) : RelK K H0 r (putKD kvs k d) (putK xs k v) := by
  unfold putKD putK
  rw [relK_any k h]
  split
  · exact relK_map k h hd
  · exact relK_snoc h hd
theorem relK_len {κ : Type} : ∀ {kvs : List (κ × D)} {xs : List (κ × V)}, RelK K H0 r kvs xs → kvs.length = xs.length
  | [], xs, h => by
    have : xs = [] := h
    subst this
    rfl
  | (f, d) :: ds, xs, h => by
    obtain ⟨y, ys, rfl, h1, h2⟩ := h
    rw [List.length_cons, List.length_cons, relK_len h2]
theorem relK_at {κ : Type} : ∀ {kvs : List (κ × D)} {xs : List (κ × V)} {i : Nat} {k : κ} {v : V}, RelK K H0 r kvs xs → xs[i]? = some (k, v) → ∃ d, kvs[i]? = some (k, d) ∧ Rel K H0 r d v
  | [], xs, i, k, v, h, e => by
    have : xs = [] := h
    subst this
    cases e
  | (f, d) :: ds, xs, i, k, v, h, e => by
    obtain ⟨y, ys, rfl, h1, h2⟩ := h
    cases i with
    | zero =>
      simp only [List.getElem?_cons_zero, Option.some.injEq, Prod.mk.injEq] at e
      obtain ⟨rfl, rfl⟩ := e
      exact ⟨d, rfl, h1⟩
    | succ j =>
      simp only [List.getElem?_cons_succ] at e
      obtain ⟨z, q1, q2⟩ := relK_at h2 e
      exact ⟨z, by simpa using q1, q2⟩
theorem dview_rel (si : Sim K g H0 r S H) (h : Rel K H0 r x v) {kvs : List (Key × D)} (e : dview S x = some kvs) : ∃ p xs, v = .ref p ∧ Rd H p (.dK xs) ∧ RelK K H0 r kvs xs := by
  unfold dview at e
  split at e
  · rename_i n
    unfold Rel at h
    obtain ⟨p, rfl, hr⟩ := h
    split at e
    · rename_i kvs' hS
      cases e
      obtain ⟨h0, xs, hp, hx⟩ := si.cel n p _ hr hS
      exact ⟨p, xs, rfl, .inl hp, hx⟩
    · rename_i ob xs kvs' hS
      cases e
      obtain ⟨h0, hp, hx⟩ := si.cel n p _ hr hS
      exact ⟨p, xs, rfl, .inr ⟨_, hp⟩, hx⟩
    · cases e
  · cases e
/-- d[y] -/
def dgetW : OW := fun x y S k => ∃ kvs key d, dview S x = some kvs ∧ keyD y = some key ∧ valD kvs key = some d ∧ k d S
theorem se_dget (hu : X.A.units + 64 < cLine) (ha : SE X g W o wo) (hb : SE X g W i wi) (hs : NoSl i := by intro _ _; rfl) : SE X g W (.Subscript o i pos) (wOp dgetW wo wi) := by
  obtain ⟨ta, pa, ga⟩ := ha
  obtain ⟨tb, pb, gb⟩ := hb
  refine ⟨_, pe_dget (by omega) pa pb hs, fun H0 r S H s sv Q k xc si rs h ce cx => ?_⟩
  refine ga H0 r S H s sv _ _ xc si rs h (fun d v H1 r1 S1 H1' f1 s1 rl h1 => ?_) cx
  refine gb H1 r1 S1 H1' s sv _ _ xc s1 (rs.fut f1) h1 (fun d2 v2 H2 r2 S2 H2' f2 s2 rl2 h2 => ?_) (cx.fut f1 s1)
  obtain ⟨kvs, key, z, e1, e2, e3, hk⟩ := h2
  obtain ⟨p, xs, rfl, hp, hx⟩ := dview_rel s2 (rl.fut f2) e1
  have ek := rel_key rl2 e2
  subst ek
  rcases relK_val key hx with ⟨q, _⟩ | ⟨z', w, q1, q2, q3⟩
  · rw [q] at e3; cases e3
  · rw [e3] at q1
    cases q1
    exact ⟨p, w, rfl, .inl ⟨xs, key, hp, rfl, q2.symm⟩, ce _ _ _ _ _ _ (f1.tr s1 f2) s2 q3 hk⟩
/-- y in d -/
def dinW (neg : Bool) : OW := fun y x S k => ∃ kvs key, dview S x = some kvs ∧ keyD y = some key ∧ k (.bl (if neg then !(valD kvs key).isSome else (valD kvs key).isSome)) S
def rDin (neg : Bool) : R2 := fun y x H Q => ∃ a o, x = .ref a ∧ DGet H a y o ∧ Q (.bl (if neg then !o.isSome else o.isSome)) H
theorem op_din (hu : X.A.units + 64 < cLine) : OpR X (compareOp .In) (rDin false) := by
  intro pins s σ H y x u v Q I ry rx h
  obtain ⟨a, ov, rfl, hg, q⟩ := h
  obtain rfl : v = Value.ref a := rx
  exact d_in (by omega) I hg ry fun s3 I3 => ⟨.bl ov.isSome, H, I3, rfl, q⟩
theorem op_dnotin (hu : X.A.units + 64 < cLine) : OpR X (compareOp .NotIn) (rDin true) := by
  intro pins s σ H y x u v Q I ry rx h
  obtain ⟨a, ov, rfl, hg, q⟩ := h
  obtain rfl : v = Value.ref a := rx
  exact d_notIn (by omega) I hg ry fun s3 I3 => ⟨.bl (!ov.isSome), H, I3, rfl, q⟩
theorem good_din {neg : Bool} : GoodO K g (rDin neg) (dinW neg) := by
  intro H0 r S H y x vy vx k Q si h1 h2 h ce
  obtain ⟨kvs, key, e1, e2, hk⟩ := h
  obtain ⟨p, xs, rfl, hp, hx⟩ := dview_rel si h2 e1
  have ek := rel_key h1 e2
  subst ek
  refine ⟨p, _, rfl, .inl ⟨xs, key, hp, rfl, rfl⟩, ?_⟩
  have es : (valD kvs key).isSome = (valV xs key).isSome := by
    rcases relK_val key hx with ⟨q, q2⟩ | ⟨z', w, q1, q2, q3⟩
    · rw [q, q2]; rfl
    · rw [q1, q2]; rfl
  rw [← es]
  exact ce _ _ _ _ _ _ .refl si rel_bl' hk
theorem gc_din (hu : X.A.units + 64 < cLine) : GoodC X g .In (dinW false) := ⟨_, op_din hu, good_din⟩
theorem gc_dnotin (hu : X.A.units + 64 < cLine) : GoodC X g .NotIn (dinW true) := ⟨_, op_dnotin hu, good_din⟩
/-- d.get(y, z) -/
def wDGet2 (wo we wf : WE) : WE := fun (xc : HG XE) s S k => wo xc s S fun x S1 => (∃ kvs, dview S1 x = some kvs) ∧ we xc s S1 fun y S2 => wf xc s S2 fun z S3 => ∃ kvs key, dview S3 x = some kvs ∧ keyD y = some key ∧ k ((valD kvs key).getD z) S3
theorem se_dget2 (hu : X.A.units + 64 < cLine) (ho : SE X g W o wo) (he : SE X g W e we) (hf : SE X g W f wf) (m : M2 X o "get" apos e f cpos) : SE X g W (.Call (.Attribute o "get" apos) [e, f] [] cpos) (wDGet2 wo we wf) := by
  obtain ⟨to, po, go⟩ := ho
  obtain ⟨te, pe, ge⟩ := he
  obtain ⟨tf, pf, gf⟩ := hf
  refine ⟨_, pe_dget2 (by omega) po pe pf m, fun H0 r S H s sv Q k xc si rs h ce cx => ?_⟩
  refine go H0 r S H s sv _ _ xc si rs h (fun d v H1 r1 S1 H1' f1 s1 rl h1 => ?_) cx
  obtain ⟨⟨kvs, e1⟩, h1⟩ := h1
  obtain ⟨p, xs, rfl, hp, hx⟩ := dview_rel s1 rl e1
  refine ⟨p, rfl, .inl ⟨xs, hp⟩, ?_⟩
  refine ge H1 r1 S1 H1' s sv _ _ xc s1 (rs.fut f1) h1 (fun d2 v2 H2 r2 S2 H2' f2 s2 rl2 h2 => ?_) (cx.fut f1 s1)
  have f12 := f1.tr s1 f2
  refine gf H2 r2 S2 H2' s sv _ _ xc s2 (rs.fut f12) h2 (fun d3 v3 H3 r3 S3 H3' f3 s3 rl3 h3 => ?_) (cx.fut f12 s2)
  have f13 := f12.tr s2 f3
  obtain ⟨kvs2, key, e2, e3, hk⟩ := h3
  obtain ⟨p2, xs2, ep, hp2, hx2⟩ := dview_rel s3 (rl.fut (f2.tr s2 f3)) e2
  cases ep
  have ek := rel_key (rl2.fut f3) e3
  subst ek
  refine ⟨_, .inl ⟨xs2, key, hp2, rfl, rfl⟩, ?_⟩
  refine ce _ _ _ _ _ _ f13 s3 ?_ hk
  rcases relK_val key hx2 with ⟨q, q2⟩ | ⟨z', w, q1, q2, q3⟩
  · rw [q, q2]; exact rl3
  · rw [q1, q2]; exact q3
/-- {} -/
def wDNew : WE := fun (_ : HG XE) _ S k => k (.cell S.length) (S ++ [.dk []])
theorem se_dnew : SE X g W (.Dict [] [] pos) wDNew := by
  refine ⟨_, pe_dnewK, fun H0 r S H s sv Q k xc si rs h ce cx => ?_⟩
  intro p hp
  obtain ⟨s2, f2⟩ := si.new (c := .dk []) hp fun H' e => ⟨si.ex.none hp, [], e, rfl⟩
  refine ce _ _ _ _ _ _ f2 s2 ?_ h
  unfold Rel
  exact ⟨p, rfl, by rw [← si.len, List.getElem?_append_right (Nat.le_refl _), Nat.sub_self]; rfl⟩
/-- d[y] = z -/
def kDPut (d : D) (nx : Sto → Prop) (x y : D) (S : Sto) : Prop := ∃ n kvs key, x = .cell n ∧ S[n]? = some (.dk kvs) ∧ keyD y = some key ∧ kvs.length < sizeLine ∧ nx (S.set n (.dk (putKD kvs key d)))
def wDPut (we wo wa : WE) : WS := fun (D : HG Kd) s S => we D.xc s S fun d S1 => wo D.xc s S1 fun o S2 => wa D.xc s S2 fun y S3 => kDPut d (D.nx s) o y S3
theorem ss_dput {pos' : Pos} (hu : X.A.units + 64 < cLine) (he : SE X g W e we) (ho : SE X g W o wo) (hi : SE X g W i wi) (hs : swapsWith e (some (.Subscript o i pos')) pos.line X.env = pure false := by rfl) : SS X g W (.Assign [.Subscript o i pos'] e pos) (wDPut we wo wi) := by
  obtain ⟨te, pe, ge⟩ := he
  obtain ⟨to, po, go⟩ := ho
  obtain ⟨ta, pa, ga⟩ := hi
  refine ⟨_, ps_dput (by omega) po pa pe hs, fun H0 r S H s sv Dk Dv si rs h ct => ?_⟩
  refine ge H0 r S H s sv _ _ _ si rs h (fun d v H1 r1 S1 H1' f1 s1 rl h1 => ?_) (ct.x rs)
  refine go H1 r1 S1 H1' s sv _ _ _ s1 (rs.fut f1) h1 (fun d2 v2 H2 r2 S2 H2' f2 s2 rl2 h2 => ?_) ((ct.fut f1 s1).x (rs.fut f1))
  have f12 := f1.tr s1 f2
  refine ga H2 r2 S2 H2' s sv _ _ _ s2 (rs.fut f12) h2 (fun d3 v3 H3 r3 S3 H3' f3 s3 rl3 h3 => ?_) ((ct.fut f12 s2).x (rs.fut f12))
  have f13 := f12.tr s2 f3
  obtain ⟨n, kvs, key, rfl, e1, e2, hl, hk⟩ := h3
  have rl2 := rl2.fut f3
  unfold Rel at rl2
  obtain ⟨p, rfl, hr⟩ := rl2
  obtain ⟨h0, xs, hp, hx⟩ := s3.cel n p _ hr e1
  have ek := rel_key rl3 e2
  subst ek
  have hd := (rl.fut f2).fut f3
  obtain ⟨s4, f4⟩ := s3.write (o := .dK (putK xs key v)) (c' := .dk (putKD kvs key d)) hr e1 h0 fun H' e' => ⟨h0, _, e', relK_put key hx hd⟩
  exact ⟨p, _, rfl, .inl ⟨xs, key, hp, rfl, by rw [← relK_len hx]; exact hl, rfl⟩, ct.1 _ _ _ _ _ _ (f13.tr s3 f4) s4 ((rs.fut f13).fut f4) hk⟩
/-- the keys of the locked dict at j -/
def wKeysL (j : Nat) : WI := fun (_ : HG XE) s S k => ∃ n o xs kvs, s[j]? = some (some (.cell n)) ∧ S[n]? = some (.dkf o xs kvs) ∧ k (kvs.map fun kv => kD kv.1) (fun S' => S'[n]? = some (.dkf o xs kvs)) S
theorem si_keysL (j : Nat) {tg : Expr} {x : Str} {p : Pos} (hN : X.N[j]? = some x := by rfl) (hv : Vis X.env.scope x := by first | exact Or.inl rfl | exact Or.inr (Or.inl rfl) | exact Or.inr (Or.inr rfl)) (hd : (x == ("__debug__" : Str)) = false := by decide)
    (hcd : (x == ("__classdict__" : Str)) = false := by decide) : SI X g W tg (.Name x p) (wKeysL j) := by
  refine ⟨_, pi_keys (pe_var hN hv hd hcd), fun H0 r S H s sv R k xc si rs h ce cx => ?_⟩
  obtain ⟨n, o, xs, kvs, e1, e2, hk⟩ := h
  obtain ⟨v, h1, h2⟩ := rs.2 j _ e1
  unfold Rel at h2
  obtain ⟨q, rfl, hr⟩ := h2
  obtain ⟨h0, hp, hx⟩ := si.cel n q _ hr e2
  refine ⟨_, h1, q, o, rfl, .inl ⟨xs, hp, ?_⟩⟩
  refine ce _ _ _ _ _ _ _ .refl si ⟨fun i H0' r' S' H' f s' gd hi => ?_, fun H0' r' S' H' f s' gd => ?_⟩ hk
  · obtain ⟨_, hp', hx'⟩ := s'.cel n q _ (pre_get f.pre hr) gd
    rw [List.length_map, relK_len hx'] at hi
    refine ⟨⟨hp', hi⟩, fun x H'' hy => ?_⟩
    obtain ⟨rfl, k, v, ek, rfl⟩ := hy
    obtain ⟨d, ed, _⟩ := relK_at hx' ek
    exact ⟨H0', kD k, .refl, s', by rw [List.getElem?_map, ed]; rfl, rel_kD⟩
  · obtain ⟨_, hp', hx'⟩ := s'.cel n q _ (pre_get f.pre hr) gd
    rw [List.length_map, relK_len hx']
    exact ⟨hp', Nat.le_refl _⟩
/-- a statement, while the dict at j stands locked -/
def wLock (j : Nat) (w : WS) : WS := fun (D : HG Kd) s S => ∃ n kvs, s[j]? = some (some (.cell n)) ∧ S[n]? = some (.dk kvs) ∧ ∀ o xs,
  w { nx := fun s' S' => S'[n]? = some (.dkf o xs kvs) ∧ D.nx s' (S'.set n (.dk kvs)), rt := fun d S' => S'[n]? = some (.dkf o xs kvs) ∧ D.rt d (S'.set n (.dk kvs)), xc := D.xc } s (S.set n (.dkf o xs kvs))
theorem ss_lock (j : Nat) {st : Stmt} {w : WS} (h : SS X g W st w) : SS X g W st (wLock j w) := by
  obtain ⟨t, pt, gt⟩ := h
  refine ⟨_, ps_lock pt, fun H0 r S H s sv Dk Dv si rs h ct => ?_⟩
  obtain ⟨n, kvs, e1, e2, hk⟩ := h
  obtain ⟨v, h1, h2⟩ := rs.2 j _ e1
  unfold Rel at h2
  obtain ⟨q, rfl, hr⟩ := h2
  obtain ⟨h0, xs, hp, hx⟩ := si.cel n q _ hr e2
  refine ⟨q, _, hp, True.intro, fun od => ?_⟩
  obtain ⟨s1, f1⟩ := si.write (o := .frz od (.dK xs)) (c' := .dkf od xs kvs) hr e2 h0 fun H' e' => ⟨h0, e', hx⟩
  have back : ∀ {H0' : Hp} {r' : List Addr} {S' : Sto} {H' : Hp}, Fut H0 r (upd H q (.frz od (.dK xs))) H0' r' H' → Sim X.K g H0' r' S' H' → S'[n]? = some (.dkf od xs kvs) →
      H' q = some (.frz od (.dK xs)) ∧ Sim X.K g H0' r' (S'.set n (.dk kvs)) (upd H' q (.dK xs)) ∧ Fut H0' r' H' H0' r' (upd H' q (.dK xs)) := fun f2 s2 e => by
    have hr' := pre_get f2.pre hr
    obtain ⟨h0', hp', hx'⟩ := s2.cel n q _ hr' e
    obtain ⟨s3, f3⟩ := s2.write (o := .dK xs) (c' := .dk kvs) hr' e h0' fun H'' e' => ⟨h0', xs, e', hx'⟩
    exact ⟨hp', s3, f3⟩
  refine gt H0 r _ _ s sv _ _ s1 (rs.fut f1) (hk od xs) ⟨fun s' sv' H0' r' S' H' f2 s2 rs2 ⟨e, q1⟩ => ?_, fun d v H0' r' S' H' f2 s2 rl ⟨e, q1⟩ => ?_, fun c s' sv' H0' r' S' H' f2 s2 rs2 q1 => ?_⟩
  · obtain ⟨b1, b2, b3⟩ := back f2 s2 e
    exact ⟨b1, ct.1 _ _ _ _ _ _ ((f1.tr s1 f2).tr s2 b3) b2 (rs2.fut b3) q1⟩
  · obtain ⟨b1, b2, b3⟩ := back f2 s2 e
    exact ⟨b1, ct.2.1 _ _ _ _ _ _ ((f1.tr s1 f2).tr s2 b3) b2 (rl.fut b3) q1⟩
  · exact ct.2.2 _ _ _ _ _ _ _ (f1.tr s1 f2) s2 rs2 q1
/-! displays -/
abbrev WP := XE → Env → Sto → (List (Key × D) → Sto → Prop) → Prop
def wPnil : WP := fun (_ : HG XE) _ S k => k [] S
def wPcons (wk wv : WE) (wr : WP) : WP := fun (xc : HG XE) s S k => wk xc s S fun y S1 => wv xc s S1 fun d S2 => wr xc s S2 fun kvs S3 => ∃ key, keyD y = some key ∧ k ((key, d) :: kvs) S3
def GoodPs (X : Cx) (g : Gi) (W : WX) (trs : List (TE × TE)) (w : XE → Env → Sto → (List (Key × D) → Sto → Prop) → Prop) : Prop :=
  ∀ H0 r S H s sv (Q : List (V × V) → Hp → Prop) (k : List (Key × D) → Sto → Prop) xc, Sim X.K g H0 r S H → RelSt X.K H0 r s sv → w xc s S k →
    (∀ (kvs : List (Key × D)) (xs : List (Key × V)) H0' r' S' H', Fut H0 r H H0' r' H' → Sim X.K g H0' r' S' H' → RelK X.K H0' r' kvs xs → k kvs S' → Q (xs.map fun kv => (kV kv.1, kv.2)) H') → CtX X.K g H0 r H s sv xc W → tPairs trs sv H Q
def SPs (X : Cx) (g : Gi) (W : WX) (pos : Pos) (keys : List (Option Expr)) (vals : List Expr) (w : XE → Env → Sto → (List (Key × D) → Sto → Prop) → Prop) : Prop := ∃ trs, PPs X pos keys vals trs ∧ GoodPs X g W trs w
theorem sps_nil : SPs X g W pos [] [] wPnil := ⟨_, pps_nil, fun H0 r S H s sv Q k xc si rs h ce cx => ce [] [] _ _ _ _ .refl si rfl h⟩
theorem sps_cons {ks : List (Option Expr)} {vs : List Expr} {wk wv : WE} {wr : XE → Env → Sto → (List (Key × D) → Sto → Prop) → Prop} (hk : SE X g W a wk) (hv : SE X g W b wv) (hr : SPs X g W pos ks vs wr) : SPs X g W pos (some a :: ks) (b :: vs) (wPcons wk wv wr) := by
  obtain ⟨tk, pk, gk⟩ := hk
  obtain ⟨tv, pv, gv⟩ := hv
  obtain ⟨tr, pr, gr⟩ := hr
  refine ⟨_, pps_cons pk pv pr, fun H0 r S H s sv Q k xc si rs h ce cx => ?_⟩
  refine gk H0 r S H s sv _ _ xc si rs h (fun d v H1 r1 S1 H1' f1 s1 rl h1 => ?_) cx
  refine gv H1 r1 S1 H1' s sv _ _ xc s1 (rs.fut f1) h1 (fun d2 v2 H2 r2 S2 H2' f2 s2 rl2 h2 => ?_) (cx.fut f1 s1)
  have f12 := f1.tr s1 f2
  refine gr H2 r2 S2 H2' s sv _ _ xc s2 (rs.fut f12) h2 (fun kvs xs H3 r3 S3 H3' f3 s3 rl3 h3 => ?_) (cx.fut f12 s2)
  obtain ⟨key, ek, hkk⟩ := h3
  have := rel_key rl ek
  subst this
  exact ce ((key, d2) :: kvs) ((key, v2) :: xs) _ _ _ _ (f12.tr s2 f3) s3 ⟨v2, xs, rfl, rl2.fut f3, rl3⟩ hkk
def mergeD (kvs more : List (Key × D)) : List (Key × D) := more.foldl (fun acc kv => putKD acc kv.1 kv.2) kvs
theorem relK_merge : ∀ {more : List (Key × D)} {ms : List (Key × V)} {kvs : List (Key × D)} {xs : List (Key × V)}, RelK K H0 r more ms → RelK K H0 r kvs xs → RelK K H0 r (mergeD kvs more) (mergeK xs ms)
  | [], ms, kvs, xs, h, h2 => by
    have : ms = [] := h
    subst this
    exact h2
  | (f, d) :: ds, ms, kvs, xs, h, h2 => by
    obtain ⟨y, ys, rfl, h1, h3⟩ := h
    exact relK_merge (more := ds) (ms := ys) h3 (relK_put f h2 h1)
def wDisp (wp : WP) : WE := fun (xc : HG XE) s S k => wp xc s (S ++ [.dk []]) fun kvs S2 => S2[S.length]? = some (.dk []) ∧ kvs.length ≤ 15 ∧ k (.cell S.length) (S2.set S.length (.dk (mergeD [] kvs)))
theorem se_disp {keys : List (Option Expr)} {vals : List Expr} {wp : XE → Env → Sto → (List (Key × D) → Sto → Prop) → Prop} (h : SPs X g W pos keys vals wp) (hall : keys.all (·.isSome) = true := by rfl) (hl : keys.length = vals.length := by rfl) (h0 : keys ≠ [] := by exact List.cons_ne_nil _ _)
    (h15 : keys.length ≤ 15 := by decide) : SE X g W (.Dict keys vals pos) (wDisp wp) := by
  obtain ⟨trs, pp, gp⟩ := h
  refine ⟨_, pe_disp pp hall hl h0 h15, fun H0 r S H s sv Q k xc si rs h ce cx => ?_⟩
  intro p hp
  obtain ⟨s1, f1⟩ := si.new (c := .dk []) (o := .dK []) hp fun H' e => ⟨si.ex.none hp, [], e, rfl⟩
  have hrp : (r ++ [p])[S.length]? = some p := by rw [← si.len, List.getElem?_append_right (Nat.le_refl _), Nat.sub_self]; rfl
  refine gp H0 _ _ _ s sv _ _ xc s1 (rs.fut f1) h (fun kvs xs H2 r2 S2 H2' f2 s2 rl2 h2 => ?_) (cx.fut f1 s1)
  obtain ⟨e, l15, hk⟩ := h2
  have hr2 := pre_get f2.pre hrp
  obtain ⟨h0', xs0, hp0, hx0⟩ := s2.cel _ p _ hr2 e
  have e0 : xs0 = [] := hx0
  subst e0
  obtain ⟨s3, f3⟩ := s2.write (o := .dK (mergeK [] xs)) (c' := .dk (mergeD [] kvs)) hr2 e h0' fun H' e' => ⟨h0', _, e', relK_merge rl2 rfl⟩
  refine ⟨hp0, xs, rfl, by rw [← relK_len rl2]; exact l15, ?_⟩
  refine ce _ _ _ _ _ _ ((f1.tr s1 f2).tr s2 f3) s3 ?_ hk
  unfold Rel
  exact ⟨p, rfl, hr2⟩
end
end Ab

namespace Ab
open PySem PySem.Spec PyProof.Rows L2
/-! ### sorted of tuples of ints -/
def tupI (v : List Int) : D := .tup (v.map .int)
def pyT (v : List Int) : PyData := .tuple (v.map .int)
theorem pyAll_ints : ∀ v : List Int, pyAll (v.map .int) = v.map PyData.int
  | [] => by unfold pyAll; rfl
  | x :: v => by
    rw [List.map_cons]
    unfold pyAll
    rw [pyAll_ints v]
    unfold D.py
    rfl
theorem tupI_py (v : List Int) : (tupI v).py = pyT v := by
  unfold tupI D.py pyT
  rw [pyAll_ints]
theorem alike_ints : ∀ v w : List Int, PySem.W.alikeAll (v.map PyData.int) (w.map PyData.int) = true
  | [], _ => by rw [List.map_nil, PySem.W.alikeAll]
  | _ :: _, [] => by rw [List.map_nil, List.map_cons, PySem.W.alikeAll]
  | x :: v, y :: w => by
    rw [List.map_cons, List.map_cons, PySem.W.alikeAll, alike_ints v w]
    simp [PySem.W.alike]
theorem depth_ints : ∀ v : List Int, PyData.depthAll (v.map PyData.int) = 0
  | [] => by rw [List.map_nil]; rfl
  | x :: v => by
    rw [List.map_cons]
    show max (PyData.depth (.int x)) (PyData.depthAll (v.map PyData.int)) = 0
    rw [depth_ints v]
    rfl
theorem depth_T (v : List Int) : (pyT v).depth = 1 := by
  show PyData.depthAll (v.map PyData.int) + 1 = 1
  rw [depth_ints]
def leT : List Int → List Int → Bool := PySem.W.dataLe false pyT
def sortT (ts : List (List Int)) : List (List Int) := ts.mergeSort leT
theorem sortT_perm (ts : List (List Int)) : (sortT ts).Perm ts := List.mergeSort_perm _ _
theorem sortT_len (ts : List (List Int)) : (sortT ts).length = ts.length := (sortT_perm ts).length_eq
def rSortT (K : PySem.W.Frag) : List V → Hp → VK → Prop := fun vs H Q => ∃ (a : Addr) (ys : List V) (ts : List (List Int)), vs = [V.ref a] ∧ SqL K H a ys ∧ ys.length = ts.length ∧ (∀ p ∈ ys.zip ts, Dp K H p.1 (pyT p.2)) ∧ (∀ t ∈ ts, t ≠ []) ∧
  ∀ (ps : List (V × List Int)) (p : Addr), (∀ q ∈ ps, q ∈ ys.zip ts) → ps.map Prod.snd = sortT ts → ps.length ≤ sizeLine → H p = none → Q (.ref p) (upd H p (.lst (ps.map Prod.fst)))
section
variable {X : Cx}
theorem cr_sortT (hu : X.A.units + 64 < cLine) : CallR X (.builtin "sorted") (rSortT X.K) := by
  intro pins s σ H vs us Q I r h
  obtain ⟨a, ys, ts, rfl, hs, hlen, hdp, hne, q⟩ := h
  obtain rfl := Vals.ref1 r
  obtain ⟨its, rv, hl, hz⟩ := I.list hs
  have hi : its.length = ys.length := rv.length.symm
  have hzl : (ys.zip ts).length = ys.length := by rw [List.length_zip, ← hlen, Nat.min_self]
  have hmem : ∀ p ∈ its.zip (ys.zip ts), RelV p.2.1 p.1 := fun p hp => by
    obtain ⟨j, hj⟩ := List.mem_iff_getElem?.mp hp
    obtain ⟨h1, h2⟩ := List.getElem?_zip_eq_some.mp hj
    obtain ⟨h3, h4⟩ := List.getElem?_zip_eq_some.mp h2
    obtain ⟨u, h5, h6⟩ := rv.get h3
    rw [h1] at h5
    cases h5
    exact h6
  have e : PySem.W.EachIs (fun (u : Value) (b : V × List Int) => RelV b.1 u ∧ b ∈ ys.zip ts) its (ys.zip ts) := PySem.W.EachIs.of_zip (by rw [hzl]; exact hi) fun p hp => ⟨hmem p hp, (List.of_mem_zip hp).2⟩
  have er : PySem.W.EachIs (fun (v : Value) (b : V × List Int) => ∃ as, Reads s.heap v (pyT b.2) as) its (ys.zip ts) := e.mono fun u b hb => Dp.reads I _ _ _ (hdp b hb.2) hb.1
  refine PySem.W.sorted_data (enc := fun b : V × List Int => pyT b.2) hl.isList e er ?_ ?_ (by rw [hzl]; exact hz) (fun b hb => by rw [depth_T]; show X.A.units + 2 + 1 < cLine; omega) fun out hol ho => ?_
  · intro d hd d' hd'
    obtain ⟨b, _, rfl⟩ := List.mem_map.mp hd
    obtain ⟨b', _, rfl⟩ := List.mem_map.mp hd'
    unfold pyT
    rw [PySem.W.alike]
    exact alike_ints _ _
  · refine .inl fun d hd => ?_
    obtain ⟨b, hb, rfl⟩ := List.mem_map.mp hd
    have hn := hne _ (List.of_mem_zip hb).2
    unfold pyT
    cases hb2 : b.2 with
    | nil => exact absurd hb2 hn
    | cons x v => exact ⟨.int x, v.map .int, rfl⟩
  · obtain ⟨ep, he'⟩ := PyProof.Rows.sortedAll_at s.heap its out.toArray
    have hps : ((ys.zip ts).mergeSort (PySem.W.dataLe false fun b : V × List Int => pyT b.2)).length = ys.length := by rw [List.length_mergeSort, hzl]
    have hvals : Vals (((ys.zip ts).mergeSort (PySem.W.dataLe false fun b : V × List Int => pyT b.2)).map Prod.fst) out := by
      have : ∀ {out : List Value} {bs : List (V × List Int)}, PySem.W.EachIs (fun (u : Value) (b : V × List Int) => RelV b.1 u ∧ b ∈ ys.zip ts) out bs → Vals (bs.map Prod.fst) out := fun {out bs} h => by
        induction h with
        | nil => exact .nil
        | cons h1 _ ih => exact .cons h1.1 ih
      exact this ho
    refine ⟨.ref _, upd H (s.heap.objs.size + 1) (.lst (((ys.zip ts).mergeSort (PySem.W.dataLe false fun b : V × List Int => pyT b.2)).map Prod.fst)), I.laid (t' := s.toks) (fun _ _ => PyProof.Rows.sortedAll_old) (Nat.le_succ _) ⟨by rw [List.length_map, hps]; exact hz, out, ep, hvals, he'⟩, rfl, q _ _ (fun z hz' => List.mem_mergeSort.mp hz') ?_ (by rw [hps]; exact hz) (I.hok.fresh (Nat.le_succ _))⟩
    unfold sortT
    have em := List.map_mergeSort (r := PySem.W.dataLe false fun b : V × List Int => pyT b.2) (s := leT) (f := Prod.snd) (l := ys.zip ts) fun a _ b _ => rfl
    rw [em, List.map_snd_zip (by omega)]
end
section
variable {X : Cx} {g : Gi} {W : WX} {e : Expr} {pos : Pos} {ws : WA} {K : PySem.W.Frag}
def sortTF : List D → Sto → KD → Prop
  | [x], S, k => ∃ ts : List (List Int), lview S x = some (ts.map tupI) ∧ (∀ t ∈ ts, t ≠ []) ∧ k (.lst ((sortT ts).map tupI)) S
  | _, _, _ => False
theorem good_sortT : GoodCl K g (rSortT K) sortTF := by
  intro H0 r S H ds vs k Q si rl h ce
  unfold sortTF at h
  split at h
  · obtain ⟨v, rfl, h1⟩ := rels1 rl
    obtain ⟨ts, e, hne, hk⟩ := h
    obtain ⟨p, ys, rfl, q1, q2⟩ := lview_rel si h1 e
    have hl : ys.length = ts.length := by
      have := q2.length
      rw [List.length_map] at this
      exact this
    have hrel : ∀ q ∈ ys.zip ts, Rel K H0 r (tupI q.2) q.1 := fun q hq => by
      obtain ⟨j, hj⟩ := List.mem_iff_getElem?.mp hq
      obtain ⟨h2, h3⟩ := List.getElem?_zip_eq_some.mp hj
      obtain ⟨v, e1, e2⟩ := q2.get (i := j) (d := tupI q.2) (by rw [List.getElem?_map, h3]; rfl)
      rw [h2] at e1
      cases e1
      exact e2
    have tp : ∀ v, (tupI v).pure = true := fun v => by
      unfold tupI D.pure
      exact vI_pure v
    refine ⟨p, ys, ts, rfl, q1, hl, fun q hq => ?_, hne, fun ps pa hps hsn hle hp => ?_⟩
    · rw [← tupI_py]
      exact dp_pure si (tp _) (hrel q hq)
    · have hr : Rels K H0 r ((sortT ts).map tupI) (ps.map Prod.fst) := by
        rw [← hsn]
        have : ∀ ps : List (V × List Int), (∀ q ∈ ps, q ∈ ys.zip ts) → Rels K H0 r ((ps.map Prod.snd).map tupI) (ps.map Prod.fst) := fun ps => by
          induction ps with
          | nil => intro _; exact Rels.nil
          | cons q ps ih =>
            intro h
            exact Rels.cons (hrel q (h q (by simp))) (ih fun z hz => h z (by simp [hz]))
        exact this ps hps
      obtain ⟨s4, f4, rl4⟩ := si.lst hp hr
      exact ce _ _ _ _ _ _ f4 s4 rl4 hk
  · exact h.elim
theorem se_sortT {p : Pos} (hu : X.A.units + 64 < cLine) (hg : Gl X "sorted") (hm : X.mg "sorted" = none) (ha : SA X g W [e] ws) (he : starEach [e] X.env = (false, eval e X.env) :: starEach [] X.env := by rfl) (hpl : (backTo pos (starEach [] X.env)).any (·.1) = false := by rfl) :
    SE X g W (.Call (.Name "sorted" p) [e] [] pos) (wB sortTF ws) := se_callB (cr_sortT hu) good_sortT hg hm (by decide +kernel) ha (by decide) (by decide) he hpl
/-- .. as a cell -/
def sortTCF : List D → Sto → KD → Prop
  | [x], S, k => ∃ ts : List (List Int), lview S x = some (ts.map tupI) ∧ (∀ t ∈ ts, t ≠ []) ∧ k (.cell S.length) (S ++ [.lst ((sortT ts).map tupI)])
  | _, _, _ => False
theorem good_sortTC : GoodCl K g (rSortT K) sortTCF := by
  intro H0 r S H ds vs k Q si rl h ce
  unfold sortTCF at h
  split at h
  · obtain ⟨v, rfl, h1⟩ := rels1 rl
    obtain ⟨ts, e, hne, hk⟩ := h
    obtain ⟨p, ys, rfl, q1, q2⟩ := lview_rel si h1 e
    have hl : ys.length = ts.length := by
      have := q2.length
      rw [List.length_map] at this
      exact this
    have hrel : ∀ q ∈ ys.zip ts, Rel K H0 r (tupI q.2) q.1 := fun q hq => by
      obtain ⟨j, hj⟩ := List.mem_iff_getElem?.mp hq
      obtain ⟨h2, h3⟩ := List.getElem?_zip_eq_some.mp hj
      obtain ⟨v, e1, e2⟩ := q2.get (i := j) (d := tupI q.2) (by rw [List.getElem?_map, h3]; rfl)
      rw [h2] at e1
      cases e1
      exact e2
    have tp : ∀ v, (tupI v).pure = true := fun v => by
      unfold tupI D.pure
      exact vI_pure v
    refine ⟨p, ys, ts, rfl, q1, hl, fun q hq => ?_, hne, fun ps pa hps hsn hle hp => ?_⟩
    · rw [← tupI_py]
      exact dp_pure si (tp _) (hrel q hq)
    · have hr : Rels K H0 r ((sortT ts).map tupI) (ps.map Prod.fst) := by
        rw [← hsn]
        have : ∀ ps : List (V × List Int), (∀ q ∈ ps, q ∈ ys.zip ts) → Rels K H0 r ((ps.map Prod.snd).map tupI) (ps.map Prod.fst) := fun ps => by
          induction ps with
          | nil => intro _; exact Rels.nil
          | cons q ps ih =>
            intro h
            exact Rels.cons (hrel q (h q (by simp))) (ih fun z hz => h z (by simp [hz]))
        exact this ps hps
      obtain ⟨s4, f4, rl4⟩ := si.newLst hp hr
      exact ce _ _ _ _ _ _ f4 s4 rl4 hk
  · exact h.elim
theorem se_sortTC {p : Pos} (hu : X.A.units + 64 < cLine) (hg : Gl X "sorted") (hm : X.mg "sorted" = none) (ha : SA X g W [e] ws) (he : starEach [e] X.env = (false, eval e X.env) :: starEach [] X.env := by rfl) (hpl : (backTo pos (starEach [] X.env)).any (·.1) = false := by rfl) :
    SE X g W (.Call (.Name "sorted" p) [e] [] pos) (wB sortTCF ws) := se_callB (cr_sortT hu) good_sortTC hg hm (by decide +kernel) ha (by decide) (by decide) he hpl
end
end Ab

namespace Ab
open PySem PySem.Spec PyProof.Rows L2
noncomputable def vDGet2 : (WE) → (WE) → (WE) → (WE) := sld wDGet2
theorem vDGet2_s : vDGet2 = wDGet2 := sld_eq _
theorem vDGet2_q (wo we wf : WE) (xc : _) (s : _) (S : _) (k : _) : vDGet2 wo we wf xc s S k = (wo xc s S fun x S1 => (∃ kvs, dview S1 x = some kvs) ∧ we xc s S1 fun y S2 => wf xc s S2 fun z S3 => ∃ kvs key, dview S3 x = some kvs ∧ keyD y = some key ∧ k ((valD kvs key).getD z) S3) := by rw [vDGet2_s]; rfl
noncomputable def vDNew : (WE) := sld wDNew
theorem vDNew_s : vDNew = wDNew := sld_eq _
theorem vDNew_q (y0 : _) (y1 : _) (S : _) (k : _) : vDNew  y0 y1 S k = (k (.cell S.length) (S ++ [.dk []])) := by rw [vDNew_s]; rfl
noncomputable def vDPut : (WE) → (WE) → (WE) → (WS) := sld wDPut
theorem vDPut_s : vDPut = wDPut := sld_eq _
theorem vDPut_q (we wo wa : WE) (D : _) (s : _) (S : _) : vDPut we wo wa D s S = (we D.xc s S fun d S1 => wo D.xc s S1 fun o S2 => wa D.xc s S2 fun y S3 => kDPut d (D.nx s) o y S3) := by rw [vDPut_s]; rfl
noncomputable def vKeysL : (Nat) → (WI) := sld wKeysL
theorem vKeysL_s : vKeysL = wKeysL := sld_eq _
theorem vKeysL_q (j : Nat) (y0 : _) (s : _) (S : _) (k : _) : vKeysL j y0 s S k = (∃ n o xs kvs, s[j]? = some (some (.cell n)) ∧ S[n]? = some (.dkf o xs kvs) ∧ k (kvs.map fun kv => kD kv.1) (fun S' => S'[n]? = some (.dkf o xs kvs)) S) := by rw [vKeysL_s]; rfl
noncomputable def vLock : (Nat) → (WS) → (WS) := sld wLock
theorem vLock_s : vLock = wLock := sld_eq _
theorem vLock_q (j : Nat) (w : WS) (D : _) (s : _) (S : _) : vLock j w D s S = (∃ n kvs, s[j]? = some (some (.cell n)) ∧ S[n]? = some (.dk kvs) ∧ ∀ o xs, w { nx := fun s' S' => S'[n]? = some (.dkf o xs kvs) ∧ D.nx s' (S'.set n (.dk kvs)), rt := fun d S' => S'[n]? = some (.dkf o xs kvs) ∧ D.rt d (S'.set n (.dk kvs)), xc := D.xc } s (S.set n (.dkf o xs kvs))) := by rw [vLock_s]; rfl
noncomputable def vPnil : (WP) := sld wPnil
theorem vPnil_s : vPnil = wPnil := sld_eq _
theorem vPnil_q (y0 : _) (y1 : _) (S : _) (k : _) : vPnil  y0 y1 S k = (k [] S) := by rw [vPnil_s]; rfl
noncomputable def vPcons : (WE) → (WE) → (WP) → (WP) := sld wPcons
theorem vPcons_s : vPcons = wPcons := sld_eq _
theorem vPcons_q (wk wv : WE) (wr : WP) (xc : _) (s : _) (S : _) (k : _) : vPcons wk wv wr xc s S k = (wk xc s S fun y S1 => wv xc s S1 fun d S2 => wr xc s S2 fun kvs S3 => ∃ key, keyD y = some key ∧ k ((key, d) :: kvs) S3) := by rw [vPcons_s]; rfl
noncomputable def vDisp : (WP) → (WE) := sld wDisp
theorem vDisp_s : vDisp = wDisp := sld_eq _
theorem vDisp_q (wp : WP) (xc : _) (s : _) (S : _) (k : _) : vDisp wp xc s S k = (wp xc s (S ++ [.dk []]) fun kvs S2 => S2[S.length]? = some (.dk []) ∧ kvs.length ≤ 15 ∧ k (.cell S.length) (S2.set S.length (.dk (mergeD [] kvs)))) := by rw [vDisp_s]; rfl
end Ab

namespace Ab
open PySem L2
/-! ### the deals of a kind, turned to a state -/
def chg (p : Deal → Bool) (s : Str) (x : Deal) : Deal := if p x = true then { x with s := s } else x
def chgTo (p : Deal → Bool) (s : Str) (ks : List Deal) (i : Nat) : List Deal := (ks.take i).map (chg p s) ++ ks.drop i
theorem chgTo_0 {p : Deal → Bool} {s : Str} {ks : List Deal} : chgTo p s ks 0 = ks := rfl
theorem chgTo_all {p : Deal → Bool} {s : Str} {ks : List Deal} : chgTo p s ks ks.length = ks.map (chg p s) := by
  unfold chgTo
  rw [List.take_length, List.drop_length, List.append_nil]
theorem chgTo_len {p : Deal → Bool} {s : Str} {ks : List Deal} {i : Nat} : (chgTo p s ks i).length = ks.length := by
  unfold chgTo
  rw [List.length_append, List.length_map, List.length_take, List.length_drop]
  omega
theorem chgTo_get {p : Deal → Bool} {s : Str} {ks : List Deal} {i : Nat} {x : Deal} (h : ks[i]? = some x) : (chgTo p s ks i)[i]? = some x := by
  have hi := (List.getElem?_eq_some_iff.mp h).1
  unfold chgTo
  rw [List.getElem?_append_right (by rw [List.length_map, List.length_take]; omega), List.length_map, List.length_take, List.getElem?_drop, Nat.min_eq_left (by omega), show i + (i - i) = i by omega]
  exact h
theorem chgTo_s {p : Deal → Bool} {s : Str} {ks : List Deal} {i : Nat} {x : Deal} (h : ks[i]? = some x) : chgTo p s ks (i + 1) = (chgTo p s ks i).set i (chg p s x) := by
  have hi := (List.getElem?_eq_some_iff.mp h).1
  have hd : ks.drop i = x :: ks.drop (i + 1) := by
    rw [List.drop_eq_getElem_cons hi]
    congr 1
    exact (List.getElem?_eq_some_iff.mp h).2
  unfold chgTo
  rw [take_snoc h, hd]
  have hl : ((ks.take i).map (chg p s)).length = i := by rw [List.length_map, List.length_take]; omega
  rw [List.map_append, List.set_append_right _ _ (by omega), hl, Nat.sub_self, List.set_cons_zero, List.append_assoc]
  rfl
theorem chgTo_same {p : Deal → Bool} {s : Str} {ks : List Deal} {i : Nat} {x : Deal} (h : ks[i]? = some x) (hp : p x = false) : chgTo p s ks (i + 1) = chgTo p s ks i := by
  rw [chgTo_s h]
  unfold chg
  rw [if_neg (by rw [hp]; exact Bool.false_ne_true)]
  exact set_same (chgTo_get h)
def selK (p : Deal → Bool) (ks : List Deal) (j : Nat) : Bool := match ks[j]? with
  | some x => p x
  | none => false
theorem selK_some {p : Deal → Bool} {ks : List Deal} {j : Nat} {x : Deal} (h : ks[j]? = some x) : selK p ks j = p x := by
  unfold selK
  rw [h]
def selTo (p : Deal → Bool) (ks : List Deal) (i : Nat) : List Nat := (List.range i).filter (selK p ks)
theorem selTo_s {p : Deal → Bool} {ks : List Deal} {n : Nat} : selTo p ks (n + 1) = if selK p ks n = true then selTo p ks n ++ [n] else selTo p ks n := by
  unfold selTo
  rw [List.range_succ, filter_snoc]
theorem selTo_len {p : Deal → Bool} {ks : List Deal} {n : Nat} : (selTo p ks n).length ≤ n := by
  have := List.length_filter_le (selK p ks) (List.range n)
  rw [List.length_range] at this
  exact this
theorem selTo_none {p : Deal → Bool} {ks : List Deal} {n : Nat} (h : ∀ x ∈ ks, p x = false) : selTo p ks n = [] := by
  unfold selTo
  refine List.filter_eq_nil_iff.mpr fun j _ => ?_
  cases e : ks[j]? with
  | none =>
    unfold selK
    rw [e]
    exact Bool.false_ne_true
  | some x =>
    rw [selK_some e, h x (List.mem_of_getElem? e)]
    exact Bool.false_ne_true
theorem AllOk.chg {m wn : Int} {ks : List Deal} (h : AllOk m wn ks) {p : Deal → Bool} {s : Str} (hs : s = "standing" ∨ s = "settled" ∨ s = "broken") : AllOk m wn (ks.map (chg p s)) := fun y hy => by
  obtain ⟨x, hx, rfl⟩ := List.mem_map.mp hy
  unfold Ab.chg
  split
  · exact (h x hx).put hs
  · exact h x hx
/-- the standing ones of a member -/
def ofM (mem : Int) (x : Deal) : Bool := decide (x.s = ("standing" : Str)) && (decide (x.a = mem) || decide (x.b = mem))
theorem ofM_done {mem : Int} {ks : List Deal} : ∀ x ∈ ks.map (chg (ofM mem) "broken"), ofM mem x = false := fun y hy => by
  obtain ⟨x, hx, rfl⟩ := List.mem_map.mp hy
  unfold chg
  split
  · unfold ofM
    simp
    intro h
    exact absurd h (by decide)
  · rename_i h
    simpa using h
theorem chg_none {p : Deal → Bool} {s : Str} {ks : List Deal} (h : ∀ x ∈ ks, p x = false) : ks.map (chg p s) = ks := by
  conv => rhs; rw [← List.map_id ks]
  refine List.map_congr_left fun x hx => ?_
  unfold chg
  rw [if_neg (by rw [h x hx]; exact Bool.false_ne_true)]
  rfl
theorem dv_dk {S : Sto} {n : Nat} {kvs : List (Key × D)} (h : S[n]? = some (.dk kvs)) : dview S (.cell n) = some kvs := by
  show (match S[n]? with
    | some (.dk kvs) => some kvs
    | some (.dkf _ _ kvs) => some kvs
    | _ => none) = _
  rw [h]
theorem dv_dkf {S : Sto} {n : Nat} {o : Obj} {xs : List (Key × L2.V)} {kvs : List (Key × D)} (h : S[n]? = some (.dkf o xs kvs)) : dview S (.cell n) = some kvs := by
  show (match S[n]? with
    | some (.dk kvs) => some kvs
    | some (.dkf _ _ kvs) => some kvs
    | _ => none) = _
  rw [h]
end Ab

namespace Ab
open PySem
/-! ### a member's entries and position -/
def live (x : Deal) : Bool := decide (x.s ≠ ("broken" : Str))
def stnd (x : Deal) : Bool := decide (x.s = ("standing" : Str))
def entA (x : Deal) (i : Nat) (mem : Int) : List (List Int) := if live x = true ∧ x.a = mem then [[x.d, (i : Int), 0 - x.c]] else []
def entB (x : Deal) (i : Nat) (mem : Int) : List (List Int) := if live x = true ∧ x.b = mem then [[x.d, (i : Int), x.c]] else []
def entAt (ks : List Deal) (mem : Int) (i : Nat) : List (List Int) := match ks[i]? with
  | some x => entA x i mem ++ entB x i mem
  | none => []
theorem entAt_some {ks : List Deal} {mem : Int} {i : Nat} {x : Deal} (h : ks[i]? = some x) : entAt ks mem i = entA x i mem ++ entB x i mem := by
  unfold entAt
  rw [h]
def entTo (ks : List Deal) (mem : Int) (n : Nat) : List (List Int) := (List.range n).flatMap (entAt ks mem)
theorem entTo_s {ks : List Deal} {mem : Int} {n : Nat} : entTo ks mem (n + 1) = entTo ks mem n ++ entAt ks mem n := by
  unfold entTo
  rw [List.range_succ, List.flatMap_append, List.flatMap_singleton]
theorem entAt_len {ks : List Deal} {mem : Int} {n : Nat} : (entAt ks mem n).length ≤ 2 := by
  unfold entAt
  split
  · rw [List.length_append]
    unfold entA entB
    split <;> split <;> simp
  · simp
theorem entTo_len {ks : List Deal} {mem : Int} : ∀ {n : Nat}, (entTo ks mem n).length ≤ 2 * n
  | 0 => by unfold entTo; simp
  | n + 1 => by
    rw [entTo_s, List.length_append]
    have h1 := entTo_len (ks := ks) (mem := mem) (n := n)
    have h2 := entAt_len (ks := ks) (mem := mem) (n := n)
    omega
theorem entAt_mem {ks : List Deal} {mem : Int} {n : Nat} {e : List Int} (h : e ∈ entAt ks mem n) : ∃ x c, ks[n]? = some x ∧ e = [x.d, (n : Int), c] := by
  unfold entAt at h
  split at h
  · rename_i x ex
    rcases List.mem_append.mp h with h | h
    · unfold entA at h
      split at h
      · rw [List.mem_singleton] at h; exact ⟨x, _, ex, h⟩
      · cases h
    · unfold entB at h
      split at h
      · rw [List.mem_singleton] at h; exact ⟨x, _, ex, h⟩
      · cases h
  · cases h
theorem entTo_mem {ks : List Deal} {mem : Int} {n : Nat} {e : List Int} (h : e ∈ entTo ks mem n) : ∃ x i c, x ∈ ks ∧ e = [x.d, (i : Int), c] := by
  unfold entTo at h
  obtain ⟨i, _, hi⟩ := List.mem_flatMap.mp h
  obtain ⟨x, c, h1, h2⟩ := entAt_mem hi
  exact ⟨x, i, c, List.mem_of_getElem? h1, h2⟩
def entries (ks : List Deal) (mem : Int) : List (List Int) := sortT (entTo ks mem ks.length)
theorem entries_mem {ks : List Deal} {mem : Int} {e : List Int} (h : e ∈ entries ks mem) : ∃ x i c, x ∈ ks ∧ e = [x.d, (i : Int), c] := entTo_mem ((sortT_perm _).mem_iff.mp h)
theorem entries_len {ks : List Deal} {mem : Int} : (entries ks mem).length ≤ 2 * ks.length := by
  unfold entries
  rw [sortT_len]
  exact entTo_len
/-! sums of a day -/
def onD (d : Int) (e : List Int) : Int := if gI e 0 = d then gI e 2 else 0
def dueD (d m : Int) (x : Deal) : Int := if live x = true ∧ x.d = d then (if x.b = m then x.c else 0) - (if x.a = m then x.c else 0) else 0
theorem entAt_sum {ks : List Deal} {mem d : Int} {n : Nat} {x : Deal} (h : ks[n]? = some x) : ((entAt ks mem n).map (onD d)).sum = dueD d mem x := by
  rw [entAt_some h]
  unfold entA entB dueD onD
  by_cases c1 : live x = true
  · by_cases c2 : x.a = mem
    · by_cases c3 : x.b = mem
      · rw [if_pos ⟨c1, c2⟩, if_pos ⟨c1, c3⟩, if_pos c2, if_pos c3]
        show (if x.d = d then 0 - x.c else 0) + ((if x.d = d then x.c else 0) + 0) = _
        by_cases c4 : x.d = d
        · rw [if_pos c4, if_pos c4, if_pos ⟨c1, c4⟩]; omega
        · rw [if_neg c4, if_neg c4, if_neg (fun z => c4 z.2)]; omega
      · rw [if_pos ⟨c1, c2⟩, if_neg (fun z => c3 z.2), if_pos c2, if_neg c3]
        show (if x.d = d then 0 - x.c else 0) + 0 = _
        by_cases c4 : x.d = d
        · rw [if_pos c4, if_pos ⟨c1, c4⟩]; omega
        · rw [if_neg c4, if_neg (fun z => c4 z.2)]; omega
    · by_cases c3 : x.b = mem
      · rw [if_neg (fun z => c2 z.2), if_pos ⟨c1, c3⟩, if_neg c2, if_pos c3]
        show (if x.d = d then x.c else 0) + 0 = _
        by_cases c4 : x.d = d
        · rw [if_pos c4, if_pos ⟨c1, c4⟩]; omega
        · rw [if_neg c4, if_neg (fun z => c4 z.2)]; omega
      · rw [if_neg (fun z => c2 z.2), if_neg (fun z => c3 z.2), if_neg c2, if_neg c3]
        show (0 : Int) = _
        split <;> omega
  · rw [if_neg (fun z => c1 z.1), if_neg (fun z => c1 z.1), if_neg (fun z => c1 z.1)]
    rfl
theorem entTo_sum {ks : List Deal} {mem d : Int} : ∀ {n : Nat}, n ≤ ks.length → ((entTo ks mem n).map (onD d)).sum = ((ks.take n).map (dueD d mem)).sum
  | 0, _ => by unfold entTo; rfl
  | n + 1, h => by
    have e : ks[n]? = some ks[n] := List.getElem?_eq_getElem h
    rw [entTo_s, List.map_append, List.sum_append, entTo_sum (Nat.le_of_succ_le h), entAt_sum e, take_snoc e, List.map_append, List.sum_append, List.map_singleton, List.sum_singleton]
theorem entries_sum {ks : List Deal} {mem d : Int} : ((entries ks mem).map (onD d)).sum = (ks.map (dueD d mem)).sum := by
  unfold entries
  rw [perm_sum ((sortT_perm _).map _), entTo_sum (Nat.le_refl _), List.take_length]
theorem sum_add {α : Type} {f g : α → Int} : ∀ {l : List α}, (l.map fun x => f x + g x).sum = (l.map f).sum + (l.map g).sum
  | [] => rfl
  | x :: l => by
    rw [List.map_cons, List.map_cons, List.map_cons, List.sum_cons, List.sum_cons, List.sum_cons, sum_add (l := l)]
    omega
theorem sum_zero {α : Type} {f : α → Int} : ∀ {l : List α}, (∀ x ∈ l, f x = 0) → (l.map f).sum = 0
  | [], _ => rfl
  | x :: l, h => by
    rw [List.map_cons, List.sum_cons, h x (by simp), sum_zero fun y hy => h y (by simp [hy])]
    rfl
theorem sum_hit {a c : Int} : ∀ {M : List Int}, M.Nodup → a ∈ M → (M.map fun m => if a = m then c else 0).sum = c
  | [], _, h => by cases h
  | m :: M, nd, h => by
    rw [List.nodup_cons] at nd
    rw [List.map_cons, List.sum_cons]
    by_cases e : a = m
    · rw [if_pos e, sum_zero fun y hy => if_neg fun z => nd.1 (by rw [← e, z]; exact hy)]
      omega
    · rw [if_neg e, sum_hit nd.2 ((List.mem_cons.mp h).resolve_left e)]
      omega
theorem dueD_zero {d : Int} {M : List Int} {x : Deal} (nd : M.Nodup) (ha : x.a ∈ M) (hb : x.b ∈ M) : (M.map fun m => dueD d m x).sum = 0 := by
  unfold dueD
  by_cases c : live x = true ∧ x.d = d
  · have e : (fun m => if live x = true ∧ x.d = d then (if x.b = m then x.c else 0) - (if x.a = m then x.c else 0) else 0) = fun m => (if x.b = m then x.c else 0) + (if x.a = m then - x.c else 0) := by
      funext m
      rw [if_pos c]
      split <;> split <;> omega
    rw [e, sum_add, sum_hit nd hb, sum_hit nd ha]
    omega
  · exact sum_zero fun m _ => if_neg c
theorem even_sum {d : Int} {M : List Int} (nd : M.Nodup) : ∀ {ks : List Deal}, (∀ x ∈ ks, x.a ∈ M ∧ x.b ∈ M) → (M.map fun m => (ks.map (dueD d m)).sum).sum = 0
  | [], _ => sum_zero fun m _ => rfl
  | x :: ks, h => by
    have e : (fun m => ((x :: ks).map (dueD d m)).sum) = fun m => dueD d m x + (ks.map (dueD d m)).sum := by
      funext m
      rw [List.map_cons, List.sum_cons]
    rw [e, sum_add, dueD_zero nd (h x (by simp)).1 (h x (by simp)).2, even_sum nd fun y hy => h y (by simp [hy])]
    rfl
/-! positions -/
def posA (x : Deal) (mem : Int) : List (Int × Int) := if stnd x = true ∧ x.a = mem then [(x.w, x.u)] else []
def posB (x : Deal) (mem : Int) : List (Int × Int) := if stnd x = true ∧ x.b = mem then [(x.w, - x.u)] else []
def posE (ks : List Deal) (mem : Int) : List (Int × Int) := ks.flatMap fun x => posA x mem ++ posB x mem
theorem posE_snoc {ks : List Deal} {mem : Int} {x : Deal} : posE (ks ++ [x]) mem = posE ks mem ++ (posA x mem ++ posB x mem) := by
  unfold posE
  rw [List.flatMap_append, List.flatMap_singleton]
theorem posE_mem {ks : List Deal} {mem : Int} {p : Int × Int} (h : p ∈ posE ks mem) : ∃ x ∈ ks, p.1 = x.w := by
  unfold posE at h
  obtain ⟨x, hx, h⟩ := List.mem_flatMap.mp h
  refine ⟨x, hx, ?_⟩
  rcases List.mem_append.mp h with h | h
  · unfold posA at h
    split at h
    · rw [List.mem_singleton] at h; rw [h]
    · cases h
  · unfold posB at h
    split at h
    · rw [List.mem_singleton] at h; rw [h]
    · cases h
def posV (ks : List Deal) (mem : Int) (wn : Nat) : List Int := bumps Prod.fst Prod.snd (List.replicate wn 0) (posE ks mem)
theorem posV_len {ks : List Deal} {mem : Int} {wn : Nat} : (posV ks mem wn).length = wn := by
  unfold posV
  rw [bumps_len, List.length_replicate]
/-- the units of a ware that stand with a member as payer, as payee -/
def unA (ks : List Deal) (w mem : Int) : Int := (((ks.filter fun x => decide (x.w = w) && stnd x).filter fun x => decide (x.a = mem)).map fun x => x.u).sum
def unB (ks : List Deal) (w mem : Int) : Int := (((ks.filter fun x => decide (x.w = w) && stnd x).filter fun x => decide (x.b = mem)).map fun x => x.u).sum
theorem pos_sum {w mem : Int} : ∀ {ks : List Deal}, ((posE ks mem).map fun p => if p.1 = w then p.2 else 0).sum = unA ks w mem - unB ks w mem
  | [] => rfl
  | x :: ks => by
    have e : posE (x :: ks) mem = (posA x mem ++ posB x mem) ++ posE ks mem := by unfold posE; rw [List.flatMap_cons]
    rw [e, List.map_append, List.sum_append, pos_sum (ks := ks)]
    unfold unA unB posA posB
    by_cases c1 : stnd x = true
    · by_cases c4 : x.w = w
      · have hp : (decide (x.w = w) && stnd x) = true := by simp [c1, c4]
        rw [List.filter_cons_of_pos (by simpa using hp)]
        by_cases c2 : x.a = mem
        · by_cases c3 : x.b = mem
          · rw [List.filter_cons_of_pos (by simpa using c2), List.filter_cons_of_pos (by simpa using c3), if_pos ⟨c1, c2⟩, if_pos ⟨c1, c3⟩]
            simp [c4]
            omega
          · rw [List.filter_cons_of_pos (by simpa using c2), List.filter_cons_of_neg (by simpa using c3), if_pos ⟨c1, c2⟩, if_neg (fun z => c3 z.2)]
            simp [c4]
            omega
        · by_cases c3 : x.b = mem
          · rw [List.filter_cons_of_neg (by simpa using c2), List.filter_cons_of_pos (by simpa using c3), if_neg (fun z => c2 z.2), if_pos ⟨c1, c3⟩]
            simp [c4]
            omega
          · rw [List.filter_cons_of_neg (by simpa using c2), List.filter_cons_of_neg (by simpa using c3), if_neg (fun z => c2 z.2), if_neg (fun z => c3 z.2)]
            simp
      · have hp : ¬ (decide (x.w = w) && stnd x) = true := by simp [c4]
        rw [List.filter_cons_of_neg (p := fun x => decide (x.w = w) && stnd x) (a := x) hp]
        have z1 : (((if stnd x = true ∧ x.a = mem then [(x.w, x.u)] else []) ++ (if stnd x = true ∧ x.b = mem then [(x.w, - x.u)] else [])).map fun p : Int × Int => if p.1 = w then p.2 else 0).sum = 0 := by
          split <;> split <;> simp [c4]
        rw [z1]
        omega
    · have hp : ¬ (decide (x.w = w) && stnd x) = true := by simp [c1]
      rw [List.filter_cons_of_neg (p := fun x => decide (x.w = w) && stnd x) (a := x) hp, if_neg (fun z => c1 z.1), if_neg (fun z => c1 z.1)]
      simp
theorem posV_get {ks : List Deal} {mem : Int} {wn : Nat} {w : Nat} (hw : w < wn) (h : ∀ x ∈ ks, 0 ≤ x.w ∧ x.w < (wn : Int)) : gI (posV ks mem wn) w = unA ks w mem - unB ks w mem := by
  unfold posV
  rw [bumps_get (by omega) fun p hp => by
    obtain ⟨x, hx, e⟩ := posE_mem hp
    rw [e, List.length_replicate]
    exact h x hx]
  rw [pos_sum]
  have : gI (List.replicate wn 0) (w : Int) = 0 := by
    unfold gI
    rw [List.getD_eq_getElem?_getD, List.getElem?_replicate]
    split <;> rfl
  rw [this]
  omega
theorem tupI_pure (v : List Int) : (tupI v).pure = true := by
  unfold tupI D.pure
  exact vI_pure v
theorem tupsI_pure (ts : List (List Int)) : pureAll (ts.map tupI) = true := pureAll_iff.mpr fun x hx => by
  obtain ⟨t, _, rfl⟩ := List.mem_map.mp hx
  exact tupI_pure t
theorem tupI_plain (v : List Int) : (tupI v).plain = true := by
  unfold tupI D.plain
  exact vI_plain v
theorem tupsI_plain (ts : List (List Int)) : plainAll (ts.map tupI) = true := plainAll_of fun x hx => by
  obtain ⟨t, _, rfl⟩ := List.mem_map.mp hx
  exact tupI_plain t
theorem tupsI_ok {n : Nat} (ts : List (List Int)) : okEq (n + 3) (.lst (ts.map tupI)) = true := by
  unfold okEq
  rw [List.all_eq_true]
  intro x hx
  obtain ⟨t, _, rfl⟩ := List.mem_map.mp hx
  unfold tupI okEq
  rw [List.all_eq_true]
  intro y hy
  obtain ⟨z, _, rfl⟩ := List.mem_map.mp hy
  unfold okEq
  rfl
end Ab

namespace Ab
open PySem
/-! ### lists that were told, kept beside what was due -/
def heldL (hs : List (Nat × List D)) : List D := hs.map fun p => .tup [.cell p.1, .lst p.2]
structure Hd (L : Nat) (S : Sto) (h b q r : Nat) (cs : List Nat) (hs : List (Nat × List D)) : Prop where
  hl : S[h]? = some (.lst (heldL hs))
  ats : ∀ p ∈ hs, S[p.1]? = some (.lst p.2)
  ok : ∀ p ∈ hs, plainAll p.2 = true ∧ okEq 9 (.lst p.2) = true ∧ p.2.length ≤ L
  nd : (hs.map Prod.fst).Nodup
  out : ∀ p ∈ hs, p.1 ∉ cs ∧ p.1 ≠ b ∧ p.1 ≠ q ∧ p.1 ≠ r ∧ p.1 ≠ h
  hc : h ∉ cs
  hb : h ≠ b
  hq : h ≠ q
  hr : h ≠ r
variable {L : Nat} {S S' : Sto} {h b q r : Nat} {cs : List Nat} {hs : List (Nat × List D)} {m wn n : Int} {ks rs : List Deal}
theorem Hd.hlt (x : Hd L S h b q r cs hs) : h < S.length := (List.getElem?_eq_some_iff.mp x.hl).1
theorem Hd.lt (x : Hd L S h b q r cs hs) {p : Nat × List D} (hp : p ∈ hs) : p.1 < S.length := (List.getElem?_eq_some_iff.mp (x.ats p hp)).1
theorem Hd.app (x : Hd L S h b q r cs hs) (T : Sto) : Hd L (S ++ T) h b q r cs hs :=
  ⟨by rw [List.getElem?_append_left x.hlt]; exact x.hl, fun p hp => by rw [List.getElem?_append_left (x.lt hp)]; exact x.ats p hp, x.ok, x.nd, x.out, x.hc, x.hb, x.hq, x.hr⟩
theorem Hd.bf (x : Hd L S h b q r cs hs) (f : Bf b q cs S S') : Hd L S' h b q r cs hs :=
  ⟨f.at x.hl x.hb x.hq x.hc, fun p hp => f.at (x.ats p hp) (x.out p hp).2.1 (x.out p hp).2.2.1 (x.out p hp).1, x.ok, x.nd, x.out, x.hc, x.hb, x.hq, x.hr⟩
/-- the rows grow -/
theorem Hd.row (x : Hd L S h b q r cs hs) {c : Nat} {d : Cel} (hc : ∀ p ∈ hs, p.1 ≠ c) (hh : h ≠ c) : Hd L (S.set r d) h b q r (cs ++ [c]) hs := by
  refine ⟨by rw [List.getElem?_set_ne (Ne.symm x.hr)]; exact x.hl, fun p hp => by rw [List.getElem?_set_ne (Ne.symm (x.out p hp).2.2.2.1)]; exact x.ats p hp, x.ok, x.nd, fun p hp => ⟨fun z => ?_, (x.out p hp).2⟩, fun z => ?_, x.hb, x.hq, x.hr⟩
  · rcases List.mem_append.mp z with z | z
    · exact (x.out p hp).1 z
    · exact hc p hp (List.mem_singleton.mp z)
  · rcases List.mem_append.mp z with z | z
    · exact x.hc z
    · exact hh (List.mem_singleton.mp z)
theorem Hd.push (x : Hd L S h b q r cs hs) {c : Nat} {xs : List D} (e : S[c]? = some (.lst xs)) (px : plainAll xs = true) (ox : okEq 9 (.lst xs) = true) (lx : xs.length ≤ L) (nc : ∀ p ∈ hs, p.1 ≠ c) (h1 : c ∉ cs) (h2 : c ≠ b) (h3 : c ≠ q) (h4 : c ≠ r) (h5 : c ≠ h) :
    Hd L (S.set h (.lst (heldL (hs ++ [(c, xs)])))) h b q r cs (hs ++ [(c, xs)]) := by
  refine ⟨List.getElem?_set_self x.hlt, fun p hp => ?_, fun p hp => ?_, ?_, fun p hp => ?_, x.hc, x.hb, x.hq, x.hr⟩
  · rcases List.mem_append.mp hp with hp | hp
    · rw [List.getElem?_set_ne (Ne.symm (x.out p hp).2.2.2.2)]
      exact x.ats p hp
    · rw [List.mem_singleton] at hp
      subst hp
      rw [List.getElem?_set_ne (Ne.symm h5)]
      exact e
  · rcases List.mem_append.mp hp with hp | hp
    · exact x.ok p hp
    · rw [List.mem_singleton] at hp
      subst hp
      exact ⟨px, ox, lx⟩
  · rw [List.map_append, List.map_singleton]
    refine List.nodup_append.mpr ⟨x.nd, by simp, fun y hy z hz e2 => ?_⟩
    obtain ⟨p, hp, rfl⟩ := List.mem_map.mp hy
    rw [List.mem_singleton] at hz
    exact nc p hp (e2.trans hz)
  · rcases List.mem_append.mp hp with hp | hp
    · exact x.out p hp
    · rw [List.mem_singleton] at hp
      subst hp
      exact ⟨h1, h2, h3, h4, h5⟩
/-- writes elsewhere -/
theorem Bk.setH (x : Bk S b q r cs m wn n ks rs) {c : Cel} (hb : h ≠ b) (hq : h ≠ q) (hr : h ≠ r) (hc : h ∉ cs) : Bk (S.set h c) b q r cs m wn n ks rs where
  ob := by rw [List.getElem?_set_ne hb]; exact x.ob
  kp := by rw [List.getElem?_set_ne hq]; exact x.kp
  rw := by rw [List.getElem?_set_ne hr]; exact x.rw
  nd := x.nd
  len := x.len
  row := fun i c' y e1 e2 => by
    rw [List.getElem?_set_ne (fun e => hc (by rw [e]; exact List.mem_of_getElem? e1))]
    exact x.row i c' y e1 e2
  qr := x.qr
  qc := x.qc
  rc := x.rc
theorem heldL_snoc {p : Nat × List D} : heldL hs ++ [.tup [.cell p.1, .lst p.2]] = heldL (hs ++ [p]) := by unfold heldL; simp
theorem heldL_len : (heldL hs).length = hs.length := by unfold heldL; simp
theorem Hd.new (x : Hd L S h b q r cs hs) (y : Bk S b q r cs m wn n ks rs) (T : Sto) {j : Nat} {xs : List D} (e : T[j]? = some (.lst xs)) (px : plainAll xs = true) (ox : okEq 9 (.lst xs) = true) (lx : xs.length ≤ L) :
    Hd L ((S ++ T).set h (.lst (heldL (hs ++ [(S.length + j, xs)])))) h b q r cs (hs ++ [(S.length + j, xs)]) := by
  refine (x.app T).push (by rw [List.getElem?_append_right (Nat.le_add_right _ _), Nat.add_sub_cancel_left]; exact e) px ox lx (fun p hp => ?_) (fun z => ?_) ?_ ?_ ?_ ?_
  · have := x.lt hp; omega
  · have := y.cl z; omega
  · have := y.bl; omega
  · have := y.ql; omega
  · have := y.rl; omega
  · have := x.hlt; omega
/-! something added to each of the told lists -/
def addH (z : D) (hs : List (Nat × List D)) : List (Nat × List D) := hs.map fun p => (p.1, p.2 ++ [z])
theorem addH_len {z : D} : (addH z hs).length = hs.length := by unfold addH; simp
theorem addH_fst {z : D} : (addH z hs).map Prod.fst = hs.map Prod.fst := by unfold addH; rw [List.map_map]; rfl
/-! comprehensions with a test, over a list of anything that can be told back -/
theorem vlc_filtl {β : Type} {i : Nat} {vs : List Nat} {wt : WT} {we : WE} {gd : Sto → Prop} {s : Env} {S : Sto} {fin : List D → Sto → Prop} (p : β → Bool) (f g : β → D) (gi : D → β) (hgi : ∀ b, gi (g b) = b) (bs : List β) (hl : bs.length ≤ 1000000) (hg : gd S)
    (ht : ∀ b ∈ bs, ∀ k : Bool → Sto → Prop, k (p b) S → wt noXC ((wipeD s vs).set i (some (g b))) S k)
    (he : ∀ b ∈ bs, p b = true → ∀ k : KD, k (f b) S → we noXC ((wipeD s vs).set i (some (g b))) S k)
    (hf : fin ((bs.filter p).map f) S) : lcW i vs wt we (bs.map g) gd s S fin := by
  refine lc_filter (fun d => p (gi d)) (fun d => f (gi d)) (by rw [List.length_map]; exact szlt hl) hg (fun x hx k hk => ?_) (fun x hx hp k hk => ?_) ?_
  · obtain ⟨b, hb, rfl⟩ := List.mem_map.mp hx
    rw [hgi] at hk
    exact ht b hb k hk
  · obtain ⟨b, hb, rfl⟩ := List.mem_map.mp hx
    rw [hgi] at hp hk
    exact he b hb hp k hk
  · rw [List.filter_map, List.map_map]
    have e1 : ((fun d => p (gi d)) ∘ g) = p := by funext b; show p (gi (g b)) = p b; rw [hgi]
    have e2 : ((fun d => f (gi d)) ∘ g) = f := by funext b; show f (gi (g b)) = f b; rw [hgi]
    rw [e1, e2]
    exact hf
def cellN : D → Nat
  | .cell n => n
  | _ => 0
def rowOf (S : Sto) (c : Nat) : Deal := match S[c]? with
  | some (.lst [.int a, .int b, .int w, .int u, .int c, .int d, .int r, .str s]) => ⟨a, b, w, u, c, d, r, s⟩
  | _ => ⟨0, 0, 0, 0, 0, 0, 0, ""⟩
theorem rowOf_at {S : Sto} {c : Nat} {x : Deal} (h : S[c]? = some (.lst (dealV x))) : rowOf S c = x := by
  unfold rowOf
  rw [h]
  rfl
theorem Bk.rows (x : Bk S b q r cs m wn n ks rs) : cs.map (rowOf S) = rs := list_eq (by rw [List.length_map, x.len]) fun i y z e1 e2 => by
  rw [List.getElem?_map] at e1
  cases ec : cs[i]? with
  | none => rw [ec] at e1; cases e1
  | some c =>
    rw [ec] at e1
    cases e1
    exact rowOf_at (x.row i c z ec e2)
theorem Bk.rowAt (x : Bk S b q r cs m wn n ks rs) {c : Nat} (hc : c ∈ cs) : rowOf S c ∈ rs ∧ S[c]? = some (.lst (dealV (rowOf S c))) := by
  obtain ⟨i, ei⟩ := List.mem_iff_getElem?.mp hc
  obtain ⟨y, e1, e2⟩ := x.to ei
  rw [rowOf_at e2]
  exact ⟨List.mem_of_getElem? e1, e2⟩
/-- a day's sheet, as tuples -/
theorem sheet_tups {ks : List Deal} {d : Int} : ∃ ts : List (List Int), sheetL ks (numsOn ks d) = ts.map tupI ∧ ts.length = (numsOn ks d).length ∧ ∀ t ∈ ts, t.length = 4 := by
  have h : ∀ j ∈ numsOn ks d, ∃ x, ks[j]? = some x := fun j hj => by
    obtain ⟨x, h1, _⟩ := numsOn_mem.mp hj
    exact ⟨x, h1⟩
  generalize numsOn ks d = js at h
  induction js with
  | nil => exact ⟨[], rfl, rfl, fun t ht => by cases ht⟩
  | cons j js ih =>
    obtain ⟨ts, e1, e2, e3⟩ := ih fun i hi => h i (by simp [hi])
    obtain ⟨x, ex⟩ := h j (by simp)
    refine ⟨[x.a, x.b, x.r, x.c] :: ts, ?_, by rw [List.length_cons, List.length_cons, e2], fun t ht => ?_⟩
    · unfold sheetL at e1 ⊢
      rw [List.map_cons, List.map_cons, e1, ex]
      rfl
    · rcases List.mem_cons.mp ht with rfl | ht
      · rfl
      · exact e3 t ht
theorem Hd.setC (x : Hd L S h b q r cs hs) {c : Nat} {d : Cel} (hc : ∀ p ∈ hs, p.1 ≠ c) (hh : h ≠ c) : Hd L (S.set c d) h b q r cs hs :=
  ⟨by rw [List.getElem?_set_ne (Ne.symm hh)]; exact x.hl, fun p hp => by rw [List.getElem?_set_ne (Ne.symm (hc p hp))]; exact x.ats p hp, x.ok, x.nd, x.out, x.hc, x.hb, x.hq, x.hr⟩
/-! the sums of days, over the members' entries -/
def daySum (ks : List Deal) (days : Nat) (ms : List Int) : List Int := bumps (fun e => gI e 0) (fun e => gI e 2) (List.replicate days 0) (ms.flatMap (entries ks))
theorem daySum_len {ks : List Deal} {days : Nat} {ms : List Int} : (daySum ks days ms).length = days := by
  unfold daySum
  rw [bumps_len, List.length_replicate]
theorem bumps_app {α : Type} {f c : α → Int} {v : List Int} {xs ys : List α} : bumps f c v (xs ++ ys) = bumps f c (bumps f c v xs) ys := by
  unfold bumps
  rw [List.foldl_append]
theorem daySum_snoc {ks : List Deal} {days : Nat} {ms : List Int} {m : Int} : daySum ks days (ms ++ [m]) = bumps (fun e => gI e 0) (fun e => gI e 2) (daySum ks days ms) (entries ks m) := by
  unfold daySum
  rw [List.flatMap_append, List.flatMap_singleton, bumps_app]
theorem sum_flat {α β : Type} {f : α → List β} {g : β → Int} : ∀ {l : List α}, ((l.flatMap f).map g).sum = (l.map fun a => ((f a).map g).sum).sum
  | [] => rfl
  | a :: l => by rw [List.flatMap_cons, List.map_append, List.sum_append, List.map_cons, List.sum_cons, sum_flat (l := l)]
theorem daySum_zero {ks : List Deal} {days : Nat} {ms : List Int} (nd : ms.Nodup) (hm : ∀ x ∈ ks, x.a ∈ ms ∧ x.b ∈ ms) (hd : ∀ x ∈ ks, 0 ≤ x.d ∧ x.d < (days : Int)) : daySum ks days ms = List.replicate days 0 := by
  refine ext_gI (by rw [daySum_len, List.length_replicate]) fun j j0 j1 => ?_
  have z : gI (List.replicate days 0) j = 0 := by
    unfold gI
    rw [List.getD_eq_getElem?_getD, List.getElem?_replicate]
    split <;> rfl
  unfold daySum
  rw [bumps_get j0 (fun e he => ?_), z, sum_flat]
  · have e : (fun a => ((entries ks a).map fun x => if gI x 0 = j then gI x 2 else 0).sum) = fun a => (ks.map (dueD j a)).sum := by
      funext a
      exact entries_sum
    rw [e, even_sum nd hm]
    rfl
  · obtain ⟨a, _, h⟩ := List.mem_flatMap.mp he
    obtain ⟨x, i, c, hx, rfl⟩ := entries_mem h
    rw [List.length_replicate]
    exact hd x hx
def rngI (m : Nat) : List Int := (List.range m).map fun (n : Nat) => (n : Int)
theorem rngD_I {m : Nat} : rngD 0 m = (rngI m).map D.int := by
  unfold rngD rngI
  rw [List.map_map]
  refine List.map_congr_left fun n _ => ?_
  show D.int (0 + (n : Int)) = D.int (n : Int)
  rw [Int.zero_add]
theorem rngI_len {m : Nat} : (rngI m).length = m := by unfold rngI; rw [List.length_map, List.length_range]
theorem rngI_mem {m : Nat} {z : Int} : z ∈ rngI m ↔ 0 ≤ z ∧ z < (m : Int) := by
  unfold rngI
  rw [List.mem_map]
  constructor
  · rintro ⟨n, hn, rfl⟩
    have := List.mem_range.mp hn
    omega
  · rintro ⟨h0, h1⟩
    exact ⟨z.toNat, List.mem_range.mpr (by omega), by omega⟩
theorem rngI_nd {m : Nat} : (rngI m).Nodup := by
  unfold rngI
  refine List.pairwise_map.mpr (List.Pairwise.imp (fun {a b} h => ?_) List.nodup_range)
  intro e
  exact h (by omega)
theorem Hd.mono (x : Hd L S h b q r cs hs) {L' : Nat} (l : L ≤ L') : Hd L' S h b q r cs hs := ⟨x.hl, x.ats, fun p hp => ⟨(x.ok p hp).1, (x.ok p hp).2.1, Nat.le_trans (x.ok p hp).2.2 l⟩, x.nd, x.out, x.hc, x.hb, x.hq, x.hr⟩
/-- some of the told lists have got an item more -/
structure HdT (z : D) (L i : Nat) (S : Sto) (h b q r : Nat) (cs : List Nat) (hs : List (Nat × List D)) : Prop where
  hl : S[h]? = some (.lst (heldL hs))
  ats : ∀ (j : Nat) (p : Nat × List D), hs[j]? = some p → S[p.1]? = some (.lst (if j < i then p.2 ++ [z] else p.2))
theorem Hd.t0 (x : Hd L S h b q r cs hs) {z : D} : HdT z L 0 S h b q r cs hs := ⟨x.hl, fun j p e => by rw [if_neg (Nat.not_lt_zero _)]; exact x.ats p (List.mem_of_getElem? e)⟩
theorem HdT.s {z : D} {i : Nat} (y : HdT z L i S h b q r cs hs) (nd : (hs.map Prod.fst).Nodup) (no : ∀ p ∈ hs, p.1 ≠ h) {p : Nat × List D} (e : hs[i]? = some p) : S[p.1]? = some (.lst p.2) ∧ HdT z L (i + 1) (S.set p.1 (.lst (p.2 ++ [z]))) h b q r cs hs := by
  have e1 := y.ats i p e
  rw [if_neg (Nat.lt_irrefl _)] at e1
  refine ⟨e1, by rw [List.getElem?_set_ne (no p (List.mem_of_getElem? e))]; exact y.hl, fun j p' e' => ?_⟩
  by_cases c : j = i
  · subst c
    rw [e] at e'
    cases e'
    rw [if_pos (Nat.lt_succ_self _)]
    exact List.getElem?_set_self (List.getElem?_eq_some_iff.mp e1).1
  · have hne : p.1 ≠ p'.1 := fun z => c (nodup_ix nd (x := p'.1) (by rw [List.getElem?_map, e']; rfl) (by rw [List.getElem?_map, e, ← z]; rfl))
    rw [List.getElem?_set_ne hne, y.ats j p' e']
    congr 2
    by_cases c2 : j < i
    · rw [if_pos c2, if_pos (by omega)]
    · rw [if_neg c2, if_neg (by omega)]
/-- all have, and the list of them is a new one -/
theorem Hd.added (x : Hd L S h b q r cs hs) {z : D} (y : HdT z L hs.length S' h b q r cs hs) (pz : ∀ xs, plainAll xs = true → okEq 9 (.lst xs) = true → plainAll (xs ++ [z]) = true ∧ okEq 9 (.lst (xs ++ [z])) = true) (k : Bk S' b q r cs m wn n ks rs) :
    Hd (L + 1) (S' ++ [.lst (heldL (addH z hs))]) S'.length b q r cs (addH z hs) := by
  have ls : ∀ p ∈ hs, S'[p.1]? = some (.lst (p.2 ++ [z])) := fun p hp => by
    obtain ⟨j, ej⟩ := List.mem_iff_getElem?.mp hp
    have := y.ats j p ej
    rw [if_pos (List.getElem?_eq_some_iff.mp ej).1] at this
    exact this
  refine ⟨List.getElem?_concat_length, fun p hp => ?_, fun p hp => ?_, by rw [addH_fst]; exact x.nd, fun p hp => ?_, fun e => Nat.lt_irrefl _ (k.cl e), fun e => ?_, fun e => ?_, fun e => ?_⟩
  · obtain ⟨p', hp', rfl⟩ := List.mem_map.mp hp
    have := ls p' hp'
    rw [List.getElem?_append_left (List.getElem?_eq_some_iff.mp this).1]
    exact this
  · obtain ⟨p', hp', rfl⟩ := List.mem_map.mp hp
    have o := x.ok p' hp'
    have pp := pz _ o.1 o.2.1
    exact ⟨pp.1, pp.2, by rw [List.length_append]; exact Nat.add_le_add_right o.2.2 1⟩
  · obtain ⟨p', hp', rfl⟩ := List.mem_map.mp hp
    have o := x.out p' hp'
    have := (List.getElem?_eq_some_iff.mp (ls p' hp')).1
    exact ⟨o.1, o.2.1, o.2.2.1, o.2.2.2.1, Nat.ne_of_lt this⟩
  · exact Nat.lt_irrefl _ (e ▸ k.bl)
  · exact Nat.lt_irrefl _ (e ▸ k.ql)
  · exact Nat.lt_irrefl _ (e ▸ k.rl)
theorem HdT.bk {z : D} {i : Nat} (k : Bk S b q r cs m wn n ks rs) (x : Hd L S' h b q r cs hs) {p : Nat × List D} (hp : p ∈ hs) {c : Cel} : Bk (S.set p.1 c) b q r cs m wn n ks rs := k.setH (x.out p hp).2.1 (x.out p hp).2.2.1 (x.out p hp).2.2.2.1 (x.out p hp).1
end Ab

namespace Ab
open PySem L2
/-! ### deeds upon a book -/
inductive Deed where
  | strike (x : Deal) | change (i c d : Int) | brk (i : Int) | all (mem : Int) | contr (i d : Int) | close
def Deed.l : Deed → List D
  | .strike x => .str "strike" :: termL x
  | .change i c d => [.str "change", .int i, .int c, .int d]
  | .brk i => [.str "break", .int i]
  | .all m => [.str "all", .int m]
  | .contr i d => [.str "contrary", .int i, .int d]
  | .close => [.str "close"]
def Deed.ok : Deed → Prop
  | .strike x => x.s = "standing"
  | _ => True
def dueA (e : Str) : Str := if e = "NoMember" then "member" else if e = "NoTerms" then "terms" else if e = "NoDeal" then "deal" else if e = "Closed" then "closed" else if e = "Gone" then "gone" else if e = "Settled" then "settled" else "standing"
def doneE (m wn n : Int) (ks : List Deal) : Deed → Option Str
  | .strike x => strikeE m wn n x
  | .change i c d => changeE n ks i c d
  | .brk i => standE ks i
  | .all _ => none
  | .contr i d => contrE n ks i d
  | .close => none
def doneK (n : Int) (ks : List Deal) : Deed → List Deal
  | .strike x => ks ++ [x]
  | .change i c d => match ks[i.toNat]? with
    | some x => ks.set i.toNat { x with c := c, d := d }
    | none => ks
  | .brk i => setSt ks i.toNat "broken"
  | .all m => ks.map (chg (ofM m) "broken")
  | .contr i d => match ks[i.toNat]? with
    | some x => ks ++ [contr x d]
    | none => ks
  | .close => closeK n ks
def doneV (n : Int) (ks : List Deal) : Deed → D
  | .strike _ => .int ks.length
  | .change _ _ _ => .non
  | .brk _ => .non
  | .all m => .lst (natL (selTo (ofM m) ks ks.length))
  | .contr _ _ => .int ks.length
  | .close => .lst (natL ((numsOn ks n).filter (stands ks)))
def doneN (n : Int) : Deed → Int
  | .close => n + 1
  | _ => n
def resD (m wn n : Int) (ks : List Deal) (dd : Deed) : D := match doneE m wn n ks dd with
  | none => .tup [.str "told", doneV n ks dd]
  | some e => .tup [.str "refused", .str (dueA e)]
def nextK (m wn n : Int) (ks : List Deal) (dd : Deed) : List Deal := match doneE m wn n ks dd with
  | none => doneK n ks dd
  | some _ => ks
def nextN (m wn n : Int) (ks : List Deal) (dd : Deed) : Int := match doneE m wn n ks dd with
  | none => doneN n dd
  | some _ => n
def sevenE (e : Str) : Prop := e = "NoMember" ∨ e = "NoTerms" ∨ e = "NoDeal" ∨ e = "Closed" ∨ e = "Gone" ∨ e = "Settled" ∨ e = "Standing"
theorem doneE_cases {m wn n : Int} {ks : List Deal} {dd : Deed} {e : Str} (h : doneE m wn n ks dd = some e) : sevenE e := by
  unfold sevenE
  cases dd with
  | strike x =>
    have h : strikeE m wn n x = some e := h
    unfold strikeE at h
    split at h
    · cases h; simp
    split at h
    · cases h; simp
    split at h
    · cases h; simp
    · cases h
  | change i c d => rcases changeE_cases (show changeE n ks i c d = some e from h) with rfl | rfl | rfl | rfl | rfl <;> simp
  | brk i =>
    have h : standE ks i = some e := h
    unfold standE at h
    split at h
    · split at h
      · cases h; simp
      · split at h
        · cases h; simp
        split at h
        · cases h; simp
        · cases h
    · cases h; simp
  | all m => cases h
  | contr i d => rcases contrE_cases (show contrE n ks i d = some e from h) with rfl | rfl | rfl | rfl | rfl <;> simp
  | close => cases h
theorem dueA_ok {e : Str} (h : sevenE e) : PyData.strOk (dueA e) = true := by
  rcases h with rfl | rfl | rfl | rfl | rfl | rfl | rfl <;> decide +kernel
theorem doneV_plain {n : Int} {ks : List Deal} {dd : Deed} : (doneV n ks dd).plain = true := by
  cases dd
  case all m => unfold doneV D.plain; exact natL_plain _
  case close => unfold doneV D.plain; exact natL_plain _
  all_goals (unfold doneV D.plain; rfl)
theorem doneV_pure {n : Int} {ks : List Deal} {dd : Deed} : (doneV n ks dd).pure = true := plain_pure _ doneV_plain
theorem doneV_ok {k : Nat} {n : Int} {ks : List Deal} {dd : Deed} : okEq (k + 2) (doneV n ks dd) = true := by
  cases dd
  case all m => exact natL_ok
  case close => exact natL_ok
  all_goals (unfold doneV okEq; rfl)
theorem resD_plain {m wn n : Int} {ks : List Deal} {dd : Deed} : (resD m wn n ks dd).plain = true := by
  unfold resD
  split
  · unfold D.plain plainAll
    rw [show (D.str "told").plain = true from by unfold D.plain; rfl]
    unfold plainAll
    rw [doneV_plain]
    unfold plainAll
    rfl
  · unfold D.plain
    rfl
theorem resD_ok {m wn n : Int} {ks : List Deal} {dd : Deed} : okEq 9 (resD m wn n ks dd) = true := by
  unfold resD
  split
  · unfold okEq
    rw [List.all_eq_true]
    intro y hy
    simp at hy
    rcases hy with rfl | rfl
    · unfold okEq; decide +kernel
    · exact doneV_ok (k := 6)
  · rename_i e he
    exact told_ok (n := 7) (by decide +kernel) (dueA_ok (doneE_cases he))
theorem nextK_ok {m wn n : Int} {ks : List Deal} {dd : Deed} (ok : AllOk m wn ks) (hd : dd.ok) : AllOk m wn (nextK m wn n ks dd) := by
  unfold nextK
  split
  · rename_i he
    cases dd with
    | strike x => exact ok.snoc (DealOk.of (n := n) (.inl hd) he).1
    | change i c d =>
      unfold doneK
      dsimp only
      split
      · rename_i x ex
        have okx := ok.at ex
        have he : changeE n ks i c d = none := he
        unfold changeE at he
        split at he
        · cases he
        · split at he
          · cases he
          · rename_i hc
            refine ok.set ⟨okx.st, okx.a, okx.b, okx.w, okx.u, ?_, ?_, okx.r, okx.ne⟩
            · dsimp only; omega
            · dsimp only; omega
      · exact ok
    | brk i => exact ok.setSt (.inr (.inr rfl))
    | all m => exact ok.chg (.inr (.inr rfl))
    | contr i d =>
      unfold doneK
      dsimp only
      split
      · rename_i x ex
        have okx := ok.at ex
        have he : contrE n ks i d = none := he
        unfold contrE at he
        split at he
        · cases he
        · split at he
          · cases he
          · rename_i hc
            exact ok.snoc (contr_ok okx (by omega))
      · exact ok
    | close => exact ok.close
  · exact ok
theorem nextK_len {m wn n : Int} {ks : List Deal} {dd : Deed} : (nextK m wn n ks dd).length ≤ ks.length + 1 := by
  unfold nextK
  split
  · cases dd with
    | strike x => unfold doneK; simp
    | change i c d =>
      unfold doneK
      dsimp only
      split
      · rw [List.length_set]; omega
      · omega
    | brk i => show (setSt ks _ _).length ≤ _; rw [setSt_len]; omega
    | all m => show (ks.map _).length ≤ _; rw [List.length_map]; omega
    | contr i d =>
      unfold doneK
      dsimp only
      split
      · rw [List.length_append]; simp
      · omega
    | close => show (closeK n ks).length ≤ _; rw [closeK_len]; omega
  · omega
/-! a dict of sums -/
theorem valD_put {kvs : List (Key × D)} {k j : Key} {d : D} : valD (putKD kvs k d) j = if j = k then some d else valD kvs j := by
  unfold putKD
  split
  · rename_i h
    induction kvs with
    | nil => cases h
    | cons p kvs ih =>
      by_cases c : p.1 = k
      · rw [List.map_cons, if_pos c]
        by_cases cj : j = k
        · rw [if_pos cj]
          unfold valD
          simp [c, cj]
        · rw [if_neg cj]
          have e1 : ∀ l : List (Key × D), valD (l.map fun kv => if kv.1 = k then (kv.1, d) else kv) j = valD l j := fun l => by
            induction l with
            | nil => rfl
            | cons q l il =>
              unfold valD at il ⊢
              rw [List.map_cons, List.find?_cons, List.find?_cons]
              by_cases cq : q.1 = k
              · rw [if_pos cq]
                have : ¬ q.1 = j := fun z => cj (z.symm.trans cq)
                simp only [this, decide_false]
                exact il
              · rw [if_neg cq]
                by_cases cq2 : q.1 = j
                · simp only [cq2, decide_true]
                · simp only [cq2, decide_false]
                  exact il
          have := e1 kvs
          unfold valD at this ⊢
          have hne : ¬ p.1 = j := fun z => cj (z.symm.trans c)
          rw [List.find?_cons, List.find?_cons]
          simp only [hne, decide_false]
          exact this
      · rw [List.any_cons, decide_eq_false c, Bool.false_or] at h
        have ih := ih h
        rw [List.map_cons, if_neg c]
        unfold valD at ih ⊢
        rw [List.find?_cons, List.find?_cons]
        by_cases cj : p.1 = j
        · have : ¬ j = k := fun z => c (cj.trans z)
          rw [if_neg this]
          simp only [cj, decide_true]
        · simp only [cj, decide_false]
          exact ih
  · rename_i h
    have hn : ∀ p ∈ kvs, ¬ p.1 = k := fun p hp e => h (List.any_eq_true.mpr ⟨p, hp, by simp [e]⟩)
    unfold valD
    rw [List.find?_append]
    by_cases cj : j = k
    · subst cj
      have : kvs.find? (fun kv => decide (kv.1 = j)) = none := List.find?_eq_none.mpr fun p hp => by simpa using hn p hp
      rw [this, if_pos rfl]
      simp
    · rw [if_neg cj]
      cases kvs.find? (fun kv => decide (kv.1 = j)) with
      | none =>
        have : ¬ k = j := fun z => cj z.symm
        simp [this]
      | some p => rfl
theorem putKD_len {kvs : List (Key × D)} {k : Key} {d : D} : (putKD kvs k d).length ≤ kvs.length + 1 := by
  unfold putKD
  split
  · rw [List.length_map]; omega
  · rw [List.length_append]; simp
theorem putKD_keys {kvs : List (Key × D)} {k : Key} {d : D} {p : Key × D} (h : p ∈ putKD kvs k d) : p.1 = k ∨ ∃ q ∈ kvs, p.1 = q.1 := by
  unfold putKD at h
  split at h
  · obtain ⟨q, hq, rfl⟩ := List.mem_map.mp h
    split
    · exact .inr ⟨q, hq, rfl⟩
    · exact .inr ⟨q, hq, rfl⟩
  · rcases List.mem_append.mp h with h | h
    · exact .inr ⟨p, h, rfl⟩
    · rw [List.mem_singleton] at h
      rw [h]
      exact .inl rfl
theorem valD_mem {kvs : List (Key × D)} {p : Key × D} (h : p ∈ kvs) : valD kvs p.1 ≠ none := fun e => by
  unfold valD at e
  rw [Option.map_eq_none_iff, List.find?_eq_none] at e
  exact e p h (by simp)
/-- the sums so far, by days -/
structure Sums (kvs : List (Key × D)) (es : List (List Int)) : Prop where
  keys : ∀ p ∈ kvs, ∃ d : Int, p.1 = .inl d
  some : ∀ e ∈ es, valD kvs (.inl (gI e 0)) ≠ none
  val : ∀ (d : Int) (v : D), valD kvs (.inl d) = Option.some v → v = .int ((es.map (onD d)).sum)
  none : ∀ d : Int, valD kvs (.inl d) = Option.none → (es.map (onD d)).sum = 0
theorem Sums.nil : Sums [] [] where
  keys := fun p hp => absurd hp (by simp)
  some := fun e he => absurd he (by simp)
  val := fun d v h => by
    have h : (Option.none : Option D) = Option.some v := h
    cases h
  none := fun d _ => rfl
theorem Sums.get {kvs : List (Key × D)} {es : List (List Int)} (s : Sums kvs es) (d : Int) : (valD kvs (.inl d)).getD (.int 0) = .int ((es.map (onD d)).sum) := by
  cases e : valD kvs (.inl d) with
  | none => rw [s.none d e]; rfl
  | some v => exact s.val d v e
theorem Sums.snoc {kvs : List (Key × D)} {es : List (List Int)} (s : Sums kvs es) {e : List Int} : Sums (putKD kvs (.inl (gI e 0)) (.int ((es.map (onD (gI e 0))).sum + gI e 2))) (es ++ [e]) := by
  have hon : ∀ d, onD d e = if gI e 0 = d then gI e 2 else 0 := fun d => rfl
  refine ⟨fun p hp => ?_, fun f hf => ?_, fun d v h => ?_, fun d h => ?_⟩
  · rcases putKD_keys hp with h | ⟨q, hq, h⟩
    · exact ⟨_, h⟩
    · obtain ⟨d, hd⟩ := s.keys q hq
      exact ⟨d, h.trans hd⟩
  · rw [valD_put]
    split
    · exact fun z => by cases z
    · rename_i hne
      rcases List.mem_append.mp hf with hf | hf
      · exact s.some f hf
      · rw [List.mem_singleton] at hf
        rw [hf] at hne
        exact absurd rfl hne
  · rw [valD_put] at h
    rw [List.map_append, List.sum_append, List.map_singleton, List.sum_singleton, hon]
    split at h
    · rename_i hd
      cases hd
      cases h
      rw [if_pos rfl]
    · rename_i hd
      rw [s.val d v h, if_neg (fun z => hd (by rw [z]))]
      congr 1
      omega
  · rw [valD_put] at h
    rw [List.map_append, List.sum_append, List.map_singleton, List.sum_singleton, hon]
    split at h
    · cases h
    · rename_i hd
      rw [s.none d h, if_neg (fun z => hd (by rw [z]))]
      rfl
/-! rows marked -/
def markN (ks : List Deal) (js : List Nat) (s : Str) : List Deal := js.foldl (fun ks j => setSt ks j s) ks
theorem markN_snoc {ks : List Deal} {js : List Nat} {j : Nat} {s : Str} : markN ks (js ++ [j]) s = setSt (markN ks js s) j s := by
  unfold markN
  rw [List.foldl_append]
  rfl
theorem markN_len {ks : List Deal} {s : Str} : ∀ {js : List Nat}, (markN ks js s).length = ks.length := fun {js} => by
  unfold markN
  induction js generalizing ks with
  | nil => rfl
  | cons j js ih => rw [List.foldl_cons, ih, setSt_len]
theorem markN_to {p : Deal → Bool} {s : Str} {ks : List Deal} : ∀ {i : Nat}, i ≤ ks.length → markN ks (selTo p ks i) s = chgTo p s ks i
  | 0, _ => rfl
  | i + 1, h => by
    have ex : ks[i]? = some ks[i] := List.getElem?_eq_getElem h
    have ih := markN_to (p := p) (s := s) (ks := ks) (i := i) (Nat.le_of_succ_le h)
    rw [selTo_s, selK_some ex]
    by_cases c : p ks[i] = true
    · rw [if_pos c, markN_snoc, ih, setSt_at (chgTo_get ex), chgTo_s ex]
      unfold chg
      rw [if_pos c]
    · rw [if_neg c, ih, chgTo_same ex (by simpa using c)]
theorem markN_all {p : Deal → Bool} {s : Str} {ks : List Deal} : markN ks (selTo p ks ks.length) s = ks.map (chg p s) := by
  rw [markN_to (Nat.le_refl _), chgTo_all]
def onSt (n : Int) (x : Deal) : Bool := decide (x.d = n) && stnd x
theorem closeK_chg {n : Int} {ks : List Deal} : closeK n ks = ks.map (chg (onSt n) "settled") := by
  unfold closeK chg onSt stnd
  refine List.map_congr_left fun x _ => ?_
  by_cases c : x.d = n ∧ x.s = ("standing" : Str)
  · rw [if_pos c, if_pos (by simp [c.1, c.2])]
  · rw [if_neg c, if_neg (fun z => c (by simpa using z))]
theorem sel_sel {p q : Deal → Bool} {ks : List Deal} {n : Nat} : (selTo p ks n).filter (selK q ks) = selTo (fun x => q x && p x) ks n := by
  unfold selTo
  rw [List.filter_filter]
  congr 1
  funext j
  unfold selK
  cases ks[j]? with
  | none => rfl
  | some x => rfl
theorem selTo_congr {p q : Deal → Bool} {ks : List Deal} {n : Nat} (h : ∀ x, p x = q x) : selTo p ks n = selTo q ks n := by
  have : p = q := funext h
  rw [this]
theorem closeNums {n : Int} {ks : List Deal} : (numsOn ks n).filter (stands ks) = selTo (onSt n) ks ks.length := by
  unfold numsOn numsTo selTo
  rw [List.filter_filter]
  congr 1
  funext j
  cases e : ks[j]? with
  | none =>
    unfold selK stands onDay
    rw [e]
    rfl
  | some x =>
    rw [onDay_some e, stands_some e, selK_some e]
    unfold onSt stnd
    by_cases c : x.s = ("standing" : Str)
    · simp [c]
      intro _
      decide
    · simp [c]
end Ab

namespace Ab
/-! ### sums over the first numbers; the determinant of a list of vectors -/
def sm : Nat → (Nat → Int) → Int
  | 0, _ => 0
  | n + 1, f => sm n f + f n
theorem sm_congr : ∀ {n : Nat} {f g : Nat → Int}, (∀ i, i < n → f i = g i) → sm n f = sm n g
  | 0, _, _, _ => rfl
  | n + 1, f, g, h => by
    unfold sm
    rw [sm_congr (n := n) (f := f) (g := g) fun i hi => h i (by omega), h n (by omega)]
theorem sm_add : ∀ (n : Nat) (f g : Nat → Int), sm n (fun i => f i + g i) = sm n f + sm n g
  | 0, _, _ => rfl
  | n + 1, f, g => by simp only [sm]; rw [sm_add n f g]; omega
theorem sm_mul : ∀ (n : Nat) (x : Int) (f : Nat → Int), sm n (fun i => x * f i) = x * sm n f
  | 0, _, _ => by unfold sm; rw [Int.mul_zero]
  | n + 1, x, f => by unfold sm; rw [sm_mul n x f, Int.mul_add]
theorem sm_zero : ∀ {n : Nat} {f : Nat → Int}, (∀ i, i < n → f i = 0) → sm n f = 0
  | 0, _, _ => rfl
  | n + 1, f, h => by
    unfold sm
    rw [sm_zero (n := n) (f := f) fun i hi => h i (by omega), h n (by omega)]
    rfl
theorem sm_one : ∀ {n r : Nat} {f : Nat → Int}, r < n → (∀ i, i < n → i ≠ r → f i = 0) → sm n f = f r
  | 0, _, _, h, _ => by omega
  | n + 1, r, f, hr, h => by
    unfold sm
    by_cases e : r = n
    · subst e
      rw [sm_zero fun i hi => h i (by omega) (by omega), Int.zero_add]
    · rw [sm_one (n := n) (r := r) (by omega) fun i hi hn => h i (by omega) hn, h n (by omega) (by omega), Int.add_zero]
theorem sm_two : ∀ {n r : Nat} {f : Nat → Int}, r + 1 < n → (∀ i, i < n → i ≠ r → i ≠ r + 1 → f i = 0) → sm n f = f r + f (r + 1)
  | 0, _, _, h, _ => by omega
  | n + 1, r, f, hr, h => by
    unfold sm
    by_cases e : r + 1 = n
    · subst e
      rw [sm_one (r := r) (by omega) fun i hi hn => h i (by omega) hn (by omega)]
    · rw [sm_two (n := n) (r := r) (by omega) fun i hi hn hm => h i (by omega) hn hm, h n (by omega) (by omega) (by omega), Int.add_zero]
theorem sm_front : ∀ (n : Nat) (f : Nat → Int), sm (n + 1) f = f 0 + sm n (fun i => f (i + 1))
  | 0, f => by unfold sm; unfold sm; omega
  | n + 1, f => by
    rw [sm, sm_front n f]
    rw [sm]
    omega
theorem sm_le : ∀ {n : Nat} {f g : Nat → Int}, (∀ i, i < n → f i ≤ g i) → sm n f ≤ sm n g
  | 0, _, _, _ => Int.le_refl _
  | n + 1, f, g, h => by
    unfold sm
    have := sm_le (n := n) (f := f) (g := g) fun i hi => h i (by omega)
    have := h n (by omega)
    omega
theorem sm_nonneg {n : Nat} {f : Nat → Int} (h : ∀ i, i < n → 0 ≤ f i) : 0 ≤ sm n f := by
  have := sm_le (n := n) (f := fun _ => 0) (g := f) h
  rw [sm_zero fun _ _ => rfl] at this
  exact this
theorem sm_abs : ∀ (n : Nat) (f : Nat → Int), ((sm n f).natAbs : Int) ≤ sm n fun i => ((f i).natAbs : Int)
  | 0, _ => Int.le_refl _
  | n + 1, f => by
    simp only [sm]
    have := sm_abs n f
    omega
def skp (i a : Nat) : Nat := if a < i then a else a + 1
theorem skp_ne (i a : Nat) : skp i a ≠ i := by unfold skp; split <;> omega
theorem skp_lt {i a n : Nat} (h : a < n) : skp i a < n + 1 := by unfold skp; split <;> omega
def usk (i r : Nat) : Nat := if r < i then r else r - 1
theorem skp_eq {i r a : Nat} (h : r ≠ i) : skp i a = r ↔ a = usk i r := by unfold skp usk; split <;> split <;> omega
theorem sm_skp : ∀ (n i : Nat) (f : Nat → Int), i < n + 1 → sm n (fun a => f (skp i a)) + f i = sm (n + 1) f
  | 0, i, f, h => by
    have : i = 0 := by omega
    subst this; rfl
  | n + 1, i, f, h => by
    rw [sm, sm]
    by_cases e : i = n + 1
    · subst e
      have : skp (n + 1) n = n := by unfold skp; split <;> omega
      rw [this, sm]
      rw [sm_congr (f := fun a => f (skp (n + 1) a)) (g := f) fun a ha => by
        have : skp (n + 1) a = a := by unfold skp; split <;> omega
        show f (skp (n + 1) a) = f a
        rw [this]]
    · have q := sm_skp n i f (by omega)
      have : skp i n = n + 1 := by unfold skp; split <;> omega
      rw [this]
      omega
def sg : Nat → Int
  | 0 => 1
  | n + 1 => - sg n
theorem sg_abs : ∀ n, (sg n).natAbs = 1
  | 0 => rfl
  | n + 1 => by unfold sg; rw [Int.natAbs_neg]; exact sg_abs n
def mnr (i : Nat) (v : Nat → Nat → Int) : Nat → Nat → Int := fun a c => v (skp i a) (c + 1)
def det : Nat → (Nat → Nat → Int) → Int
  | 0, _ => 1
  | n + 1, v => sm (n + 1) fun i => sg i * v i 0 * det n (mnr i v)
theorem det_congr : ∀ {n : Nat} {v w : Nat → Nat → Int}, (∀ i c, i < n → c < n → v i c = w i c) → det n v = det n w
  | 0, _, _, _ => rfl
  | n + 1, v, w, h => by
    unfold det
    refine sm_congr fun i hi => ?_
    rw [h i 0 hi (by omega), det_congr (n := n) (v := mnr i v) (w := mnr i w) fun a c ha hc => h _ _ (skp_lt ha) (by omega)]
def upv (v : Nat → Nat → Int) (r : Nat) (u : Nat → Int) : Nat → Nat → Int := fun i => if i = r then u else v i
theorem upv_at (v : Nat → Nat → Int) (r : Nat) (u : Nat → Int) : upv v r u r = u := by unfold upv; rw [if_pos rfl]
theorem upv_ne {v : Nat → Nat → Int} {r i : Nat} {u : Nat → Int} (h : i ≠ r) : upv v r u i = v i := by unfold upv; rw [if_neg h]
theorem upv_self (v : Nat → Nat → Int) (r : Nat) : upv v r (v r) = v := by
  funext i
  by_cases h : i = r
  · subst h; rw [upv_at]
  · rw [upv_ne h]
theorem upv_upv (v : Nat → Nat → Int) (r : Nat) (u w : Nat → Int) : upv (upv v r u) r w = upv v r w := by
  funext i
  by_cases h : i = r
  · subst h; rw [upv_at, upv_at]
  · rw [upv_ne h, upv_ne h, upv_ne h]
theorem upv_comm {v : Nat → Nat → Int} {r s : Nat} {u w : Nat → Int} (h : r ≠ s) : upv (upv v r u) s w = upv (upv v s w) r u := by
  funext i
  by_cases h1 : i = s
  · subst h1; rw [upv_at, upv_ne (Ne.symm h), upv_at]
  · rw [upv_ne h1]
    by_cases h2 : i = r
    · subst h2; rw [upv_at, upv_at]
    · rw [upv_ne h2, upv_ne h2, upv_ne h1]
theorem mnr_same (v : Nat → Nat → Int) (r : Nat) (u : Nat → Int) : mnr r (upv v r u) = mnr r v := by
  funext a c
  unfold mnr
  rw [upv_ne (skp_ne r a)]
theorem mnr_upv {v : Nat → Nat → Int} {i r : Nat} (u : Nat → Int) (h : r ≠ i) : mnr i (upv v r u) = upv (mnr i v) (usk i r) (fun c => u (c + 1)) := by
  funext a c
  by_cases e : a = usk i r
  · have := (skp_eq h).mpr e
    unfold mnr
    rw [this, upv_at, e, upv_at]
  · rw [upv_ne e]
    unfold mnr
    rw [upv_ne fun q => e ((skp_eq h).mp q)]
theorem det_lin : ∀ {n : Nat} (v : Nat → Nat → Int) {r : Nat} (x y : Int) (u w : Nat → Int), r < n → det n (upv v r fun c => x * u c + y * w c) = x * det n (upv v r u) + y * det n (upv v r w)
  | 0, _, _, _, _, _, _, h => by omega
  | n + 1, v, r, x, y, u, w, hr => by
    unfold det
    rw [← sm_mul, ← sm_mul, ← sm_add]
    refine sm_congr fun i hi => ?_
    by_cases e : r = i
    · subst e
      simp only [upv_at, mnr_same]
      grind
    · rw [mnr_upv _ e, mnr_upv _ e, mnr_upv _ e, upv_ne (Ne.symm e), upv_ne (Ne.symm e), upv_ne (Ne.symm e)]
      have hu : usk i r < n := by unfold usk; split <;> omega
      rw [det_lin (mnr i v) x y (fun c => u (c + 1)) (fun c => w (c + 1)) hu]
      grind
theorem det_sum {n : Nat} (v : Nat → Nat → Int) {r : Nat} (hr : r < n) (Y : Nat → Int) (u : Nat → Nat → Int) : ∀ m, det n (upv v r fun c => sm m fun k => Y k * u k c) = sm m fun k => Y k * det n (upv v r (u k))
  | 0 => by
    have := det_lin v 0 0 (fun _ => 0) (fun _ => 0) hr
    simp only [Int.zero_mul, Int.add_zero] at this
    unfold sm
    exact this
  | m + 1 => by
    have := det_lin v 1 (Y m) (fun c => sm m fun k => Y k * u k c) (u m) hr
    simp only [Int.one_mul] at this
    unfold sm
    rw [this, det_sum v hr Y u m]
theorem det_adj : ∀ {n : Nat} {v : Nat → Nat → Int} {r : Nat}, r + 1 < n → v r = v (r + 1) → det n v = 0
  | 0, _, _, h, _ => by omega
  | n + 1, v, r, hr, h => by
    unfold det
    rw [sm_two hr fun i hi h1 h2 => ?_]
    · have e : mnr r v = mnr (r + 1) v := by
        funext a c
        unfold mnr skp
        by_cases q1 : a < r
        · rw [if_pos q1, if_pos (by omega)]
        · by_cases q2 : a = r
          · subst q2
            rw [if_neg (by omega), if_pos (by omega), h]
          · rw [if_neg q1, if_neg (by omega)]
      rw [e, h]
      show sg r * v (r + 1) 0 * det n (mnr (r + 1) v) + - sg r * v (r + 1) 0 * det n (mnr (r + 1) v) = 0
      grind
    · rw [det_adj (n := n) (v := mnr i v) (r := if i < r then r - 1 else r) (by split <;> omega) ?_, Int.mul_zero]
      funext c
      unfold mnr
      by_cases q : i < r
      · rw [if_pos q]
        have e1 : skp i (r - 1) = r := by unfold skp; split <;> omega
        have e2 : skp i (r - 1 + 1) = r + 1 := by unfold skp; split <;> omega
        rw [e1, e2, h]
      · rw [if_neg q]
        have e1 : skp i r = r := by unfold skp; split <;> omega
        have e2 : skp i (r + 1) = r + 1 := by unfold skp; split <;> omega
        rw [e1, e2, h]
theorem det_swap {n : Nat} {v : Nat → Nat → Int} {r : Nat} (hr : r + 1 < n) : det n (upv (upv v r (v (r + 1))) (r + 1) (v r)) = - det n v := by
  have D : ∀ a b : Nat → Int, det n (upv (upv v r (fun c => 1 * a c + 1 * b c)) (r + 1) (fun c => 1 * a c + 1 * b c)) = det n (upv (upv v r a) (r + 1) a) + det n (upv (upv v r a) (r + 1) b) + det n (upv (upv v r b) (r + 1) a) + det n (upv (upv v r b) (r + 1) b) := fun a b => by
    rw [det_lin _ 1 1 a b hr]
    have C : ∀ x y : Nat → Int, upv (upv v r x) (r + 1) y = upv (upv v (r + 1) y) r x := fun x y => upv_comm (by omega)
    rw [C _ a, C _ b, det_lin _ 1 1 a b (by omega : r < n), det_lin _ 1 1 a b (by omega : r < n), C, C, C, C]
    omega
  have Z : ∀ a : Nat → Int, det n (upv (upv v r a) (r + 1) a) = 0 := fun a => det_adj hr (by rw [upv_at, upv_ne (by omega), upv_at])
  have := D (v r) (v (r + 1))
  rw [Z, Z, Z, upv_self, upv_self] at this
  omega
theorem det_eq0 : ∀ (k : Nat) {n : Nat} {v : Nat → Nat → Int} {p : Nat}, p + k + 1 < n → v p = v (p + k + 1) → det n v = 0
  | 0, n, v, p, h, e => det_adj h e
  | k + 1, n, v, p, h, e => by
    have q := det_swap (v := v) (r := p + k + 1) h
    rw [det_eq0 k (p := p) (by omega) ?_] at q
    · omega
    · rw [upv_ne (by omega), upv_ne (by omega), upv_ne (by omega), upv_at, e]
      rfl
theorem det_rep {n : Nat} {v : Nat → Nat → Int} {p q : Nat} (hp : p < n) (hq : q < n) (h : p ≠ q) (e : v p = v q) : det n v = 0 := by
  rcases Nat.lt_or_gt_of_ne h with h | h
  · exact det_eq0 (q - p - 1) (p := p) (by omega) (by rw [e]; congr 1; omega)
  · exact det_eq0 (p - q - 1) (p := q) (by omega) (by rw [← e]; congr 1; omega)
/-- Cramer's rule -/
theorem det_cramer {n : Nat} (v : Nat → Nat → Int) {r : Nat} (hr : r < n) (Y : Nat → Int) : det n (upv v r fun c => sm n fun k => Y k * v k c) = Y r * det n v := by
  rw [det_sum v hr Y v n, sm_one hr fun k hk hn => ?_, upv_self]
  rw [det_rep hr hk (Ne.symm hn) (by rw [upv_at, upv_ne hn]), Int.mul_zero]
theorem det_last : ∀ {n : Nat} {v : Nat → Nat → Int}, (∀ c, c < n + 1 → v n c = if c = n then 1 else 0) → det (n + 1) v = det n v
  | 0, v, h => by
    have := h 0 (by omega)
    rw [if_pos rfl] at this
    show 0 + sg 0 * v 0 0 * 1 = 1
    rw [this]; rfl
  | n + 1, v, h => by
    rw [det, sm, h 0 (by omega), if_neg (by omega), Int.mul_zero, Int.zero_mul, Int.add_zero, det]
    refine sm_congr fun i hi => ?_
    rw [det_last (n := n) (v := mnr i v) fun c hc => ?_]
    have e : skp i n = n + 1 := by unfold skp; split <;> omega
    unfold mnr
    rw [e, h (c + 1) (by omega)]
    by_cases q : c = n
    · rw [if_pos (by omega), if_pos q]
    · rw [if_neg (by omega), if_neg q]
/-- coordinates made greater -/
def prN : Nat → (Nat → Int) → Int
  | 0, _ => 1
  | n + 1, f => f 0 * prN n fun i => f (i + 1)
theorem det_scale : ∀ {n : Nat} {v : Nat → Nat → Int} (f : Nat → Int), det n (fun i c => f c * v i c) = prN n f * det n v
  | 0, _, _ => by unfold det prN; rfl
  | n + 1, v, f => by
    unfold det prN
    rw [← sm_mul]
    refine sm_congr fun i hi => ?_
    have := det_scale (v := mnr i v) (n := n) fun c => f (c + 1)
    have e : mnr i (fun i c => f c * v i c) = fun a c => f (c + 1) * mnr i v a c := rfl
    rw [e, this]
    grind
theorem prN_ne : ∀ {n : Nat} {f : Nat → Int}, (∀ i, i < n → f i ≠ 0) → prN n f ≠ 0
  | 0, _, _ => by unfold prN; omega
  | n + 1, f, h => by
    unfold prN
    exact Int.mul_ne_zero (h 0 (by omega)) (prN_ne fun i hi => h (i + 1) (by omega))
/-- its size -/
theorem det_abs : ∀ {n : Nat} {v : Nat → Nat → Int} {B : Nat → Nat}, (∀ c, c < n → (sm n fun i => ((v i c).natAbs : Int)) ≤ B c) → ((det n v).natAbs : Int) ≤ prN n fun c => B c
  | 0, _, _, _ => by unfold det prN; decide
  | n + 1, v, B, h => by
    unfold det prN
    have P : 0 ≤ prN n fun c => (B (c + 1) : Int) := by
      have : ∀ (n : Nat) (B : Nat → Nat), 0 ≤ prN n fun c => (B c : Int) := fun n => by
        induction n with
        | zero => intro B; unfold prN; omega
        | succ n ih => intro B; unfold prN; exact Int.mul_nonneg (Int.natCast_nonneg _) (ih fun c => B (c + 1))
      exact this n fun c => B (c + 1)
    refine Int.le_trans (sm_abs _ _) ?_
    refine Int.le_trans (sm_le (g := fun i => (prN n fun c => (B (c + 1) : Int)) * ((v i 0).natAbs : Int)) fun i hi => ?_) ?_
    · show (((sg i * v i 0 * det n (mnr i v)).natAbs : Nat) : Int) ≤ (prN n fun c => (B (c + 1) : Int)) * ((v i 0).natAbs : Int)
      rw [Int.natAbs_mul, Int.natAbs_mul, sg_abs, Nat.one_mul, Int.natCast_mul, Int.mul_comm]
      refine Int.mul_le_mul_of_nonneg_right (det_abs (B := fun c => B (c + 1)) fun c hc => ?_) (by omega)
      have q := sm_skp n i (fun i => ((v i (c + 1)).natAbs : Int)) hi
      have q2 := h (c + 1) (by omega)
      have : sm n (fun a => ((mnr i v a c).natAbs : Int)) = sm n fun a => ((v (skp i a) (c + 1)).natAbs : Int) := rfl
      rw [this]
      have : 0 ≤ ((v i (c + 1)).natAbs : Int) := by omega
      omega
    · rw [sm_mul, Int.mul_comm]
      exact Int.mul_le_mul_of_nonneg_right (h 0 (by omega)) P
/-! ### elimination without fractions -/
theorem sm_comm : ∀ (n m : Nat) (f : Nat → Nat → Int), sm n (fun i => sm m fun j => f i j) = sm m fun j => sm n fun i => f i j
  | 0, m, f => by simp only [sm]; rw [sm_zero fun _ _ => rfl]
  | n + 1, m, f => by simp only [sm]; rw [sm_comm n m f, ← sm_add]
/-- two coordinates turned -/
def sw (p q c : Nat) : Nat := if c = p then q else if c = q then p else c
theorem det_sw0 (n : Nat) (v : Nat → Nat → Int) : det (n + 2) (fun i c => v i (sw 0 1 c)) = - det (n + 2) v := by
  let M : Nat → Nat → Int := fun i j => det n fun a c => v (skp i (skp (usk i j) a)) (c + 2)
  let F : Nat → Nat → Int := fun i j => if i = j then 0 else sg i * sg (usk i j) * M i j * v i 0 * v j 1
  have hM : ∀ i j, i ≠ j → M i j = M j i := fun i j h => by
    refine det_congr fun a c _ _ => ?_
    have : skp i (skp (usk i j) a) = skp j (skp (usk j i) a) := by
      unfold skp usk
      (repeat' split) <;> omega
    show v _ _ = v _ _
    rw [this]
  have hs : ∀ i j, i ≠ j → sg i * sg (usk i j) = - (sg j * sg (usk j i)) := fun i j h => by
    have key : ∀ i j, i < j → sg i * sg (usk i j) = - (sg j * sg (usk j i)) := fun i j h => by
      have e1 : usk i j = j - 1 := by unfold usk; rw [if_neg (by omega)]
      have e2 : usk j i = i := by unfold usk; rw [if_pos h]
      obtain ⟨m, rfl⟩ : ∃ m, j = m + 1 := ⟨j - 1, by omega⟩
      rw [e1, e2, Nat.add_sub_cancel]
      simp only [sg]
      grind
    rcases Nat.lt_or_gt_of_ne h with h | h
    · exact key i j h
    · have := key j i h
      omega
  have hu : ∀ i a, usk i (skp i a) = a := fun i a => by unfold usk skp; (repeat' split) <;> omega
  have e1 : det (n + 2) v = sm (n + 2) fun i => sm (n + 2) fun j => F i j := by
    rw [det]
    refine sm_congr fun i hi => ?_
    rw [det, ← sm_mul]
    have := sm_skp (n + 1) i (F i) hi
    have z : F i i = 0 := if_pos rfl
    rw [z, Int.add_zero] at this
    rw [← this]
    refine sm_congr fun a ha => ?_
    show _ = if i = skp i a then (0 : Int) else _
    rw [if_neg (Ne.symm (skp_ne i a))]
    show sg i * v i 0 * (sg a * v (skp i a) 1 * det n (mnr a (mnr i v))) = sg i * sg (usk i (skp i a)) * det n (fun b c => v (skp i (skp (usk i (skp i a)) b)) (c + 2)) * v i 0 * v (skp i a) 1
    rw [hu]
    have : mnr a (mnr i v) = fun b c => v (skp i (skp a b)) (c + 2) := rfl
    rw [this]
    grind
  have e2 : det (n + 2) (fun i c => v i (sw 0 1 c)) = sm (n + 2) fun i => sm (n + 2) fun j => if i = j then 0 else sg i * sg (usk i j) * M i j * v i 1 * v j 0 := by
    rw [det]
    refine sm_congr fun i hi => ?_
    rw [det, ← sm_mul]
    have := sm_skp (n + 1) i (fun j => if i = j then 0 else sg i * sg (usk i j) * M i j * v i 1 * v j 0) hi
    rw [if_pos rfl, Int.add_zero] at this
    rw [← this]
    refine sm_congr fun a ha => ?_
    rw [if_neg (Ne.symm (skp_ne i a))]
    show sg i * v i 1 * (sg a * v (skp i a) 0 * det n (mnr a (mnr i fun i c => v i (sw 0 1 c)))) = sg i * sg (usk i (skp i a)) * det n (fun b c => v (skp i (skp (usk i (skp i a)) b)) (c + 2)) * v i 1 * v (skp i a) 0
    rw [hu]
    have : mnr a (mnr i fun i c => v i (sw 0 1 c)) = fun b c => v (skp i (skp a b)) (c + 2) := by
      funext b c
      show v _ (sw 0 1 (c + 1 + 1)) = _
      have : sw 0 1 (c + 1 + 1) = c + 2 := by unfold sw; rw [if_neg (by omega), if_neg (by omega)]
      rw [this]
    rw [this]
    grind
  rw [e1, e2, sm_comm]
  have : ∀ x : Int, -x = (-1) * x := fun x => by omega
  rw [this, ← sm_mul]
  refine sm_congr fun j hj => ?_
  rw [← sm_mul]
  refine sm_congr fun i hi => ?_
  show (if i = j then (0 : Int) else _) = -1 * (if j = i then (0 : Int) else _)
  by_cases h : i = j
  · subst h
    rw [if_pos rfl, if_pos rfl]
    rfl
  · rw [if_neg h, if_neg (Ne.symm h), hM j i (Ne.symm h), hs j i (Ne.symm h)]
    grind
theorem det_swa : ∀ (p : Nat) {n : Nat} (v : Nat → Nat → Int), p + 1 < n → det n (fun i c => v i (sw p (p + 1) c)) = - det n v
  | 0, n, v, h => by
    obtain ⟨m, rfl⟩ : ∃ m, n = m + 2 := ⟨n - 2, by omega⟩
    exact det_sw0 m v
  | p + 1, n, v, h => by
    obtain ⟨m, rfl⟩ : ∃ m, n = m + 1 := ⟨n - 1, by omega⟩
    have : ∀ x : Int, -x = (-1) * x := fun x => by omega
    rw [this, det, det, ← sm_mul]
    refine sm_congr fun i hi => ?_
    have e0 : sw (p + 1) (p + 1 + 1) 0 = 0 := by unfold sw; rw [if_neg (by omega), if_neg (by omega)]
    have e1 : mnr i (fun i c => v i (sw (p + 1) (p + 1 + 1) c)) = fun a c => mnr i v a (sw p (p + 1) c) := by
      funext a c
      show v _ _ = v _ _
      have : sw (p + 1) (p + 1 + 1) (c + 1) = sw p (p + 1) c + 1 := by unfold sw; (repeat' split) <;> omega
      rw [this]
    show sg i * v i (sw (p + 1) (p + 1 + 1) 0) * _ = _
    rw [e0, e1, det_swa p (mnr i v) (by omega)]
    grind
theorem det_swk : ∀ (k : Nat) {n p : Nat} (v : Nat → Nat → Int), p + k + 1 < n → det n (fun i c => v i (sw p (p + k + 1) c)) = - det n v
  | 0, n, p, v, h => det_swa p v h
  | k + 1, n, p, v, h => by
    have e : (fun i c => v i (sw p (p + (k + 1) + 1) c)) = fun i c => v i (sw (p + k + 1) (p + k + 1 + 1) (sw p (p + k + 1) (sw (p + k + 1) (p + k + 1 + 1) c))) := by
      funext i c
      have : sw p (p + (k + 1) + 1) c = sw (p + k + 1) (p + k + 1 + 1) (sw p (p + k + 1) (sw (p + k + 1) (p + k + 1 + 1) c)) := by unfold sw; (repeat' split) <;> omega
      rw [this]
    rw [e, det_swa (p + k + 1) (fun i c => v i (sw (p + k + 1) (p + k + 1 + 1) (sw p (p + k + 1) c))) h, det_swk k (fun i c => v i (sw (p + k + 1) (p + k + 1 + 1) c)) (by omega), det_swa (p + k + 1) v h]
    omega
theorem sw_comm (p q : Nat) : sw p q = sw q p := by funext c; unfold sw; (repeat' split) <;> omega
theorem sw_self (p c : Nat) : sw p p c = c := by unfold sw; (repeat' split) <;> omega
theorem det_swp {n p q : Nat} (v : Nat → Nat → Int) (hp : p < n) (hq : q < n) : det n (fun i c => v i (sw p q c)) = det n v ∨ det n (fun i c => v i (sw p q c)) = - det n v := by
  rcases Nat.lt_trichotomy p q with h | h | h
  · obtain ⟨k, rfl⟩ : ∃ k, q = p + k + 1 := ⟨q - p - 1, by omega⟩
    exact .inr (det_swk k v (by omega))
  · subst h
    simp only [sw_self]
    exact .inl trivial
  · obtain ⟨k, rfl⟩ : ∃ k, p = q + k + 1 := ⟨p - q - 1, by omega⟩
    rw [sw_comm]
    exact .inr (det_swk k v (by omega))

theorem det_mul {n r : Nat} (v : Nat → Nat → Int) (x : Int) (u : Nat → Int) (h : r < n) : det n (upv v r fun c => x * u c) = x * det n (upv v r u) := by
  have := det_lin v x 0 u (fun _ => 0) h
  simp only [Int.zero_mul, Int.add_zero] at this
  exact this
theorem det_add {n r : Nat} (v : Nat → Nat → Int) (y : Int) (u w : Nat → Int) (h : r < n) : det n (upv v r fun c => u c + y * w c) = det n (upv v r u) + y * det n (upv v r w) := by
  have := det_lin v 1 y u w h
  simp only [Int.one_mul] at this
  exact this
structure Elim (n w t : Nat) (A G : Nat → Nat → Int) (d : Int) : Prop where
  hd : d ≠ 0
  ht : t ≤ n
  hw : n ≤ w
  eq : ∀ i, i < n → ∀ j, j < w → d * A i j = sm t (fun k => G k j * A i k) + if t ≤ i then G i j else 0
  dg : ∀ k, k < t → ∀ j, j < t → G k j = if k = j then d else 0
  dt : det t (fun j i => A i j) = d
theorem Elim.init {n w : Nat} (A : Nat → Nat → Int) (h : n ≤ w) : Elim n w 0 A A 1 :=
  ⟨by omega, by omega, h, fun i _ j _ => by rw [if_pos (Nat.zero_le _)]; simp only [sm]; omega, fun k h => by omega, rfl⟩
theorem sw_lt {t p q c : Nat} (h : c < t) (hp : t ≤ p) (hq : t ≤ q) : sw p q c = c := by unfold sw; rw [if_neg (by omega), if_neg (by omega)]
theorem sw_ge {t p q c : Nat} (h : t ≤ c) (hp : t ≤ p) (hq : t ≤ q) : t ≤ sw p q c := by unfold sw; (repeat' split) <;> omega
theorem sw_ln {n p q c : Nat} (h : c < n) (hp : p < n) (hq : q < n) : sw p q c < n := by unfold sw; (repeat' split) <;> omega
theorem Elim.swap {n w t : Nat} {A G : Nat → Nat → Int} {d : Int} (E : Elim n w t A G d) {p q : Nat} (hp : t ≤ p) (hq : t ≤ q) (hpn : p < n) (hqn : q < n) : Elim n w t (fun i => A (sw p q i)) (fun i => G (sw p q i)) d := by
  refine ⟨E.hd, E.ht, E.hw, fun i hi j hj => ?_, fun k hk j hj => ?_, ?_⟩
  · rw [E.eq _ (sw_ln hi hpn hqn) j hj]
    congr 1
    · exact sm_congr fun k hk => by rw [sw_lt hk hp hq]
    · by_cases h : t ≤ i
      · rw [if_pos h, if_pos (sw_ge h hp hq)]
      · rw [if_neg h, sw_lt (by omega) hp hq, if_neg h]
  · show G (sw p q k) j = _
    rw [sw_lt hk hp hq]
    exact E.dg k hk j hj
  · rw [← E.dt]
    exact det_congr fun j i hj hi => by rw [sw_lt hi hp hq]
/-- what a row's number is, as a determinant: rows ahead -/
theorem Elim.lowG {n w t : Nat} {A G : Nat → Nat → Int} {d : Int} (E : Elim n w t A G d) {k j : Nat} (hk : k < t) (hj : j < w) : G k j = det t (upv (fun j i => A i j) k fun i => A i j) := by
  have h1 := det_cramer (n := t) (fun j i => A i j) hk (fun k => G k j)
  have h2 : det t (upv (fun j i => A i j) k fun c => sm t fun k => G k j * A c k) = d * det t (upv (fun j i => A i j) k fun i => A i j) := by
    rw [← det_mul _ _ _ hk]
    refine det_congr fun i c hi hc => ?_
    by_cases e : i = k
    · subst e
      have := E.ht
      rw [upv_at, upv_at]
      have := E.eq c (by omega) j hj
      rw [if_neg (by omega)] at this
      omega
    · rw [upv_ne e, upv_ne e]
  rw [h2, E.dt] at h1
  have h3 : d * det t (upv (fun j i => A i j) k fun i => A i j) = d * G k j := by rw [h1, Int.mul_comm]
  exact (Int.eq_of_mul_eq_mul_left E.hd h3).symm
/-- rows behind: the first ones and this one -/
def ext (A : Nat → Nat → Int) (t r i : Nat) : Nat → Int := A (if i < t then i else r)
theorem Elim.highG {n w t : Nat} {A G : Nat → Nat → Int} {d : Int} (E : Elim n w t A G d) {k j : Nat} (hk : t ≤ k) (hn : k < n) (hj : j < w) : G k j = det (t + 1) (upv (fun j i => ext A t k i j) t fun i => ext A t k i j) := by
  let v : Nat → Nat → Int := fun j i => ext A t k i j
  have h2 : det (t + 1) (upv v t fun i => ext A t k i j) * d = det (t + 1) (upv v t fun i => sm t (fun m => G m j * v m i) + G k j * if i = t then 1 else 0) := by
    rw [Int.mul_comm, ← det_mul _ _ _ (Nat.lt_succ_self t)]
    refine det_congr fun i c hi hc => ?_
    by_cases e : i = t
    · subst e
      rw [upv_at, upv_at]
      show d * ext A i k c j = sm i (fun m => G m j * ext A i k c m) + _
      unfold ext
      by_cases h : c < i
      · have := E.eq c (by omega) j hj
        rw [if_neg (by omega)] at this
        rw [if_pos h, if_neg (by omega)]
        omega
      · have := E.eq k hn j hj
        rw [if_pos hk] at this
        rw [if_neg h, if_pos (by omega)]
        omega
    · rw [upv_ne e, upv_ne e]
  have h3 := det_add (n := t + 1) v (G k j) (fun i => sm t (fun m => G m j * v m i)) (fun i => if i = t then 1 else 0) (Nat.lt_succ_self t)
  rw [h3, det_sum v (Nat.lt_succ_self t) (fun m => G m j) v t, sm_zero (fun m hm => by
    rw [det_rep (p := m) (q := t) (by omega) (by omega) (by omega) (by rw [upv_at, upv_ne (by omega)]), Int.mul_zero]), Int.zero_add, det_last (n := t) (v := upv v t fun i => if i = t then 1 else 0) (fun c hc => by rw [upv_at])] at h2
  have h4 : det t (upv v t fun i => if i = t then 1 else 0) = d := by
    rw [← E.dt]
    refine det_congr fun i c hi hc => ?_
    rw [upv_ne (by omega)]
    show ext A t k c i = _
    unfold ext
    rw [if_pos hc]
  rw [h4] at h2
  exact (Int.eq_of_mul_eq_mul_right E.hd h2).symm
theorem Elim.pivot {n w t : Nat} {A G : Nat → Nat → Int} {d : Int} (E : Elim n w t A G d) (h : t < n) : G t t = det (t + 1) (fun j i => A i j) := by
  have := E.hw
  rw [E.highG (Nat.le_refl t) h (by omega : t < w)]
  refine det_congr fun j i hj hi => ?_
  have e : ∀ i, i < t + 1 → (if i < t then i else t) = i := fun i hi => by split <;> omega
  by_cases q : j = t
  · subst q
    rw [upv_at]
    unfold ext
    rw [e i hi]
  · rw [upv_ne q]
    unfold ext
    rw [e i hi]
/-- the next grid, times what was the last corner -/
theorem Elim.eqn {n w t : Nat} {A G : Nat → Nat → Int} {d : Int} (E : Elim n w t A G d) (h : t < n) {i j : Nat} (hi : i < n) (hj : j < w) :
    d * (G t t * A i j) = sm t (fun k => (G t t * G k j - G k t * G t j) * A i k) + d * (G t j * A i t) + if t + 1 ≤ i then G t t * G i j - G i t * G t j else 0 := by
  have := E.hw
  have h1 := E.eq i hi j hj
  have h2 := E.eq i hi t (by omega)
  have h3 : sm t (fun k => (G t t * G k j - G k t * G t j) * A i k) = G t t * sm t (fun k => G k j * A i k) + (- G t j) * sm t (fun k => G k t * A i k) := by
    rw [← sm_mul, ← sm_mul, ← sm_add]
    exact sm_congr fun k hk => by grind
  rw [h3]
  by_cases c1 : t + 1 ≤ i
  · rw [if_pos c1]
    rw [if_pos (by omega)] at h1 h2
    grind
  · rw [if_neg c1]
    by_cases c2 : t ≤ i
    · have : i = t := by omega
      subst this
      rw [if_pos c2] at h1 h2
      grind
    · rw [if_neg c2] at h1 h2
      grind
/-- .. and the division leaves nothing over -/
theorem Elim.divs {n w t : Nat} {A G : Nat → Nat → Int} {d : Int} (E : Elim n w t A G d) (h : t < n) (hp : G t t ≠ 0) {k j : Nat} (hk : k < n) (hkt : k ≠ t) (hj : j < w) : ∃ z, G t t * G k j - G k t * G t j = d * z := by
  have hpv := E.pivot h
  rcases Nat.lt_or_gt_of_ne hkt with hk1 | hk1
  · refine ⟨det (t + 1) (upv (fun j i => A i j) k fun i => A i j), ?_⟩
    let Y : Nat → Int := fun m => if m = t then d * G t j else G t t * G m j - G m t * G t j
    have h1 := det_cramer (n := t + 1) (fun j i => A i j) (show k < t + 1 by omega) Y
    have h2 : det (t + 1) (upv (fun j i => A i j) k fun c => sm (t + 1) fun m => Y m * A c m) = (d * G t t) * det (t + 1) (upv (fun j i => A i j) k fun i => A i j) := by
      rw [← det_mul _ _ _ (show k < t + 1 by omega)]
      refine det_congr fun i c hi hc => ?_
      by_cases e : i = k
      · subst e
        rw [upv_at, upv_at]
        have := E.eqn h (i := c) (by omega) hj
        rw [if_neg (by omega)] at this
        simp only [sm]
        have e1 : Y t = d * G t j := if_pos rfl
        have e2 : sm t (fun m => Y m * A c m) = sm t fun k => (G t t * G k j - G k t * G t j) * A c k := sm_congr fun m hm => by
          have : Y m = G t t * G m j - G m t * G t j := if_neg (by omega)
          rw [this]
        rw [e1, e2]
        grind
      · rw [upv_ne e, upv_ne e]
    have e1 : Y k = G t t * G k j - G k t * G t j := if_neg (by omega)
    rw [h2, ← hpv, e1] at h1
    have h3 : G t t * (G t t * G k j - G k t * G t j) = G t t * (d * det (t + 1) (upv (fun j i => A i j) k fun i => A i j)) := by grind
    exact Int.eq_of_mul_eq_mul_left hp h3
  · refine ⟨det (t + 2) (upv (fun j i => ext A (t + 1) k i j) (t + 1) fun i => ext A (t + 1) k i j), ?_⟩
    let v : Nat → Nat → Int := fun j i => ext A (t + 1) k i j
    let Y : Nat → Int := fun m => if m = t then d * G t j else G t t * G m j - G m t * G t j
    have eY : ∀ c, sm (t + 1) (fun m => Y m * A c m) = sm t (fun k => (G t t * G k j - G k t * G t j) * A c k) + d * (G t j * A c t) := fun c => by
      simp only [sm]
      have e1 : Y t = d * G t j := if_pos rfl
      have e2 : sm t (fun m => Y m * A c m) = sm t fun k => (G t t * G k j - G k t * G t j) * A c k := sm_congr fun m hm => by
        have : Y m = G t t * G m j - G m t * G t j := if_neg (by omega)
        rw [this]
      rw [e1, e2]
      grind
    have h2 : (d * G t t) * det (t + 2) (upv v (t + 1) fun i => ext A (t + 1) k i j) = det (t + 2) (upv v (t + 1) fun i => sm (t + 1) (fun m => Y m * v m i) + (G t t * G k j - G k t * G t j) * if i = t + 1 then 1 else 0) := by
      rw [← det_mul _ _ _ (show t + 1 < t + 2 by omega)]
      refine det_congr fun i c hi hc => ?_
      by_cases e : i = t + 1
      · subst e
        rw [upv_at, upv_at]
        show d * G t t * ext A (t + 1) k c j = sm (t + 1) (fun m => Y m * ext A (t + 1) k c m) + _
        unfold ext
        by_cases hc1 : c < t + 1
        · have := E.eqn h (i := c) (by omega) hj
          rw [if_neg (by omega)] at this
          rw [if_pos hc1, if_neg (by omega), eY]
          grind
        · have := E.eqn h (i := k) hk hj
          rw [if_pos (by omega)] at this
          rw [if_neg hc1, if_pos (by omega), eY]
          grind
      · rw [upv_ne e, upv_ne e]
    have h3 := det_add (n := t + 2) v (G t t * G k j - G k t * G t j) (fun i => sm (t + 1) (fun m => Y m * v m i)) (fun i => if i = t + 1 then 1 else 0) (show t + 1 < t + 2 by omega)
    rw [h3, det_sum v (show t + 1 < t + 2 by omega) Y v (t + 1), sm_zero (fun m hm => by
      rw [det_rep (p := m) (q := t + 1) (by omega) (by omega) (by omega) (by rw [upv_at, upv_ne (by omega)]), Int.mul_zero]), Int.zero_add, det_last (n := t + 1) (v := upv v (t + 1) fun i => if i = t + 1 then 1 else 0) (fun c hc => by rw [upv_at])] at h2
    have h4 : det (t + 1) (upv v (t + 1) fun i => if i = t + 1 then 1 else 0) = G t t := by
      rw [hpv]
      refine det_congr fun i c hi hc => ?_
      rw [upv_ne (by omega)]
      show ext A (t + 1) k c i = _
      unfold ext
      rw [if_pos hc]
    rw [h4] at h2
    have h5 : G t t * (G t t * G k j - G k t * G t j) = G t t * (d * det (t + 2) (upv v (t + 1) fun i => ext A (t + 1) k i j)) := by grind
    exact Int.eq_of_mul_eq_mul_left hp h5
theorem Elim.step {n w t : Nat} {A G G' : Nat → Nat → Int} {d : Int} (E : Elim n w t A G d) (h : t < n) (hp : G t t ≠ 0) (h1 : ∀ j, j < w → G' t j = G t j) (h2 : ∀ k, k < n → k ≠ t → ∀ j, j < w → d * G' k j = G t t * G k j - G k t * G t j) : Elim n w (t + 1) A G' (G t t) := by
  have hw := E.hw
  refine ⟨hp, h, hw, fun i hi j hj => ?_, fun k hk j hj => ?_, (E.pivot h).symm⟩
  · have e := E.eqn h hi hj
    refine Int.eq_of_mul_eq_mul_left E.hd ?_
    rw [e, sm, h1 j hj]
    have e2 : sm t (fun k => (G t t * G k j - G k t * G t j) * A i k) = d * sm t fun k => G' k j * A i k := by
      rw [← sm_mul]
      exact sm_congr fun k hk => by rw [← h2 k (by omega) (by omega) j hj]; grind
    rw [e2]
    by_cases c : t + 1 ≤ i
    · rw [if_pos c, if_pos c, ← h2 i hi (by omega) j hj]
      grind
    · rw [if_neg c, if_neg c]
      grind
  · by_cases e : k = t
    · subst e
      rw [h1 j (by omega)]
      by_cases q : k = j
      · subst q; rw [if_pos rfl]
      · rw [if_neg q]
        have := E.lowG (k := j) (j := j) (by omega) (by omega)
        have e2 := E.eq k h j (by omega)
        rw [if_pos (Nat.le_refl k)] at e2
        rw [sm_one (r := j) (by omega) fun m hm hn => by rw [E.dg m hm j (by omega), if_neg hn, Int.zero_mul], E.dg j (by omega) j (by omega), if_pos rfl] at e2
        omega
    · have e2 := h2 k (by omega) e j (by omega)
      by_cases q : j = t
      · subst q
        rw [if_neg e]
        have : d * G' k j = 0 := by rw [e2]; grind
        rcases Int.mul_eq_zero.mp this with z | z
        · exact absurd z E.hd
        · exact z
      · have z : G t j = 0 := by
          have e3 := E.eq t h j (by omega)
          rw [if_pos (Nat.le_refl t)] at e3
          rw [sm_one (r := j) (by omega) fun m hm hn => by rw [E.dg m hm j (by omega), if_neg hn, Int.zero_mul], E.dg j (by omega) j (by omega), if_pos rfl] at e3
          omega
        rw [E.dg k (by omega) j (by omega), z, Int.mul_zero, Int.sub_zero] at e2
        by_cases r : k = j
        · rw [if_pos r] at e2 ⊢
          refine Int.eq_of_mul_eq_mul_left E.hd ?_
          rw [e2, Int.mul_comm]
        · rw [if_neg r] at e2 ⊢
          rw [Int.mul_zero] at e2
          rcases Int.mul_eq_zero.mp e2 with z | z
          · exact absurd z E.hd
          · exact z
theorem Elim.none {n w t : Nat} {A G : Nat → Nat → Int} {d : Int} (E : Elim n w t A G d) (h : t < n) (hz : ∀ k, t ≤ k → k < n → G k t = 0) : det n (fun j i => A i j) = 0 := by
  have hw := E.hw
  have h1 := det_mul (n := n) (fun j i => A i j) d (fun i => A i t) h
  have h2 := det_sum (n := n) (fun j i => A i j) h (fun m => G m t) (fun m i => A i m) t
  rw [sm_zero (fun m hm => by
      rw [det_rep (p := m) (q := t) (by omega) (by omega) (by omega) (by rw [upv_at, upv_ne (by omega)]), Int.mul_zero])] at h2
  have e : upv (fun j i => A i j) t (fun i => A i t) = fun j i => A i j := upv_self (fun j i => A i j) t
  rw [e] at h1
  have h3 : det n (upv (fun j i => A i j) t fun c => d * A c t) = det n (upv (fun j i => A i j) t fun c => sm t fun k => G k t * A c k) := by
    refine det_congr fun i c hi hc => ?_
    by_cases q : i = t
    · subst q
      rw [upv_at, upv_at]
      have := E.eq c hc i (by omega)
      by_cases r : i ≤ c
      · rw [if_pos r, hz c r hc] at this
        omega
      · rw [if_neg r] at this
        omega
    · rw [upv_ne q, upv_ne q]
  rw [h3, h2] at h1
  rcases Int.mul_eq_zero.mp h1.symm with z | z
  · exact absurd z E.hd
  · exact z
/-- the answer -/
theorem Elim.ans {n w : Nat} {A G : Nat → Nat → Int} {d : Int} (E : Elim n w n A G d) {i j : Nat} (hi : i < n) (hj : j < w) : sm n (fun k => G k j * A i k) = d * A i j := by
  have := E.eq i hi j hj
  rw [if_neg (by omega)] at this
  omega
theorem Elim.uniq {n w : Nat} {A G : Nat → Nat → Int} {d e : Int} (E : Elim n w n A G d) {j : Nat} (hj : j < w) {U : Nat → Int} (hU : ∀ i, i < n → sm n (fun k => U k * A i k) = e * A i j) {k : Nat} (hk : k < n) : U k * d = e * G k j := by
  have h1 := det_cramer (n := n) (fun j i => A i j) hk U
  have h2 := det_mul (n := n) (fun j i => A i j) e (fun i => A i j) hk
  rw [E.dt] at h1
  rw [← h1, E.lowG hk hj, ← h2]
  refine det_congr fun i c hi hc => ?_
  by_cases q : i = k
  · subst q
    rw [upv_at, upv_at, hU c hc]
  · rw [upv_ne q, upv_ne q]
theorem sm_cut {n t : Nat} (h : t < n) (f : Nat → Int) : sm n (fun i => if i = t then 0 else f i) = sm n f - f t := by
  have : sm n f = sm n (fun i => if i = t then 0 else f i) + sm n (fun i => if i = t then f i else 0) := by
    rw [← sm_add]
    exact sm_congr fun i hi => by split <;> omega
  rw [this, sm_one (r := t) h fun i hi hn => if_neg hn, if_pos rfl]
  omega
/-- a row that comes of the others: so it is in the next grid -/
theorem kern_step {n t : Nat} {G G' : Nat → Nat → Int} {d : Int} (hd : d ≠ 0) (ht : t < n) (L : Nat → Int) (hL : ∀ j, j < n → sm n (fun i => L i * G i j) = 0) (h2 : ∀ k, k < n → k ≠ t → ∀ j, j < n → d * G' k j = G t t * G k j - G k t * G t j) :
    ∀ j, j < n → sm n (fun i => (if i = t then 0 else L i) * G' i j) = 0 := by
  intro j hj
  have h3 : d * sm n (fun i => (if i = t then 0 else L i) * G' i j) = G t t * sm n (fun i => if i = t then 0 else L i * G i j) + (- G t j) * sm n (fun i => if i = t then 0 else L i * G i t) := by
    rw [← sm_mul, ← sm_mul, ← sm_mul, ← sm_add]
    refine sm_congr fun i hi => ?_
    by_cases c : i = t
    · rw [if_pos c, if_pos c, if_pos c]; grind
    · rw [if_neg c, if_neg c, if_neg c]
      have := h2 i hi c j hj
      grind
  rw [sm_cut ht, sm_cut ht, hL j hj, hL t ht] at h3
  have : d * sm n (fun i => (if i = t then 0 else L i) * G' i j) = 0 := by rw [h3]; grind
  rcases Int.mul_eq_zero.mp this with z | z
  · exact absurd z hd
  · exact z
end Ab

namespace Ab
open PySem PySem.Spec PyProof.Rows L2
/-! ### try: .. except C: .. -/
section
variable {X : Cx} {g : Gi} {W : WX} {w : WS} {st : List Stmt}
/-- the suite does not see the exception; rl are the classes that can come -/
def wTryO (rl : List Str) (cat : Str → Bool) (w : WS) (ws : WS) : WS := fun (D : HG Kd) s S =>
  w { nx := D.nx, rt := D.rt, xc := fun c s1 S1 => rl.contains c = true ∧ if cat c = true then ws { nx := D.nx, rt := D.rt, xc := fun _ _ _ => False } s1 S1 else D.xc c s1 S1 } s S
theorem ss_tryO {x : Str} {cv : Value} {rl : List Str} {cat : Str → Bool} {body suite : List Stmt} {b₀ : Stmt} {np pos pos' : Pos} {ws : WS}
    (hs : X.stack = X.env :: X.outer) (hf : X.env.frame = some X.env.locals) (hc : Names X x cv) (tk : Takes X W)
    (hcat : ∀ c, rl.contains c = true → PySem.W.exmOne X.K (.ref (g.cl c)) cv = some (cat c))
    (hb : ∀ (W' : WX) (pn : List (Addr × Obj)) (xe : Value → Shared → Prop), Takes (X.tr pn xe) W' → PassesOwn (model X.prog X.w) X.A X.env xe → SSs (X.tr pn xe) g W' body w)
    (hsu : ∀ (a : Addr) (oe : Obj) (pn : List (Addr × Obj)), (∃ vs, oe.data = .fields vs) → SSs (X.suite a ((a, oe) :: pn)) g WFls (b₀ :: suite) ws) :
    SS X g W (.Try body [.ExceptHandler (some (.Name x np)) none (b₀ :: suite) pos'] [] [] pos) (wTryO rl cat w ws) := by
  refine ⟨_, ps_try_only (tb := fun W' => canS X.K g W' w) (ts := fun a cls d Dv sv H => canS X.K g WFls ws Dv sv H) hs hf hc tk
    (fun W' pn xe t p => (hb W' pn xe t p).ps) (fun a oe cls d pn hz hfl => (hsu a oe pn hfl).ps), ?_⟩
  intro H0 r S H s sv Dk Dv si rs h ct
  refine ⟨H0, r, S, s, _, si, rs, h, ct.1, ct.2.1, fun c s1 sv1 H1 r1 S1 H1' f1 s1' rs1 hx => ?_⟩
  obtain ⟨hcl, hx⟩ := hx
  refine ⟨cat c, hcat c hcl, fun hy a ha => ⟨H1, r1, S1, _, _, s1', rs1, by rw [if_pos hy] at hx; exact hx, ?_⟩, fun hn => ?_⟩
  · exact ⟨fun s2 sv2 H2 r2 S2 H2' f2 s2' rs2 h2 => ct.1 _ _ _ _ _ _ (f1.tr s1' f2) s2' rs2 h2, ct.2.1.fut f1 s1', fun _ _ _ _ _ _ _ _ _ _ z => z.elim⟩
  · rw [hn, if_neg Bool.false_ne_true] at hx
    exact ct.2.2 c s1 sv1 H1 r1 S1 H1' f1 s1' rs1 hx
end
end Ab

namespace Ab
open PySem L2
/-! ### grids as lists of rows -/
def ent (M : List (List Int)) (k j : Nat) : Int := gI (M.getD k []) (j : Int)
def swapL (M : List (List Int)) (p q : Nat) : List (List Int) := (M.set p (M.getD q [])).set q (M.getD p [])
theorem getD_set {α : Type} {l : List α} {n k : Nat} {a b : α} (h : n < l.length) : (l.set n a).getD k b = if k = n then a else l.getD k b := by
  rw [List.getD_eq_getElem?_getD, List.getD_eq_getElem?_getD, List.getElem?_set]
  by_cases e : k = n
  · subst e; simp [h]
  · rw [if_neg (Ne.symm e), if_neg e]
theorem ent_swap {M : List (List Int)} {p q : Nat} (hp : p < M.length) (hq : q < M.length) : ent (swapL M p q) = fun i => ent M (sw p q i) := by
  funext i j
  unfold ent swapL
  rw [getD_set (by rw [List.length_set]; exact hq), getD_set hp]
  unfold sw
  by_cases e1 : i = q
  · subst e1
    by_cases e2 : i = p
    · subst e2; simp
    · simp [e2]
  · by_cases e2 : i = p
    · subst e2; simp [e1]
    · simp [e1, e2]
theorem swapL_len {M : List (List Int)} {p q : Nat} : (swapL M p q).length = M.length := by unfold swapL; simp
theorem swapL_mem {M : List (List Int)} {p q : Nat} (hp : p < M.length) (hq : q < M.length) {r : List Int} (h : r ∈ swapL M p q) : r ∈ M := by
  unfold swapL at h
  rcases List.mem_or_eq_of_mem_set h with h | h
  · rcases List.mem_or_eq_of_mem_set h with h | h
    · exact h
    · rw [h, List.getD_eq_getElem?_getD, List.getElem?_eq_getElem hq]; exact List.getElem_mem _
  · rw [h, List.getD_eq_getElem?_getD, List.getElem?_eq_getElem hp]; exact List.getElem_mem _
def freedL (row head : List Int) (t : Nat) (d : Int) : List Int := (List.range row.length).map fun (m : Nat) => (gI head t * gI row m - gI row t * gI head m).fdiv d
def sweptL (M : List (List Int)) (t : Nat) (d : Int) : List (List Int) := (List.range M.length).map fun k => if k = t then M.getD k [] else freedL (M.getD k []) (M.getD t []) t d
theorem gI_range {n : Nat} {f : Nat → Int} {j : Nat} (h : j < n) : gI ((List.range n).map f) j = f j := by
  unfold gI
  rw [Int.toNat_natCast, List.getD_eq_getElem?_getD, List.getElem?_map, List.getElem?_range h]
  rfl
theorem getD_range {α : Type} {n : Nat} {f : Nat → α} {j : Nat} {a : α} (h : j < n) : ((List.range n).map f).getD j a = f j := by
  rw [List.getD_eq_getElem?_getD, List.getElem?_map, List.getElem?_range h]
  rfl
theorem freedL_len {row head : List Int} {t : Nat} {d : Int} : (freedL row head t d).length = row.length := by unfold freedL; simp
theorem sweptL_len {M : List (List Int)} {t : Nat} {d : Int} : (sweptL M t d).length = M.length := by unfold sweptL; simp
theorem rowLen {M : List (List Int)} {w : Nat} (h : ∀ r ∈ M, r.length = w) {k : Nat} (hk : k < M.length) : (M.getD k []).length = w := by
  rw [List.getD_eq_getElem?_getD, List.getElem?_eq_getElem hk]
  exact h _ (List.getElem_mem _)
theorem sweptL_row {M : List (List Int)} {t w : Nat} {d : Int} (h : ∀ r ∈ M, r.length = w) : ∀ r ∈ sweptL M t d, r.length = w := fun r hr => by
  unfold sweptL at hr
  obtain ⟨k, hk, rfl⟩ := List.mem_map.mp hr
  rw [List.mem_range] at hk
  split
  · exact rowLen h hk
  · rw [freedL_len]; exact rowLen h hk
theorem ent_swept {M : List (List Int)} {t w k j : Nat} {d : Int} (h : ∀ r ∈ M, r.length = w) (hk : k < M.length) (hj : j < w) : ent (sweptL M t d) k j = if k = t then ent M k j else (ent M t t * ent M k j - ent M k t * ent M t j).fdiv d := by
  unfold ent sweptL
  rw [getD_range hk]
  split
  · rfl
  · unfold freedL
    rw [gI_range (by rw [rowLen h hk]; exact hj)]
structure ElimL (n w t : Nat) (A0 A M : List (List Int)) (d : Int) : Prop where
  e : Elim n w t (ent A) (ent M) d
  la : A.length = n
  lm : M.length = n
  rm : ∀ r ∈ M, r.length = w
  ra : ∀ r ∈ A, r ∈ A0
  ar : ∀ r ∈ A0, r ∈ A
  dd : det n (fun j i => ent A i j) = det n (fun j i => ent A0 i j) ∨ det n (fun j i => ent A i j) = - det n (fun j i => ent A0 i j)
theorem ElimL.init {n w : Nat} {A : List (List Int)} (la : A.length = n) (ra : ∀ r ∈ A, r.length = w) (hw : n ≤ w) : ElimL n w 0 A A A 1 :=
  ⟨.init _ hw, la, la, ra, fun _ h => h, fun _ h => h, .inl rfl⟩
theorem swapL_back {M : List (List Int)} {p q : Nat} (hp : p < M.length) (hq : q < M.length) {r : List Int} (h : r ∈ M) : r ∈ swapL M p q := by
  obtain ⟨i, hi, rfl⟩ := List.mem_iff_getElem.mp h
  have e : (swapL M p q).getD (sw p q i) [] = M.getD i [] := by
    unfold swapL sw
    rw [getD_set (by rw [List.length_set]; exact hq), getD_set hp]
    by_cases e1 : i = p
    · subst e1
      simp
    · by_cases e2 : i = q
      · subst e2
        simp only [e1, if_false, if_true]
        by_cases e3 : p = i
        · exact absurd e3.symm e1
        · simp [e3]
      · simp [e1, e2]
  have hs : sw p q i < (swapL M p q).length := by rw [swapL_len]; exact sw_ln hi hp hq
  rw [List.getD_eq_getElem?_getD, List.getElem?_eq_getElem hs, List.getD_eq_getElem?_getD, List.getElem?_eq_getElem hi] at e
  have e : (swapL M p q)[sw p q i] = M[i] := e
  rw [← e]
  exact List.getElem_mem _
theorem ElimL.swap {n w t : Nat} {A0 A M : List (List Int)} {d : Int} (E : ElimL n w t A0 A M d) {p q : Nat} (hp : t ≤ p) (hq : t ≤ q) (hpn : p < n) (hqn : q < n) : ElimL n w t A0 (swapL A p q) (swapL M p q) d := by
  have e := E.e.swap hp hq hpn hqn
  have ea : ent (swapL A p q) = fun i => ent A (sw p q i) := ent_swap (by rw [E.la]; exact hpn) (by rw [E.la]; exact hqn)
  have em : ent (swapL M p q) = fun i => ent M (sw p q i) := ent_swap (by rw [E.lm]; exact hpn) (by rw [E.lm]; exact hqn)
  refine ⟨by rw [ea, em]; exact e, by rw [swapL_len]; exact E.la, by rw [swapL_len]; exact E.lm, fun r hr => E.rm r (swapL_mem (by rw [E.lm]; exact hpn) (by rw [E.lm]; exact hqn) hr),
    fun r hr => E.ra r (swapL_mem (by rw [E.la]; exact hpn) (by rw [E.la]; exact hqn) hr), fun r hr => swapL_back (by rw [E.la]; exact hpn) (by rw [E.la]; exact hqn) (E.ar r hr), ?_⟩
  have q2 := E.dd
  rw [ea]
  rcases det_swp (fun j i => ent A i j) hpn hqn with z | z
  · rw [z]; exact q2
  · rw [z]
    omega
theorem ElimL.step {n w t : Nat} {A0 A M : List (List Int)} {d : Int} (E : ElimL n w t A0 A M d) (h : t < n) (hp : ent M t t ≠ 0) : ElimL n w (t + 1) A0 A (sweptL M t d) (ent M t t) ∧ ent (sweptL M t d) t t = ent M t t := by
  have hw := E.e.hw
  have es : ∀ j, j < w → ent (sweptL M t d) t j = ent M t j := fun j hj => by rw [ent_swept E.rm (by rw [E.lm]; exact h) hj, if_pos rfl]
  refine ⟨⟨E.e.step h hp es fun k hk hkt j hj => ?_, E.la, by rw [sweptL_len]; exact E.lm, sweptL_row E.rm, E.ra, E.ar, E.dd⟩, es t (by omega)⟩
  rw [ent_swept E.rm (by rw [E.lm]; exact hk) hj, if_neg hkt]
  obtain ⟨z, hz⟩ := E.e.divs h hp hk hkt hj
  rw [hz, Int.mul_comm d z, Int.mul_fdiv_cancel _ E.e.hd, Int.mul_comm]
theorem sm_sub {t w j : Nat} {f : Nat → Int} (hf : ∀ i, 0 ≤ f i) (ht : t ≤ j) (hj : j < w) : sm t f + f j ≤ sm w f := by
  obtain ⟨m, rfl⟩ : ∃ m, w = m + 1 := ⟨w - 1, by omega⟩
  induction m generalizing t j with
  | zero =>
    have : t = 0 ∧ j = 0 := by omega
    obtain ⟨rfl, rfl⟩ := this
    exact Int.le_refl _
  | succ m ih =>
    rw [sm]
    by_cases e : j = m + 1
    · subst e
      have : sm t f ≤ sm (m + 1) f := by
        have : ∀ k, sm t f ≤ sm (t + k) f := fun k => by
          induction k with
          | zero => exact Int.le_refl _
          | succ k ihk => rw [← Nat.add_assoc, sm]; have := hf (t + k); omega
        have := this (m + 1 - t)
        rwa [show t + (m + 1 - t) = m + 1 by omega] at this
      omega
    · have := ih ht (by omega)
      have := hf (m + 1)
      omega
theorem sm_le_all {t w : Nat} {f : Nat → Int} (hf : ∀ i, 0 ≤ f i) (h : t ≤ w) : sm t f ≤ sm w f := by
  obtain ⟨k, rfl⟩ : ∃ k, w = t + k := ⟨w - t, by omega⟩
  induction k with
  | zero => exact Int.le_refl _
  | succ k ihk => rw [← Nat.add_assoc, sm]; have := hf (t + k); have := ihk (by omega); omega
theorem prN_const : ∀ (n B : Nat), prN n (fun _ => (B : Int)) = ((B ^ n : Nat) : Int)
  | 0, _ => rfl
  | n + 1, B => by
    unfold prN
    rw [prN_const n B, Nat.pow_succ, Int.natCast_mul, Int.mul_comm]
theorem Elim.size {n w t : Nat} {A G : Nat → Nat → Int} {d : Int} (E : Elim n w t A G d) {B : Nat} (hB : 1 ≤ B) (hA : ∀ i, i < n → (sm w fun j => ((A i j).natAbs : Int)) ≤ B) {k j : Nat} (hk : k < n) (hj : j < w) : d.natAbs ≤ B ^ n ∧ (G k j).natAbs ≤ B ^ n := by
  have ht := E.ht
  have hw := E.hw
  have nn : ∀ i j, 0 ≤ ((A i j).natAbs : Int) := fun i j => by omega
  have hd : d.natAbs ≤ B ^ n := by
    have := det_abs (n := t) (v := fun j i => A i j) (B := fun _ => B) fun c hc => Int.le_trans (sm_le_all (fun i => nn c i) (by omega)) (hA c (by omega))
    rw [prN_const, E.dt] at this
    have : d.natAbs ≤ B ^ t := by exact_mod_cast this
    exact Nat.le_trans this (Nat.pow_le_pow_right hB ht)
  refine ⟨hd, ?_⟩
  by_cases hjt : j < t
  · by_cases hkt : k < t
    · rw [E.dg k hkt j hjt]
      split
      · exact hd
      · exact Nat.zero_le _
    · have e := E.eq k hk j hj
      rw [if_pos (by omega)] at e
      rw [sm_one (r := j) hjt fun m hm hn => by rw [E.dg m hm j hjt, if_neg hn, Int.zero_mul], E.dg j hjt j hjt, if_pos rfl] at e
      have : G k j = 0 := by omega
      rw [this]
      exact Nat.zero_le _
  · have key : ∀ (m : Nat) (v : Nat → Nat → Int), m ≤ n → (∀ c, c < m → (sm m fun i => ((v i c).natAbs : Int)) ≤ B) → (det m v).natAbs ≤ B ^ n := fun m v hm hv => by
      have := det_abs (n := m) (v := v) (B := fun _ => B) hv
      rw [prN_const] at this
      have : (det m v).natAbs ≤ B ^ m := by exact_mod_cast this
      exact Nat.le_trans this (Nat.pow_le_pow_right hB hm)
    by_cases hkt : k < t
    · rw [E.lowG hkt hj]
      refine key t _ ht fun c hc => ?_
      have h1 : (sm t fun i => ((upv (fun j i => A i j) k (fun i => A i j) i c).natAbs : Int)) ≤ sm t (fun i => ((A c i).natAbs : Int)) + ((A c j).natAbs : Int) := by
        have : (sm t fun i => ((upv (fun j i => A i j) k (fun i => A i j) i c).natAbs : Int)) ≤ sm t (fun i => ((A c i).natAbs : Int) + if i = k then ((A c j).natAbs : Int) else 0) := sm_le fun i hi => by
          by_cases e : i = k
          · subst e
            rw [upv_at, if_pos rfl]
            have := nn c i
            omega
          · rw [upv_ne e, if_neg e]
            omega
        rw [sm_add, sm_one (r := k) hkt fun i hi hn => if_neg hn, if_pos rfl] at this
        exact this
      exact Int.le_trans h1 (Int.le_trans (sm_sub (f := fun i => ((A c i).natAbs : Int)) (fun i => nn c i) (by omega) hj) (hA c (by omega)))
    · rw [E.highG (by omega) hk hj]
      refine key (t + 1) _ (by omega) fun c hc => ?_
      rw [sm]
      have e0 : upv (fun j i => ext A t k i j) t (fun i => ext A t k i j) t c = ext A t k c j := by rw [upv_at]
      have h1 : (sm t fun i => ((upv (fun j i => ext A t k i j) t (fun i => ext A t k i j) i c).natAbs : Int)) = sm t fun i => ((ext A t k c i).natAbs : Int) := sm_congr fun i hi => by rw [upv_ne (by omega)]
      rw [h1, e0]
      unfold ext
      exact Int.le_trans (sm_sub (f := fun i => ((A (if c < t then c else k) i).natAbs : Int)) (fun i => nn _ i) (by omega) hj) (hA _ (by split <;> omega))
/-! ### a row of parts made whole -/
def dens (qs : List Rat) : Int := qs.foldl (fun a q => a * (q.den : Int)) 1
theorem dens_snoc {qs : List Rat} {q : Rat} : dens (qs ++ [q]) = dens qs * q.den := by unfold dens; rw [List.foldl_append]; rfl
theorem dens_pos : ∀ (n : Nat) (qs : List Rat), qs.length = n → 0 < dens qs
  | 0, qs, h => by
    have : qs = [] := List.length_eq_zero_iff.mp h
    subst this; decide
  | n + 1, qs, h => by
    rcases List.eq_nil_or_concat qs with e | ⟨l, a, e⟩
    · subst e; simp at h
    · rw [List.concat_eq_append] at e
      subst e
      rw [dens_snoc]
      exact Int.mul_pos (dens_pos n l (by simpa using h)) (den_pos a)
theorem dens_size {b : Nat} : ∀ (n : Nat) (qs : List Rat), qs.length = n → (∀ q ∈ qs, SzR b q) → Sz (b * n + 1) (dens qs)
  | 0, qs, h, _ => by
    have : qs = [] := List.length_eq_zero_iff.mp h
    subst this
    unfold Sz
    rw [Nat.mul_zero]
    decide
  | n + 1, qs, h, hq => by
    rcases List.eq_nil_or_concat qs with e | ⟨l, a, e⟩
    · subst e; simp at h
    · rw [List.concat_eq_append] at e
      subst e
      rw [dens_snoc]
      refine (Sz.mul (dens_size n l (by simpa using h) fun q hq' => hq q (by simp [hq'])) (hq a (by simp)).2).mono ?_
      rw [Nat.mul_succ]
      omega
theorem dens_one {qs : List Rat} (h : ∀ q ∈ qs, q.den = 1) : dens qs = 1 := by
  unfold dens
  have : ∀ a : Int, qs.foldl (fun a q => a * (q.den : Int)) a = a := by
    induction qs with
    | nil => intro a; rfl
    | cons q qs ih =>
      intro a
      rw [List.foldl_cons, h q (by simp)]
      rw [ih (fun q hq => h q (by simp [hq]))]
      omega
  exact this 1
/-- a row of whole numbers in the proportion of a row of parts -/
def Whole (qs : List Rat) (v : List Int) : Prop := v.length = qs.length ∧ ∃ m : Int, 0 < m ∧ m ≤ dens qs ∧ ∀ (i : Nat) (q : Rat), qs[i]? = some q → gI v i * q.den = q.num * m
theorem Whole.rat {qs : List Rat} {v : List Int} (h : Whole qs v) : ∃ m : Int, 0 < m ∧ ∀ (i : Nat) (q : Rat), qs[i]? = some q → ((gI v i : Int) : Rat) = q * m := by
  obtain ⟨_, m, h0, _, h2⟩ := h
  refine ⟨m, h0, fun i q e => ?_⟩
  have h3 := h2 i q e
  have h4 : ((gI v i : Int) : Rat) * (q.den : Rat) = (q.num : Rat) * (m : Rat) := by exact_mod_cast congrArg (Int.cast (R := Rat)) h3
  have h6 : (q.den : Rat) ≠ 0 := by exact_mod_cast q.den_nz
  have h5 : (q.num : Rat) = q * (q.den : Rat) := by
    have e := Rat.num_divInt_den q
    rw [Rat.divInt_eq_div] at e
    have : (((q.den : Nat) : Int) : Rat) = (q.den : Rat) := by exact_mod_cast rfl
    rw [this] at e
    grind
  rw [h5] at h4
  grind
end Ab

namespace Ab
open PySem PySem.Spec PyProof.Rows L2
noncomputable def vTryO : (List Str) → (Str → Bool) → (WS) → (WS) → (WS) := sld wTryO
theorem vTryO_s : vTryO = wTryO := sld_eq _
theorem vTryO_q (rl : List Str) (cat : Str → Bool) (w : WS) (ws : WS) (D : _) (s : _) (S : _) : vTryO rl cat w ws D s S = ( w { nx := D.nx, rt := D.rt, xc := fun c s1 S1 => rl.contains c = true ∧ if cat c = true then ws { nx := D.nx, rt := D.rt, xc := fun _ _ _ => False } s1 S1 else D.xc c s1 S1 } s S) := by rw [vTryO_s]; rfl
end Ab

namespace Ab
open PySem L2
theorem matR_len {m : List (List Rat)} : (matR m).length = m.length := by unfold matR; simp
theorem at_matR2 {m : List (List Rat)} {k : Nat} {r : List Rat} (h : m[k]? = some r) : L2.atI (matR m) (k : Int) = some (.lst (ratL r)) := L2.atI_nat (by unfold matR; rw [List.getElem?_map, h]; rfl)
theorem matL_set {m : List (List Int)} {n : Nat} {v : List Int} : (matL m).set n (.lst (vI v)) = matL (m.set n v) := by unfold matL; rw [List.map_set]
/-- each row made whole -/
def Wholes (rows : List (List Rat)) (right : List Rat) (A : List (List Int)) : Prop := A.length = rows.length ∧ ∀ (i : Nat) (r : List Rat) (q : Rat) (v : List Int), rows[i]? = some r → right[i]? = some q → A[i]? = some v → Whole (r ++ [q]) v
theorem ent_mem {M : List (List Int)} {k j n w : Nat} (lm : M.length = n) (rm : ∀ r ∈ M, r.length = w) (hk : k < n) (hj : j < w) {P : Int → Prop} (h : P (ent M k j)) : P (gI (M.getD k []) (j : Int)) := h
theorem all_ent {M : List (List Int)} {n w : Nat} (lm : M.length = n) (rm : ∀ r ∈ M, r.length = w) {P : Int → Prop} (h : ∀ k j, k < n → j < w → P (ent M k j)) : ∀ r ∈ M, ∀ z ∈ r, P z := fun r hr z hz => by
  obtain ⟨k, hk, rfl⟩ := List.mem_iff_getElem.mp hr
  obtain ⟨j, hj, rfl⟩ := List.mem_iff_getElem.mp hz
  have := h k j (by omega) (by rw [← rm _ hr]; exact hj)
  unfold ent at this
  rw [List.getD_eq_getElem?_getD, List.getElem?_eq_getElem hk] at this
  have e : gI (M[k]) (j : Int) = M[k][j] := gI_nat hj
  have this : P (gI (M[k]) (j : Int)) := this
  rwa [e] at this
theorem matR_plain (m : List (List Rat)) : plainAll (matR m) = true := plainAll_iff.mpr fun x hx => by
  unfold matR at hx
  obtain ⟨z, _, rfl⟩ := List.mem_map.mp hx
  exact lst_plain (ratL_plain z)
theorem matR_pure (m : List (List Rat)) : pureAll (matR m) = true := plainAll_pure _ (matR_plain m)
theorem matR_ok (m : List (List Rat)) : okEq 9 (.lst (matR m)) = true := by
  unfold okEq
  rw [List.all_eq_true]
  intro x hx
  unfold matR at hx
  obtain ⟨z, _, rfl⟩ := List.mem_map.mp hx
  exact ratL_ok (n := 5) z
theorem matR_snoc {m : List (List Rat)} {v : List Rat} : matR m ++ [.lst (ratL v)] = matR (m ++ [v]) := by unfold matR; simp
theorem matR_set {m : List (List Rat)} {n : Nat} {v : List Rat} : (matR m).set n (.lst (ratL v)) = matR (m.set n v) := by unfold matR; rw [List.map_set]
theorem ratL_set {m : List Rat} {n : Nat} {v : Rat} : (ratL m).set n (pR v) = ratL (m.set n v) := by unfold ratL; rw [List.map_set]
/-! ### sums of parts over the first numbers -/
def smR : Nat → (Nat → Rat) → Rat
  | 0, _ => 0
  | n + 1, f => smR n f + f n
theorem smR_congr : ∀ {n : Nat} {f g : Nat → Rat}, (∀ i, i < n → f i = g i) → smR n f = smR n g
  | 0, _, _, _ => rfl
  | n + 1, f, g, h => by
    unfold smR
    rw [smR_congr (n := n) (f := f) (g := g) fun i hi => h i (by omega), h n (by omega)]
theorem smR_cast : ∀ (n : Nat) (f : Nat → Int), ((sm n f : Int) : Rat) = smR n fun i => (f i : Rat)
  | 0, _ => rfl
  | n + 1, f => by
    unfold smR sm
    rw [Rat.intCast_add, smR_cast n f]
theorem smR_mul : ∀ (n : Nat) (x : Rat) (f : Nat → Rat), smR n (fun i => x * f i) = x * smR n f
  | 0, _, _ => by unfold smR; grind
  | n + 1, x, f => by unfold smR; rw [smR_mul n x f]; grind
theorem divInt_rat (a b : Int) : Rat.divInt a b = (a : Rat) / (b : Rat) := Rat.divInt_eq_div a b
theorem dcast_ne {d : Int} (h : d ≠ 0) : (d : Rat) ≠ 0 := by exact_mod_cast h
/-- the answer meets each row -/
theorem solved_meets {rows : List (List Rat)} {right : List Rat} {A0 A M : List (List Int)} {d : Int} {n i : Nat} {r : List Rat} {q : Rat} (W : Wholes rows right A0) (E : ElimL n (n + 1) n A0 A M d) (hr : rows[i]? = some r) (hq : right[i]? = some q) (hl : r.length = n) (la : A0.length = n) :
    smR n (fun k => gR r k * Rat.divInt (ent M k n) d) = q := by
  have hi : i < n := by
    have := (List.getElem?_eq_some_iff.mp hr).1
    have := W.1
    omega
  have ea : A0[i]? = some A0[i] := List.getElem?_eq_getElem (by omega)
  have hW := W.2 i r q _ hr hq ea
  obtain ⟨m, m0, hm⟩ := hW.rat
  obtain ⟨j, hj, ej⟩ := List.mem_iff_getElem.mp (E.ar _ (List.mem_of_getElem? ea))
  have hjn : j < n := by have := E.la; omega
  have hA : ∀ c : Nat, ent A j c = gI A0[i] (c : Int) := fun c => by
    unfold ent
    rw [List.getD_eq_getElem?_getD, List.getElem?_eq_getElem hj, ej]
    rfl
  have h1 := E.e.ans hjn (j := n) (by omega)
  have h2 := congrArg (Int.cast (R := Rat)) h1
  rw [smR_cast, Rat.intCast_mul] at h2
  have hd := dcast_ne E.e.hd
  have hmr : (m : Rat) ≠ 0 := dcast_ne (by omega)
  have e1 : ((ent A j n : Int) : Rat) = q * m := by
    rw [hA n]
    have := hm n q (by rw [List.getElem?_append_right (by omega), hl, Nat.sub_self]; rfl)
    exact this
  have e2 : smR n (fun i => ((ent M i n * ent A j i : Int) : Rat)) = (d * m) * smR n (fun k => gR r k * Rat.divInt (ent M k n) d) := by
    rw [← smR_mul]
    refine smR_congr fun k hk => ?_
    rw [Rat.intCast_mul, hA k]
    have := hm k r[k] (by rw [List.getElem?_append_left (by omega)]; exact List.getElem?_eq_getElem (by omega))
    rw [this, gR_nat (by omega), divInt_rat]
    grind
  rw [e2, e1] at h2
  have : (d * m : Rat) * smR n (fun k => gR r k * Rat.divInt (ent M k n) d) = (d * m : Rat) * q := by rw [h2]; grind
  have hdm : (d * m : Rat) ≠ 0 := by
    intro z
    rcases Rat.mul_eq_zero.mp z with z | z
    · exact hd z
    · exact hmr z
  generalize smR n (fun k => gR r k * Rat.divInt (ent M k n) d) = x at this
  generalize (d * m : Rat) = y at this hdm
  grind
end Ab

namespace Ab.Cl
open PySem L2
/-! ### sums -/
section
variable {α : Type}
theorem sum_add {f g : α → Rat} : ∀ {xs : List α}, (xs.map fun x => f x + g x).sum = (xs.map f).sum + (xs.map g).sum
  | [] => by simp only [List.map_nil, List.sum_nil]; grind
  | x :: xs => by
    rw [List.map_cons, List.map_cons, List.map_cons, List.sum_cons, List.sum_cons, List.sum_cons, sum_add]
    grind
theorem sum_mul {c : Rat} {f : α → Rat} : ∀ {xs : List α}, (xs.map fun x => c * f x).sum = c * (xs.map f).sum
  | [] => by simp only [List.map_nil, List.sum_nil]; grind
  | x :: xs => by
    rw [List.map_cons, List.map_cons, List.sum_cons, List.sum_cons, sum_mul]
    grind
theorem sum_null {f : α → Rat} : ∀ {xs : List α}, (∀ x ∈ xs, f x = 0) → (xs.map f).sum = 0
  | [], _ => rfl
  | x :: xs, h => by
    rw [List.map_cons, List.sum_cons, h x (by simp), sum_null fun y hy => h y (by simp [hy])]
    grind
theorem sum_memle {f : α → Rat} : ∀ {xs : List α} {x : α}, (∀ y ∈ xs, 0 ≤ f y) → x ∈ xs → f x ≤ (xs.map f).sum
  | y :: xs, x, h, hx => by
    rw [List.map_cons, List.sum_cons]
    have h0 := h y (by simp)
    have h1 := sum_nn (xs := xs) (f := f) fun z hz => h z (by simp [hz])
    rcases List.mem_cons.mp hx with e | e
    · subst e; grind
    · have := sum_memle (xs := xs) (f := f) (fun z hz => h z (by simp [hz])) e
      grind
theorem sum_zero_all {f : α → Rat} {xs : List α} (h : ∀ y ∈ xs, 0 ≤ f y) (hz : (xs.map f).sum ≤ 0) : ∀ x ∈ xs, f x = 0 := fun x hx => by
  have := sum_memle h hx
  have := h x hx
  grind
theorem sum_filter {p : α → Bool} {f : α → Rat} : ∀ {xs : List α}, ((xs.filter p).map f).sum = (xs.map fun x => if p x = true then f x else 0).sum
  | [] => rfl
  | x :: xs => by
    rw [List.filter_cons, List.map_cons, List.sum_cons]
    split
    · rw [List.map_cons, List.sum_cons, sum_filter]
    · rw [sum_filter]; grind
/-- over keys -/
theorem sumL_key {key : α → Int} {f : α → Rat} {xs : List α} : ∀ {L : List Int}, L.Nodup → (L.map fun p => (xs.map fun x => if key x = p then f x else 0).sum).sum = (xs.map fun x => if key x ∈ L then f x else 0).sum
  | [], _ => by
    rw [List.map_nil, sum_null (xs := xs) fun x _ => if_neg (by simp)]
    rfl
  | p :: L, h => by
    obtain ⟨h1, h2⟩ := List.nodup_cons.mp h
    rw [List.map_cons, List.sum_cons, sumL_key h2, ← sum_add]
    refine sum_congr fun x hx => ?_
    by_cases c : key x = p
    · rw [if_pos c, if_neg (by rw [c]; exact h1), if_pos (by rw [c]; simp)]
      grind
    · rw [if_neg c]
      by_cases c2 : key x ∈ L
      · rw [if_pos c2, if_pos (by simp [c2])]; grind
      · rw [if_neg c2, if_neg (by simp [c, c2])]; grind
end
/-! ### dues as flows -/
def inF (sm : List Dd) (w : Int → Rat) (p : Int) : Rat := (sm.map fun x => if x.b = p then (x.c : Rat) * w x.a else 0).sum
def outF (sm : List Dd) (p : Int) : Rat := (sm.map fun x => if x.a = p then (x.c : Rat) else 0).sum
theorem c_pos {x : Dd} (h : 0 < x.c) : (0 : Rat) < (x.c : Rat) := by exact_mod_cast h
theorem inF_nonneg {sm : List Dd} {w : Int → Rat} (hc : ∀ x ∈ sm, 0 < x.c) (w0 : ∀ p, 0 ≤ w p) {p : Int} : 0 ≤ inF sm w p := sum_nn fun x hx => by
  split
  · exact Rat.mul_nonneg (Rat.le_of_lt (c_pos (hc x hx))) (w0 _)
  · exact Rat.le_refl
theorem flow {sm : List Dd} {L : List Int} {w : Int → Rat} (hL : L.Nodup) (hc : ∀ x ∈ sm, 0 < x.c) (w0 : ∀ p, 0 ≤ w p) (wz : ∀ p, p ∉ L → w p = 0) (hle : ∀ p ∈ L, outF sm p * w p ≤ inF sm w p) : ∀ x ∈ sm, 0 < w x.a → 0 < w x.b := by
  have t0 : ∀ x ∈ sm, 0 ≤ (x.c : Rat) * w x.a := fun x hx => Rat.mul_nonneg (Rat.le_of_lt (c_pos (hc x hx))) (w0 _)
  have e1 : (L.map fun p => outF sm p * w p).sum = (sm.map fun x => (x.c : Rat) * w x.a).sum := by
    have : (L.map fun p => outF sm p * w p) = L.map fun p => (sm.map fun x => if x.a = p then (x.c : Rat) * w x.a else 0).sum := by
      refine List.map_congr_left fun p hp => ?_
      unfold outF
      rw [Rat.mul_comm, ← sum_mul]
      refine sum_congr fun x hx => ?_
      split
      · rename_i e; rw [e]; grind
      · grind
    rw [this, sumL_key hL]
    refine sum_congr fun x hx => ?_
    split
    · rfl
    · rename_i e; rw [wz _ e]; grind
  have e2 : (L.map fun p => inF sm w p).sum = (sm.map fun x => if x.b ∈ L then (x.c : Rat) * w x.a else 0).sum := sumL_key hL
  have e3 : (sm.map fun x => (x.c : Rat) * w x.a).sum = (sm.map fun x => if x.b ∈ L then (x.c : Rat) * w x.a else 0).sum + (sm.map fun x => if x.b ∈ L then 0 else (x.c : Rat) * w x.a).sum := by
    rw [← sum_add]
    refine sum_congr fun x hx => ?_
    split <;> grind
  have n3 : 0 ≤ (sm.map fun x => if x.b ∈ L then 0 else (x.c : Rat) * w x.a).sum := sum_nn fun x hx => by
    split
    · exact Rat.le_refl
    · exact t0 x hx
  have d0 : ∀ p ∈ L, 0 ≤ inF sm w p - outF sm p * w p := fun p hp => by
    have := hle p hp
    grind
  have e4 : (L.map fun p => inF sm w p).sum = (L.map fun p => inF sm w p - outF sm p * w p).sum + (L.map fun p => outF sm p * w p).sum := by
    rw [← sum_add]
    refine sum_congr fun p hp => ?_
    grind
  have n4 := sum_nn d0
  have z4 := sum_zero_all d0 (by grind)
  have z3 := sum_zero_all (xs := sm) (f := fun x => if x.b ∈ L then 0 else (x.c : Rat) * w x.a) (fun x hx => by
    split
    · exact Rat.le_refl
    · exact t0 x hx) (by grind)
  intro x hx hw
  have cp := Rat.mul_pos (c_pos (hc x hx)) hw
  have hb : x.b ∈ L := Classical.byContradiction fun hn => by
    have := z3 x hx
    rw [if_neg hn] at this
    grind
  refine Classical.byContradiction fun hn => ?_
  have wb : w x.b = 0 := by
    have := w0 x.b
    grind
  have h1 := z4 x.b hb
  rw [wb] at h1
  have h2 : (if x.b = x.b then (x.c : Rat) * w x.a else 0) ≤ inF sm w x.b := sum_memle (xs := sm) (f := fun y => if y.b = x.b then (y.c : Rat) * w y.a else 0) (fun y hy => by
    split
    · exact t0 y hy
    · exact Rat.le_refl) hx
  rw [if_pos rfl] at h2
  grind
/-- no coin comes from nothing: a flow that lays out what it gets and is fed is nowhere below nothing, but on a closed set -/
theorem flow_neg {sm : List Dd} {L : List Int} {v fed : Int → Rat} (hL : L.Nodup) (hc : ∀ x ∈ sm, 0 < x.c) (vz : ∀ p, p ∉ L → v p = 0) (hf : ∀ p ∈ L, 0 ≤ fed p) (he : ∀ p ∈ L, outF sm p * v p = inF sm v p + fed p) : ∀ x ∈ sm, v x.a < 0 → v x.b < 0 := by
  let w : Int → Rat := fun p => if v p < 0 then - v p else 0
  have w0 : ∀ p, 0 ≤ w p := fun p => by
    show 0 ≤ if v p < 0 then - v p else 0
    split <;> grind
  have wl : ∀ p, - v p ≤ w p := fun p => by
    show - v p ≤ if v p < 0 then - v p else 0
    split <;> grind
  have key := flow (w := w) hL hc w0 (fun p hp => by
    show (if v p < 0 then - v p else 0) = 0
    rw [vz p hp, if_neg (by grind)]) (fun p hp => by
    by_cases c : v p < 0
    · have e1 : w p = - v p := if_pos c
      have e2 := he p hp
      have e3 := hf p hp
      have e4 : - inF sm v p ≤ inF sm w p := by
        have : - inF sm v p = (sm.map fun x => if x.b = p then (x.c : Rat) * (- v x.a) else 0).sum := by
          have h := sum_mul (c := -1) (f := fun x : Dd => if x.b = p then (x.c : Rat) * v x.a else 0) (xs := sm)
          have : -inF sm v p = -1 * inF sm v p := by grind
          rw [this]
          unfold inF
          rw [← h]
          refine sum_congr fun x hx => ?_
          split <;> grind
        rw [this]
        refine sum_mono fun x hx => ?_
        split
        · exact Rat.mul_le_mul_of_nonneg_left (wl _) (Rat.le_of_lt (c_pos (hc x hx)))
        · exact Rat.le_refl
      rw [e1]
      grind
    · have e1 : w p = 0 := if_neg c
      rw [e1]
      have := inF_nonneg (p := p) hc w0
      grind)
  intro x hx h
  have e1 : w x.a = - v x.a := if_pos h
  have h2 := key x hx (by rw [e1]; grind)
  refine Classical.byContradiction fun hn => ?_
  have : w x.b = 0 := if_neg hn
  grind
/-- .. and such a flow that is fed nothing is nothing, but on a closed set -/
theorem flow_ker {sm : List Dd} {L : List Int} {v : Int → Rat} (hL : L.Nodup) (hc : ∀ x ∈ sm, 0 < x.c) (vz : ∀ p, p ∉ L → v p = 0) (he : ∀ p ∈ L, outF sm p * v p = inF sm v p) : ∀ x ∈ sm, v x.a ≠ 0 → v x.b ≠ 0 := by
  let w : Int → Rat := fun p => if v p < 0 then - v p else v p
  have w0 : ∀ p, 0 ≤ w p := fun p => by
    show 0 ≤ if v p < 0 then - v p else v p
    split <;> grind
  have wl : ∀ p, - v p ≤ w p ∧ v p ≤ w p := fun p => by
    show - v p ≤ (if v p < 0 then - v p else v p) ∧ v p ≤ if v p < 0 then - v p else v p
    split <;> grind
  have wi : ∀ p, w p = 0 ↔ v p = 0 := fun p => by
    show (if v p < 0 then - v p else v p) = 0 ↔ _
    split <;> grind
  have key := flow (w := w) hL hc w0 (fun p hp => (wi p).mpr (vz p hp)) (fun p hp => by
    have e2 := he p hp
    have u1 : inF sm v p ≤ inF sm w p := sum_mono fun x hx => by
      split
      · exact Rat.mul_le_mul_of_nonneg_left (wl _).2 (Rat.le_of_lt (c_pos (hc x hx)))
      · exact Rat.le_refl
    have u2 : - inF sm v p ≤ inF sm w p := by
      have : - inF sm v p = (sm.map fun x => if x.b = p then (x.c : Rat) * (- v x.a) else 0).sum := by
        have h := sum_mul (c := -1) (f := fun x : Dd => if x.b = p then (x.c : Rat) * v x.a else 0) (xs := sm)
        have : -inF sm v p = -1 * inF sm v p := by grind
        rw [this]
        unfold inF
        rw [← h]
        refine sum_congr fun x hx => ?_
        split <;> grind
      rw [this]
      refine sum_mono fun x hx => ?_
      split
      · exact Rat.mul_le_mul_of_nonneg_left (wl _).1 (Rat.le_of_lt (c_pos (hc x hx)))
      · exact Rat.le_refl
    have : w p = v p ∨ w p = - v p := by
      show (if v p < 0 then - v p else v p) = _ ∨ (if v p < 0 then - v p else v p) = _
      split
      · exact .inr rfl
      · exact .inl rfl
    rcases this with e | e <;> rw [e] <;> grind)
  intro x hx h
  have h1 : 0 < w x.a := by
    have := w0 x.a
    have : w x.a ≠ 0 := fun z => h ((wi x.a).mp z)
    grind
  have h2 := key x hx h1
  intro z
  have := (wi x.b).mpr z
  grind
end Ab.Cl

namespace Ab.Cl
open PySem L2
theorem rlt_le {a b c : Rat} (h : a < b) (h2 : b ≤ c) : a < c := by grind
theorem rle_lt {a b c : Rat} (h : a ≤ b) (h2 : b < c) : a < c := by grind
/-! ### where a member stands, and how its lay grows -/
def stQ (qs : List Rat) (sh : List Dd) (j : Int) : Option Int := stop3 (gR qs j) (rkRow sh j)
def someD (qs : List Rat) (sh : List Dd) : List Dd := sh.filter fun x => decide (0 < x.c) && decide (stQ qs sh x.a = some x.r)
def hdI (qs : List Rat) (sh : List Dd) (j : Int) : Int := match stQ qs sh j with
  | none => 0
  | some r => rkI sh j r
def tpI (qs : List Rat) (sh : List Dd) (j : Int) : Int := match stQ qs sh j with
  | none => 0
  | some r => ahI sh j r + rkI sh j r
theorem ahI_0 {sh : List Dd} {j : Int} : ahI sh j 0 = 0 := rfl
theorem ahI_1 {sh : List Dd} {j : Int} : ahI sh j 1 = rkI sh j 0 := by show rkI sh j 0 + 0 = _; omega
theorem ahI_2 {sh : List Dd} {j : Int} : ahI sh j 2 = rkI sh j 0 + rkI sh j 1 := by show rkI sh j 0 + (rkI sh j 1 + 0) = _; omega
theorem stop_cases (q : Rat) (a b c : Int) : (stop3 q [a, b, c] = some 0 ∧ q < (a : Rat)) ∨ (stop3 q [a, b, c] = some 1 ∧ (a : Rat) ≤ q ∧ q < ((a + b : Int) : Rat)) ∨ (stop3 q [a, b, c] = some 2 ∧ (a : Rat) ≤ q ∧ ((a + b : Int) : Rat) ≤ q ∧ q < ((a + b + c : Int) : Rat)) ∨
    (stop3 q [a, b, c] = none ∧ (a : Rat) ≤ q ∧ ((a + b : Int) : Rat) ≤ q ∧ ((a + b + c : Int) : Rat) ≤ q) := by
  unfold stop3
  simp only [stopF, Int.zero_add]
  by_cases c1 : q < (a : Rat)
  · rw [if_pos c1]; exact .inl ⟨rfl, c1⟩
  rw [if_neg c1]
  by_cases c2 : q < ((a + b : Int) : Rat)
  · rw [if_pos c2]; exact .inr (.inl ⟨rfl, Rat.not_lt.mp c1, c2⟩)
  rw [if_neg c2]
  by_cases c3 : q < ((a + b + c : Int) : Rat)
  · rw [if_pos c3]; exact .inr (.inr (.inl ⟨rfl, Rat.not_lt.mp c1, Rat.not_lt.mp c2, c3⟩))
  rw [if_neg c3]
  exact .inr (.inr (.inr ⟨rfl, Rat.not_lt.mp c1, Rat.not_lt.mp c2, Rat.not_lt.mp c3⟩))
section
variable {m : Int} {sh : List Dd} {qs ps : List Rat} {j r : Int}
theorem st_some (hq : 0 ≤ gR qs j) (h : stQ qs sh j = some r) : 0 ≤ r ∧ r < 3 ∧ ((ahI sh j r : Int) : Rat) ≤ gR qs j ∧ gR qs j < ((ahI sh j r + rkI sh j r : Int) : Rat) := by
  unfold stQ rkRow at h
  rcases stop_cases (gR qs j) (rkI sh j 0) (rkI sh j 1) (rkI sh j 2) with ⟨e, h1⟩ | ⟨e, h1, h2⟩ | ⟨e, h1, h2, h3⟩ | ⟨e, h1, h2, h3⟩
  · rw [e] at h
    cases h
    rw [ahI_0]
    exact ⟨by decide, by decide, hq, by rw [Int.zero_add]; exact h1⟩
  · rw [e] at h
    cases h
    rw [ahI_1]
    exact ⟨by decide, by decide, h1, h2⟩
  · rw [e] at h
    cases h
    rw [ahI_2]
    exact ⟨by decide, by decide, h2, h3⟩
  · rw [e] at h
    cases h
theorem st_none (h : stQ qs sh j = none) : ((rkT sh j : Int) : Rat) ≤ gR qs j := by
  unfold stQ rkRow at h
  rcases stop_cases (gR qs j) (rkI sh j 0) (rkI sh j 1) (rkI sh j 2) with ⟨e, h1⟩ | ⟨e, h1, h2⟩ | ⟨e, h1, h2, h3⟩ | ⟨e, h1, h2, h3⟩ <;> rw [e] at h
  · cases h
  · cases h
  · cases h
  · exact h3
theorem st_lt (hs : ∀ x ∈ sh, x.Ok m) (h : gR qs j < ((rkT sh j : Int) : Rat)) : ∃ r, stQ qs sh j = some r := by
  cases e : stQ qs sh j with
  | some r => exact ⟨r, rfl⟩
  | none =>
    have := st_none e
    exact absurd (rlt_le h this) (Rat.lt_irrefl)
theorem rk_nn (hs : ∀ x ∈ sh, x.Ok m) : 0 ≤ rkI sh j 0 ∧ 0 ≤ rkI sh j 1 ∧ 0 ≤ rkI sh j 2 := ⟨rkI_nonneg hs, rkI_nonneg hs, rkI_nonneg hs⟩
theorem three (h0 : 0 ≤ r) (h1 : r < 3) : r = 0 ∨ r = 1 ∨ r = 2 := by omega
theorem ah_nn (hs : ∀ x ∈ sh, x.Ok m) (h0 : 0 ≤ r) (h1 : r < 3) : 0 ≤ ahI sh j r ∧ 0 ≤ rkI sh j r ∧ ahI sh j r + rkI sh j r ≤ rkT sh j := by
  obtain ⟨a, b, c⟩ := rk_nn hs (j := j)
  unfold rkT
  rcases three h0 h1 with rfl | rfl | rfl
  · rw [ahI_0]; omega
  · rw [ahI_1]; omega
  · rw [ahI_2]; omega
theorem ah_mono {r' : Int} (hs : ∀ x ∈ sh, x.Ok m) (h0 : 0 ≤ r) (h2 : r < r') (h1 : r' < 3) : ahI sh j r + rkI sh j r ≤ ahI sh j r' := by
  obtain ⟨a, b, c⟩ := rk_nn hs (j := j)
  rcases three h0 (by omega) with rfl | rfl | rfl
  · rcases three (r := r') (by omega) h1 with e | e | e
    · omega
    · rw [e, ahI_0, ahI_1]; omega
    · rw [e, ahI_0, ahI_2]; omega
  · have : r' = 2 := by omega
    rw [this, ahI_1, ahI_2]; omega
  · omega
theorem st_short (hs : ∀ x ∈ sh, x.Ok m) (hq : 0 ≤ gR qs j) (h : stQ qs sh j = some r) : gR qs j < ((rkT sh j : Int) : Rat) ∧ 0 < rkI sh j r := by
  obtain ⟨r0, r1, h1, h2⟩ := st_some hq h
  obtain ⟨a0, k0, t0⟩ := ah_nn hs r0 r1 (j := j)
  refine ⟨rlt_le h2 (by exact_mod_cast t0), ?_⟩
  have h3 : ((ahI sh j r : Int) : Rat) < ((ahI sh j r + rkI sh j r : Int) : Rat) := rle_lt h1 h2
  have : ahI sh j r < ahI sh j r + rkI sh j r := by exact_mod_cast h3
  omega
theorem hd_some (h : stQ qs sh j = some r) : hdI qs sh j = rkI sh j r := by unfold hdI; rw [h]
theorem tp_some (h : stQ qs sh j = some r) : tpI qs sh j = ahI sh j r + rkI sh j r := by unfold tpI; rw [h]
theorem hd_none (h : stQ qs sh j = none) : hdI qs sh j = 0 := by unfold hdI; rw [h]
/-- what a due is paid more where its payer's lay grows to its rank's end at most -/
theorem pay_grow {qs' : List Rat} {x : Dd} {w : Rat} (hs : ∀ x ∈ sh, x.Ok m) (hx : x ∈ sh) (hq : 0 ≤ gR qs x.a) (h : stQ qs sh x.a = some r) (hw : 0 ≤ w) (e : gR qs' x.a = gR qs x.a + (rkI sh x.a r : Rat) * w) (ht : gR qs' x.a ≤ ((ahI sh x.a r + rkI sh x.a r : Int) : Rat)) :
    payR qs' sh x = payR qs sh x + if x.r = r then (x.c : Rat) * w else 0 := by
  obtain ⟨r0, r1, h1, h2⟩ := st_some hq h
  have hk := (st_short hs hq h).2
  have hkr : (0 : Rat) < (rkI sh x.a r : Rat) := by exact_mod_cast hk
  have hq' : gR qs x.a ≤ gR qs' x.a := by
    rw [e]
    have := Rat.mul_nonneg (Rat.le_of_lt hkr) hw
    grind
  have hx1 := hs x hx
  unfold Dd.Ok at hx1
  by_cases c : x.r = r
  · subst c
    rw [if_pos rfl, payR_clamp hs hx (Rat.le_trans hq hq') (by omega), payR_clamp hs hx hq (by omega)]
    have c1 : clampR (gR qs x.a) (ahI sh x.a x.r : Int) (rkI sh x.a x.r : Int) = gR qs x.a - (ahI sh x.a x.r : Int) := by
      rw [Rat.intCast_add] at h2
      unfold clampR
      grind
    have c2 : clampR (gR qs' x.a) (ahI sh x.a x.r : Int) (rkI sh x.a x.r : Int) = gR qs' x.a - (ahI sh x.a x.r : Int) := by
      rw [Rat.intCast_add] at ht
      unfold clampR
      grind
    rw [c1, c2, e]
    grind
  · rw [if_neg c]
    have : payR qs' sh x = payR qs sh x := by
      by_cases z : rkI sh x.a x.r = 0
      · rw [payR_nil z, payR_nil z]
      rw [payR_clamp hs hx (Rat.le_trans hq hq') z, payR_clamp hs hx hq z]
      have n1 := ah_nn hs (j := x.a) (r := x.r) hx1.2.2.2.2.2.1 hx1.2.2.2.2.2.2.1
      have n2 : (0 : Rat) ≤ (rkI sh x.a x.r : Rat) := by exact_mod_cast n1.2.1
      rcases Int.lt_or_gt_of_ne c with c' | c'
      · have h3 : ((ahI sh x.a x.r + rkI sh x.a x.r : Int) : Rat) ≤ (ahI sh x.a r : Rat) := by exact_mod_cast ah_mono hs hx1.2.2.2.2.2.1 c' r1
        rw [Rat.intCast_add] at h3
        have c1 : clampR (gR qs x.a) (ahI sh x.a x.r : Int) (rkI sh x.a x.r : Int) = (rkI sh x.a x.r : Rat) := by unfold clampR; grind
        have c2 : clampR (gR qs' x.a) (ahI sh x.a x.r : Int) (rkI sh x.a x.r : Int) = (rkI sh x.a x.r : Rat) := by unfold clampR; grind
        rw [c1, c2]
      · have h3 : ((ahI sh x.a r + rkI sh x.a r : Int) : Rat) ≤ (ahI sh x.a x.r : Rat) := by exact_mod_cast ah_mono hs r0 c' hx1.2.2.2.2.2.2.1
        have c1 : clampR (gR qs x.a) (ahI sh x.a x.r : Int) (rkI sh x.a x.r : Int) = 0 := by unfold clampR; grind
        have c2 : clampR (gR qs' x.a) (ahI sh x.a x.r : Int) (rkI sh x.a x.r : Int) = 0 := by unfold clampR; grind
        rw [c1, c2]
    rw [this]
    grind
/-- .. and what is got more -/
theorem got_grow {qs' : List Rat} {w : Int → Rat} (hs : ∀ x ∈ sh, x.Ok m) (hq : ∀ k : Int, 0 ≤ k → k < m → 0 ≤ gR qs k) (hw : ∀ k, 0 ≤ w k) (hn : ∀ k : Int, 0 ≤ k → k < m → stQ qs sh k = none → gR qs' k = gR qs k)
    (hg : ∀ (k r : Int), 0 ≤ k → k < m → stQ qs sh k = some r → gR qs' k = gR qs k + (rkI sh k r : Rat) * w k ∧ gR qs' k ≤ ((ahI sh k r + rkI sh k r : Int) : Rat)) (p : Int) :
    gotP qs' sh sh p = gotP qs sh sh p + inF (someD qs sh) w p := by
  unfold gotP inF someD
  rw [sum_filter, ← sum_add]
  refine sum_congr fun x hx => ?_
  have hx1 := hs x hx
  unfold Dd.Ok at hx1
  by_cases hb : x.b = p
  · rw [if_pos hb, if_pos hb]
    cases e : stQ qs sh x.a with
    | none =>
      rw [payR_congr (hn x.a hx1.1 hx1.2.1 e)]
      simp
      grind
    | some r =>
      obtain ⟨g1, g2⟩ := hg x.a r hx1.1 hx1.2.1 e
      rw [pay_grow hs hx (hq _ hx1.1 hx1.2.1) e (hw _) g1 g2]
      congr 1
      by_cases c : x.r = r
      · subst c
        by_cases c0 : 0 < x.c
        · simp [c0, hb]
        · have : x.c = 0 := by omega
          simp [this]
          try grind
      · have : ¬ (some r = some x.r) := fun z => c (Option.some.inj z).symm
        rw [if_neg c]
        simp [this]
  · rw [if_neg hb, if_neg hb]
    simp
    grind
/-- all dues of a short member where it stands -/
theorem out_head (hs : ∀ x ∈ sh, x.Ok m) (h : stQ qs sh j = some r) : outF (someD qs sh) j = (rkI sh j r : Rat) := by
  unfold outF someD rkI
  rw [sum_filter]
  have : ∀ xs : List Dd, (∀ x ∈ xs, 0 ≤ x.c) → (xs.map fun x => if (decide (0 < x.c) && decide (stQ qs sh x.a = some x.r)) = true then (if x.a = j then (x.c : Rat) else 0) else 0).sum = (((xs.map fun x => if x.a = j ∧ x.r = r then x.c else 0).sum : Int) : Rat) := fun xs => by
    induction xs with
    | nil => intro _; rfl
    | cons x xs ih =>
      intro h0
      rw [List.map_cons, List.map_cons, List.sum_cons, List.sum_cons, ih fun y hy => h0 y (by simp [hy]), Rat.intCast_add]
      congr 1
      have hx0 := h0 x (by simp)
      by_cases ha : x.a = j
      · rw [ha, h]
        by_cases hr : x.r = r
        · by_cases hc : 0 < x.c
          · simp [hr, hc]
          · have : x.c = 0 := by omega
            simp [this]
        · have : ¬ r = x.r := fun z => hr z.symm
          simp [hr, this]
      · simp [ha]
  exact this sh fun x hx => by
    have := hs x hx
    unfold Dd.Ok at this
    omega
theorem some_c : ∀ x ∈ someD qs sh, 0 < x.c ∧ x ∈ sh ∧ stQ qs sh x.a = some x.r := fun x hx => by
  unfold someD at hx
  rw [List.mem_filter, Bool.and_eq_true, decide_eq_true_eq, decide_eq_true_eq] at hx
  exact ⟨hx.2.1, hx.1, hx.2.2⟩
end
end Ab.Cl

namespace Ab.Cl
open PySem L2
/-! ### the lays on their way to a clearing -/
structure ClI (m : Int) (sh : List Dd) (ps : List Int) (qs : List Rat) (σ : Rat) : Prop where
  hl : (qs.length : Int) = m
  s0 : 0 ≤ σ
  s1 : σ ≤ 1
  q0 : ∀ j : Int, 0 ≤ j → j < m → 0 ≤ gR qs j ∧ gR qs j ≤ (rkT sh j : Rat)
  eq : ∀ j r : Int, 0 ≤ j → j < m → stQ qs sh j = some r → gR qs j = (1 - σ) * (gI ps j : Rat) + gotP qs sh sh j
  ge : ∀ j : Int, 0 ≤ j → j < m → stQ qs sh j = none → (rkT sh j : Rat) ≤ (1 - σ) * (gI ps j : Rat) + gotP qs sh sh j
theorem inF_scale {sm : List Dd} {v : Int → Rat} {t : Rat} {p : Int} : inF sm (fun q => v q * t) p = inF sm v p * t := by
  unfold inF
  rw [Rat.mul_comm, ← sum_mul]
  refine sum_congr fun x hx => ?_
  split <;> grind
section
variable {m : Int} {sh : List Dd} {ps : List Int} {qs : List Rat} {σ : Rat}
theorem gR_rep {n : Nat} {j : Int} : gR (List.replicate n 0) j = 0 := by
  unfold gR
  rw [List.getD_eq_getElem?_getD, List.getElem?_replicate]
  split <;> rfl
theorem ClI.init (hs : ∀ x ∈ sh, x.Ok m) (hm : 0 ≤ m) : ClI m sh ps (List.replicate m.toNat 0) 1 := by
  have gz : ∀ j : Int, gotP (List.replicate m.toNat 0) sh sh j = 0 := fun j => by
    unfold gotP
    refine sum_null fun x hx => ?_
    split
    · by_cases z : rkI sh x.a x.r = 0
      · exact payR_nil z
      · have hx1 := hs x hx
        unfold Dd.Ok at hx1
        rw [payR_clamp hs hx (by rw [gR_rep]; exact Rat.le_refl) z, gR_rep]
        obtain ⟨a0, k0, _⟩ := ah_nn hs (j := x.a) (r := x.r) hx1.2.2.2.2.2.1 hx1.2.2.2.2.2.2.1
        have a1 : (0 : Rat) ≤ (ahI sh x.a x.r : Rat) := by exact_mod_cast a0
        have k1 : (0 : Rat) ≤ (rkI sh x.a x.r : Rat) := by exact_mod_cast k0
        have : clampR 0 (ahI sh x.a x.r : Rat) (rkI sh x.a x.r : Rat) = 0 := by unfold clampR; grind
        rw [this]
        grind
    · rfl
  have t0 : ∀ j : Int, (0 : Rat) ≤ (rkT sh j : Rat) := fun j => by exact_mod_cast rkT_nonneg hs
  refine ⟨by rw [List.length_replicate]; omega, by decide, by decide, fun j _ _ => ?_, fun j r _ _ h => ?_, fun j _ _ h => ?_⟩
  · rw [gR_rep]; exact ⟨Rat.le_refl, t0 j⟩
  · rw [gR_rep, gz]; grind
  · have := st_none h
    rw [gR_rep] at this
    rw [gz]
    grind
theorem ClI.nn (I : ClI m sh ps qs σ) : ∀ k : Int, 0 ≤ k → k < m → 0 ≤ gR qs k := fun k h0 h1 => (I.q0 k h0 h1).1
/-- a step: the lays of the short grow by the speeds v, for the time t; the purses are opened by e -/
theorem ClI.step (I : ClI m sh ps qs σ) (hs : ∀ x ∈ sh, x.Ok m) {v : Int → Rat} {t e : Rat} (t0 : 0 ≤ t) (e0 : 0 ≤ e) (e1 : e ≤ σ) (v0 : ∀ j, 0 ≤ v j) (p0 : ∀ j : Int, 0 ≤ gI ps j)
    (bal : ∀ j r : Int, 0 ≤ j → j < m → stQ qs sh j = some r → (rkI sh j r : Rat) * v j * t = (gI ps j : Rat) * e + inF (someD qs sh) v j * t)
    (top : ∀ j r : Int, 0 ≤ j → j < m → stQ qs sh j = some r → gR qs j + (rkI sh j r : Rat) * v j * t ≤ ((ahI sh j r + rkI sh j r : Int) : Rat))
    {qs' : List Rat} (hl' : (qs'.length : Int) = m) (hq' : ∀ j : Int, 0 ≤ j → j < m → gR qs' j = gR qs j + (hdI qs sh j : Rat) * v j * t) :
    ClI m sh ps qs' (σ - e) ∧ ∀ j : Int, 0 ≤ j → j < m → gR qs j ≤ gR qs' j := by
  have hn : ∀ k : Int, 0 ≤ k → k < m → stQ qs sh k = none → gR qs' k = gR qs k := fun k h0 h1 h => by
    rw [hq' k h0 h1, hd_none h]; grind
  have hg : ∀ (k r : Int), 0 ≤ k → k < m → stQ qs sh k = some r → gR qs' k = gR qs k + (rkI sh k r : Rat) * (v k * t) ∧ gR qs' k ≤ ((ahI sh k r + rkI sh k r : Int) : Rat) := fun k r h0 h1 h => by
    have e2 : gR qs' k = gR qs k + (rkI sh k r : Rat) * (v k * t) := by rw [hq' k h0 h1, hd_some h]; grind
    refine ⟨e2, ?_⟩
    have := top k r h0 h1 h
    rw [e2]
    grind
  have w0 : ∀ k, 0 ≤ v k * t := fun k => Rat.mul_nonneg (v0 k) t0
  have gg := got_grow (qs' := qs') (w := fun k => v k * t) hs I.nn w0 hn hg
  have up : ∀ j : Int, 0 ≤ j → j < m → gR qs j ≤ gR qs' j := fun j h0 h1 => by
    cases h : stQ qs sh j with
    | none => rw [hn j h0 h1 h]; exact Rat.le_refl
    | some r =>
      obtain ⟨g1, _⟩ := hg j r h0 h1 h
      have k0 : (0 : Rat) ≤ (rkI sh j r : Rat) := by exact_mod_cast rkI_nonneg hs
      have := Rat.mul_nonneg k0 (w0 j)
      rw [g1]; grind
  have le' : ∀ j : Int, 0 ≤ j → j < m → gR qs' j ≤ (rkT sh j : Rat) := fun j h0 h1 => by
    cases h : stQ qs sh j with
    | none => rw [hn j h0 h1 h]; exact (I.q0 j h0 h1).2
    | some r =>
      obtain ⟨r0, r1, _, _⟩ := st_some (I.nn j h0 h1) h
      have : ((ahI sh j r + rkI sh j r : Int) : Rat) ≤ (rkT sh j : Rat) := by exact_mod_cast (ah_nn hs r0 r1 (j := j)).2.2
      exact Rat.le_trans (hg j r h0 h1 h).2 this
  have inn : ∀ j, 0 ≤ inF (someD qs sh) (fun k => v k * t) j := fun j => inF_nonneg (fun x hx => (some_c x hx).1) w0
  have psr : ∀ j : Int, (0 : Rat) ≤ (gI ps j : Rat) := fun j => by exact_mod_cast p0 j
  have eqS : ∀ j r : Int, 0 ≤ j → j < m → stQ qs sh j = some r → gR qs' j = (1 - (σ - e)) * (gI ps j : Rat) + gotP qs' sh sh j := fun j r h0 h1 h => by
    have b := bal j r h0 h1 h
    have q := I.eq j r h0 h1 h
    rw [(hg j r h0 h1 h).1, gg j, inF_scale, q]
    grind
  refine ⟨⟨hl', by grind, by have := I.s1; grind, fun j h0 h1 => ⟨Rat.le_trans (I.nn j h0 h1) (up j h0 h1), le' j h0 h1⟩, fun j r h0 h1 h => ?_, fun j h0 h1 h => ?_⟩, up⟩
  · cases h2 : stQ qs sh j with
    | none =>
      have := st_none h2
      have h3 := (st_short hs (Rat.le_trans (I.nn j h0 h1) (up j h0 h1)) h).1
      have := Rat.le_trans this (up j h0 h1)
      grind
    | some r2 => exact eqS j r2 h0 h1 h2
  · cases h2 : stQ qs sh j with
    | none =>
      have g := I.ge j h0 h1 h2
      have := inn j
      have := Rat.mul_nonneg e0 (psr j)
      rw [gg j]
      grind
    | some r2 =>
      have h3 := st_none h
      rw [eqS j r2 h0 h1 h2] at h3
      exact h3
/-! ### how many ranks are open -/
def pairs (n : Nat) : List (Int × Int) := (List.range n).flatMap fun (j : Nat) => [((j : Int), 0), ((j : Int), 1), ((j : Int), 2)]
noncomputable def openN (m : Int) (sh : List Dd) (qs : List Rat) : Nat := (pairs m.toNat).countP fun p => decide (0 < rkI sh p.1 p.2) && decide (gR qs p.1 < ((ahI sh p.1 p.2 + rkI sh p.1 p.2 : Int) : Rat))
theorem pairs_nodup : ∀ n, n ≤ 9 → (pairs n).Nodup := by decide +kernel
theorem pairs_mem {n : Nat} {j r : Int} (h0 : 0 ≤ j) (h1 : j < (n : Int)) (r0 : 0 ≤ r) (r1 : r < 3) : (j, r) ∈ pairs n := by
  unfold pairs
  rw [List.mem_flatMap]
  refine ⟨j.toNat, List.mem_range.mpr (by omega), ?_⟩
  have e : ((j.toNat : Nat) : Int) = j := by omega
  rw [e]
  rcases three r0 r1 with rfl | rfl | rfl <;> simp
theorem pairs_in {n : Nat} {p : Int × Int} (h : p ∈ pairs n) : 0 ≤ p.1 ∧ p.1 < (n : Int) ∧ 0 ≤ p.2 ∧ p.2 < 3 := by
  unfold pairs at h
  rw [List.mem_flatMap] at h
  obtain ⟨j, hj, h⟩ := h
  have := List.mem_range.mp hj
  simp at h
  rcases h with rfl | rfl | rfl <;> simp <;> omega
theorem countP_down {α : Type} {P P' : α → Bool} : ∀ {l : List α}, (∀ x ∈ l, P' x = true → P x = true) → l.countP P' ≤ l.countP P
  | [], _ => Nat.le_refl _
  | x :: l, h => by
    rw [List.countP_cons, List.countP_cons]
    have h1 := countP_down (P := P) (P' := P') (l := l) fun y hy => h y (by simp [hy])
    have h2 := h x (by simp)
    by_cases c : P' x = true
    · rw [if_pos c, if_pos (h2 c)]; omega
    · rw [if_neg c]; split <;> omega
theorem countP_lt {α : Type} {P P' : α → Bool} {a : α} : ∀ {l : List α}, (∀ x ∈ l, P' x = true → P x = true) → a ∈ l → P a = true → P' a = false → l.countP P' < l.countP P
  | x :: l, h, ha, h1, h2 => by
    rw [List.countP_cons, List.countP_cons]
    rcases List.mem_cons.mp ha with e | e
    · subst e
      have h3 := countP_down (P := P) (P' := P') (l := l) fun y hy => h y (by simp [hy])
      rw [if_pos h1, if_neg (by rw [h2]; decide)]
      omega
    · have h3 := countP_lt (P := P) (P' := P') (l := l) (fun y hy => h y (by simp [hy])) e h1 h2
      have h4 := h x (by simp)
      by_cases c : P' x = true
      · rw [if_pos c, if_pos (h4 c)]; omega
      · rw [if_neg c]; split <;> omega
theorem openN_lt {qs' : List Rat} {k r : Int} (hs : ∀ x ∈ sh, x.Ok m) (up : ∀ j : Int, 0 ≤ j → j < m → gR qs j ≤ gR qs' j) (k0 : 0 ≤ k) (k1 : k < m) (hq : 0 ≤ gR qs k) (h : stQ qs sh k = some r) (ht : ((ahI sh k r + rkI sh k r : Int) : Rat) ≤ gR qs' k) : openN m sh qs' < openN m sh qs := by
  obtain ⟨r0, r1, h1, h2⟩ := st_some hq h
  have hk := (st_short hs hq h).2
  unfold openN
  refine countP_lt (a := (k, r)) (fun p hp hP => ?_) (pairs_mem k0 (by omega) r0 r1) ?_ ?_
  · rw [Bool.and_eq_true, decide_eq_true_eq, decide_eq_true_eq] at hP ⊢
    have := pairs_in hp
    exact ⟨hP.1, rle_lt (up p.1 this.1 (by omega)) hP.2⟩
  · rw [Bool.and_eq_true, decide_eq_true_eq, decide_eq_true_eq]
    exact ⟨hk, h2⟩
  · rw [Bool.and_eq_false_iff]
    exact .inr (decide_eq_false (by
      show ¬ (gR qs' k < ((ahI sh k r + rkI sh k r : Int) : Rat))
      grind))
theorem nodup_len {α : Type} [BEq α] [LawfulBEq α] : ∀ {l s : List α}, l.Nodup → (∀ x ∈ l, x ∈ s) → l.length ≤ s.length
  | [], _, _, _ => Nat.zero_le _
  | a :: l, s, h, hs => by
    obtain ⟨h1, h2⟩ := List.nodup_cons.mp h
    have ha := hs a (by simp)
    have := nodup_len (l := l) (s := s.erase a) h2 fun x hx => by
      have hne : x ≠ a := fun e => h1 (e ▸ hx)
      exact (List.mem_erase_of_ne hne).mpr (hs x (by simp [hx]))
    rw [List.length_erase_of_mem ha] at this
    have := List.length_pos_of_mem ha
    rw [List.length_cons]
    omega
theorem rkI_pos {j r : Int} (h : 0 < rkI sh j r) : ∃ x ∈ sh, x.a = j ∧ x.r = r := by
  refine Classical.byContradiction fun hn => ?_
  have : rkI sh j r = 0 := by
    unfold rkI
    have : ∀ xs : List Dd, (∀ x ∈ xs, ¬ (x.a = j ∧ x.r = r)) → (xs.map fun x => if x.a = j ∧ x.r = r then x.c else 0).sum = 0 := fun xs => by
      induction xs with
      | nil => intro _; rfl
      | cons x xs ih =>
        intro h
        rw [List.map_cons, List.sum_cons, if_neg (h x (by simp)), ih fun y hy => h y (by simp [hy])]
        rfl
    exact this sh fun x hx h => hn ⟨x, hx, h⟩
  omega
theorem openN_le (hm : m ≤ 9) : openN m sh qs ≤ sh.length ∧ openN m sh qs ≤ 27 := by
  unfold openN
  rw [List.countP_eq_length_filter]
  refine ⟨?_, ?_⟩
  · have := nodup_len (s := sh.map fun x => (x.a, x.r)) ((pairs_nodup m.toNat (by omega)).sublist (List.filter_sublist (p := fun p => decide (0 < rkI sh p.1 p.2) && decide (gR qs p.1 < ((ahI sh p.1 p.2 + rkI sh p.1 p.2 : Int) : Rat))))) fun p hp => by
      obtain ⟨h1, h2⟩ := List.mem_filter.mp hp
      rw [Bool.and_eq_true, decide_eq_true_eq] at h2
      obtain ⟨x, hx, e1, e2⟩ := rkI_pos h2.1
      exact List.mem_map.mpr ⟨x, hx, by rw [e1, e2]⟩
    rw [List.length_map] at this
    exact this
  · refine Nat.le_trans (List.length_filter_le _ _) ?_
    have : ∀ n, n ≤ 9 → (pairs n).length ≤ 27 := by decide +kernel
    exact this m.toNat (by omega)
/-! ### where it ends: the greatest clearing -/
/-- no set of short members keeps its next coins to itself -/
def NoShut (m : Int) (sh : List Dd) (qs : List Rat) : Prop := ∀ M : Int → Prop, (∀ j, M j → 0 ≤ j ∧ j < m ∧ stQ qs sh j ≠ none) → (∀ x ∈ someD qs sh, M x.a → M x.b) → ∀ j, ¬ M j
/-- a least set that does -/
structure GroupOk (m : Int) (sh : List Dd) (qs : List Rat) (g : List Int) : Prop where
  nd : g.Nodup
  rng : ∀ j ∈ g, 0 ≤ j ∧ j < m ∧ stQ qs sh j ≠ none
  cl : ∀ x ∈ someD qs sh, x.a ∈ g → x.b ∈ g
  mn : ∀ M : Int → Prop, (∀ j, M j → j ∈ g) → (∀ x ∈ someD qs sh, M x.a → M x.b) → ∀ i, M i → ∀ j ∈ g, M j
end
end Ab.Cl

namespace Ab.Cl
open PySem L2
/-! ### the system of the speeds -/
def uL (L : List Int) (f : Nat → Rat) (p : Int) : Rat := if p ∈ L then f (L.idxOf p) else 0
theorem uL_at {L : List Int} {f : Nat → Rat} (hL : L.Nodup) {k : Nat} (hk : k < L.length) : uL L f L[k] = f k := by
  unfold uL
  rw [if_pos (List.getElem_mem hk), List.Nodup.idxOf_getElem hL]
theorem uL_out {L : List Int} {f : Nat → Rat} {p : Int} (h : p ∉ L) : uL L f p = 0 := if_neg h
theorem smR_list (G : Int → Rat) : ∀ (n : Nat) (L : List Int), L.length = n → smR n (fun k => G (L.getD k 0)) = (L.map G).sum
  | 0, L, h => by
    have : L = [] := List.length_eq_zero_iff.mp h
    subst this; rfl
  | n + 1, L, h => by
    rcases List.eq_nil_or_concat L with e | ⟨l, a, e⟩
    · subst e; simp at h
    · rw [List.concat_eq_append] at e
      subst e
      have hl : l.length = n := by simpa using h
      rw [smR, List.map_append, List.sum_append, ← smR_list G n l hl]
      congr 1
      · refine smR_congr fun i hi => ?_
        rw [List.getD_eq_getElem?_getD, List.getElem?_append_left (by omega), List.getD_eq_getElem?_getD]
      · rw [List.getD_eq_getElem?_getD, List.getElem?_append_right (by omega), hl, Nat.sub_self]
        simp
        try grind
/-- a payee's row: what it lays out, less what comes from each of the list -/
def rowI (sm : List Dd) (L : List Int) (h : Int → Int) (p : Int) : List Int := L.map fun q => (if q = p then h p else 0) - (sm.map fun x => if x.b = p ∧ x.a = q then x.c else 0).sum
theorem rowI_len {sm : List Dd} {L : List Int} {h : Int → Int} {p : Int} : (rowI sm L h p).length = L.length := by unfold rowI; simp
theorem rowI_get {sm : List Dd} {L : List Int} {h : Int → Int} {p : Int} {k : Nat} (hk : k < L.length) : gI (rowI sm L h p) (k : Int) = (if L[k] = p then h p else 0) - (sm.map fun x => if x.b = p ∧ x.a = L[k] then x.c else 0).sum := by
  rw [gI_nat (by rw [rowI_len]; exact hk)]
  unfold rowI
  rw [List.getElem_map]
theorem sum_cast {α : Type} {f : α → Int} : ∀ {xs : List α}, (((xs.map f).sum : Int) : Rat) = (xs.map fun x => (f x : Rat)).sum
  | [] => rfl
  | x :: xs => by rw [List.map_cons, List.map_cons, List.sum_cons, List.sum_cons, Rat.intCast_add, sum_cast]
theorem row_sum {sm : List Dd} {L : List Int} {h : Int → Int} {p : Int} {f : Nat → Rat} (hL : L.Nodup) (hp : p ∈ L) : smR L.length (fun k => f k * (gI (rowI sm L h p) (k : Int) : Rat)) = (h p : Rat) * uL L f p - inF sm (uL L f) p := by
  have e1 : smR L.length (fun k => f k * (gI (rowI sm L h p) (k : Int) : Rat)) = (L.map fun q => uL L f q * (((if q = p then h p else 0) - (sm.map fun x => if x.b = p ∧ x.a = q then x.c else 0).sum : Int) : Rat)).sum := by
    rw [← smR_list _ L.length L rfl]
    refine smR_congr fun k hk => ?_
    have e : L.getD k 0 = L[k] := by rw [List.getD_eq_getElem?_getD, List.getElem?_eq_getElem hk]; rfl
    rw [e, uL_at hL hk, rowI_get hk]
  have e2 : (L.map fun q => uL L f q * (((if q = p then h p else 0) - (sm.map fun x => if x.b = p ∧ x.a = q then x.c else 0).sum : Int) : Rat)).sum = (L.map fun q => if q = p then (h p : Rat) * uL L f p else 0).sum + (L.map fun q => (sm.map fun x => if x.a = q then (if x.b = p then - ((x.c : Rat) * uL L f x.a) else 0) else 0).sum).sum := by
    rw [← sum_add]
    refine sum_congr fun q hq => ?_
    rw [Rat.intCast_sub, sum_cast]
    have e3 : (sm.map fun x => if x.a = q then (if x.b = p then - ((x.c : Rat) * uL L f x.a) else 0) else 0).sum = - (uL L f q) * (sm.map fun x => (((if x.b = p ∧ x.a = q then x.c else 0 : Int)) : Rat)).sum := by
      rw [← sum_mul]
      refine sum_congr fun x hx => ?_
      by_cases c1 : x.a = q
      · by_cases c2 : x.b = p
        · simp [c1, c2]; grind
        · simp [c1, c2]
          try grind
      · simp [c1]
        try grind
    rw [e3]
    by_cases c : q = p
    · subst c
      simp
      grind
    · simp [c]
      grind
  rw [e1, e2, sumL_key hL, sum_one hL hp (fun x hx hn => if_neg hn), if_pos rfl]
  have e4 : (sm.map fun x => if x.a ∈ L then (if x.b = p then - ((x.c : Rat) * uL L f x.a) else 0) else 0).sum = - inF sm (uL L f) p := by
    have : - inF sm (uL L f) p = (-1) * inF sm (uL L f) p := by grind
    rw [this]
    unfold inF
    rw [← sum_mul]
    refine sum_congr fun x hx => ?_
    by_cases c1 : x.a ∈ L
    · rw [if_pos c1]; split <;> grind
    · rw [if_neg c1, uL_out c1]; split <;> grind
  rw [e4]
  grind
/-- .. and right sides -/
def sysR (sm : List Dd) (L : List Int) (h : Int → Int) : List (List Rat) := L.map fun p => (rowI sm L h p).map fun (z : Int) => (z : Rat)
def sideR (fed : List Int) : List Rat := fed.map fun (z : Int) => (z : Rat)
theorem whole_ints {v w : List Int} (h : Whole (v.map fun (z : Int) => (z : Rat)) w) : w = v := by
  obtain ⟨l, m, m0, m1, hm⟩ := h
  rw [List.length_map] at l
  have d1 : dens (v.map fun (z : Int) => (z : Rat)) = 1 := dens_one fun q hq => by
    obtain ⟨z, _, rfl⟩ := List.mem_map.mp hq
    exact Rat.den_intCast _
  have : m = 1 := by omega
  subst this
  refine List.ext_getElem l fun i h1 h2 => ?_
  have := hm i (v[i] : Rat) (by rw [List.getElem?_map, List.getElem?_eq_getElem h2]; rfl)
  rw [Rat.den_intCast, Rat.num_intCast, gI_nat h1] at this
  simpa using this
theorem sys_wholes {sm : List Dd} {L : List Int} {h : Int → Int} {fed : List Int} {A : List (List Int)} (hf : fed.length = L.length) (W : Wholes (sysR sm L h) (sideR fed) A) : A.length = L.length ∧ ∀ (i : Nat) (hi : i < L.length), (∀ k : Nat, k < L.length → ent A i k = gI (rowI sm L h L[i]) (k : Int)) ∧ ent A i L.length = gI fed (i : Int) := by
  have la : A.length = L.length := by
    have := W.1
    unfold sysR at this
    simpa using this
  refine ⟨la, fun i hi => ?_⟩
  have e1 : (sysR sm L h)[i]? = some ((rowI sm L h L[i]).map fun (z : Int) => (z : Rat)) := by
    unfold sysR
    rw [List.getElem?_map, List.getElem?_eq_getElem hi]
    rfl
  have e2 : (sideR fed)[i]? = some ((fed[i] : Int) : Rat) := by
    unfold sideR
    rw [List.getElem?_map, List.getElem?_eq_getElem (by omega)]
    rfl
  have e3 := List.getElem?_eq_getElem (l := A) (i := i) (by omega)
  have hw := W.2 i _ _ _ e1 e2 e3
  have e4 : ((rowI sm L h L[i]).map fun (z : Int) => (z : Rat)) ++ [((fed[i] : Int) : Rat)] = (rowI sm L h L[i] ++ [fed[i]]).map fun (z : Int) => (z : Rat) := by
    rw [List.map_append]; rfl
  rw [e4] at hw
  have hw := whole_ints hw
  have ee : ∀ k : Nat, ent A i k = gI (rowI sm L h L[i] ++ [fed[i]]) (k : Int) := fun k => by
    unfold ent
    rw [List.getD_eq_getElem?_getD, e3]
    show gI A[i] (k : Int) = _
    rw [hw]
  refine ⟨fun k hk => ?_, ?_⟩
  · rw [ee, gI_app (by rw [rowI_len]; exact hk)]
  · rw [ee]
    have : ((L.length : Nat) : Int) = (((rowI sm L h L[i]).length : Nat) : Int) := by rw [rowI_len]
    rw [this, gI_app_last, gI_nat (by omega)]
/-- the answer as speeds -/
theorem sys_ans {sm : List Dd} {L : List Int} {h : Int → Int} {fed : List Int} {A0 A M : List (List Int)} {d : Int} (hL : L.Nodup) (hf : fed.length = L.length) (W : Wholes (sysR sm L h) (sideR fed) A0) (E : ElimL L.length (L.length + 1) L.length A0 A M d) :
    ∀ (i : Nat) (hi : i < L.length), (h L[i] : Rat) * uL L (fun k => Rat.divInt (ent M k L.length) d) L[i] = inF sm (uL L fun k => Rat.divInt (ent M k L.length) d) L[i] + (gI fed (i : Int) : Rat) := fun i hi => by
  obtain ⟨la, hA⟩ := sys_wholes hf W
  obtain ⟨a1, a2⟩ := hA i hi
  have hd := dcast_ne E.e.hd
  -- the row of the grid as it is turned
  have e3 := List.getElem?_eq_getElem (l := A0) (i := i) (by omega)
  obtain ⟨j, hj, ej⟩ := List.mem_iff_getElem.mp (E.ar _ (List.mem_of_getElem? e3))
  have hjn : j < L.length := by have := E.la; omega
  have hAj : ∀ c : Nat, ent A j c = ent A0 i c := fun c => by
    unfold ent
    rw [List.getD_eq_getElem?_getD, List.getElem?_eq_getElem hj, ej, List.getD_eq_getElem?_getD, e3]
  have h1 := E.e.ans hjn (j := L.length) (by omega)
  have h2 := congrArg (Int.cast (R := Rat)) h1
  rw [smR_cast, Rat.intCast_mul, hAj, a2] at h2
  have e5 : smR L.length (fun k => ((ent M k L.length * ent A j k : Int) : Rat)) = d * smR L.length (fun k => Rat.divInt (ent M k L.length) d * (gI (rowI sm L h L[i]) (k : Int) : Rat)) := by
    rw [← smR_mul]
    refine smR_congr fun k hk => ?_
    rw [Rat.intCast_mul, hAj, a1 k hk, divInt_rat]
    grind
  rw [e5, row_sum hL (List.getElem_mem hi)] at h2
  generalize (h L[i] : Rat) * uL L (fun k => Rat.divInt (ent M k L.length) d) L[i] = x at h2 ⊢
  generalize inF sm (uL L fun k => Rat.divInt (ent M k L.length) d) L[i] = y at h2 ⊢
  have : (d : Rat) * (x - y) = (d : Rat) * (gI fed (i : Int) : Rat) := h2
  have : x - y = (gI fed (i : Int) : Rat) := by grind
  grind
/-- no answer: a flow that is fed nothing -/
theorem sys_ker {sm : List Dd} {L : List Int} {h : Int → Int} {fed : List Int} {A0 : List (List Int)} {U : Nat → Int} (hL : L.Nodup) (hf : fed.length = L.length) (W : Wholes (sysR sm L h) (sideR fed) A0) (hU : ∀ i, i < L.length → Ab.sm L.length (fun k => U k * ent A0 i k) = 0) :
    ∀ (i : Nat) (hi : i < L.length), (h L[i] : Rat) * uL L (fun k => (U k : Rat)) L[i] = inF sm (uL L fun k => (U k : Rat)) L[i] := fun i hi => by
  obtain ⟨la, hA⟩ := sys_wholes hf W
  obtain ⟨a1, a2⟩ := hA i hi
  have h2 := congrArg (Int.cast (R := Rat)) (hU i hi)
  rw [smR_cast] at h2
  have e5 : smR L.length (fun k => ((U k * ent A0 i k : Int) : Rat)) = smR L.length (fun k => (U k : Rat) * (gI (rowI sm L h L[i]) (k : Int) : Rat)) := by
    refine smR_congr fun k hk => ?_
    rw [Rat.intCast_mul, a1 k hk]
  rw [e5, row_sum hL (List.getElem_mem hi)] at h2
  have h2 : (h L[i] : Rat) * uL L (fun k => (U k : Rat)) L[i] - inF sm (uL L fun k => (U k : Rat)) L[i] = 0 := h2
  grind
end Ab.Cl

namespace Ab
open PySem L2
theorem sm_end {t : Nat} {f g : Nat → Int} : ∀ {n : Nat}, t < n → (∀ k, k < t → f k = g k) → (∀ k, t < k → k < n → f k = 0) → sm n f = sm t g + f t
  | 0, h, _, _ => by omega
  | n + 1, h, h1, h2 => by
    rw [sm]
    by_cases e : t = n
    · subst e
      rw [sm_congr h1]
    · rw [sm_end (n := n) (by omega) h1 fun k a b => h2 k a (by omega), h2 n (by omega) (by omega), Int.add_zero]
theorem Elim.kernel {n w t : Nat} {A G : Nat → Nat → Int} {d : Int} (E : Elim n w t A G d) (h : t < n) (hz : ∀ k, t ≤ k → k < n → G k t = 0) : ∃ U : Nat → Int, (∃ k, k < n ∧ U k ≠ 0) ∧ ∀ i, i < n → sm n (fun k => U k * A i k) = 0 := by
  have hw := E.hw
  refine ⟨fun k => if k < t then G k t else if k = t then - d else 0, ⟨t, h, by
    show (if t < t then G t t else if t = t then - d else 0) ≠ 0
    rw [if_neg (by omega), if_pos rfl]
    have := E.hd
    omega⟩, fun i hi => ?_⟩
  have e := E.eq i hi t (by omega)
  rw [sm_end (t := t) (g := fun k => G k t * A i k) h (fun k hk => by
    show (if k < t then G k t else if k = t then - d else 0) * A i k = _
    rw [if_pos hk]) fun k a b => by
      show (if k < t then G k t else if k = t then - d else 0) * A i k = _
      rw [if_neg (by omega), if_neg (by omega), Int.zero_mul]]
  show _ + (if t < t then G t t else if t = t then - d else 0) * A i t = 0
  rw [if_neg (by omega), if_pos rfl]
  by_cases c : t ≤ i
  · rw [if_pos c, hz i c hi] at e
    grind
  · rw [if_neg c] at e
    grind
theorem ElimL.kernel {n w t : Nat} {A0 A M : List (List Int)} {d : Int} (E : ElimL n w t A0 A M d) (l0 : A0.length = n) (h : t < n) (hz : ∀ k, t ≤ k → k < n → ent M k t = 0) : ∃ U : Nat → Int, (∃ k, k < n ∧ U k ≠ 0) ∧ ∀ i, i < n → sm n (fun k => U k * ent A0 i k) = 0 := by
  obtain ⟨U, hU, hk⟩ := E.e.kernel h hz
  refine ⟨U, hU, fun i hi => ?_⟩
  have e3 := List.getElem?_eq_getElem (l := A0) (i := i) (by omega)
  obtain ⟨j, hj, ej⟩ := List.mem_iff_getElem.mp (E.ar _ (List.mem_of_getElem? e3))
  have hjn : j < n := by have := E.la; omega
  have := hk j hjn
  have hAj : ∀ c : Nat, ent A j c = ent A0 i c := fun c => by
    unfold ent
    rw [List.getD_eq_getElem?_getD, List.getElem?_eq_getElem hj, ej, List.getD_eq_getElem?_getD, e3]
  rw [← this]
  exact sm_congr fun k _ => by rw [hAj]
namespace Cl
section
variable {m : Int} {sh : List Dd} {ps : List Int} {qs : List Rat} {σ : Rat}
/-- all that are short -/
def shortL (m : Int) (sh : List Dd) (qs : List Rat) : List Int := ((List.range m.toNat).filter fun (k : Nat) => (stQ qs sh (k : Int)).isSome).map fun (k : Nat) => (k : Int)
theorem shortL_mem {j : Int} : j ∈ shortL m sh qs ↔ 0 ≤ j ∧ j < m ∧ stQ qs sh j ≠ none := by
  unfold shortL
  rw [List.mem_map]
  constructor
  · rintro ⟨k, hk, rfl⟩
    obtain ⟨h1, h2⟩ := List.mem_filter.mp hk
    have := List.mem_range.mp h1
    refine ⟨by omega, by omega, fun z => ?_⟩
    rw [z] at h2
    cases h2
  · rintro ⟨h0, h1, h2⟩
    have e : ((j.toNat : Nat) : Int) = j := by omega
    refine ⟨j.toNat, List.mem_filter.mpr ⟨List.mem_range.mpr (by omega), ?_⟩, e⟩
    rw [e]
    cases q : stQ qs sh j with
    | none => exact absurd q h2
    | some r => rfl
theorem map_nodup {α β : Type} {f : α → β} (hf : ∀ x y, f x = f y → x = y) : ∀ {l : List α}, l.Nodup → (l.map f).Nodup
  | [], _ => by simp
  | a :: l, h => by
    obtain ⟨h1, h2⟩ := List.nodup_cons.mp h
    rw [List.map_cons]
    refine List.nodup_cons.mpr ⟨fun z => ?_, map_nodup hf h2⟩
    obtain ⟨b, hb, e⟩ := List.mem_map.mp z
    exact h1 (hf b a e ▸ hb)
theorem shortL_nodup : (shortL m sh qs).Nodup := by
  unfold shortL
  exact map_nodup (fun a b h => by omega) (List.nodup_range.sublist List.filter_sublist)
theorem hd_out (hs : ∀ x ∈ sh, x.Ok m) {j : Int} (h : stQ qs sh j ≠ none) : (hdI qs sh j : Rat) = outF (someD qs sh) j := by
  cases q : stQ qs sh j with
  | none => exact absurd q h
  | some r => rw [hd_some q, out_head hs q]
/-- open purses: the speeds are not below nothing, and each lays out what it gets and what is opened -/
theorem open_speeds (hs : ∀ x ∈ sh, x.Ok m) (hN : NoShut m sh qs) (p0 : ∀ j : Int, 0 ≤ gI ps j) {v : Int → Rat} (vz : ∀ p, p ∉ shortL m sh qs → v p = 0)
    (he : ∀ p ∈ shortL m sh qs, (hdI qs sh p : Rat) * v p = inF (someD qs sh) v p + (gI ps p : Rat)) : ∀ p, 0 ≤ v p := by
  have key := flow_neg (sm := someD qs sh) (v := v) (fed := fun p => (gI ps p : Rat)) shortL_nodup (fun x hx => (some_c x hx).1) vz (fun p _ => by exact_mod_cast p0 p) fun p hp => by rw [← hd_out hs (shortL_mem.mp hp).2.2]; exact he p hp
  intro p
  refine Rat.not_lt.mp fun hlt => hN (fun j => v j < 0) (fun j hj => ?_) key p hlt
  refine shortL_mem.mp (Classical.byContradiction fun hn => ?_)
  rw [vz j hn] at hj
  exact absurd hj (Rat.lt_irrefl)
theorem open_unique (hs : ∀ x ∈ sh, x.Ok m) (hN : NoShut m sh qs) {v : Int → Rat} (vz : ∀ p, p ∉ shortL m sh qs → v p = 0)
    (he : ∀ p ∈ shortL m sh qs, (hdI qs sh p : Rat) * v p = inF (someD qs sh) v p) : ∀ p, v p = 0 := by
  have key := flow_ker (sm := someD qs sh) (v := v) shortL_nodup (fun x hx => (some_c x hx).1) vz fun p hp => by rw [← hd_out hs (shortL_mem.mp hp).2.2]; exact he p hp
  intro p
  refine Classical.byContradiction fun hne => hN (fun j => v j ≠ 0) (fun j hj => ?_) key p hne
  refine shortL_mem.mp (Classical.byContradiction fun hn => hj (vz j hn))
/-- coins that go round in a least shut group -/
def fedI (sm : List Dd) (first p : Int) : Int := (sm.map fun x => if x.a = first ∧ x.b = p then x.c else 0).sum
theorem fed_nonneg {sm : List Dd} (hc : ∀ x ∈ sm, 0 < x.c) {first p : Int} : 0 ≤ fedI sm first p := by
  unfold fedI
  have : ∀ xs : List Dd, (∀ x ∈ xs, 0 < x.c) → 0 ≤ (xs.map fun x => if x.a = first ∧ x.b = p then x.c else 0).sum := fun xs => by
    induction xs with
    | nil => intro _; exact Int.le_refl _
    | cons x xs ih =>
      intro h
      rw [List.map_cons, List.sum_cons]
      have := ih fun y hy => h y (by simp [hy])
      have := h x (by simp)
      split <;> omega
  exact this sm hc
theorem round_unique {first : Int} {L : List Int} (hs : ∀ x ∈ sh, x.Ok m) (hG : GroupOk m sh qs (first :: L)) {v : Int → Rat} (vz : ∀ p, p ∉ L → v p = 0)
    (he : ∀ p ∈ L, (hdI qs sh p : Rat) * v p = inF (someD qs sh) v p) : ∀ p, v p = 0 := by
  obtain ⟨n1, n2⟩ := List.nodup_cons.mp hG.nd
  have key := flow_ker (sm := someD qs sh) (v := v) n2 (fun x hx => (some_c x hx).1) vz fun p hp => by rw [← hd_out hs (hG.rng p (by simp [hp])).2.2]; exact he p hp
  intro p
  refine Classical.byContradiction fun hne => ?_
  have := hG.mn (fun j => v j ≠ 0) (fun j hj => List.mem_cons_of_mem _ (Classical.byContradiction fun hn => hj (vz j hn))) key p hne first (by simp)
  exact this (vz first n1)
theorem round_speeds {first : Int} {L : List Int} (hs : ∀ x ∈ sh, x.Ok m) (hG : GroupOk m sh qs (first :: L)) {v : Int → Rat} (vz : ∀ p, p ∉ first :: L → v p = 0) (v1 : v first = 1)
    (he : ∀ p ∈ L, (hdI qs sh p : Rat) * v p = inF (someD qs sh) v p) : (∀ p, 0 ≤ v p) ∧ ∀ p ∈ first :: L, (hdI qs sh p : Rat) * v p = inF (someD qs sh) v p := by
  obtain ⟨n1, n2⟩ := List.nodup_cons.mp hG.nd
  have hc := fun x hx => (some_c (qs := qs) (sh := sh) x hx).1
  let u : Int → Rat := fun p => if p = first then 0 else v p
  have uz : ∀ p, p ∉ L → u p = 0 := fun p hp => by
    show (if p = first then 0 else v p) = 0
    split
    · rfl
    · rename_i e; exact vz p (by simp [e, hp])
  have hf : ∀ p, inF (someD qs sh) v p = inF (someD qs sh) u p + (fedI (someD qs sh) first p : Rat) := fun p => by
    unfold inF fedI
    rw [sum_cast, ← sum_add]
    refine sum_congr fun x hx => ?_
    show (if x.b = p then (x.c : Rat) * v x.a else 0) = (if x.b = p then (x.c : Rat) * (if x.a = first then 0 else v x.a) else 0) + (((if x.a = first ∧ x.b = p then x.c else 0 : Int)) : Rat)
    by_cases c1 : x.b = p
    · by_cases c2 : x.a = first
      · simp [c1, c2, v1]
        try grind
      · simp [c1, c2]
        try grind
    · simp [c1]
      try grind
  have hu : ∀ p ∈ L, u p = v p := fun p hp => if_neg fun (e : p = first) => n1 (by rw [← e]; exact hp)
  have key := flow_neg (sm := someD qs sh) (v := u) (fed := fun p => (fedI (someD qs sh) first p : Rat)) n2 hc uz (fun p _ => by exact_mod_cast fed_nonneg hc) fun p hp => by
    rw [← hd_out hs (hG.rng p (by simp [hp])).2.2, hu p hp, he p hp, hf p]
  have u0 : ∀ p, 0 ≤ u p := fun p => Rat.not_lt.mp fun hlt => by
    have := hG.mn (fun j => u j < 0) (fun j hj => List.mem_cons_of_mem _ (Classical.byContradiction fun hn => by
      rw [uz j hn] at hj
      exact absurd hj (Rat.lt_irrefl))) key p hlt first (by simp)
    rw [uz first n1] at this
    exact absurd this (Rat.lt_irrefl)
  have v0 : ∀ p, 0 ≤ v p := fun p => by
    by_cases e : p = first
    · rw [e, v1]; decide
    · have := u0 p
      have e2 : u p = v p := if_neg e
      rw [e2] at this
      exact this
  refine ⟨v0, fun p hp => ?_⟩
  rcases List.mem_cons.mp hp with e | e
  rotate_left
  · exact he p e
  subst e
  -- what all lay out comes to what all get
  have t1 : ((p :: L).map fun q => (hdI qs sh q : Rat) * v q).sum = ((p :: L).map fun q => inF (someD qs sh) v q).sum := by
    have e1 : ((p :: L).map fun q => (hdI qs sh q : Rat) * v q).sum = ((p :: L).map fun q => ((someD qs sh).map fun x => if x.a = q then (x.c : Rat) * v x.a else 0).sum).sum := by
      refine sum_congr fun q hq => ?_
      rw [hd_out hs (hG.rng q hq).2.2]
      unfold outF
      rw [Rat.mul_comm, ← sum_mul]
      refine sum_congr fun x hx => ?_
      split
      · rename_i e; rw [e]; grind
      · grind
    have e2 : ((p :: L).map fun q => inF (someD qs sh) v q).sum = ((someD qs sh).map fun x => if x.b ∈ p :: L then (x.c : Rat) * v x.a else 0).sum := sumL_key hG.nd
    rw [e1, e2, sumL_key hG.nd]
    refine sum_congr fun x hx => ?_
    by_cases c : x.a ∈ p :: L
    · rw [if_pos c, if_pos (hG.cl x hx c)]
    · rw [if_neg c, vz _ c]
      split <;> grind
  rw [List.map_cons, List.map_cons, List.sum_cons, List.sum_cons, sum_congr he] at t1
  grind
/-- where no coins of a group go, none come -/
theorem round_in {g : List Int} (hG : GroupOk m sh qs g) {v : Int → Rat} (vz : ∀ p, p ∉ g → v p = 0) {p : Int} (hp : p ∉ g) : inF (someD qs sh) v p = 0 := by
  unfold inF
  refine sum_null fun x hx => ?_
  by_cases c : x.b = p
  · rw [if_pos c]
    by_cases c2 : x.a ∈ g
    · exact absurd (c ▸ hG.cl x hx c2) hp
    · rw [vz _ c2]; grind
  · rw [if_neg c]
end
end Cl
end Ab

namespace Ab.Cl
open PySem L2
/-- all to which the next coins of f come -/
structure Reach (sm : List Dd) (f : Int) (g : List Int) : Prop where
  nd : g.Nodup
  hd : ∃ t, g = f :: t
  cl : ∀ x ∈ sm, x.a ∈ g → x.b ∈ g
  mn : ∀ M : Int → Prop, M f → (∀ x ∈ sm, M x.a → M x.b) → ∀ j ∈ g, M j
theorem Reach.self {sm : List Dd} {f : Int} {g : List Int} (h : Reach sm f g) : f ∈ g := by
  obtain ⟨t, e⟩ := h.hd
  rw [e]; simp
section
variable {m : Int} {sh : List Dd} {qs : List Rat}
theorem Reach.rng {f : Int} {g : List Int} (hs : ∀ x ∈ sh, x.Ok m) (h : Reach (someD qs sh) f g) (h0 : 0 ≤ f) (h1 : f < m) : ∀ j ∈ g, 0 ≤ j ∧ j < m := h.mn (fun j => 0 ≤ j ∧ j < m) ⟨h0, h1⟩ fun x hx _ => by
  have := hs x (some_c x hx).2.1
  unfold Dd.Ok at this
  exact ⟨this.2.2.1, this.2.2.2.1⟩
def ShutI (m : Int) (sh : List Dd) (qs : List Rat) (i : Nat) (best : List Int) : Prop :=
  (∀ f : Int, 0 ≤ f → f < (i : Int) → stQ qs sh f ≠ none → ∃ g, Reach (someD qs sh) f g ∧ ((∀ j ∈ g, stQ qs sh j ≠ none) → best ≠ [] ∧ best.length ≤ g.length)) ∧
    (best ≠ [] → ∃ f : Int, Reach (someD qs sh) f best ∧ (∀ j ∈ best, stQ qs sh j ≠ none) ∧ 0 ≤ f ∧ f < m)
theorem ShutI.start : ShutI m sh qs 0 [] := ⟨fun f h0 h1 => by omega, fun h => absurd rfl h⟩
theorem ShutI.skip {i : Nat} {best : List Int} (h : ShutI m sh qs i best) (hn : stQ qs sh (i : Int) = none) : ShutI m sh qs (i + 1) best := ⟨fun f h0 h1 hf => by
  by_cases e : f = (i : Int)
  · subst e; exact absurd hn hf
  · exact h.1 f h0 (by omega) hf, h.2⟩
theorem ShutI.keep {i : Nat} {best g : List Int} (h : ShutI m sh qs i best) (hg : Reach (someD qs sh) (i : Int) g) (hk : (∀ j ∈ g, stQ qs sh j ≠ none) → best ≠ [] ∧ best.length ≤ g.length) : ShutI m sh qs (i + 1) best := ⟨fun f h0 h1 hf => by
  by_cases e : f = (i : Int)
  · subst e; exact ⟨g, hg, hk⟩
  · exact h.1 f h0 (by omega) hf, h.2⟩
theorem ShutI.take {i : Nat} {best g : List Int} (h : ShutI m sh qs i best) (hi : (i : Int) < m) (hg : Reach (someD qs sh) (i : Int) g) (hsh : ∀ j ∈ g, stQ qs sh j ≠ none) (hk : best = [] ∨ g.length < best.length) : ShutI m sh qs (i + 1) g := by
  have gne : g ≠ [] := fun e => by
    have := hg.self
    rw [e] at this
    cases this
  refine ⟨fun f h0 h1 hf => ?_, fun _ => ⟨_, hg, hsh, by omega, hi⟩⟩
  by_cases e : f = (i : Int)
  · subst e; exact ⟨g, hg, fun _ => ⟨gne, Nat.le_refl _⟩⟩
  · obtain ⟨g', hg', hk'⟩ := h.1 f h0 (by omega) hf
    refine ⟨g', hg', fun hs' => ⟨gne, ?_⟩⟩
    obtain ⟨b1, b2⟩ := hk' hs'
    rcases hk with hk | hk
    · exact absurd hk b1
    · omega
theorem ShutI.none {best : List Int} (h : ShutI m sh qs m.toNat best) (e : best = []) : NoShut m sh qs := fun M hM hc j hj => by
  obtain ⟨h0, h1, h2⟩ := hM j hj
  obtain ⟨g, hg, hk⟩ := h.1 j h0 (by omega) h2
  exact (hk fun i hi => (hM i (hg.mn M hj hc i hi)).2.2).1 e
theorem ShutI.some {best : List Int} (hs : ∀ x ∈ sh, x.Ok m) (h : ShutI m sh qs m.toNat best) (e : best ≠ []) : GroupOk m sh qs best := by
  obtain ⟨f, hf, hsh, h0, h1⟩ := h.2 e
  have rg := hf.rng hs h0 h1
  refine ⟨hf.nd, fun j hj => ⟨(rg j hj).1, (rg j hj).2, hsh j hj⟩, hf.cl, fun M hM hc i hi j hj => ?_⟩
  have ib := hM i hi
  obtain ⟨g, hg, hk⟩ := h.1 i (rg i ib).1 (by have := (rg i ib).2; omega) (hsh i ib)
  have gM := hg.mn M hi hc
  have hle := (hk fun a ha => hsh a (hM a (gM a ha))).2
  refine gM j (Classical.byContradiction fun hn => ?_)
  have := nodup_len (l := j :: g) (s := best) (List.nodup_cons.mpr ⟨hn, hg.nd⟩) fun a ha => by
    rcases List.mem_cons.mp ha with q | q
    · rw [q]; exact hj
    · exact hM a (gM a q)
  rw [List.length_cons] at this
  omega
end
/-- on the way -/
structure ReachI (m : Int) (sm : List Dd) (f : Int) (at_ : Nat) (g : List Int) : Prop where
  nd : g.Nodup
  hd : ∃ t, g = f :: t
  rng : ∀ j ∈ g, 0 ≤ j ∧ j < m
  cl : ∀ (i : Nat) (j : Int), i < at_ → g[i]? = some j → ∀ x ∈ sm, x.a = j → x.b ∈ g
  mn : ∀ M : Int → Prop, M f → (∀ x ∈ sm, M x.a → M x.b) → ∀ j ∈ g, M j
theorem ReachI.len {m : Int} {sm : List Dd} {f : Int} {a : Nat} {g : List Int} (h : ReachI m sm f a g) : g.length ≤ m.toNat := by
  have := nodup_len (s := (List.range m.toNat).map fun (k : Nat) => (k : Int)) h.nd fun j hj => by
    have := h.rng j hj
    exact List.mem_map.mpr ⟨j.toNat, List.mem_range.mpr (by omega), by omega⟩
  rwa [List.length_map, List.length_range] at this
theorem ReachI.fin {m : Int} {sm : List Dd} {f : Int} {a : Nat} {g : List Int} (h : ReachI m sm f a g) (ha : g.length ≤ a) : Reach sm f g := ⟨h.nd, h.hd, fun x hx hm => by
  obtain ⟨i, hi⟩ := List.mem_iff_getElem?.mp hm
  have := (List.getElem?_eq_some_iff.mp hi).1
  exact h.cl i _ (by omega) hi x hx rfl, h.mn⟩
end Ab.Cl

namespace Ab.Cl
open PySem L2
/-! ### lists that the clearing keeps -/
noncomputable def headsL (m : Int) (sh : List Dd) (qs : List Rat) : List Int := (List.range m.toNat).map fun (j : Nat) => hdI qs sh (j : Int)
noncomputable def topsL (m : Int) (sh : List Dd) (qs : List Rat) : List Int := (List.range m.toNat).map fun (j : Nat) => tpI qs sh (j : Int)
noncomputable def ratesL (n : Nat) (hd : Int → Int) (g : List Int) (fs : List Rat) (i : Nat) : List Rat := (List.range n).map fun (j : Nat) => if (j : Int) ∈ g.take i then (hd (j : Int) : Rat) * uL g (fun k => gR fs (k : Nat)) (j : Int) else 0
noncomputable def grownL (n : Nat) (qs gs : List Rat) (t : Rat) : List Rat := (List.range n).map fun (j : Nat) => gR qs (j : Nat) + gR gs (j : Nat) * t
def optRD : Option Rat → D
  | none => .non
  | some t => pR t
structure RoomOk (n : Nat) (tp : Nat → Int) (qs gs : List Rat) (o : Option Rat) : Prop where
  le : ∀ j : Nat, j < n → 0 < gR gs (j : Nat) → ∃ t, o = some t ∧ t ≤ ((tp j : Rat) - gR qs (j : Nat)) / gR gs (j : Nat)
  at_ : ∀ t, o = some t → ∃ j : Nat, j < n ∧ 0 < gR gs (j : Nat) ∧ t = ((tp j : Rat) - gR qs (j : Nat)) / gR gs (j : Nat)
theorem RoomOk.start {tp : Nat → Int} {qs gs : List Rat} : RoomOk 0 tp qs gs none := ⟨fun j h => by omega, fun t h => by cases h⟩
theorem RoomOk.skip {n : Nat} {tp : Nat → Int} {qs gs : List Rat} {o : Option Rat} (h : RoomOk n tp qs gs o) (hn : ¬ 0 < gR gs (n : Nat)) : RoomOk (n + 1) tp qs gs o := ⟨fun j hj hg => by
  by_cases e : j = n
  · subst e; exact absurd hg hn
  · exact h.le j (by omega) hg, fun t ht => by
    obtain ⟨j, a, b⟩ := h.at_ t ht
    exact ⟨j, by omega, b⟩⟩
theorem RoomOk.keep {n : Nat} {tp : Nat → Int} {qs gs : List Rat} {t : Rat} (h : RoomOk n tp qs gs (some t)) (hn : ¬ ((tp n : Rat) - gR qs (n : Nat)) / gR gs (n : Nat) < t) : RoomOk (n + 1) tp qs gs (some t) := ⟨fun j hj hg => by
  by_cases e : j = n
  · subst e; exact ⟨t, rfl, Rat.not_lt.mp hn⟩
  · exact h.le j (by omega) hg, fun t ht => by
    obtain ⟨j, a, b⟩ := h.at_ t ht
    exact ⟨j, by omega, b⟩⟩
theorem RoomOk.take {n : Nat} {tp : Nat → Int} {qs gs : List Rat} {o : Option Rat} (h : RoomOk n tp qs gs o) (hg : 0 < gR gs (n : Nat)) (hk : ∀ t, o = some t → ((tp n : Rat) - gR qs (n : Nat)) / gR gs (n : Nat) ≤ t) : RoomOk (n + 1) tp qs gs (some (((tp n : Rat) - gR qs (n : Nat)) / gR gs (n : Nat))) := ⟨fun j hj hgj => by
  by_cases e : j = n
  · subst e; exact ⟨_, rfl, Rat.le_refl⟩
  · obtain ⟨t, e1, e2⟩ := h.le j (by omega) hgj
    exact ⟨_, rfl, Rat.le_trans (hk t e1) e2⟩, fun t ht => ⟨n, by omega, hg, (Option.some.inj ht).symm⟩⟩
theorem gR_range {n : Nat} {f : Nat → Rat} {j : Nat} (h : j < n) : gR ((List.range n).map f) (j : Nat) = f j := by
  rw [gR_nat (by simp; exact h)]
  simp
theorem headsL_get {m j : Int} {sh : List Dd} {qs : List Rat} (h0 : 0 ≤ j) (h1 : j < m) : gI (headsL m sh qs) j = hdI qs sh j := by
  obtain ⟨k, rfl⟩ : ∃ n : Nat, j = (n : Int) := ⟨j.toNat, by omega⟩
  exact gI_range (by omega)
theorem topsL_get {m : Int} {j : Nat} {sh : List Dd} {qs : List Rat} (h1 : (j : Int) < m) : gI (topsL m sh qs) (j : Nat) = tpI qs sh (j : Int) := gI_range (by omega)
theorem ratesL_start {n : Nat} {hd : Int → Int} {g : List Int} {fs : List Rat} : ratesL n hd g fs 0 = List.replicate n 0 := by
  unfold ratesL
  simp
  refine List.ext_getElem (by simp) fun i h1 h2 => by simp
theorem ratesL_step {n i : Nat} {hd : Int → Int} {g : List Int} {fs : List Rat} (hg : g.Nodup) (hr : ∀ j ∈ g, 0 ≤ j ∧ j < (n : Int)) (hi : i < g.length) : ratesL n hd g fs (i + 1) = (ratesL n hd g fs i).set (g[i]).toNat ((hd g[i] : Rat) * gR fs (i : Nat)) := by
  have hm := hr g[i] (List.getElem_mem hi)
  have ei : (((g[i]).toNat : Nat) : Int) = g[i] := by omega
  have at_ : ∀ i j, j < n → (ratesL n hd g fs i)[j]? = some (if (j : Int) ∈ g.take i then (hd (j : Int) : Rat) * uL g (fun k => gR fs (k : Nat)) (j : Int) else 0) := fun i j hj => by
    unfold ratesL
    rw [List.getElem?_map, List.getElem?_range hj]
    rfl
  have ln : ∀ i, (ratesL n hd g fs i).length = n := fun i => by unfold ratesL; simp
  refine List.ext_getElem? fun j => ?_
  by_cases hj : j < n
  · rw [at_ (i + 1) j hj, List.getElem?_set]
    have et : g.take (i + 1) = g.take i ++ [g[i]] := take_succ_of (List.getElem?_eq_getElem hi)
    by_cases c : (g[i]).toNat = j
    · have e2 : (j : Int) = g[i] := by omega
      have e4 : (j : Int) ∈ g.take (i + 1) := by rw [et, e2]; exact List.mem_append_right _ (List.mem_singleton.mpr rfl)
      have e5 : (g[i]).toNat < (ratesL n hd g fs i).length := by rw [ln]; omega
      rw [if_pos c, if_pos e4, if_pos e5, e2, uL_at hg hi]
    · have e3 : (j : Int) ≠ g[i] := fun z => c (by omega)
      rw [if_neg c, at_ i j hj]
      by_cases c2 : (j : Int) ∈ g.take i
      · have e4 : (j : Int) ∈ g.take (i + 1) := by rw [et]; exact List.mem_append_left _ c2
        rw [if_pos e4, if_pos c2]
      · have e4 : ¬ (j : Int) ∈ g.take (i + 1) := by
          rw [et]
          intro z
          rcases List.mem_append.mp z with z | z
          · exact c2 z
          · exact e3 (List.mem_singleton.mp z)
        rw [if_neg e4, if_neg c2]
  · rw [List.getElem?_eq_none (by rw [ln]; omega), List.getElem?_eq_none (by rw [List.length_set, ln]; omega)]
theorem ratesL_end {n : Nat} {hd : Int → Int} {g : List Int} {fs : List Rat} {j : Nat} (hj : j < n) : gR (ratesL n hd g fs g.length) (j : Nat) = (hd (j : Int) : Rat) * uL g (fun k => gR fs (k : Nat)) (j : Int) := by
  unfold ratesL
  rw [gR_range hj, List.take_length]
  split
  · rfl
  · rename_i h
    rw [uL_out h]; grind
theorem ratesL_len {n i : Nat} {hd : Int → Int} {g : List Int} {fs : List Rat} : (ratesL n hd g fs i).length = n := by unfold ratesL; simp
theorem sto_ratL {S : Sto} {n : Nat} {v : List Rat} {i : Int} {q : Rat} {nx : Sto → Prop} (hS : S[n]? = some (.lst (ratL v))) (h0 : 0 ≤ i) (h1 : i < (v.length : Int)) (h : nx (S.set n (.lst (ratL (v.set i.toNat q))))) : kSto (pR q) nx (.cell n) (.int i) S := by
  obtain ⟨k, rfl⟩ : ∃ n : Nat, i = (n : Int) := ⟨i.toNat, by omega⟩
  have e : (ratL v)[k]? = some (pR v[k]) := by
    unfold ratL
    rw [List.getElem?_map, List.getElem?_eq_getElem (by omega)]
    rfl
  refine sto_put hS e ?_
  rw [ratL_set]
  rw [Int.toNat_natCast] at h
  exact h
end Ab.Cl

namespace Ab.Cl
open PySem L2
theorem isNW_pR {S : Sto} {k : KD} {g : Bool} {q : Rat} : isNW g (pR q) .non S k = k (.bl g) S := isNW_t
/-! ### a payee's row, due by due -/
theorem rowI_nil {L : List Int} {h : Int → Int} {p : Int} (hL : L.Nodup) {i : Nat} (hi : L[i]? = some p) : (zeros L.length).set i (h p) = rowI [] L h p := by
  have il := (List.getElem?_eq_some_iff.mp hi).1
  have ip := (List.getElem?_eq_some_iff.mp hi).2
  refine List.ext_getElem? fun j => ?_
  unfold rowI
  rw [List.getElem?_map, List.getElem?_set, zeros_len]
  by_cases c : i = j
  · subst c
    rw [if_pos rfl, if_pos il, hi]
    simp
  · rw [if_neg c]
    by_cases hj : j < L.length
    · have e := List.getElem?_eq_getElem hj
      have hne : L[j] ≠ p := fun z => c ((List.getElem_inj hL).mp (ip.trans z.symm))
      rw [e]
      unfold zeros
      rw [List.getElem?_replicate, if_pos hj]
      simp [hne]
    · rw [List.getElem?_eq_none (by rw [zeros_len]; omega), List.getElem?_eq_none (by omega)]
      rfl
theorem rowI_snoc {sm : List Dd} {L : List Int} {h : Int → Int} {p : Int} {x : Dd} (hn : ¬ (x.b = p ∧ x.a ∈ L)) : rowI (sm ++ [x]) L h p = rowI sm L h p := by
  unfold rowI
  refine List.map_congr_left fun q hq => ?_
  rw [List.map_append, List.sum_append]
  have : ¬ (x.b = p ∧ x.a = q) := fun z => hn ⟨z.1, z.2 ▸ hq⟩
  simp [this]
theorem rowI_set {sm : List Dd} {L : List Int} {h : Int → Int} {p : Int} {x : Dd} (hL : L.Nodup) (hb : x.b = p) {i : Nat} (hi : L[i]? = some x.a) : rowI (sm ++ [x]) L h p = (rowI sm L h p).set i (gI (rowI sm L h p) (i : Nat) - x.c) := by
  have il := (List.getElem?_eq_some_iff.mp hi).1
  have ip := (List.getElem?_eq_some_iff.mp hi).2
  refine List.ext_getElem? fun j => ?_
  rw [List.getElem?_set, rowI_len]
  by_cases c : i = j
  · subst c
    rw [if_pos rfl, if_pos il, rowI_get il, ip]
    unfold rowI
    rw [List.getElem?_map, hi]
    simp only [Option.map_some, List.map_append, List.sum_append]
    simp [hb]
    omega
  · rw [if_neg c]
    unfold rowI
    rw [List.getElem?_map, List.getElem?_map]
    by_cases hj : j < L.length
    · have e := List.getElem?_eq_getElem hj
      have hne : x.a ≠ L[j] := fun z => c ((List.getElem_inj hL).mp (ip.trans z))
      rw [e]
      simp [hne]
    · rw [List.getElem?_eq_none (by omega)]
      rfl
theorem mem_idx {L : List Int} {a : Int} (h : a ∈ L) : ∃ i : Nat, L[i]? = some a := List.mem_iff_getElem?.mp h
theorem idx_vI {v : List Int} {z : Int} {j : Nat} {S : Sto} {d : D} {k : KD} (hv : lview S d = some (vI v)) (hn : v.Nodup) (hj : v[j]? = some z) (h : k (.int (j : Int)) S) : idxF d [.int z] S k := by
  have hjl := (List.getElem?_eq_some_iff.mp hj).1
  refine ⟨_, j, .int z, hv, rfl, flat_vI, by unfold vI; rw [List.getElem?_map, hj]; rfl, by simp [eqF], fun i z' hi hz' => ?_, h⟩
  obtain ⟨y, hz, rfl⟩ := vI_get hz'
  have hne : y ≠ z := fun e => by
    subst e
    have hil := (List.getElem?_eq_some_iff.mp hz).1
    have := (List.getElem_inj hn (i := i) (j := j) (h₀ := hil) (h₁ := hjl)).mp (by rw [(List.getElem?_eq_some_iff.mp hz).2, (List.getElem?_eq_some_iff.mp hj).2])
    omega
  unfold eqF
  simp [hne]
/-! ### sizes of rows -/
def inI (sm : List Dd) (p : Int) : Int := (sm.map fun x => if x.b = p then x.c else 0).sum
theorem row_abs {sm : List Dd} {L : List Int} {h : Int → Int} {p : Int} (hL : L.Nodup) (hc : ∀ x ∈ sm, 0 < x.c) (h0 : 0 ≤ h p) : (Ab.sm L.length fun j => ((gI (rowI sm L h p) (j : Nat)).natAbs : Int)) ≤ h p + inI sm p := by
  have e1 : ∀ j, j < L.length → ((gI (rowI sm L h p) (j : Nat)).natAbs : Int) ≤ (if L.getD j 0 = p then h p else 0) + (sm.map fun x => if x.b = p ∧ x.a = L.getD j 0 then x.c else 0).sum := fun j hj => by
    have e : L.getD j 0 = L[j] := by rw [List.getD_eq_getElem?_getD, List.getElem?_eq_getElem hj]; rfl
    rw [rowI_get hj, e]
    have : 0 ≤ (sm.map fun x => if x.b = p ∧ x.a = L[j] then x.c else 0).sum := by
      have : ∀ xs : List Dd, (∀ x ∈ xs, 0 < x.c) → 0 ≤ (xs.map fun x => if x.b = p ∧ x.a = L[j] then x.c else 0).sum := fun xs => by
        induction xs with
        | nil => intro _; exact Int.le_refl _
        | cons x xs ih =>
          intro h
          rw [List.map_cons, List.sum_cons]
          have := ih fun y hy => h y (by simp [hy])
          have := h x (by simp)
          split <;> omega
      exact this sm hc
    split <;> omega
  refine Int.le_trans (sm_le e1) ?_
  rw [sm_add]
  have lst : ∀ (G : Int → Int) (n : Nat) (l : List Int), l.length = n → Ab.sm n (fun k => G (l.getD k 0)) = (l.map G).sum := fun G n => by
    induction n with
    | zero =>
      intro l h
      have : l = [] := List.length_eq_zero_iff.mp h
      subst this; rfl
    | succ n ih =>
      intro l h
      rcases List.eq_nil_or_concat l with e | ⟨l', a, e⟩
      · subst e; simp at h
      · rw [List.concat_eq_append] at e
        subst e
        have hl : l'.length = n := by simpa using h
        rw [Ab.sm, List.map_append, List.sum_append, ← ih l' hl]
        congr 1
        · refine sm_congr fun i hi => ?_
          rw [List.getD_eq_getElem?_getD, List.getElem?_append_left (by omega), List.getD_eq_getElem?_getD]
        · rw [List.getD_eq_getElem?_getD, List.getElem?_append_right (by omega), hl, Nat.sub_self]
          simp
  rw [lst (fun q => if q = p then h p else 0) L.length L rfl, lst (fun q => (sm.map fun x => if x.b = p ∧ x.a = q then x.c else 0).sum) L.length L rfl]
  have s1 : ∀ l : List Int, l.Nodup → (l.map fun q => if q = p then h p else 0).sum ≤ h p := fun l => by
    induction l with
    | nil => intro _; exact h0
    | cons a l ih =>
      intro hn
      obtain ⟨n1, n2⟩ := List.nodup_cons.mp hn
      rw [List.map_cons, List.sum_cons]
      by_cases c : a = p
      · rw [if_pos c]
        have : (l.map fun q => if q = p then h p else 0).sum = 0 := by
          have : ∀ l : List Int, p ∉ l → (l.map fun q => if q = p then h p else 0).sum = 0 := fun l => by
            induction l with
            | nil => intro _; rfl
            | cons b l ih2 =>
              intro hn
              rw [List.map_cons, List.sum_cons, ih2 fun z => hn (by simp [z]), if_neg fun z => hn (by simp [z])]
              rfl
          exact this l (c ▸ n1)
        omega
      · rw [if_neg c]
        have := ih n2
        omega
  have s2 : ∀ (xs : List Dd), (∀ x ∈ xs, 0 < x.c) → (L.map fun q => (xs.map fun x => if x.b = p ∧ x.a = q then x.c else 0).sum).sum ≤ inI xs p := fun xs => by
    induction xs with
    | nil =>
      intro _
      have : ∀ l : List Int, (l.map fun q => (([] : List Dd).map fun x => if x.b = p ∧ x.a = q then x.c else 0).sum).sum = 0 := fun l => by
        induction l with
        | nil => rfl
        | cons a l ih => rw [List.map_cons, List.sum_cons, ih]; rfl
      rw [this]
      exact Int.le_refl _
    | cons x xs ih =>
      intro hc
      have ih := ih fun y hy => hc y (by simp [hy])
      have hx := hc x (by simp)
      have e : (L.map fun q => ((x :: xs).map fun x => if x.b = p ∧ x.a = q then x.c else 0).sum).sum = (L.map fun q => if x.b = p ∧ x.a = q then x.c else 0).sum + (L.map fun q => (xs.map fun x => if x.b = p ∧ x.a = q then x.c else 0).sum).sum := by
        have : ∀ l : List Int, (l.map fun q => ((x :: xs).map fun x => if x.b = p ∧ x.a = q then x.c else 0).sum).sum = (l.map fun q => if x.b = p ∧ x.a = q then x.c else 0).sum + (l.map fun q => (xs.map fun x => if x.b = p ∧ x.a = q then x.c else 0).sum).sum := fun l => by
          induction l with
          | nil => rfl
          | cons a l ih => simp only [List.map_cons, List.sum_cons] at ih ⊢; omega
        exact this L
      have s3 : ∀ l : List Int, l.Nodup → (l.map fun q => if x.b = p ∧ x.a = q then x.c else 0).sum ≤ if x.b = p then x.c else 0 := fun l => by
        induction l with
        | nil => intro _; show 0 ≤ _; split <;> omega
        | cons a l ih =>
          intro hn
          obtain ⟨n1, n2⟩ := List.nodup_cons.mp hn
          rw [List.map_cons, List.sum_cons]
          by_cases c : x.b = p ∧ x.a = a
          · rw [if_pos c, if_pos c.1]
            have : (l.map fun q => if x.b = p ∧ x.a = q then x.c else 0).sum = 0 := by
              have : ∀ l : List Int, x.a ∉ l → (l.map fun q => if x.b = p ∧ x.a = q then x.c else 0).sum = 0 := fun l => by
                induction l with
                | nil => intro _; rfl
                | cons b l ih2 =>
                  intro hn
                  rw [List.map_cons, List.sum_cons, ih2 fun z => hn (by simp [z]), if_neg fun z => hn (by simp [z.2])]
                  rfl
              exact this l (c.2 ▸ n1)
            omega
          · rw [if_neg c]
            have := ih n2
            omega
      unfold inI at ih ⊢
      rw [e, List.map_cons, List.sum_cons]
      have := s3 L hL
      omega
  have := s1 L hL
  have := s2 sm hc
  omega
/-! ### what makes the lays whole -/
theorem wh_abs {N a : Int} {q : Rat} (h : Wh (N * a) q) : Wh (N * (a.natAbs : Int)) q := h.dvd (Int.mul_dvd_mul_left N (Int.dvd_natAbs.mpr (Int.dvd_refl a)))
structure StepN (m : Int) (N N' : Int) (qs' : List Rat) (σ' : Rat) : Prop where
  pos : 0 < N'
  all : AllWh m N' qs'
  sg : Wh N' σ'
/-- the step's time is the room of one member -/
theorem step_room {m N d hk Vk : Int} {qs qs' : List Rat} {σ t a : Rat} {hd : Int → Int} {V : Int → Int} {v : Int → Rat} (hN : 0 < N) (hw : AllWh m N qs) (hσ : Wh N σ) (hd0 : d ≠ 0) (hv : ∀ j : Int, 0 ≤ j → j < m → v j = (V j : Rat) / (d : Rat)) (ha : Wh N a) (hk0 : hk * Vk ≠ 0)
    (ht : t = a / ((hk : Rat) * ((Vk : Rat) / (d : Rat)))) (hq' : ∀ j : Int, 0 ≤ j → j < m → gR qs' j = gR qs j + (hd j : Rat) * v j * t) : 0 < N * ((hk * Vk).natAbs : Int) ∧ AllWh m (N * ((hk * Vk).natAbs : Int)) qs' ∧ Wh (N * ((hk * Vk).natAbs : Int)) t ∧ Wh (N * ((hk * Vk).natAbs : Int)) σ := by
  have hkr := dcast_ne hk0
  have hdr := dcast_ne hd0
  rw [Rat.intCast_mul] at hkr
  have k1 : (hk : Rat) ≠ 0 := fun z => hkr (by rw [z]; grind)
  have k2 : (Vk : Rat) ≠ 0 := fun z => hkr (by rw [z]; grind)
  have pos : 0 < N * ((hk * Vk).natAbs : Int) := Int.mul_pos hN (by omega)
  refine ⟨pos, fun j h0 h1 => ?_, ?_, hσ.more⟩
  · rw [hq' j h0 h1]
    refine Wh.add (hw j h0 h1).more (wh_abs ?_)
    have e : (hd j : Rat) * v j * t = (a * ((hd j * V j : Int) : Rat)) / ((hk * Vk : Int) : Rat) := by
      rw [hv j h0 h1, ht, Rat.intCast_mul, Rat.intCast_mul]
      grind
    rw [e]
    exact (ha.mulInt).divInt hk0
  · refine wh_abs ?_
    have e : t = (a * (d : Rat)) / ((hk * Vk : Int) : Rat) := by
      rw [ht, Rat.intCast_mul]
      grind
    rw [e]
    exact (ha.mulInt).divInt hk0
/-- the step's time is all that the purses are shut -/
theorem step_shut {m N d : Int} {qs qs' : List Rat} {σ : Rat} {hd : Int → Int} {V : Int → Int} {v : Int → Rat} (hN : 0 < N) (hw : AllWh m N qs) (hσ : Wh N σ) (hd0 : d ≠ 0) (hv : ∀ j : Int, 0 ≤ j → j < m → v j = (V j : Rat) / (d : Rat))
    (hq' : ∀ j : Int, 0 ≤ j → j < m → gR qs' j = gR qs j + (hd j : Rat) * v j * σ) : 0 < N * (d.natAbs : Int) ∧ AllWh m (N * (d.natAbs : Int)) qs' := by
  have hdr := dcast_ne hd0
  refine ⟨Int.mul_pos hN (by omega), fun j h0 h1 => ?_⟩
  rw [hq' j h0 h1]
  refine Wh.add (hw j h0 h1).more (wh_abs ?_)
  have e : (hd j : Rat) * v j * σ = (σ * ((hd j * V j : Int) : Rat)) / (d : Rat) := by
    rw [hv j h0 h1, Rat.intCast_mul]
    grind
  rw [e]
  exact (hσ.mulInt).divInt hd0
end Ab.Cl

namespace Ab.Cl
open PySem L2
/-- growing lays, by speeds that are parts of one bottom -/
structure GrowOk (m : Int) (sh : List Dd) (qs : List Rat) (B T P R : Nat) (d : Int) (V : Int → Int) (v : Int → Rat) (gs : List Rat) : Prop where
  d0 : d ≠ 0
  dB : d.natAbs ≤ P * B ^ m.toNat
  VB : ∀ j, (V j).natAbs ≤ P * B ^ m.toNat
  ve : ∀ j, v j = (V j : Rat) / (d : Rat)
  v0 : ∀ j, 0 ≤ v j
  gl : (gs.length : Int) = m
  ge : ∀ j : Int, 0 ≤ j → j < m → gR gs j = (hdI qs sh j : Rat) * v j
  gz : ∀ q ∈ gs, SzR (T * m.toNat + R + T + 2) q
theorem hd_nonneg {m : Int} {sh : List Dd} {qs : List Rat} (hs : ∀ x ∈ sh, x.Ok m) (j : Int) : 0 ≤ hdI qs sh j := by
  cases e : stQ qs sh j with
  | none => rw [hd_none e]; exact Int.le_refl _
  | some r => rw [hd_some e]; exact rkI_nonneg hs
theorem inI_nonneg {sm : List Dd} (hc : ∀ x ∈ sm, 0 < x.c) {p : Int} : 0 ≤ inI sm p := by
  unfold inI
  have : ∀ xs : List Dd, (∀ x ∈ xs, 0 < x.c) → 0 ≤ (xs.map fun x => if x.b = p then x.c else 0).sum := fun xs => by
    induction xs with
    | nil => intro _; exact Int.le_refl _
    | cons x xs ih =>
      intro h
      rw [List.map_cons, List.sum_cons]
      have := ih fun y hy => h y (by simp [hy])
      have := h x (by simp)
      split <;> omega
  exact this sm hc
theorem pow_bits {B T n : Nat} (hB : B < 2 ^ T) : B ^ n < 2 ^ (T * n + 1) := by
  have h1 : B ^ n ≤ (2 ^ T) ^ n := Nat.pow_le_pow_left (Nat.le_of_lt hB) _
  rw [← Nat.pow_mul] at h1
  exact Nat.lt_of_le_of_lt h1 (Nat.pow_lt_pow_right (by decide) (by omega))
theorem pow_bits2 {B T P R n : Nat} (hB : B < 2 ^ T) (hP : P ≤ 2 ^ R) : P * B ^ n < 2 ^ (T * n + R + 1) := by
  have h1 : B ^ n ≤ (2 ^ T) ^ n := Nat.pow_le_pow_left (Nat.le_of_lt hB) _
  rw [← Nat.pow_mul] at h1
  have h2 := Nat.mul_le_mul hP h1
  rw [← Nat.pow_add] at h2
  exact Nat.lt_of_le_of_lt h2 (Nat.pow_lt_pow_right (by decide) (by omega))
/-- the growth of a group in which coins go round -/
theorem round_grow {m : Int} {sh : List Dd} {qs : List Rat} {f : Int} {L hd : List Int} {B T P R : Nat} {d : Int} {V : Nat → Int} (hs : ∀ x ∈ sh, x.Ok m) (hG : GroupOk m sh qs (f :: L)) (hLm : (f :: L).length ≤ m.toNat) (hd0 : d ≠ 0) (hB : B < 2 ^ T) (hB1 : 1 ≤ B) (hT0 : 0 < T) (hPR : P ≤ 2 ^ R)
    (hhd : ∀ j : Int, 0 ≤ j → j < m → gI hd j = hdI qs sh j) (hdz : ∀ j : Int, 0 ≤ j → j < m → Sz T (hdI qs sh j)) (zd : d.natAbs ≤ P * B ^ L.length) (zV : ∀ j, j < L.length → (V j).natAbs ≤ P * B ^ L.length)
    (he : ∀ (i : Nat) (hi : i < L.length), (gI hd L[i] : Rat) * uL L (fun k => Rat.divInt (V k) d) L[i] = inF (someD qs sh) (uL L fun k => Rat.divInt (V k) d) L[i] + (fedI (someD qs sh) f L[i] : Rat)) :
    ∃ (V' : Int → Int) (v : Int → Rat), GrowOk m sh qs B T P R d V' v (ratesL m.toNat (gI hd) (f :: L) (1 :: (List.range L.length).map fun (j : Nat) => Rat.divInt (V j) d) (f :: L).length) ∧ v f = 1 ∧ ∀ p : Int, stQ qs sh p ≠ none → 0 ≤ p → p < m → (hdI qs sh p : Rat) * v p = inF (someD qs sh) v p := by
  obtain ⟨n1, n2⟩ := List.nodup_cons.mp hG.nd
  have hLl : L.length ≤ m.toNat := by rw [List.length_cons] at hLm; omega
  have hBL : P * B ^ L.length ≤ P * B ^ m.toNat := Nat.mul_le_mul_left _ (Nat.pow_le_pow_right hB1 hLl)
  have hdr := dcast_ne hd0
  have hc := fun x hx => (some_c (qs := qs) (sh := sh) x hx).1
  have hr := hG.rng
  let u : Int → Rat := uL L fun k => Rat.divInt (V k) d
  let v : Int → Rat := fun p => if p = f then 1 else u p
  have uz : ∀ p, p ∉ L → u p = 0 := fun p hp => uL_out hp
  have uf : u f = 0 := uz f n1
  have vin : ∀ p, inF (someD qs sh) v p = inF (someD qs sh) u p + (fedI (someD qs sh) f p : Rat) := fun p => by
    unfold inF fedI
    rw [sum_cast, ← sum_add]
    refine sum_congr fun x hx => ?_
    show (if x.b = p then (x.c : Rat) * (if x.a = f then 1 else u x.a) else 0) = (if x.b = p then (x.c : Rat) * u x.a else 0) + (((if x.a = f ∧ x.b = p then x.c else 0 : Int)) : Rat)
    by_cases c1 : x.b = p
    · by_cases c2 : x.a = f
      · rw [if_pos c1, if_pos c1, if_pos c2, if_pos ⟨c2, c1⟩, c2, uf]; grind
      · rw [if_pos c1, if_pos c1, if_neg c2, if_neg fun z => c2 z.1]
        have : ((0 : Int) : Rat) = 0 := rfl
        grind
    · rw [if_neg c1, if_neg c1, if_neg fun z => c1 z.2]
      have : ((0 : Int) : Rat) = 0 := rfl
      grind
  have vL : ∀ p ∈ L, v p = u p := fun p hp => if_neg fun (e : p = f) => n1 (by rw [← e]; exact hp)
  have heL : ∀ p ∈ L, (hdI qs sh p : Rat) * v p = inF (someD qs sh) v p := fun p hp => by
    obtain ⟨i, hi, rfl⟩ := List.mem_iff_getElem.mp hp
    have := he i hi
    have r1 := hr L[i] (by simp [hp])
    rw [hhd _ r1.1 r1.2.1] at this
    rw [vL _ hp, vin]
    exact this
  obtain ⟨hv0, hall⟩ := round_speeds hs hG (v := v) (fun p hp => by
    have h1 : p ≠ f := fun e => hp (by simp [e])
    have h2 : p ∉ L := fun e => hp (by simp [e])
    show (if p = f then 1 else u p) = 0
    rw [if_neg h1, uz p h2]) (if_pos rfl) heL
  have vz : ∀ p, p ∉ f :: L → v p = 0 := fun p hp => by
    have h1 : p ≠ f := fun e => hp (by simp [e])
    have h2 : p ∉ L := fun e => hp (by simp [e])
    show (if p = f then 1 else u p) = 0
    rw [if_neg h1, uz p h2]
  have vu : ∀ p, uL (f :: L) (fun k => gR (1 :: (List.range L.length).map fun (j : Nat) => Rat.divInt (V j) d) (k : Nat)) p = v p := fun p => by
    unfold uL
    by_cases c : p = f
    · rw [if_pos (by simp [c]), c, List.idxOf_cons_self]
      show gR _ _ = if f = f then 1 else u f
      rw [if_pos rfl]
      rfl
    · by_cases c2 : p ∈ L
      · rw [if_pos (by simp [c2])]
        have hne : (f == p) = false := by
          rw [beq_eq_false_iff_ne]; exact fun e => c e.symm
        rw [List.idxOf_cons, hne]
        show gR _ ((List.idxOf p L + 1 : Nat) : Int) = if p = f then 1 else u p
        rw [if_neg c]
        have il := List.idxOf_lt_length_of_mem c2
        rw [gR_nat (by rw [List.length_cons, List.length_map, List.length_range]; omega), List.getElem_cons_succ]
        simp only [List.getElem_map, List.getElem_range]
        show _ = uL L _ p
        unfold uL
        rw [if_pos c2]
      · rw [if_neg (by simp [c, c2])]
        show 0 = if p = f then 1 else u p
        rw [if_neg c, uz p c2]
  let V' : Int → Int := fun p => if p = f then d else if p ∈ L then V (L.idxOf p) else 0
  have hV : ∀ p, v p = (V' p : Rat) / (d : Rat) := fun p => by
    show (if p = f then 1 else u p) = ((if p = f then d else if p ∈ L then V (L.idxOf p) else 0 : Int) : Rat) / (d : Rat)
    by_cases c : p = f
    · rw [if_pos c, if_pos c]; grind
    · rw [if_neg c, if_neg c]
      show uL L _ p = _
      unfold uL
      by_cases c2 : p ∈ L
      · rw [if_pos c2, if_pos c2]; exact divInt_rat _ _
      · rw [if_neg c2, if_neg c2]; have : ((0 : Int) : Rat) = 0 := rfl; grind
  have hVB : ∀ p, (V' p).natAbs ≤ P * B ^ m.toNat := fun p => by
    show (if p = f then d else if p ∈ L then V (L.idxOf p) else 0).natAbs ≤ _
    split
    · exact Nat.le_trans zd hBL
    · split
      · rename_i hp
        exact Nat.le_trans (zV _ (List.idxOf_lt_length_of_mem hp)) hBL
      · exact Nat.zero_le _
  have hge : ∀ j : Int, 0 ≤ j → j < m → gR (ratesL m.toNat (gI hd) (f :: L) (1 :: (List.range L.length).map fun (j : Nat) => Rat.divInt (V j) d) (f :: L).length) j = (hdI qs sh j : Rat) * v j := fun j j0 j1 => by
    obtain ⟨n, rfl⟩ : ∃ n : Nat, j = (n : Int) := ⟨j.toNat, by omega⟩
    rw [ratesL_end (by omega), vu, hhd _ j0 j1]
  refine ⟨V', v, ⟨hd0, Nat.le_trans zd hBL, hVB, hV, hv0, ?_, hge, fun q hq => ?_⟩, if_pos rfl, fun p hst h0 h1 => ?_⟩
  · rw [ratesL_len]
    have := (hr f (by simp)).1
    have := (hr f (by simp)).2.1
    omega
  · obtain ⟨j, hj, rfl⟩ := List.mem_iff_getElem.mp hq
    have hj' : j < m.toNat := by rw [ratesL_len] at hj; exact hj
    rw [← gR_nat hj, hge (j : Int) (by omega) (by omega)]
    have s1 := hdz (j : Int) (by omega) (by omega)
    have hbm := pow_bits2 (n := m.toNat) hB hPR
    have s2 : SzR (T * m.toNat + R + 1) (v (j : Int)) := by
      rw [hV, ← divInt_rat]
      exact SzR.div hd0 (Nat.lt_of_le_of_lt (hVB _) hbm) (Nat.lt_of_le_of_lt (Nat.le_trans zd hBL) hbm)
    exact ((SzR.int s1 hT0).mul s2).mono (by omega)
  · by_cases c : p ∈ f :: L
    · exact hall p c
    · rw [vz p c, round_in hG vz c]; grind
end Ab.Cl

namespace Ab.Cl
open PySem L2
/-! ### what the whole sheet comes to -/
def allC (sh : List Dd) : Int := (sh.map Dd.c).sum
section
variable {m : Int} {sh : List Dd} {qs : List Rat} {ps : List Int}
theorem isum_mono {α : Type} {f g : α → Int} : ∀ {xs : List α}, (∀ x ∈ xs, f x ≤ g x) → (xs.map f).sum ≤ (xs.map g).sum
  | [], _ => Int.le_refl _
  | x :: xs, h => by
    rw [List.map_cons, List.map_cons, List.sum_cons, List.sum_cons]
    have := h x (by simp)
    have := isum_mono (xs := xs) (f := f) (g := g) fun y hy => h y (by simp [hy])
    omega
theorem isum_add {α : Type} {f g : α → Int} : ∀ {xs : List α}, (xs.map fun x => f x + g x).sum = (xs.map f).sum + (xs.map g).sum
  | [] => rfl
  | x :: xs => by
    rw [List.map_cons, List.map_cons, List.map_cons, List.sum_cons, List.sum_cons, List.sum_cons, isum_add]
    omega
theorem isum_filter {α : Type} {p : α → Bool} {f : α → Int} : ∀ {xs : List α}, ((xs.filter p).map f).sum = (xs.map fun x => if p x = true then f x else 0).sum
  | [] => rfl
  | x :: xs => by
    rw [List.filter_cons, List.map_cons, List.sum_cons]
    split
    · rw [List.map_cons, List.sum_cons, isum_filter]
    · rw [isum_filter]; omega
theorem rkT_all (hs : ∀ x ∈ sh, x.Ok m) (j : Int) : rkT sh j ≤ allC sh := by
  unfold rkT rkI allC
  rw [← isum_add, ← isum_add]
  refine isum_mono fun x hx => ?_
  have := hs x hx
  unfold Dd.Ok at this
  by_cases c : x.a = j
  · rcases three this.2.2.2.2.2.1 this.2.2.2.2.2.2.1 with e | e | e <;> simp [c, e]
  · simp [c]; omega
theorem hd_le (hs : ∀ x ∈ sh, x.Ok m) (hq : ∀ j : Int, 0 ≤ j → j < m → 0 ≤ gR qs j) {j : Int} (h0 : 0 ≤ j) (h1 : j < m) : hdI qs sh j ≤ rkT sh j := by
  cases e : stQ qs sh j with
  | none => rw [hd_none e]; exact rkT_nonneg hs
  | some r =>
    obtain ⟨r0, r1, _⟩ := st_some (hq j h0 h1) e
    have := ah_nn hs r0 r1 (j := j)
    rw [hd_some e]
    omega
theorem tp_le (hs : ∀ x ∈ sh, x.Ok m) (hq : ∀ j : Int, 0 ≤ j → j < m → 0 ≤ gR qs j) {j : Int} (h0 : 0 ≤ j) (h1 : j < m) : 0 ≤ tpI qs sh j ∧ tpI qs sh j ≤ rkT sh j := by
  cases e : stQ qs sh j with
  | none => unfold tpI; rw [e]; exact ⟨Int.le_refl _, rkT_nonneg hs⟩
  | some r =>
    obtain ⟨r0, r1, _⟩ := st_some (hq j h0 h1) e
    have := ah_nn hs r0 r1 (j := j)
    rw [tp_some e]
    omega
/-- what a member lays out and gets at once is no more than all -/
theorem row_le (hs : ∀ x ∈ sh, x.Ok m) (hq : ∀ j : Int, 0 ≤ j → j < m → 0 ≤ gR qs j) {j : Int} (h0 : 0 ≤ j) (h1 : j < m) : hdI qs sh j + inI (someD qs sh) j ≤ allC sh := by
  have hle := hd_le hs hq h0 h1
  have : rkT sh j + inI (someD qs sh) j ≤ allC sh := by
    unfold rkT rkI allC inI someD
    rw [isum_filter, ← isum_add, ← isum_add, ← isum_add]
    refine isum_mono fun x hx => ?_
    have := hs x hx
    unfold Dd.Ok at this
    by_cases c : x.a = j
    · have hb : x.b ≠ j := fun z => this.2.2.2.2.1 (c.trans z.symm)
      rcases three this.2.2.2.2.2.1 this.2.2.2.2.2.2.1 with e | e | e <;> simp [c, e, hb]
    · by_cases hb : x.b = j
      · simp [c, hb]
        split <;> omega
      · simp [c, hb]
        omega
  omega
theorem fed_le {sm : List Dd} (hc : ∀ x ∈ sm, 0 < x.c) {f p : Int} : fedI sm f p ≤ inI sm p := by
  unfold fedI inI
  refine isum_mono fun x hx => ?_
  have := hc x hx
  by_cases c : x.b = p
  · simp [c]; split <;> omega
  · simp [c]
theorem in_le_all (hs : ∀ x ∈ sh, x.Ok m) {p : Int} : inI (someD qs sh) p ≤ allC sh := by
  unfold inI someD allC
  rw [isum_filter]
  refine isum_mono fun x hx => ?_
  have := hs x hx
  unfold Dd.Ok at this
  split
  · split <;> omega
  · omega
/-- the lays of the greatest clearing, as the program tells them -/
structure Clrd (m : Int) (sh : List Dd) (ps : List Int) (qs : List Rat) : Prop where
  hl : (qs.length : Int) = m
  q0 : ∀ j : Int, 0 ≤ j → j < m → 0 ≤ gR qs j ∧ gR qs j ≤ (rkT sh j : Rat)
  eq : ∀ j r : Int, 0 ≤ j → j < m → stQ qs sh j = some r → gR qs j = (gI ps j : Rat) + gotP qs sh sh j
  ge : ∀ j : Int, 0 ≤ j → j < m → stQ qs sh j = none → (rkT sh j : Rat) ≤ (gI ps j : Rat) + gotP qs sh sh j
  ns : NoShut m sh qs
theorem ClI.done (I : ClI m sh ps qs 0) (h : NoShut m sh qs) : Clrd m sh ps qs := ⟨I.hl, I.q0, fun j r h0 h1 e => by rw [I.eq j r h0 h1 e]; grind, fun j h0 h1 e => by have := I.ge j h0 h1 e; grind, h⟩
theorem Clrd.fix (C : Clrd m sh ps qs) (hs : ∀ x ∈ sh, x.Ok m) : FixR m qs sh ps := fun j hj => by
  have hp : posL qs = qs := posL_self fun q hq => by
    obtain ⟨i, hi, rfl⟩ := List.mem_iff_getElem.mp hq
    have := C.q0 (i : Int) (by omega) (by have := C.hl; omega)
    rw [gR_nat hi] at this
    exact this.1
  rw [hp]
  unfold nextR
  rw [owes_rkT hs (by omega)]
  cases e : stQ qs sh (j : Int) with
  | none =>
    have h1 := C.ge j (by omega) hj e
    have h2 := st_none e
    have h3 := (C.q0 (j : Int) (by omega) hj).2
    split <;> grind
  | some r =>
    have h1 := C.eq j r (by omega) hj e
    have h2 := (st_short hs (C.q0 (j : Int) (by omega) hj).1 e).1
    split <;> grind
end
end Ab.Cl

namespace Ab.Cl
open PySem L2
section
variable {m : Int} {sh : List Dd} {ps : List Int} {qs gs : List Rat} {σ : Rat} {B T P R : Nat} {d : Int} {V : Int → Int} {v : Int → Rat} {o : Option Rat} {t : Rat}
theorem grownL_len {n : Nat} : (grownL n qs gs t).length = n := by unfold grownL; simp
theorem grown_get (G : GrowOk m sh qs B T P R d V v gs) {j : Int} (h0 : 0 ≤ j) (h1 : j < m) : gR (grownL m.toNat qs gs t) j = gR qs j + (hdI qs sh j : Rat) * v j * t := by
  obtain ⟨n, rfl⟩ : ∃ n : Nat, j = (n : Int) := ⟨j.toNat, by omega⟩
  unfold grownL
  rw [gR_range (by omega), G.ge _ h0 h1]
theorem room_top (hs : ∀ x ∈ sh, x.Ok m) (I : ClI m sh ps qs σ) (G : GrowOk m sh qs B T P R d V v gs) (hR : RoomOk m.toNat (fun j => gI (topsL m sh qs) (j : Nat)) qs gs o) (ht : ∀ t', o = some t' → t ≤ t') (j r : Int) (h0 : 0 ≤ j) (h1 : j < m) (hst : stQ qs sh j = some r) :
    gR qs j + (rkI sh j r : Rat) * v j * t ≤ ((ahI sh j r + rkI sh j r : Int) : Rat) := by
  obtain ⟨n, rfl⟩ : ∃ n : Nat, j = (n : Int) := ⟨j.toNat, by omega⟩
  have hq := st_some (I.nn _ h0 h1) hst
  have hg := G.ge _ h0 h1
  rw [hd_some hst] at hg
  have k0 : (0 : Rat) ≤ (rkI sh (n : Int) r : Rat) := by exact_mod_cast rkI_nonneg hs
  have g0 := Rat.mul_nonneg k0 (G.v0 (n : Int))
  by_cases c : 0 < gR gs (n : Nat)
  · obtain ⟨t', e1, e2⟩ := hR.le n (by omega) c
    have e3 := ht t' e1
    have et : gI (topsL m sh qs) (n : Nat) = ahI sh (n : Int) r + rkI sh (n : Int) r := by rw [topsL_get h1, tp_some hst]
    simp only [et] at e2
    have e4 : gR gs (n : Nat) * t ≤ ((ahI sh (n : Int) r + rkI sh (n : Int) r : Int) : Rat) - gR qs (n : Nat) := by
      have h3 := Rat.le_trans e3 e2
      have h4 := Rat.mul_le_mul_of_nonneg_left h3 (Rat.le_of_lt c)
      have h5 : gR gs (n : Nat) * ((((ahI sh (n : Int) r + rkI sh (n : Int) r : Int) : Rat) - gR qs (n : Nat)) / gR gs (n : Nat)) = ((ahI sh (n : Int) r + rkI sh (n : Int) r : Int) : Rat) - gR qs (n : Nat) := by grind
      rw [h5] at h4
      exact h4
    rw [← hg]
    grind
  · have : gR gs (n : Nat) = 0 := by
      rw [← hg] at g0
      grind
    rw [← hg, this]
    have := hq.2.2.2
    grind
theorem room_at (hs : ∀ x ∈ sh, x.Ok m) (I : ClI m sh ps qs σ) (G : GrowOk m sh qs B T P R d V v gs) (hR : RoomOk m.toNat (fun j => gI (topsL m sh qs) (j : Nat)) qs gs (some t)) :
    0 < t ∧ ∃ k r : Int, 0 ≤ k ∧ k < m ∧ stQ qs sh k = some r ∧ 0 < rkI sh k r ∧ V k ≠ 0 ∧ t = (((ahI sh k r + rkI sh k r : Int) : Rat) - gR qs k) / ((rkI sh k r : Rat) * ((V k : Rat) / (d : Rat))) ∧ ((ahI sh k r + rkI sh k r : Int) : Rat) = gR qs k + (hdI qs sh k : Rat) * v k * t := by
  obtain ⟨n, hn, hg, ht⟩ := hR.at_ t rfl
  have h0 : (0 : Int) ≤ (n : Int) := by omega
  have h1 : (n : Int) < m := by omega
  have he := G.ge _ h0 h1
  cases hst : stQ qs sh (n : Int) with
  | none =>
    rw [hd_none hst] at he
    rw [he] at hg
    have : ((0 : Int) : Rat) * v (n : Int) = 0 := by have : ((0 : Int) : Rat) = 0 := rfl; grind
    rw [this] at hg
    exact absurd hg (Rat.lt_irrefl)
  | some r =>
    have hq := st_some (I.nn _ h0 h1) hst
    have hk := (st_short hs (I.nn _ h0 h1) hst).2
    have et : gI (topsL m sh qs) (n : Nat) = ahI sh (n : Int) r + rkI sh (n : Int) r := by rw [topsL_get h1, tp_some hst]
    simp only [et] at ht
    rw [hd_some hst] at he
    have hV : V (n : Int) ≠ 0 := fun z => by
      rw [he, G.ve, z] at hg
      have : ((0 : Int) : Rat) = 0 := rfl
      have : (rkI sh (n : Int) r : Rat) * (((0 : Int) : Rat) / (d : Rat)) = 0 := by grind
      rw [this] at hg
      exact absurd hg (Rat.lt_irrefl)
    have hpos : 0 < ((ahI sh (n : Int) r + rkI sh (n : Int) r : Int) : Rat) - gR qs (n : Int) := by
      have := hq.2.2.2
      grind
    refine ⟨?_, (n : Int), r, h0, h1, hst, hk, hV, ?_, ?_⟩
    · rw [ht]
      rw [Rat.div_def]
      exact Rat.mul_pos hpos (Rat.inv_pos.mpr hg)
    · rw [ht, he, G.ve]
    · rw [hd_some hst, ← he, ht]
      grind
/-- the state behind a step -/
structure StepOk (m : Int) (sh : List Dd) (ps : List Int) (qs : List Rat) (σ : Rat) (N : Int) (qs' : List Rat) (σ' : Rat) (N' : Int) : Prop where
  inv : ClI m sh ps qs' σ'
  pos : 0 < N'
  all : AllWh m N' qs'
  sg : Wh N' σ'
  less : openN m sh qs' + (if σ' = 0 then 0 else 1) < openN m sh qs + (if σ = 0 then 0 else 1)
  up : ∀ j : Int, 0 ≤ j → j < m → gR qs j ≤ gR qs' j
theorem openN_mono {qs' : List Rat} (up : ∀ j : Int, 0 ≤ j → j < m → gR qs j ≤ gR qs' j) : openN m sh qs' ≤ openN m sh qs := by
  unfold openN
  refine countP_down fun p hp hP => ?_
  rw [Bool.and_eq_true, decide_eq_true_eq, decide_eq_true_eq] at hP ⊢
  have := pairs_in hp
  exact ⟨hP.1, rle_lt (up p.1 this.1 (by omega)) hP.2⟩
/-- coins go round -/
theorem step_round {N : Int} (hs : ∀ x ∈ sh, x.Ok m) (I : ClI m sh ps qs σ) (p0 : ∀ j : Int, 0 ≤ gI ps j) (hN : 0 < N) (hW : AllWh m N qs) (hσ : Wh N σ) (G : GrowOk m sh qs B T P R d V v gs) (hB : B < 2 ^ T) (hPR : P ≤ 2 ^ R) (hdz : ∀ j : Int, 0 ≤ j → j < m → Sz T (hdI qs sh j))
    (bal : ∀ p : Int, stQ qs sh p ≠ none → 0 ≤ p → p < m → (hdI qs sh p : Rat) * v p = inF (someD qs sh) v p) (hR : RoomOk m.toNat (fun j => gI (topsL m sh qs) (j : Nat)) qs gs (some t)) :
    ∃ g : Int, 0 < g ∧ Sz (T * m.toNat + R + T + 1) g ∧ StepOk m sh ps qs σ N (grownL m.toNat qs gs t) σ (N * g) := by
  obtain ⟨tp, k, r, k0, k1, hst, hk, hV, ht, htop⟩ := room_at hs I G hR
  have hst' : hdI qs sh k = rkI sh k r := hd_some hst
  have m0 : 0 ≤ m := by omega
  obtain ⟨inv, up⟩ := I.step hs (v := v) (t := t) (e := 0) (Rat.le_of_lt tp) Rat.le_refl I.s0 G.v0 p0 (fun j r j0 j1 h => by
    have := bal j (by rw [h]; intro z; cases z) j0 j1
    rw [hd_some h] at this
    rw [this]; grind) (room_top hs I G hR (fun t' e => by cases e; exact Rat.le_refl)) (qs' := grownL m.toNat qs gs t) (by rw [grownL_len]; omega) (fun j j0 j1 => grown_get G j0 j1)
  have e0 : σ - 0 = σ := by grind
  rw [e0] at inv
  have hkV : hdI qs sh k * V k ≠ 0 := Int.mul_ne_zero (by omega) hV
  obtain ⟨w1, w2, w3, w4⟩ := step_room (hd := fun j => hdI qs sh j) (qs' := grownL m.toNat qs gs t) (hk := hdI qs sh k) (Vk := V k) (t := t) hN hW hσ G.d0 (fun j _ _ => G.ve j) (a := ((ahI sh k r + rkI sh k r : Int) : Rat) - gR qs k) (Wh.int.sub (hW k k0 k1)) hkV (by rw [hst']; exact ht) (fun j j0 j1 => grown_get G j0 j1)
  refine ⟨((hdI qs sh k * V k).natAbs : Int), by omega, ?_, inv, w1, w2, w4, ?_, up⟩
  · have s1 := hdz k k0 k1
    have s2 : Sz (T * m.toNat + R + 1) (V k) := Nat.lt_of_le_of_lt (G.VB k) (pow_bits2 hB hPR)
    have s3 := s1.mul s2
    exact (s3.of_abs (by rw [Int.natAbs_natCast]; exact Nat.le_refl _)).mono (by omega)
  · have := openN_lt (m := m) hs up k0 k1 (I.nn k k0 k1) hst (by rw [grown_get G k0 k1, ← htop]; exact Rat.le_refl)
    omega
/-- purses opened till a rank is paid -/
theorem step_open {N : Int} (hs : ∀ x ∈ sh, x.Ok m) (I : ClI m sh ps qs σ) (p0 : ∀ j : Int, 0 ≤ gI ps j) (hN : 0 < N) (hW : AllWh m N qs) (hσ : Wh N σ) (G : GrowOk m sh qs B T P R d V v gs) (hB : B < 2 ^ T) (hPR : P ≤ 2 ^ R) (hdz : ∀ j : Int, 0 ≤ j → j < m → Sz T (hdI qs sh j))
    (bal : ∀ p : Int, 0 ≤ p → p < m → stQ qs sh p ≠ none → (hdI qs sh p : Rat) * v p = inF (someD qs sh) v p + (gI ps p : Rat)) (hR : RoomOk m.toNat (fun j => gI (topsL m sh qs) (j : Nat)) qs gs (some t)) (hle : t ≤ σ) :
    ∃ g : Int, 0 < g ∧ Sz (T * m.toNat + R + T + 1) g ∧ StepOk m sh ps qs σ N (grownL m.toNat qs gs t) (σ - t) (N * g) := by
  obtain ⟨tp, k, r, k0, k1, hst, hk, hV, ht, htop⟩ := room_at hs I G hR
  have hst' : hdI qs sh k = rkI sh k r := hd_some hst
  have m0 : 0 ≤ m := by omega
  obtain ⟨inv, up⟩ := I.step hs (v := v) (t := t) (e := t) (Rat.le_of_lt tp) (Rat.le_of_lt tp) hle G.v0 p0 (fun j r j0 j1 h => by
    have := bal j j0 j1 (by rw [h]; intro z; cases z)
    rw [hd_some h] at this
    rw [this]; grind) (room_top hs I G hR (fun t' e => by cases e; exact Rat.le_refl)) (qs' := grownL m.toNat qs gs t) (by rw [grownL_len]; omega) (fun j j0 j1 => grown_get G j0 j1)
  have hkV : hdI qs sh k * V k ≠ 0 := Int.mul_ne_zero (by omega) hV
  obtain ⟨w1, w2, w3, w4⟩ := step_room (hd := fun j => hdI qs sh j) (qs' := grownL m.toNat qs gs t) (hk := hdI qs sh k) (Vk := V k) (t := t) hN hW hσ G.d0 (fun j _ _ => G.ve j) (a := ((ahI sh k r + rkI sh k r : Int) : Rat) - gR qs k) (Wh.int.sub (hW k k0 k1)) hkV (by rw [hst']; exact ht) (fun j j0 j1 => grown_get G j0 j1)
  refine ⟨((hdI qs sh k * V k).natAbs : Int), by omega, ?_, inv, w1, w2, w4.sub w3, ?_, up⟩
  · have s1 := hdz k k0 k1
    have s2 : Sz (T * m.toNat + R + 1) (V k) := Nat.lt_of_le_of_lt (G.VB k) (pow_bits2 hB hPR)
    have s3 := s1.mul s2
    exact (s3.of_abs (by rw [Int.natAbs_natCast]; exact Nat.le_refl _)).mono (by omega)
  · have := openN_lt (m := m) hs up k0 k1 (I.nn k k0 k1) hst (by rw [grown_get G k0 k1, ← htop]; exact Rat.le_refl)
    have : σ ≠ 0 := by intro z; rw [z] at hle; grind
    rw [if_neg this]
    split <;> omega
/-- purses opened wholly -/
theorem step_last {N : Int} (hs : ∀ x ∈ sh, x.Ok m) (I : ClI m sh ps qs σ) (m0 : 0 ≤ m) (p0 : ∀ j : Int, 0 ≤ gI ps j) (hN : 0 < N) (hW : AllWh m N qs) (hσ : Wh N σ) (G : GrowOk m sh qs B T P R d V v gs) (hB : B < 2 ^ T) (hPR : P ≤ 2 ^ R)
    (bal : ∀ p : Int, 0 ≤ p → p < m → stQ qs sh p ≠ none → (hdI qs sh p : Rat) * v p = inF (someD qs sh) v p + (gI ps p : Rat)) (hR : RoomOk m.toNat (fun j => gI (topsL m sh qs) (j : Nat)) qs gs o) (hle : ∀ t', o = some t' → σ ≤ t') (h0 : σ ≠ 0) :
    ∃ g : Int, 0 < g ∧ Sz (T * m.toNat + R + T + 1) g ∧ StepOk m sh ps qs σ N (grownL m.toNat qs gs σ) (σ - σ) (N * g) := by
  obtain ⟨inv, up⟩ := I.step hs (v := v) (t := σ) (e := σ) I.s0 I.s0 Rat.le_refl G.v0 p0 (fun j r j0 j1 h => by
    have := bal j j0 j1 (by rw [h]; intro z; cases z)
    rw [hd_some h] at this
    rw [this]; grind) (room_top hs I G hR hle) (qs' := grownL m.toNat qs gs σ) (by rw [grownL_len]; omega) (fun j j0 j1 => grown_get G j0 j1)
  obtain ⟨w1, w2⟩ := step_shut (hd := fun j => hdI qs sh j) (qs' := grownL m.toNat qs gs σ) hN hW hσ G.d0 (fun j _ _ => G.ve j) (fun j j0 j1 => grown_get G j0 j1)
  have hd0 := G.d0
  have e0 : σ - σ = 0 := by grind
  refine ⟨(d.natAbs : Int), by omega, ?_, inv, w1, w2, by rw [e0]; exact Wh.zero, ?_, up⟩
  · have s2 : Sz (T * m.toNat + R + 1) d := Nat.lt_of_le_of_lt G.dB (pow_bits2 hB hPR)
    exact (s2.of_abs (by rw [Int.natAbs_natCast]; exact Nat.le_refl _)).mono (by omega)
  · have := openN_mono (sh := sh) up
    rw [e0, if_pos rfl, if_neg h0]
    omega
end
end Ab.Cl

namespace Ab.Cl
open PySem L2
section
variable {m : Int} {sh : List Dd} {ps : List Int} {qs rs : List Rat}
/-- a due where its payer stands is paid more when the lay is more -/
theorem pay_more (hs : ∀ x ∈ sh, x.Ok m) {x : Dd} (hx : x ∈ someD qs sh) (hq : 0 ≤ gR qs x.a) (h : gR qs x.a < gR rs x.a) : payR qs sh x < payR rs sh x := by
  obtain ⟨c0, hxs, hst⟩ := some_c x hx
  obtain ⟨r0, r1, a1, a2⟩ := st_some hq hst
  have hk := (st_short hs hq hst).2
  have hkr : (0 : Rat) < (rkI sh x.a x.r : Rat) := by exact_mod_cast hk
  have hcr : (0 : Rat) < (x.c : Rat) := c_pos c0
  rw [payR_clamp hs hxs hq (by omega), payR_clamp hs hxs (by grind) (by omega)]
  have e1 : clampR (gR qs x.a) (ahI sh x.a x.r : Int) (rkI sh x.a x.r : Int) < clampR (gR rs x.a) (ahI sh x.a x.r : Int) (rkI sh x.a x.r : Int) := by
    rw [Rat.intCast_add] at a2
    unfold clampR
    grind
  rw [Rat.div_def, Rat.div_def]
  have hi := Rat.inv_pos.mpr hkr
  exact Rat.mul_lt_mul_of_pos_right (Rat.mul_lt_mul_of_pos_right e1 hcr) hi
/-- nothing that is laid out within what is had is above the lays told -/
theorem Clrd.great (hs : ∀ x ∈ sh, x.Ok m) (C : Clrd m sh ps qs) (h0 : ∀ j : Int, 0 ≤ j → j < m → 0 ≤ gR rs j ∧ gR rs j ≤ (rkT sh j : Rat)) (h1 : ∀ j : Int, 0 ≤ j → j < m → gR rs j ≤ (gI ps j : Rat) + gotP rs sh sh j) : ∀ j : Int, 0 ≤ j → j < m → gR rs j ≤ gR qs j := by
  let L : List Int := ((List.range m.toNat).filter fun (k : Nat) => decide (gR qs (k : Nat) < gR rs (k : Nat))).map fun (k : Nat) => (k : Int)
  have Ln : L.Nodup := map_nodup (fun a b h => by omega) (List.nodup_range.sublist List.filter_sublist)
  have Lm : ∀ j : Int, j ∈ L ↔ 0 ≤ j ∧ j < m ∧ gR qs j < gR rs j := fun j => by
    show j ∈ ((List.range m.toNat).filter _).map _ ↔ _
    rw [List.mem_map]
    constructor
    · rintro ⟨k, hk, rfl⟩
      obtain ⟨a1, a2⟩ := List.mem_filter.mp hk
      have := List.mem_range.mp a1
      exact ⟨by omega, by omega, by simpa using a2⟩
    · rintro ⟨a0, a1, a2⟩
      have e : ((j.toNat : Nat) : Int) = j := by omega
      refine ⟨j.toNat, List.mem_filter.mpr ⟨List.mem_range.mpr (by omega), ?_⟩, e⟩
      rw [e]
      simpa using a2
  let D : Dd → Rat := fun x => payR rs sh x - payR qs sh x
  have hqn := fun j a b => (C.q0 j a b).1
  have Dpos : ∀ x ∈ sh, x.a ∈ L → 0 ≤ D x := fun x hx ha => by
    obtain ⟨a0, a1, a2⟩ := (Lm _).mp ha
    have := payR_mono (ps := rs) hs hx (hqn _ a0 a1) (Rat.le_of_lt a2)
    show 0 ≤ payR rs sh x - payR qs sh x
    grind
  have Dneg : ∀ x ∈ sh, x.a ∉ L → D x ≤ 0 := fun x hx ha => by
    have hx1 := hs x hx
    unfold Dd.Ok at hx1
    have hle : gR rs x.a ≤ gR qs x.a := Rat.not_lt.mp fun z => ha ((Lm _).mpr ⟨hx1.1, hx1.2.1, z⟩)
    have := payR_mono (qs := rs) (ps := qs) hs hx (h0 _ hx1.1 hx1.2.1).1 hle
    show payR rs sh x - payR qs sh x ≤ 0
    grind
  have e1 : (L.map fun j => gotP rs sh sh j - gotP qs sh sh j).sum = (sh.map fun x => if x.b ∈ L then D x else 0).sum := by
    rw [← sumL_key Ln]
    refine sum_congr fun j hj => ?_
    have : gotP rs sh sh j - gotP qs sh sh j = gotP rs sh sh j + (-1) * gotP qs sh sh j := by grind
    rw [this]
    unfold gotP
    rw [← sum_mul, ← sum_add]
    refine sum_congr fun x hx => ?_
    show _ = if x.b = j then payR rs sh x - payR qs sh x else 0
    split <;> grind
  have e2 : (L.map fun j => gR rs j - gR qs j).sum = (sh.map fun x => if x.a ∈ L then D x else 0).sum := by
    rw [← sumL_key Ln]
    refine sum_congr fun j hj => ?_
    obtain ⟨a0, a1, _⟩ := (Lm _).mp hj
    have t1 := pay_total hs (laid_of hs (h0 j a0 a1).1 (h0 j a0 a1).2)
    have t2 := pay_total hs (laid_of hs (C.q0 j a0 a1).1 (C.q0 j a0 a1).2)
    rw [← t1, ← t2]
    have : ∀ a b : Rat, a - b = a + (-1) * b := fun a b => by grind
    rw [this, ← sum_mul, ← sum_add]
    refine sum_congr fun x hx => ?_
    show _ = if x.a = j then payR rs sh x - payR qs sh x else 0
    split <;> grind
  have e3 : (L.map fun j => gR rs j - gR qs j).sum ≤ (L.map fun j => gotP rs sh sh j - gotP qs sh sh j).sum := sum_mono fun j hj => by
    obtain ⟨a0, a1, a2⟩ := (Lm _).mp hj
    obtain ⟨r, hr⟩ := st_lt (qs := qs) hs (rlt_le a2 (h0 j a0 a1).2)
    have := C.eq j r a0 a1 hr
    have := h1 j a0 a1
    grind
  have t0 : ∀ x ∈ sh, 0 ≤ (if x.a ∈ L then D x else 0) - (if x.b ∈ L then D x else 0) := fun x hx => by
    by_cases c : x.a ∈ L
    · have := Dpos x hx c
      rw [if_pos c]
      split <;> grind
    · have := Dneg x hx c
      rw [if_neg c]
      split <;> grind
  have e4 : (sh.map fun x => (if x.a ∈ L then D x else 0) - (if x.b ∈ L then D x else 0)).sum = (sh.map fun x => if x.a ∈ L then D x else 0).sum - (sh.map fun x => if x.b ∈ L then D x else 0).sum := by
    have : ∀ a b : Rat, a - b = a + (-1) * b := fun a b => by grind
    rw [this, ← sum_mul, ← sum_add]
    refine sum_congr fun x hx => ?_
    grind
  have z := sum_zero_all t0 (by rw [e4, ← e1, ← e2]; grind)
  intro j j0 j1
  refine Rat.not_lt.mp fun hlt => C.ns (fun i => i ∈ L) (fun i hi => ?_) (fun x hx ha => ?_) j ((Lm j).mpr ⟨j0, j1, hlt⟩)
  · obtain ⟨a0, a1, a2⟩ := (Lm _).mp hi
    obtain ⟨r, hr⟩ := st_lt (qs := qs) hs (rlt_le a2 (h0 i a0 a1).2)
    exact ⟨a0, a1, by rw [hr]; intro z; cases z⟩
  · obtain ⟨a0, a1, a2⟩ := (Lm _).mp ha
    have hxs := (some_c x hx).2.1
    refine Classical.byContradiction fun hb => ?_
    have h2 := z x hxs
    rw [if_pos ha, if_neg hb] at h2
    have h3 := pay_more hs hx (hqn _ a0 a1) a2
    have h4 : D x = payR rs sh x - payR qs sh x := rfl
    grind
/-- it lays out no more than it has -/
theorem Clrd.le (hs : ∀ x ∈ sh, x.Ok m) (C : Clrd m sh ps qs) (j : Int) (h0 : 0 ≤ j) (h1 : j < m) : gR qs j ≤ (gI ps j : Rat) + gotP qs sh sh j := by
  cases e : stQ qs sh j with
  | none => exact Rat.le_trans (C.q0 j h0 h1).2 (C.ge j h0 h1 e)
  | some r => rw [← C.eq j r h0 h1 e]; exact Rat.le_refl
theorem Clrd.uniq (hs : ∀ x ∈ sh, x.Ok m) (C : Clrd m sh ps qs) (C' : Clrd m sh ps rs) : qs = rs := by
  have a := C.great hs C'.q0 (C'.le hs)
  have b := C'.great hs C.q0 (C.le hs)
  have l1 := C.hl
  have l2 := C'.hl
  refine List.ext_getElem (by omega) fun i h1 h2 => ?_
  have a1 := a (i : Int) (by omega) (by omega)
  have b1 := b (i : Int) (by omega) (by omega)
  rw [gR_nat h1, gR_nat h2] at a1 b1
  grind
end
end Ab.Cl

namespace Ab.Cl
open PySem L2
/-- the sheets and purses that the laws draw -/
def FB (m : Int) (sh : List Dd) (ps : List Int) : Prop := (sh.length ≤ 57 ∧ (∀ x ∈ sh, x.c ≤ 12) ∧ ∀ z ∈ ps, z ≤ 40) ∨ (sh.length ≤ 12 ∧ ∀ z ∈ ps, z ≤ 100000000000000) ∨ (m ≤ 6 ∧ sh.length ≤ 16 ∧ ∀ z ∈ ps, z ≤ 100000000000000)
theorem allC_le {b : Int} {sh : List Dd} (h : ∀ x ∈ sh, x.c ≤ b) : allC sh ≤ b * (sh.length : Int) := by
  unfold allC
  induction sh with
  | nil => simp
  | cons x xs ih =>
    rw [List.map_cons, List.sum_cons, List.length_cons]
    have h1 := h x (by simp)
    have h2 := ih fun y hy => h y (by simp [hy])
    have : b * (((xs.length + 1 : Nat)) : Int) = b * (xs.length : Int) + b := by
      rw [Int.natCast_add, Int.mul_add]; simp
    omega
theorem FB.params {m : Int} {sh : List Dd} {ps : List Int} (hs : ∀ x ∈ sh, x.Ok m) (m0 : 0 ≤ m) (m1 : m ≤ 9) (h : FB m sh ps) : ∃ B T K : Nat, 0 < T ∧ T ≤ 60 ∧ B < 2 ^ T ∧ 1 ≤ B ∧ 2 * allC sh ≤ B ∧ (∀ z ∈ ps, allC sh + z ≤ B) ∧ min sh.length 27 + 1 ≤ K ∧
    2 * (1 + (T * m.toNat + T + 1) * K) + T * m.toNat + 3 * T + 10 ≤ 13000 + 2 * (T * m.toNat + T + 1) ∧ 1 + (T * m.toNat + T + 1) * K ≤ 6124 := by
  have hc : ∀ x ∈ sh, x.c ≤ 1000000000000 := fun x hx => by
    have := hs x hx
    unfold Dd.Ok at this
    omega
  rcases h with ⟨l, c, p⟩ | ⟨l, p⟩ | ⟨m6, l, p⟩
  · have := allC_le c
    refine ⟨1400, 11, 28, by decide, by decide, by decide, by decide, by omega, fun z hz => ?_, by omega, by omega, by omega⟩
    have := p z hz
    omega
  · have := allC_le hc
    refine ⟨112000000000000, 47, 13, by decide, by decide, by decide, by decide, by omega, fun z hz => ?_, by omega, by omega, by omega⟩
    have := p z hz
    omega
  · have := allC_le hc
    refine ⟨116000000000000, 47, 17, by decide, by decide, by decide, by decide, by omega, fun z hz => ?_, by omega, by omega, by omega⟩
    have := p z hz
    omega
theorem FB.len {m : Int} {sh : List Dd} {ps : List Int} (h : FB m sh ps) : sh.length ≤ 57 := by
  rcases h with ⟨l, c, p⟩ | ⟨l, p⟩ | ⟨m6, l, p⟩ <;> omega
theorem FB.purse {m : Int} {sh : List Dd} {ps : List Int} (h : FB m sh ps) : ∀ z ∈ ps, z ≤ 100000000000000 := fun z hz => by
  rcases h with ⟨l, c, p⟩ | ⟨l, p⟩ | ⟨m6, l, p⟩
  · have := p z hz; omega
  · exact p z hz
  · exact p z hz
/-- the dues turned round -/
def turnD (sh : List Dd) : List Dd := sh.map fun x => ⟨x.b, x.a, x.r, x.c⟩
theorem turnD_ok {m : Int} {sh : List Dd} (hs : ∀ x ∈ sh, x.Ok m) : ∀ x ∈ turnD sh, x.Ok m := fun x hx => by
  unfold turnD at hx
  obtain ⟨y, hy, rfl⟩ := List.mem_map.mp hx
  have := hs y hy
  unfold Dd.Ok at this ⊢
  exact ⟨this.2.2.1, this.2.2.2.1, this.1, this.2.1, fun e => this.2.2.2.2.1 e.symm, this.2.2.2.2.2⟩
theorem turnD_fb {m : Int} {sh : List Dd} {ps : List Int} (h : FB m sh ps) : FB m (turnD sh) ps := by
  have l : (turnD sh).length = sh.length := by unfold turnD; simp
  unfold FB at h ⊢
  rw [l]
  rcases h with ⟨a, c, p⟩ | h | h
  · refine .inl ⟨a, fun x hx => ?_, p⟩
    unfold turnD at hx
    obtain ⟨y, hy, rfl⟩ := List.mem_map.mp hx
    exact c y hy
  · exact .inr (.inl h)
  · exact .inr (.inr h)
end Ab.Cl

namespace Ab.Cl
open PySem L2
section
variable {m : Int} {sh : List Dd} {ps : List Int} {qs : List Rat} {j r : Int}
/-- what a member ends with -/
def endR (qs : List Rat) (sh : List Dd) (ps : List Int) (j : Int) : Rat := (gI ps j : Rat) + gotP qs sh sh j - gR qs j
def endL (m : Int) (qs : List Rat) (sh : List Dd) (ps : List Int) : List Rat := (List.range m.toNat).map fun (k : Nat) => endR qs sh ps k
theorem endL_len : (endL m qs sh ps).length = m.toNat := by unfold endL; simp
theorem endL_at {k : Nat} (h : (k : Int) < m) : (endL m qs sh ps)[k]? = some (endR qs sh ps k) := by
  unfold endL
  rw [List.getElem?_map, List.getElem?_range (by omega)]
  rfl
theorem endL_get {k : Nat} {q : Rat} (h : (endL m qs sh ps)[k]? = some q) : (k : Int) < m ∧ q = endR qs sh ps k := by
  have hk := (List.getElem?_eq_some_iff.mp h).1
  rw [endL_len] at hk
  rw [endL_at (by omega)] at h
  cases h
  exact ⟨by omega, rfl⟩
theorem Clrd.end0 (hs : ∀ x ∈ sh, x.Ok m) (C : Clrd m sh ps qs) (h0 : 0 ≤ j) (h1 : j < m) : 0 ≤ endR qs sh ps j := by
  have := C.le hs j h0 h1
  unfold endR
  grind
theorem Clrd.endS (C : Clrd m sh ps qs) (h0 : 0 ≤ j) (h1 : j < m) (h : gR qs j ≠ (rkT sh j : Rat)) : endR qs sh ps j = 0 := by
  cases e : stQ qs sh j with
  | none =>
    have h2 := st_none e
    have h3 := (C.q0 j h0 h1).2
    exact absurd (show gR qs j = (rkT sh j : Rat) by grind) h
  | some r =>
    have h1 := C.eq j r h0 h1 e
    unfold endR
    grind
theorem Clrd.nn (C : Clrd m sh ps qs) : ∀ k : Int, 0 ≤ k → k < m → 0 ≤ gR qs k := fun k h0 h1 => (C.q0 k h0 h1).1
theorem Clrd.end_size {N : Int} {k : Nat} (hs : ∀ x ∈ sh, x.Ok m) (hl : sh.length ≤ 100) (m9 : m ≤ 9) (C : Clrd m sh ps qs) (hN : 0 < N) (hk : Sz k N) (hw : AllWh m N qs) (h0 : 0 ≤ j) (h1 : j < m) (hp : gI ps j ≤ 100000000000000) : SzR (k + 502) (endR qs sh ps j) := by
  have hpos := Int.mul_pos hN (actP_pos (qs := qs) hs)
  have hg := got_allwh (j := j) hs (fun x hx => hx) C.nn hw
  have hle := gotP_le (j := j) hs (fun x hx => hx) C.nn
  have hq := C.q0 j h0 h1
  have hb : endR qs sh ps j ≤ ((200000000000000 : Int) : Rat) := by
    have e1 : ((gI ps j : Int) : Rat) ≤ ((100000000000000 : Int) : Rat) := Rat.intCast_le_intCast.mpr hp
    have e2 : (((1000000000000 * (sh.length : Int) : Int)) : Rat) ≤ ((100000000000000 : Int) : Rat) := Rat.intCast_le_intCast.mpr (by omega)
    have e3 : ((200000000000000 : Int) : Rat) = ((100000000000000 : Int) : Rat) + ((100000000000000 : Int) : Rat) := by rw [← Rat.intCast_add]; rfl
    unfold endR
    rw [e3]
    have := Rat.le_trans hle e2
    have e4 := hq.1
    generalize ((100000000000000 : Int) : Rat) = B at *
    grind
  have hwh : Wh (N * actP m qs sh) (endR qs sh ps j) := by
    unfold endR
    refine ((Wh.int.add hg).sub ?_)
    exact (hw j h0 h1).more
  exact (hwh.size (by omega) (hk.mul (actP_size hs hl m9)) (C.end0 hs h0 h1) hb (b := 51) (sz_le 200000000000000 (by omega) (by decide +kernel))).mono (by omega)
theorem rsum_fsub {α : Type} {f g : α → Rat} : ∀ {xs : List α}, (xs.map fun x => f x - g x).sum = (xs.map f).sum - (xs.map g).sum
  | [] => by simp; grind
  | x :: xs => by rw [List.map_cons, List.map_cons, List.map_cons, List.sum_cons, List.sum_cons, List.sum_cons, rsum_fsub (xs := xs)]; grind
theorem rsum_fadd {α : Type} {f g : α → Rat} : ∀ {xs : List α}, (xs.map fun x => f x + g x).sum = (xs.map f).sum + (xs.map g).sum
  | [] => by simp; grind
  | x :: xs => by rw [List.map_cons, List.map_cons, List.map_cons, List.sum_cons, List.sum_cons, List.sum_cons, rsum_fadd (xs := xs)]; grind
theorem rsum_int : ∀ {v : List Int}, ((v.sum : Int) : Rat) = (v.map fun z => ((z : Int) : Rat)).sum
  | [] => by simp
  | x :: xs => by rw [List.sum_cons, List.map_cons, List.sum_cons, Rat.intCast_add, rsum_int (v := xs)]
theorem Clrd.end_sum (hs : ∀ x ∈ sh, x.Ok m) (C : Clrd m sh ps qs) (hp : (ps.length : Int) = m) : (endL m qs sh ps).sum = ((ps.sum : Int) : Rat) := by
  have e1 : ((List.range m.toNat).map fun (j : Nat) => gotP qs sh sh j).sum = (sh.map (payR qs sh)).sum := sum_key (f := Dd.b) (g := payR qs sh) fun x hx => by
    have := hs x hx
    unfold Dd.Ok at this
    omega
  have e2 : ((List.range m.toNat).map fun (j : Nat) => (sh.map fun x => if x.a = (j : Int) then payR qs sh x else 0).sum).sum = (sh.map (payR qs sh)).sum := sum_key (f := Dd.a) (g := payR qs sh) fun x hx => by
    have := hs x hx
    unfold Dd.Ok at this
    omega
  have e3 : ((List.range m.toNat).map fun (j : Nat) => (sh.map fun x => if x.a = (j : Int) then payR qs sh x else 0).sum) = (List.range m.toNat).map fun (j : Nat) => gR qs j := by
    refine List.map_congr_left fun j hj => ?_
    rw [List.mem_range] at hj
    exact pay_total hs (laid_of hs (C.q0 j (by omega) (by omega)).1 (C.q0 j (by omega) (by omega)).2)
  rw [e3] at e2
  unfold endL
  have e4 : (fun (k : Nat) => endR qs sh ps k) = fun (k : Nat) => (((gI ps k : Int) : Rat) + gotP qs sh sh k) - gR qs k := rfl
  rw [e4, rsum_fsub, rsum_fadd, e1, e2, rsum_int]
  have e5 : ((List.range m.toNat).map fun (k : Nat) => ((gI ps k : Int) : Rat)) = ps.map fun z => ((z : Int) : Rat) := by
    refine list_eq (by simp; omega) fun i x y h1 h2 => ?_
    have hi := (List.getElem?_eq_some_iff.mp h1).1
    simp at hi
    rw [List.getElem?_map, List.getElem?_range (by omega)] at h1
    rw [List.getElem?_map, List.getElem?_eq_getElem (by omega)] at h2
    cases h1
    cases h2
    show ((gI ps (i : Int) : Int) : Rat) = _
    rw [gI_nat (by omega)]
  rw [e5]
  grind
theorem fb_nil (h : ∀ z ∈ ps, z ≤ 100000000000000) : FB m [] ps := .inr (.inl ⟨by decide, h⟩)
theorem Clrd.end_nil (C : Clrd m [] ps qs) (hp : (ps.length : Int) = m) : endL m qs [] ps = ps.map fun z => ((z : Int) : Rat) := by
  refine list_eq (by rw [endL_len]; simp; omega) fun i x y h1 h2 => ?_
  obtain ⟨hi, rfl⟩ := endL_get h1
  rw [List.getElem?_map, List.getElem?_eq_getElem (by omega)] at h2
  cases h2
  have := C.q0 i (by omega) hi
  have e : rkT [] (i : Int) = 0 := rfl
  rw [e] at this
  have e2 : gR qs i = 0 := by
    have := this.1
    have h3 := this
    grind
  unfold endR
  rw [e2, gI_nat (by omega)]
  have e3 : gotP qs [] [] i = 0 := rfl
  rw [e3]
  grind
end
end Ab.Cl

namespace Ab.Cl
open PySem L2
section
variable {m : Int} {sh : List Dd} {ps : List Int} {qs q0 : List Rat} {j r : Int}
/-- so many rounds on from q0 -/
def itR (m : Int) (sh : List Dd) (ps : List Int) (q0 : List Rat) : Nat → List Rat
  | 0 => q0
  | n + 1 => nextRL m (itR m sh ps q0 n) sh ps
theorem itR_len (h : (q0.length : Int) = m) : ∀ {n : Nat}, ((itR m sh ps q0 n).length : Int) = m
  | 0 => h
  | n + 1 => by show ((nextRL _ _ _ _).length : Int) = m; rw [nextRL_len]; omega
theorem itR_s {n j : Nat} (hj : (j : Int) < m) : gR (itR m sh ps q0 (n + 1)) j = nextR m (itR m sh ps q0 n) sh ps j := nextRL_get hj
theorem pgI (hp : (ps.length : Int) = m) (p0 : ∀ z ∈ ps, 0 ≤ z) {j : Nat} (h : (j : Int) < m) : 0 ≤ gI ps j := p0 _ (gI_mem (by omega))
theorem itR_rng (hs : ∀ x ∈ sh, x.Ok m) (hp : (ps.length : Int) = m) (p0 : ∀ z ∈ ps, 0 ≤ z) (h0 : ∀ j : Int, 0 ≤ j → j < m → 0 ≤ gR q0 j ∧ gR q0 j ≤ (rkT sh j : Rat)) : ∀ {n : Nat} (j : Int), 0 ≤ j → j < m → 0 ≤ gR (itR m sh ps q0 n) j ∧ gR (itR m sh ps q0 n) j ≤ (rkT sh j : Rat)
  | 0, j, a, b => h0 j a b
  | n + 1, j, a, b => by
    obtain ⟨j, rfl⟩ : ∃ k : Nat, j = (k : Int) := ⟨j.toNat, by omega⟩
    rw [itR_s b]
    refine ⟨nextR_nonneg hs (fun k k0 k1 => (itR_rng hs hp p0 h0 (n := n) k k0 k1).1) (pgI hp p0 b), ?_⟩
    have := nextR_le (m := m) (qs := itR m sh ps q0 n) (sh := sh) (ps := ps) (k := j)
    rwa [owes_rkT hs (by omega)] at this
theorem itR_up (hs : ∀ x ∈ sh, x.Ok m) (hp : (ps.length : Int) = m) (p0 : ∀ z ∈ ps, 0 ≤ z) (h0 : ∀ j : Int, 0 ≤ j → j < m → 0 ≤ gR q0 j ∧ gR q0 j ≤ (rkT sh j : Rat)) (hu : ∀ j : Nat, (j : Int) < m → gR q0 j ≤ nextR m q0 sh ps j) : ∀ {n : Nat} (j : Nat), (j : Int) < m → gR (itR m sh ps q0 n) j ≤ nextR m (itR m sh ps q0 n) sh ps j
  | 0, j, b => hu j b
  | n + 1, j, b => by
    rw [itR_s b]
    refine nextR_mono hs fun k k0 k1 => ⟨(itR_rng hs hp p0 h0 k k0 k1).1, ?_⟩
    obtain ⟨k, rfl⟩ : ∃ i : Nat, k = (i : Int) := ⟨k.toNat, by omega⟩
    rw [itR_s k1]
    exact itR_up hs hp p0 h0 hu k k1
theorem nextR_own {qs : List Rat} {k : Nat} : nextR m qs sh ps k ≤ (gI ps k : Rat) + gotP qs sh sh k := by
  unfold nextR
  split <;> grind
theorem Clrd.over (hs : ∀ x ∈ sh, x.Ok m) (C : Clrd m sh ps qs) (hp : (ps.length : Int) = m) (p0 : ∀ z ∈ ps, 0 ≤ z) (h0 : ∀ j : Int, 0 ≤ j → j < m → 0 ≤ gR q0 j ∧ gR q0 j ≤ (rkT sh j : Rat)) (hu : ∀ j : Nat, (j : Int) < m → gR q0 j ≤ nextR m q0 sh ps j) {n : Nat} : ∀ j : Int, 0 ≤ j → j < m → gR (itR m sh ps q0 n) j ≤ gR qs j :=
  C.great hs (itR_rng hs hp p0 h0) fun j a b => by
    obtain ⟨j, rfl⟩ : ∃ k : Nat, j = (k : Int) := ⟨j.toNat, by omega⟩
    exact Rat.le_trans (itR_up hs hp p0 h0 hu j b) nextR_own
theorem Clrd.pos (C : Clrd m sh ps qs) : posL qs = qs := posL_self fun q hq => by
  obtain ⟨i, hi, rfl⟩ := List.mem_iff_getElem.mp hq
  have := C.q0 (i : Int) (by omega) (by have := C.hl; omega)
  rw [gR_nat hi] at this
  exact this.1
theorem Clrd.below (hs : ∀ x ∈ sh, x.Ok m) (C : Clrd m sh ps qs) (h0 : ∀ j : Int, 0 ≤ j → j < m → gR qs j ≤ gR q0 j) : ∀ {n : Nat} (j : Int), 0 ≤ j → j < m → gR qs j ≤ gR (itR m sh ps q0 n) j
  | 0, j, a, b => h0 j a b
  | n + 1, j, a, b => by
    obtain ⟨j, rfl⟩ : ∃ k : Nat, j = (k : Int) := ⟨j.toNat, by omega⟩
    rw [itR_s b]
    have := C.fix hs j b
    rw [C.pos] at this
    rw [← this]
    exact nextR_mono hs fun k k0 k1 => ⟨C.nn k k0 k1, C.below hs h0 k k0 k1⟩
/-! ### how big -/
theorem actM_T {T : Nat} (hs : ∀ x ∈ sh, x.Ok m) (t1 : 1 ≤ T) (hT : ∀ j r : Int, Sz T (rkI sh j r)) : Sz T (actM qs sh j) := by
  unfold actM
  split
  · exact hT _ _
  split
  · exact hT _ _
  split
  · exact hT _ _
  · exact (show Sz 1 1 by unfold Sz; decide).mono t1
theorem actP_T {T : Nat} (hs : ∀ x ∈ sh, x.Ok m) (t1 : 1 ≤ T) (hT : ∀ j r : Int, Sz T (rkI sh j r)) : Sz (T * m.toNat + 1) (actP m qs sh) := prodI_size fun k hk => actM_T hs t1 hT
theorem itR_wh {T : Nat} (hs : ∀ x ∈ sh, x.Ok m) (t1 : 1 ≤ T) (hT : ∀ j r : Int, Sz T (rkI sh j r)) (hp : (ps.length : Int) = m) (p0 : ∀ z ∈ ps, 0 ≤ z) (h0 : ∀ j : Int, 0 ≤ j → j < m → 0 ≤ gR q0 j ∧ gR q0 j ≤ (rkT sh j : Rat)) (hw : AllWh m 1 q0) : ∀ {n : Nat}, ∃ N : Int, 0 < N ∧ Sz ((T * m.toNat + 1) * n + 1) N ∧ AllWh m N (itR m sh ps q0 n)
  | 0 => ⟨1, by decide, by unfold Sz; simp, hw⟩
  | n + 1 => by
    obtain ⟨N, N0, N1, N2⟩ := itR_wh hs t1 hT hp p0 h0 hw (n := n)
    refine ⟨N * actP m (itR m sh ps q0 n) sh, Int.mul_pos N0 (actP_pos hs), (N1.mul (actP_T hs t1 hT)).mono ?_, next_allwh hs (fun k k0 k1 => (itR_rng hs hp p0 h0 k k0 k1).1) N2⟩
    rw [Nat.mul_succ]
    omega
theorem itR_size {T n : Nat} (hs : ∀ x ∈ sh, x.Ok m) (hl : sh.length ≤ 100) (t1 : 1 ≤ T) (hT : ∀ j r : Int, Sz T (rkI sh j r)) (hq : (q0.length : Int) = m) (hp : (ps.length : Int) = m) (p0 : ∀ z ∈ ps, 0 ≤ z) (h0 : ∀ j : Int, 0 ≤ j → j < m → 0 ≤ gR q0 j ∧ gR q0 j ≤ (rkT sh j : Rat)) (hw : AllWh m 1 q0) : ∀ q ∈ itR m sh ps q0 n, 0 ≤ q ∧ SzR ((T * m.toNat + 1) * n + 51) q ∧ Sz ((T * m.toNat + 1) * n + 1) (q.den : Int) := fun q hqq => by
  obtain ⟨N, N0, N1, N2⟩ := itR_wh hs t1 hT hp p0 h0 hw (n := n)
  have := allwh_size (itR_len hq) N0 N1 (fun j j0 j1 => by
    have h1 := itR_rng hs hp p0 h0 (n := n) j j0 j1
    refine ⟨h1.1, Rat.le_trans h1.2 ?_⟩
    have := rkT_le hs (j := j)
    exact Rat.intCast_le_intCast.mpr (by omega)) N2 q hqq
  refine ⟨this.1, this.2.mono (by omega), ?_⟩
  obtain ⟨j, hj⟩ := List.mem_iff_getElem?.mp hqq
  have hj' := (List.getElem?_eq_some_iff.mp hj).1
  have hlen := itR_len (sh := sh) (ps := ps) hq (n := n)
  have hd := (N2 (j : Int) (by omega) (by omega)).den
  rw [gR_nat hj', (List.getElem?_eq_some_iff.mp hj).2] at hd
  exact N1.of_abs (Nat.le_of_dvd (by omega) (Int.natAbs_dvd_natAbs.mpr hd))
theorem rk_T {T : Nat} {b : Int} (hs : ∀ x ∈ sh, x.Ok m) (hb : ∀ x ∈ sh, x.c ≤ b) (b0 : 0 ≤ b) {n : Nat} (hn : (sh.length : Int) ≤ n) (hT : b * n < 2 ^ T) : ∀ j r : Int, Sz T (rkI sh j r) := fun j r => by
  have h0 : 0 ≤ rkI sh j r := rkI_nonneg hs
  have h1 : rkI sh j r ≤ b * (sh.length : Int) := by
    unfold rkI
    have := sum_le (b := b) (v := sh.map fun x => if x.a = j ∧ x.r = r then x.c else 0) fun z hz => by
      obtain ⟨x, hx, rfl⟩ := List.mem_map.mp hz
      have := hb x hx
      split <;> omega
    rwa [List.length_map] at this
  have h2 : b * (sh.length : Int) ≤ b * n := Int.mul_le_mul_of_nonneg_left hn b0
  unfold Sz
  have : ((rkI sh j r).natAbs : Int) < ((2 ^ T : Nat) : Int) := by
    rw [Int.natCast_pow]
    simp only [Int.cast_ofNat_Int]
    omega
  exact_mod_cast this
end
end Ab.Cl

namespace Ab.Cl
open PySem L2
def bL (g : List Bool) : List D := g.map D.bl
theorem bL_len {g : List Bool} : (bL g).length = g.length := by unfold bL; simp
theorem bL_at {g : List Bool} {j : Int} {b : Bool} (h : g[j.toNat]? = some b) (h0 : 0 ≤ j) : L2.atI (bL g) j = some (.bl b) := by
  obtain ⟨i, rfl⟩ : ∃ i : Nat, j = (i : Int) := ⟨j.toNat, by omega⟩
  exact L2.atI_nat (by unfold bL; rw [List.getElem?_map, show ((i : Int)).toNat = i by omega] at *; rw [h]; rfl)
theorem bL_set {g : List Bool} {i : Nat} {b : Bool} : (bL g).set i (.bl b) = bL (g.set i b) := by unfold bL; rw [List.map_set]
theorem inW_bL {neg : Bool} {d : D} {g : List Bool} {S : Sto} {k : KD} (hd : lview S d = some (bL g)) (hg : ∀ (j : Nat) (b : Bool), g[j]? = some b → b = true) (h : k (.bl neg) S) : Ab.inW neg (.bl false) d S k := by
  refine ⟨bL g, lv_sview hd, rfl, ?_, ?_⟩
  · rw [List.all_eq_true]
    intro x hx
    unfold bL at hx
    obtain ⟨b, _, rfl⟩ := List.mem_map.mp hx
    rfl
  · have : Ab.inF (.bl false) (bL g) = false := by
      unfold Ab.inF
      rw [List.any_eq_false]
      intro x hx
      unfold bL at hx
      obtain ⟨b, hb, rfl⟩ := List.mem_map.mp hx
      obtain ⟨j, hj⟩ := List.mem_iff_getElem?.mp hb
      rw [hg j b hj]
      decide
    rw [this]
    cases neg <;> exact h
theorem bget {g : List Bool} {m : Int} (hg : (g.length : Int) = m) {j : Int} (j0 : 0 ≤ j) (j1 : j < m) : ∃ b, g[j.toNat]? = some b ∧ L2.atI (bL g) j = some (.bl b) := by
  have e : g[j.toNat]? = some g[j.toNat] := List.getElem?_eq_getElem (by omega)
  exact ⟨_, e, bL_at e j0⟩
/-- pointwise no less, one more: the count grows -/
theorem cnt_lt : ∀ {g h : List Bool}, g.length = h.length → (∀ j : Nat, g[j]? = some true → h[j]? = some true) → (∃ j : Nat, g[j]? = some false ∧ h[j]? = some true) → g.count true + 1 ≤ h.count true
  | [], [], _, _, ⟨j, e, _⟩ => by simp at e
  | a :: g, b :: h, hl, hm, ⟨j, e1, e2⟩ => by
    have hl' : g.length = h.length := by simpa using hl
    have hm' : ∀ j : Nat, g[j]? = some true → h[j]? = some true := fun j e => by have := hm (j + 1) (by simpa using e); simpa using this
    have h0 : a = true → b = true := fun e => by have := hm 0 (by simp [e]); simpa using this
    have le : ∀ {g h : List Bool}, g.length = h.length → (∀ j : Nat, g[j]? = some true → h[j]? = some true) → g.count true ≤ h.count true := by
      intro g
      induction g with
      | nil => intro h _ _; simp
      | cons a g ih =>
        intro h hl hm
        cases h with
        | nil => simp at hl
        | cons b h =>
          have h0 : a = true → b = true := fun e => by have := hm 0 (by simp [e]); simpa using this
          have := ih (h := h) (by simpa using hl) fun j e => by have := hm (j + 1) (by simpa using e); simpa using this
          rw [List.count_cons, List.count_cons]
          cases a with
          | true => rw [h0 rfl]; omega
          | false => cases b <;> simp <;> omega
    rw [List.count_cons, List.count_cons]
    cases j with
    | zero =>
      simp at e1 e2
      subst e1 e2
      have := le hl' hm'
      simp
      omega
    | succ j =>
      have := cnt_lt hl' hm' ⟨j, by simpa using e1, by simpa using e2⟩
      cases a with
      | true => rw [h0 rfl]; simp; omega
      | false => cases b <;> simp <;> omega
theorem cnt_all : ∀ {g : List Bool}, g.length ≤ g.count true → ∀ (j : Nat) (b : Bool), g[j]? = some b → b = true
  | [], _, j, b, e => by simp at e
  | a :: g, h, j, b, e => by
    have hc := List.count_le_length (a := true) (l := g)
    rw [List.count_cons, List.length_cons] at h
    cases a with
    | true =>
      cases j with
      | zero => simp at e; exact e
      | succ j => exact cnt_all (g := g) (by simp at h; omega) j b (by simpa using e)
    | false => simp at h; omega
section
variable {m : Int} {sh : List Dd} {qs : List Rat}
/-- who is known to have a road -/
structure GI (m : Int) (sh : List Dd) (qs : List Rat) (g : List Bool) : Prop where
  gl : (g.length : Int) = m
  g0 : ∀ j : Nat, (j : Int) < m → stQ qs sh j = none → g[j]? = some true
def Closed (sh : List Dd) (qs : List Rat) (g : List Bool) : Prop := ∀ x ∈ someD qs sh, g[x.b.toNat]? = some true → g[x.a.toNat]? = some true
def g0L (m : Int) (qs : List Rat) (sh : List Dd) : List Bool := (List.range m.toNat).map fun (j : Nat) => (stQ qs sh j).isNone
theorem g0L_gi (m0 : 0 ≤ m) : GI m sh qs (g0L m qs sh) := ⟨by unfold g0L; simp; omega, fun j hj e => by
  unfold g0L
  rw [List.getElem?_map, List.getElem?_range (by omega)]
  simp [e]⟩
/-- within one turn: g at its start, g' after n dues -/
structure TI (m : Int) (sh : List Dd) (qs : List Rat) (g : List Bool) (n : Nat) (g' : List Bool) : Prop where
  gi : GI m sh qs g'
  up : ∀ j : Nat, g[j]? = some true → g'[j]? = some true
  dn : ∀ x ∈ sh.take n, x ∈ someD qs sh → g[x.b.toNat]? = some true → g'[x.a.toNat]? = some true
  st : Closed sh qs g → g' = g
theorem TI.init (h : GI m sh qs g) : TI m sh qs g 0 g := ⟨h, fun _ e => e, fun x hx => by simp at hx, fun _ => rfl⟩
theorem TI.skip {n : Nat} {x : Dd} {g g' : List Bool} (T : TI m sh qs g n g') (hn : sh[n]? = some x) (h : x ∈ someD qs sh → g'[x.b.toNat]? = some true → g'[x.a.toNat]? = some true) : TI m sh qs g (n + 1) g' := ⟨T.gi, T.up, fun y hy hs hb => by
  rw [take_succ_of hn, List.mem_append, List.mem_singleton] at hy
  rcases hy with hy | rfl
  · exact T.dn y hy hs hb
  · exact h hs (T.up _ hb), T.st⟩
theorem TI.mark {n : Nat} {x : Dd} {g g' : List Bool} (T : TI m sh qs g n g') (hn : sh[n]? = some x) (hx : x ∈ someD qs sh) (ha : x.a.toNat < g'.length) (hb : g'[x.b.toNat]? = some true) : TI m sh qs g (n + 1) (g'.set x.a.toNat true) := by
  have keep : ∀ j : Nat, g'[j]? = some true → (g'.set x.a.toNat true)[j]? = some true := fun j e => by
    by_cases c : x.a.toNat = j
    · subst c
      rw [List.getElem?_set_self ha]
    · rw [List.getElem?_set_ne c]
      exact e
  refine ⟨⟨by rw [List.length_set]; exact T.gi.gl, fun j hj e => keep j (T.gi.g0 j hj e)⟩, fun j e => keep j (T.up j e), fun y hy hs hb => ?_, fun hc => ?_⟩
  · rw [take_succ_of hn, List.mem_append, List.mem_singleton] at hy
    rcases hy with hy | rfl
    · exact keep _ (T.dn y hy hs hb)
    · exact List.getElem?_set_self ha
  · have e := T.st hc
    subst e
    have h1 := hc x hx hb
    refine List.ext_getElem? fun j => ?_
    by_cases c : x.a.toNat = j
    · subst c
      rw [List.getElem?_set_self ha, h1]
    · rw [List.getElem?_set_ne c]
/-- after so many turns -/
def TnI (m : Int) (sh : List Dd) (qs : List Rat) (i : Nat) (g : List Bool) : Prop := GI m sh qs g ∧ (Closed sh qs g ∨ i ≤ g.count true)
theorem TnI.init (m0 : 0 ≤ m) : TnI m sh qs 0 (g0L m qs sh) := ⟨g0L_gi m0, .inr (Nat.zero_le _)⟩
theorem TnI.step {i : Nat} {g g' : List Bool} (hs : ∀ x ∈ sh, x.Ok m) (h : TnI m sh qs i g) (T : TI m sh qs g sh.length g') : TnI m sh qs (i + 1) g' := by
  refine ⟨T.gi, ?_⟩
  by_cases c : Closed sh qs g
  · rw [T.st c]
    exact .inl c
  · right
    have hcnt := h.2.resolve_left c
    have : ∃ x, x ∈ someD qs sh ∧ g[x.b.toNat]? = some true ∧ ¬ g[x.a.toNat]? = some true := by
      apply Classical.byContradiction
      intro hn
      exact c fun x hx hb => Classical.byContradiction fun ha => hn ⟨x, hx, hb, ha⟩
    obtain ⟨x, hx, hb, ha⟩ := this
    have hxs := (some_c x hx).2.1
    have ho := hs x hxs
    unfold Dd.Ok at ho
    have l1 := h.1.gl
    have l2 := T.gi.gl
    have e1 : g[x.a.toNat]? = some g[x.a.toNat] := List.getElem?_eq_getElem (by omega)
    have e2 : g[x.a.toNat] = false := by
      cases e : g[x.a.toNat] with
      | true => rw [e] at e1; exact absurd e1 ha
      | false => rfl
    rw [e2] at e1
    have := cnt_lt (g := g) (h := g') (by omega) T.up ⟨_, e1, T.dn x (by rw [List.take_length]; exact hxs) hx hb⟩
    omega
theorem TnI.all {g : List Bool} (hs : ∀ x ∈ sh, x.Ok m) (h : TnI m sh qs m.toNat g) (hN : NoShut m sh qs) : ∀ (j : Nat) (b : Bool), g[j]? = some b → b = true := by
  have hgl := h.1.gl
  rcases h.2 with c | c
  · intro j b e
    cases b with
    | true => rfl
    | false =>
      have hj := (List.getElem?_eq_some_iff.mp e).1
      refine absurd ⟨by omega, by omega, e⟩ (hN (fun k => 0 ≤ k ∧ k < m ∧ g[k.toNat]? = some false) (fun k ⟨k0, k1, k2⟩ => ⟨k0, k1, fun en => ?_⟩) (fun x hx ⟨a0, a1, a2⟩ => ?_) (j : Int))
      · have := h.1.g0 k.toNat (by omega) (by rw [show ((k.toNat : Nat) : Int) = k by omega]; exact en)
        rw [this] at k2
        cases k2
      · have ho := hs x (some_c x hx).2.1
        unfold Dd.Ok at ho
        refine ⟨by omega, by omega, ?_⟩
        have eb : g[x.b.toNat]? = some g[x.b.toNat] := List.getElem?_eq_getElem (by omega)
        cases e : g[x.b.toNat] with
        | true =>
          rw [e] at eb
          rw [c x hx eb] at a2
          cases a2
        | false => rw [e] at eb; exact eb
  · exact cnt_all (by omega)
theorem mem_some {x : Dd} : x ∈ someD qs sh ↔ x ∈ sh ∧ 0 < x.c ∧ stQ qs sh x.a = some x.r := by
  unfold someD
  rw [List.mem_filter]
  simp
/-! ### roads -/
inductive Road (sh : List Dd) (st : Int → Option Int) : Int → List Int → List Int → Prop
  | nil {j : Int} : st j = none → Road sh st j [] []
  | cons {n : Nat} {x : Dd} {rd cs : List Int} : sh[n]? = some x → 0 < x.c → st x.a = some x.r → Road sh st x.b rd cs → x.a ∉ cs → Road sh st x.a ((n : Int) :: rd) (x.a :: cs)
theorem Road.len {st : Int → Option Int} {j : Int} {rd cs : List Int} (h : Road sh st j rd cs) : rd.length = cs.length := by
  induction h with
  | nil => rfl
  | cons _ _ _ _ _ ih => simp [ih]
theorem Road.nd {st : Int → Option Int} {j : Int} {rd cs : List Int} (h : Road sh st j rd cs) : cs.Nodup := by
  induction h with
  | nil => exact List.nodup_nil
  | cons _ _ _ _ h2 ih => exact List.nodup_cons.mpr ⟨h2, ih⟩
theorem Road.mem {st : Int → Option Int} {j : Int} {rd cs : List Int} (hs : ∀ x ∈ sh, x.Ok m) (h : Road sh st j rd cs) : ∀ p ∈ cs, 0 ≤ p ∧ p < m := by
  induction h with
  | nil => intro p hp; cases hp
  | cons hn _ _ _ _ ih =>
    intro p hp
    rcases List.mem_cons.mp hp with rfl | hp
    · have := hs _ (List.mem_of_getElem? hn)
      unfold Dd.Ok at this
      omega
    · exact ih p hp
theorem Road.le {st : Int → Option Int} {j : Int} {rd cs : List Int} (hs : ∀ x ∈ sh, x.Ok m) (h : Road sh st j rd cs) : rd.length ≤ m.toNat := by
  rw [h.len]
  have := nodup_len (s := (List.range m.toNat).map fun (k : Nat) => (k : Int)) h.nd fun p hp => by
    have := h.mem hs p hp
    exact List.mem_map.mpr ⟨p.toNat, List.mem_range.mpr (by omega), by show ((p.toNat : Nat) : Int) = p; omega⟩
  simpa using this
/-- the roads found so far -/
structure RdI (m : Int) (sh : List Dd) (qs : List Rat) (g : List Bool) (M : List (List Int)) : Prop where
  ml : (M.length : Int) = m
  rd : ∀ j : Nat, g[j]? = some true → ∃ r cs, M[j]? = some r ∧ Road sh (stQ qs sh) j r cs ∧ ∀ p ∈ cs, g[p.toNat]? = some true
  no : ∀ (j : Nat) (r : List Int), M[j]? = some r → r.length ≤ m.toNat
theorem RdI.init (m0 : 0 ≤ m) : RdI m sh qs (g0L m qs sh) (List.replicate m.toNat []) := ⟨by simp; omega, fun j e => by
  unfold g0L at e
  rw [List.getElem?_map] at e
  have hj : j < m.toNat := by
    by_cases c : j < m.toNat
    · exact c
    · rw [List.getElem?_eq_none (by simp; omega)] at e; cases e
  rw [List.getElem?_range hj] at e
  have e2 : stQ qs sh (j : Int) = none := by
    cases h : stQ qs sh (j : Int) with
    | none => rfl
    | some r => simp [h] at e
  exact ⟨[], [], by rw [List.getElem?_replicate, if_pos hj], .nil e2, fun p hp => by cases hp⟩, fun j r e => by
  rw [List.getElem?_replicate] at e
  split at e
  · cases e; exact Nat.zero_le _
  · cases e⟩
theorem RdI.mark {n : Nat} {x : Dd} {g : List Bool} {M : List (List Int)} {r : List Int} (hs : ∀ x ∈ sh, x.Ok m) (gl : (g.length : Int) = m) (R : RdI m sh qs g M) (hn : sh[n]? = some x) (hx : x ∈ someD qs sh) (hb : g[x.b.toNat]? = some true) (ha : g[x.a.toNat]? = some false) (hr : M[x.b.toNat]? = some r) :
    r.length < m.toNat ∧ RdI m sh qs (g.set x.a.toNat true) (M.set x.a.toNat ((n : Int) :: r)) := by
  have ho := hs x (List.mem_of_getElem? hn)
  unfold Dd.Ok at ho
  obtain ⟨_, hc, hst⟩ := mem_some.mp hx
  have ml := R.ml
  obtain ⟨r', cs, e1, h1, h2⟩ := R.rd _ hb
  rw [hr] at e1
  cases e1
  rw [show ((x.b.toNat : Nat) : Int) = x.b by omega] at h1
  have hnot : x.a ∉ cs := fun h => by
    rw [h2 x.a h] at ha
    cases ha
  have hR : Road sh (stQ qs sh) x.a ((n : Int) :: r) (x.a :: cs) := .cons hn hc hst h1 hnot
  have hle := hR.le hs
  rw [List.length_cons] at hle
  have keep : ∀ j : Nat, g[j]? = some true → (g.set x.a.toNat true)[j]? = some true := fun j e => by
    by_cases c : x.a.toNat = j
    · subst c
      rw [List.getElem?_set_self (by omega)]
    · rw [List.getElem?_set_ne c]
      exact e
  refine ⟨by omega, by rw [List.length_set]; exact ml, fun j e => ?_, fun j r2 e => ?_⟩
  · by_cases c : x.a.toNat = j
    · subst c
      refine ⟨_, _, List.getElem?_set_self (by omega), by rw [show ((x.a.toNat : Nat) : Int) = x.a by omega]; exact hR, fun p hp => ?_⟩
      rcases List.mem_cons.mp hp with rfl | hp
      · exact List.getElem?_set_self (by omega)
      · exact keep _ (h2 p hp)
    · rw [List.getElem?_set_ne c] at e ⊢
      obtain ⟨r3, cs3, e3, h3, h4⟩ := R.rd j e
      exact ⟨r3, cs3, e3, h3, fun p hp => keep _ (h4 p hp)⟩
  · by_cases c : x.a.toNat = j
    · subst c
      rw [List.getElem?_set_self (by omega)] at e
      cases e
      rw [List.length_cons]
      omega
    · rw [List.getElem?_set_ne c] at e
      exact R.no j r2 e
end
end Ab.Cl

namespace Ab
open PySem PySem.Spec PyProof.Rows L2
section
variable {X : Cx} {g : Gi} {W : WX} {K : PySem.W.Frag}
/-- one truth value told by another -/
def isBW (neg : Bool) : D → D → Sto → KD → Prop
  | .bl a, .bl b, S, k => k (.bl (if neg then !decide (a = b) else decide (a = b))) S
  | _, _, _, _ => False
theorem isBW_bb {neg a b : Bool} {S : Sto} {k : KD} : isBW neg (.bl a) (.bl b) S k = k (.bl (if neg then !decide (a = b) else decide (a = b))) S := id rfl
theorem good_isB : GoodO K g (fun x y H Q => ∃ a b, x = V.bl a ∧ y = V.bl b ∧ Q (.bl (decide (a = b))) H) (isBW false) := by
  intro H0 r S H d e x y k Q si h1 h2 hw ce
  cases d with
  | bl a =>
    cases e with
    | bl b => exact ⟨a, b, rel_bl h1, rel_bl h2, ce _ _ _ _ _ _ .refl si rel_bl' hw⟩
    | _ => exact (show False from hw).elim
  | _ => exact (show False from by cases e <;> exact hw).elim
theorem good_notB : GoodO K g (fun x y H Q => ∃ a b, x = V.bl a ∧ y = V.bl b ∧ Q (.bl (!decide (a = b))) H) (isBW true) := by
  intro H0 r S H d e x y k Q si h1 h2 hw ce
  cases d with
  | bl a =>
    cases e with
    | bl b => exact ⟨a, b, rel_bl h1, rel_bl h2, ce _ _ _ _ _ _ .refl si rel_bl' hw⟩
    | _ => exact (show False from hw).elim
  | _ => exact (show False from by cases e <;> exact hw).elim
theorem gc_isB : GoodC X g .Is (isBW false) := ⟨_, op_is_bl, good_isB⟩
theorem gc_notB : GoodC X g .IsNot (isBW true) := ⟨_, op_isnot_bl, good_notB⟩
end
end Ab

namespace Ab.Cl
open PySem L2
section
variable {m : Int} {sh : List Dd} {qs : List Rat} {fr : Dd → Bool}
def freeQ (qs : List Rat) (sh : List Dd) (x : Dd) : Bool := (stQ qs sh x.a).isNone && (stQ qs sh x.b).isNone
def amtF (fr : Dd → Bool) (sh : List Dd) : List Int := sh.map fun x => if fr x then x.c else 0
def safeL (fr : Dd → Bool) (sh : List Dd) (left : List Int) : List Int := List.zipWith (fun x l => if fr x then l else x.c) sh left
theorem amtF_len : (amtF fr sh).length = sh.length := by unfold amtF; simp
theorem safeL_len {left : List Int} (h : left.length = sh.length) : (safeL fr sh left).length = sh.length := by unfold safeL; simp [h]
theorem amtF_get {k : Nat} {x : Dd} (h : sh[k]? = some x) : gI (amtF fr sh) k = if fr x then x.c else 0 := by
  have hk := (List.getElem?_eq_some_iff.mp h).1
  rw [gI_nat (by rw [amtF_len]; exact hk)]
  unfold amtF
  rw [List.getElem_map, (List.getElem?_eq_some_iff.mp h).2]
theorem safeL_get {left : List Int} (hl : left.length = sh.length) {k : Nat} {x : Dd} (h : sh[k]? = some x) : gI (safeL fr sh left) k = if fr x then gI left k else x.c := by
  have hk := (List.getElem?_eq_some_iff.mp h).1
  rw [gI_nat (by rw [safeL_len hl]; exact hk)]
  unfold safeL
  rw [List.getElem_zipWith, (List.getElem?_eq_some_iff.mp h).2, gI_nat (by omega)]
theorem withA_withA {as l : List Int} (h1 : as.length = sh.length) (h2 : l.length = sh.length) : withA (withA sh as) l = withA sh l := by
  refine list_eq (by rw [withA_len (by rw [withA_len h1]; exact h2), withA_len h1, withA_len h2]) fun i x y e1 e2 => ?_
  have hi := (List.getElem?_eq_some_iff.mp e2).1
  rw [withA_len h2] at hi
  have ex : sh[i]? = some sh[i] := List.getElem?_eq_getElem hi
  rw [withA_get (withA_get ex (by omega)) (by omega)] at e1
  rw [withA_get ex (by omega)] at e2
  cases e1
  cases e2
  rfl
theorem withA_amt {as : List Int} (h : as.length = sh.length) : (withA sh as).map Dd.c = as := by
  refine list_eq (by rw [List.length_map, withA_len h, h]) fun i x y e1 e2 => ?_
  have hi := (List.getElem?_eq_some_iff.mp e2).1
  have ex : sh[i]? = some sh[i] := List.getElem?_eq_getElem (by omega)
  rw [List.getElem?_map, withA_get ex (by omega)] at e1
  cases e1
  rw [← (List.getElem?_eq_some_iff.mp e2).2]
  exact gI_nat hi
theorem flows_safe {j : Int} : ∀ {sh : List Dd} {left : List Int}, left.length = sh.length → (∀ (k : Nat) (x : Dd), sh[k]? = some x → fr x = false → gI left k = 0) → flows sh (safeL fr sh left) j + flows sh (amtF fr sh) j = flows sh (sh.map Dd.c) j + flows sh left j
  | [], [], _, _ => rfl
  | x :: sh, l :: left, hl, h0 => by
    have ih := flows_safe (j := j) (sh := sh) (left := left) (by simpa using hl) fun k y e hf => by
      have := h0 (k + 1) y (by simpa using e) hf
      simpa [gI] using this
    have hx := h0 0 x (by simp)
    unfold flows at ih ⊢
    show (Ab.flow j ⟨x.a, x.b, x.r, if fr x then l else x.c⟩ + ((withA sh (safeL fr sh left)).map (Ab.flow j)).sum) + (Ab.flow j ⟨x.a, x.b, x.r, if fr x then x.c else 0⟩ + ((withA sh (amtF fr sh)).map (Ab.flow j)).sum) = (Ab.flow j ⟨x.a, x.b, x.r, x.c⟩ + ((withA sh (sh.map Dd.c)).map (Ab.flow j)).sum) + (Ab.flow j ⟨x.a, x.b, x.r, l⟩ + ((withA sh left).map (Ab.flow j)).sum)
    cases e : fr x with
    | true =>
      simp only [if_true]
      omega
    | false =>
      have : l = 0 := by have := hx e; simpa [gI] using this
      subst this
      simp only [Bool.false_eq_true, if_false]
      omega
/-! ### taken away, those on whom no due leads -/
theorem no_lead {L rest : List Int} {n : Nat} {z : Int} (hnd : L.Nodup) (hsub : ∀ y ∈ rest, y ∈ L.take (n + 1)) (hz : L[n]? = some z) {ways : List (Int × Int)} (hw : ∀ w ∈ ways, ∀ i : Nat, L[i]? = some w.2 → w.1 ∈ L.take i) : ∀ w ∈ ways, w.1 = z → w.2 ∉ rest := fun w hwm e hr => by
  have h1 := hsub _ hr
  obtain ⟨i, hi⟩ := List.mem_iff_getElem?.mp h1
  have hil := (List.getElem?_eq_some_iff.mp hi).1
  rw [List.length_take] at hil
  rw [List.getElem?_take_of_lt (by omega)] at hi
  have h2 := hw w hwm i hi
  rw [e] at h2
  obtain ⟨k, hk⟩ := List.mem_iff_getElem?.mp h2
  have hkl := (List.getElem?_eq_some_iff.mp hk).1
  rw [List.length_take] at hkl
  rw [List.getElem?_take_of_lt (by omega)] at hk
  have := nodup_ix hnd hk hz
  omega
end
end Ab.Cl

namespace Ab.Cl
open PySem L2
section
variable {m : Int} {sh : List Dd} {ps : List Int} {qs : List Rat} {left told : List Int} {j r : Int}
theorem st_full (hs : ∀ x ∈ sh, x.Ok m) (h : ((rkT sh j : Int) : Rat) ≤ gR qs j) : stQ qs sh j = none := by
  cases e : stQ qs sh j with
  | none => rfl
  | some r =>
    exfalso
    have n := rk_nn (j := j) hs
    have h1 : ((rkI sh j 0 : Int) : Rat) ≤ gR qs j := Rat.le_trans (Rat.intCast_le_intCast.mpr (by unfold rkT; omega)) h
    have h2 : ((rkI sh j 0 + rkI sh j 1 : Int) : Rat) ≤ gR qs j := Rat.le_trans (Rat.intCast_le_intCast.mpr (by unfold rkT; omega)) h
    have h3 : ((rkI sh j 0 + rkI sh j 1 + rkI sh j 2 : Int) : Rat) ≤ gR qs j := h
    unfold stQ rkRow at e
    rcases stop_cases (gR qs j) (rkI sh j 0) (rkI sh j 1) (rkI sh j 2) with ⟨e2, g1⟩ | ⟨e2, g1, g2⟩ | ⟨e2, g1, g2, g3⟩ | ⟨e2, g1, g2, g3⟩
    · exact absurd h1 (Rat.not_le.mpr g1)
    · exact absurd h2 (Rat.not_le.mpr g2)
    · exact absurd h3 (Rat.not_le.mpr g3)
    · rw [e2] at e; cases e
theorem rk_mem (hs : ∀ x ∈ sh, x.Ok m) {x : Dd} (hx : x ∈ sh) : x.c ≤ rkI sh x.a x.r := rkI_mem hs hx
theorem pay_full (hs : ∀ x ∈ sh, x.Ok m) {x : Dd} (hx : x ∈ sh) (h0 : 0 ≤ gR qs x.a) (h : gR qs x.a = (rkT sh x.a : Rat)) : payR qs sh x = (x.c : Rat) := by
  have ho := hs x hx
  unfold Dd.Ok at ho
  have hc := rk_mem hs hx
  by_cases e : rkI sh x.a x.r = 0
  · rw [payR_nil e, show x.c = 0 by omega]
    rfl
  · rw [payR_clamp hs hx h0 e]
    have hah := (ah_nn (j := x.a) (r := x.r) hs (by omega) (by omega)).2.2
    have h1 : ((ahI sh x.a x.r + rkI sh x.a x.r : Int) : Rat) ≤ gR qs x.a := by rw [h]; exact Rat.intCast_le_intCast.mpr hah
    rw [Rat.intCast_add] at h1
    have hm : ((rkI sh x.a x.r : Int) : Rat) ≠ 0 := by exact_mod_cast e
    have hm0 : (0 : Rat) < ((rkI sh x.a x.r : Int) : Rat) := by
      have : (0 : Int) < rkI sh x.a x.r := by
        have := rkI_nonneg (j := x.a) (r := x.r) hs
        omega
      exact_mod_cast this
    have : clampR (gR qs x.a) (ahI sh x.a x.r : Int) (rkI sh x.a x.r : Int) = ((rkI sh x.a x.r : Int) : Rat) := by
      unfold clampR
      grind
    rw [this]
    grind
/-- the sheet with other amounts, pointwise -/
theorem withA_sum {β : Type} [Add β] [Zero β] {f : Dd → β} : ∀ {sh : List Dd} {told : List Int}, told.length = sh.length → (∀ (i : Nat) (x : Dd), sh[i]? = some x → f ⟨x.a, x.b, x.r, gI told i⟩ = f x) → ((withA sh told).map f) = (sh.map f)
  | [], [], _, _ => rfl
  | x :: sh, t :: told, hl, h => by
    show f ⟨x.a, x.b, x.r, t⟩ :: (withA sh told).map f = f x :: sh.map f
    rw [withA_sum (f := f) (sh := sh) (told := told) (by simpa using hl) fun i y e => by
      have := h (i + 1) y (by simpa using e)
      simpa [gI] using this]
    have := h 0 x (by simp)
    simp [gI] at this
    rw [this]
theorem rkT_sumA (hs : ∀ x ∈ sh, x.Ok m) : rkT sh j = sumA sh j := by
  unfold rkT rkI sumA
  induction sh with
  | nil => rfl
  | cons x xs ih =>
    have := ih fun y hy => hs y (by simp [hy])
    have hx := hs x (by simp)
    unfold Dd.Ok at hx
    simp only [List.map_cons, List.sum_cons]
    by_cases h : x.a = j
    · simp only [h, true_and, if_true]
      rcases (show x.r = 0 ∨ x.r = 1 ∨ x.r = 2 by omega) with e | e | e <;> simp only [e] <;> simp <;> omega
    · simp only [h, false_and, if_false]
      omega
/-- the lays behind a cut -/
def cutQ (m : Int) (qs : List Rat) (sh less : List Dd) : List Rat := (List.range m.toNat).map fun (k : Nat) => if (stQ qs sh k).isNone then ((rkT less k : Int) : Rat) else gR qs k
theorem cutQ_len {less : List Dd} : (cutQ m qs sh less).length = m.toNat := by unfold cutQ; simp
theorem cutQ_get {less : List Dd} (h0 : 0 ≤ j) (h1 : j < m) : gR (cutQ m qs sh less) j = if (stQ qs sh j).isNone then ((rkT less j : Int) : Rat) else gR qs j := by
  obtain ⟨k, rfl⟩ : ∃ k : Nat, j = (k : Int) := ⟨j.toNat, by omega⟩
  rw [gR_nat (by rw [cutQ_len]; omega)]
  unfold cutQ
  simp
theorem got_cut {less : List Dd} {qs' : List Rat} : ∀ {l : List Dd} {t : List Int}, t.length = l.length → (∀ (i : Nat) (x : Dd), l[i]? = some x → payR qs' less ⟨x.a, x.b, x.r, gI t i⟩ = payR qs sh x - ((x.c - gI t i : Int) : Rat)) → gotP qs' less (withA l t) j = gotP qs sh l j - ((sumB l j - sumB (withA l t) j : Int) : Rat)
  | [], [], _, _ => by
    show (0 : Rat) = 0 - (((0 : Int) - (0 : Int) : Int) : Rat)
    simp
    grind
  | x :: l, c :: t, hl, h => by
    have ih := got_cut (l := l) (t := t) (by simpa using hl) fun i y e => by
      have := h (i + 1) y (by simpa using e)
      simpa [gI] using this
    have hx : payR qs' less ⟨x.a, x.b, x.r, c⟩ = payR qs sh x - ((x.c - c : Int) : Rat) := by
      have := h 0 x (by simp)
      simpa [gI] using this
    unfold gotP sumB at ih ⊢
    show (if x.b = j then payR qs' less ⟨x.a, x.b, x.r, c⟩ else 0) + ((withA l t).map fun x => if x.b = j then payR qs' less x else 0).sum = ((if x.b = j then payR qs sh x else 0) + (l.map fun x => if x.b = j then payR qs sh x else 0).sum) - ((((if x.b = j then x.c else 0) + (l.map fun x => if x.b = j then x.c else 0).sum) - ((if x.b = j then c else 0) + ((withA l t).map fun x => if x.b = j then x.c else 0).sum) : Int) : Rat)
    rw [ih]
    by_cases e : x.b = j
    · simp only [e, if_true]
      rw [e] at hx
      rw [hx]
      simp only [Rat.intCast_sub, Rat.intCast_add]
      grind
    · simp only [e, if_false]
      simp only [Rat.intCast_sub, Rat.intCast_add, Int.zero_add]
      grind
end
end Ab.Cl

namespace Ab.Cl
open PySem L2
section
variable {m : Int} {sh : List Dd} {ps : List Int} {qs : List Rat} {told : List Int} {j r : Int}
theorem flow_AB : ∀ {l : List Dd}, (l.map (Ab.flow j)).sum = sumB l j - sumA l j
  | [] => rfl
  | x :: l => by
    have := flow_AB (l := l)
    unfold sumA sumB at this ⊢
    unfold Ab.flow at this ⊢
    simp only [List.map_cons, List.sum_cons]
    omega
/-- amounts taken off rings of those that pay in full -/
structure CutT (m : Int) (sh : List Dd) (qs : List Rat) (told : List Int) : Prop where
  tl : told.length = sh.length
  rg : ∀ (i : Nat) (x : Dd), sh[i]? = some x → 0 ≤ gI told i ∧ gI told i ≤ x.c ∧ (freeQ qs sh x = false → gI told i = x.c)
  fl : ∀ j, flows sh told j = flows sh (sh.map Dd.c) j
theorem CutT.ok (hs : ∀ x ∈ sh, x.Ok m) (T : CutT m sh qs told) : ∀ x ∈ withA sh told, x.Ok m := withA_ok hs fun z hz => by
  obtain ⟨i, hi⟩ := List.mem_iff_getElem?.mp hz
  have hil := (List.getElem?_eq_some_iff.mp hi).1
  have tl := T.tl
  have hx : sh[i]? = some sh[i] := List.getElem?_eq_getElem (by omega)
  have h1 := T.rg i _ hx
  have h2 := hs _ (List.mem_of_getElem? hx)
  unfold Dd.Ok at h2
  rw [gI_nat hil, (List.getElem?_eq_some_iff.mp hi).2] at h1
  omega
theorem not_free_a {x : Dd} (h : stQ qs sh x.a = some r) : freeQ qs sh x = false := by unfold freeQ; rw [h]; rfl
theorem not_free_b {x : Dd} (h : stQ qs sh x.b = some r) : freeQ qs sh x = false := by unfold freeQ; rw [h]; simp
theorem CutT.rk (T : CutT m sh qs told) (h : stQ qs sh j = some r) (r' : Int) : rkI (withA sh told) j r' = rkI sh j r' := by
  unfold rkI
  rw [withA_sum (f := fun x : Dd => if x.a = j ∧ x.r = r' then x.c else 0) T.tl fun i x hx => by
    by_cases c : x.a = j ∧ x.r = r'
    · have := (T.rg i x hx).2.2 (not_free_a (by rw [c.1]; exact h))
      simp only [c, and_self, if_true]
      exact this
    · simp only [c, if_false]]
theorem CutT.row (T : CutT m sh qs told) (h : stQ qs sh j = some r) : rkRow (withA sh told) j = rkRow sh j := by
  unfold rkRow
  rw [T.rk h, T.rk h, T.rk h]
theorem CutT.rkT (T : CutT m sh qs told) (h : stQ qs sh j = some r) : Ab.rkT (withA sh told) j = Ab.rkT sh j := by
  unfold Ab.rkT
  rw [T.rk h, T.rk h, T.rk h]
theorem CutT.sB (T : CutT m sh qs told) (h : stQ qs sh j = some r) : sumB (withA sh told) j = sumB sh j := by
  unfold sumB
  rw [withA_sum (f := fun x : Dd => if x.b = j then x.c else 0) T.tl fun i x hx => by
    by_cases c : x.b = j
    · have := (T.rg i x hx).2.2 (not_free_b (by rw [c]; exact h))
      simp only [c, if_true]
      exact this
    · simp only [c, if_false]]
theorem CutT.bal (T : CutT m sh qs told) : sumB sh j - sumB (withA sh told) j = sumA sh j - sumA (withA sh told) j := by
  have h := T.fl j
  unfold flows at h
  rw [flow_AB, flow_AB, withA_self] at h
  omega
theorem CutT.qn (h0 : 0 ≤ j) (h1 : j < m) (h : stQ qs sh j = none) : gR (cutQ m qs sh (withA sh told)) j = ((Ab.rkT (withA sh told) j : Int) : Rat) := by
  rw [cutQ_get h0 h1, h]
  rfl
theorem CutT.qo (h0 : 0 ≤ j) (h1 : j < m) (h : stQ qs sh j = some r) : gR (cutQ m qs sh (withA sh told)) j = gR qs j := by
  rw [cutQ_get h0 h1, h]
  rfl
theorem CutT.st (hs : ∀ x ∈ sh, x.Ok m) (T : CutT m sh qs told) (h0 : 0 ≤ j) (h1 : j < m) : stQ (cutQ m qs sh (withA sh told)) (withA sh told) j = stQ qs sh j := by
  cases e : stQ qs sh j with
  | none =>
    refine st_full (T.ok hs) ?_
    rw [CutT.qn h0 h1 e]
    exact Rat.le_refl
  | some r =>
    unfold stQ
    rw [CutT.qo h0 h1 e, T.row e]
    exact e
theorem CutT.full (C : Clrd m sh ps qs) (h0 : 0 ≤ j) (h1 : j < m) (h : stQ qs sh j = none) : gR qs j = ((Ab.rkT sh j : Int) : Rat) := by
  have := (C.q0 j h0 h1).2
  have := st_none h
  grind
theorem CutT.pay (hs : ∀ x ∈ sh, x.Ok m) (C : Clrd m sh ps qs) (T : CutT m sh qs told) (i : Nat) (x : Dd) (hx : sh[i]? = some x) : payR (cutQ m qs sh (withA sh told)) (withA sh told) ⟨x.a, x.b, x.r, gI told i⟩ = payR qs sh x - ((x.c - gI told i : Int) : Rat) := by
  have hm := List.mem_of_getElem? hx
  have ho := hs x hm
  unfold Dd.Ok at ho
  cases e : stQ qs sh x.a with
  | some r =>
    rw [(T.rg i x hx).2.2 (not_free_a e), Int.sub_self]
    unfold payR laidA
    dsimp only
    rw [T.rk e, T.row e, CutT.qo (by omega) (by omega) e]
    simp
    grind
  | none =>
    have h1 := CutT.full C (by omega) (by omega) e
    have h2 := CutT.qn (m := m) (told := told) (by omega) (by omega) e
    have hx2 := withA_get hx (as := told) (by rw [T.tl]; exact (List.getElem?_eq_some_iff.mp hx).1)
    have hp := pay_full (T.ok hs) (List.mem_of_getElem? hx2) (by show 0 ≤ gR _ x.a; rw [h2]; exact_mod_cast rkT_nonneg (T.ok hs)) h2
    rw [hp, pay_full hs hm (C.q0 x.a (by omega) (by omega)).1 h1, Rat.intCast_sub]
    grind
theorem CutT.got (hs : ∀ x ∈ sh, x.Ok m) (C : Clrd m sh ps qs) (T : CutT m sh qs told) : gotP (cutQ m qs sh (withA sh told)) (withA sh told) (withA sh told) j = gotP qs sh sh j - ((sumB sh j - sumB (withA sh told) j : Int) : Rat) := got_cut T.tl fun i x hx => T.pay hs C i x hx
theorem CutT.clrd (hs : ∀ x ∈ sh, x.Ok m) (C : Clrd m sh ps qs) (T : CutT m sh qs told) : Clrd m (withA sh told) ps (cutQ m qs sh (withA sh told)) := by
  have m0 : 0 ≤ m := by have := C.hl; omega
  refine ⟨by rw [cutQ_len]; omega, fun j h0 h1 => ?_, fun j r h0 h1 e => ?_, fun j h0 h1 e => ?_, fun M hM hc => ?_⟩
  · cases e : stQ qs sh j with
    | none =>
      rw [CutT.qn h0 h1 e]
      exact ⟨by exact_mod_cast rkT_nonneg (T.ok hs), Rat.le_refl⟩
    | some r =>
      rw [CutT.qo h0 h1 e, T.rkT e]
      exact C.q0 j h0 h1
  · rw [T.st hs h0 h1] at e
    rw [CutT.qo h0 h1 e, T.got hs C, T.sB e, Int.sub_self, C.eq j r h0 h1 e]
    simp
    grind
  · rw [T.st hs h0 h1] at e
    have h2 := C.ge j h0 h1 e
    rw [T.got hs C, T.bal, rkT_sumA (T.ok hs), Rat.intCast_sub]
    rw [rkT_sumA hs] at h2
    grind
  · refine C.ns M (fun j hj => ?_) fun x hx ha => ?_
    · obtain ⟨h0, h1, h2⟩ := hM j hj
      rw [T.st hs h0 h1] at h2
      exact ⟨h0, h1, h2⟩
    · obtain ⟨hm, hcx, hst⟩ := mem_some.mp hx
      have ho := hs x hm
      unfold Dd.Ok at ho
      obtain ⟨i, hi⟩ := List.mem_iff_getElem?.mp hm
      have hx2 := withA_get hi (as := told) (by rw [T.tl]; exact (List.getElem?_eq_some_iff.mp hi).1)
      rw [(T.rg i x hi).2.2 (not_free_a hst)] at hx2
      exact hc x (mem_some.mpr ⟨List.mem_of_getElem? hx2, hcx, by rw [T.st hs (by omega) (by omega)]; exact hst⟩) ha
theorem CutT.ends (hs : ∀ x ∈ sh, x.Ok m) (C : Clrd m sh ps qs) (T : CutT m sh qs told) : endL m (cutQ m qs sh (withA sh told)) (withA sh told) ps = endL m qs sh ps := by
  unfold endL
  refine List.map_congr_left fun j hj => ?_
  rw [List.mem_range] at hj
  unfold endR
  rw [T.got hs C]
  cases e : stQ qs sh (j : Int) with
  | none =>
    rw [CutT.qn (by omega) (by omega) e, CutT.full C (by omega) (by omega) e, T.bal, rkT_sumA (T.ok hs), rkT_sumA hs, Rat.intCast_sub]
    grind
  | some r =>
    rw [CutT.qo (by omega) (by omega) e, T.sB e, Int.sub_self]
    simp
    grind
theorem CutT.free (hs : ∀ x ∈ sh, x.Ok m) (T : CutT m sh qs told) {x : Dd} (hx : x ∈ sh) {c : Int} : freeQ (cutQ m qs sh (withA sh told)) (withA sh told) ⟨x.a, x.b, x.r, c⟩ = freeQ qs sh x := by
  have ho := hs x hx
  unfold Dd.Ok at ho
  unfold freeQ
  dsimp only
  rw [T.st hs (by omega) (by omega), T.st hs (by omega) (by omega)]
end
end Ab.Cl

namespace Ab.Cl
open PySem L2
/-- roads kept in lists of their own -/
structure RdC (S : Sto) (pm pr : Nat) (cs : List Nat) (g : List Bool) (M : List (List Int)) : Prop where
  mc : S[pm]? = some (.lst (cs.map D.cell))
  rc : S[pr]? = some (.lst (bL g))
  mr : pm ≠ pr
  cl : cs.length = M.length
  nd : cs.Nodup
  ce : ∀ (i p : Nat) (r : List Int), cs[i]? = some p → M[i]? = some r → S[p]? = some (.lst (vI r))
  ne : ∀ (i p : Nat), cs[i]? = some p → p ≠ pm ∧ p ≠ pr
theorem RdC.lt {S : Sto} {pm pr : Nat} {cs : List Nat} {g : List Bool} {M : List (List Int)} (h : RdC S pm pr cs g M) {i p : Nat} (e : cs[i]? = some p) : p < S.length := by
  have hi := (List.getElem?_eq_some_iff.mp e).1
  have := h.cl
  have eM : M[i]? = some M[i] := List.getElem?_eq_getElem (by omega)
  exact (List.getElem?_eq_some_iff.mp (h.ce i p _ e eM)).1
theorem map_set_cell {cs : List Nat} {a q : Nat} : (cs.map D.cell).set a (.cell q) = (cs.set a q).map D.cell := by rw [List.map_set]
theorem RdC.mark {S : Sto} {pm pr : Nat} {cs : List Nat} {g : List Bool} {M : List (List Int)} {a : Nat} {r : List Int} (h : RdC S pm pr cs g M) (ha : a < cs.length) : RdC (((S ++ [Cel.lst (vI r)]).set pm (.lst ((cs.set a S.length).map D.cell))).set pr (.lst (bL (g.set a true)))) pm pr (cs.set a S.length) (g.set a true) (M.set a r) := by
  have l1 := (List.getElem?_eq_some_iff.mp h.mc).1
  have l2 := (List.getElem?_eq_some_iff.mp h.rc).1
  have hl : (S ++ [Cel.lst (vI r)]).length = S.length + 1 := by rw [List.length_append]; rfl
  have get : ∀ p, p ≠ pm → p ≠ pr → (((S ++ [Cel.lst (vI r)]).set pm (.lst ((cs.set a S.length).map D.cell))).set pr (.lst (bL (g.set a true))))[p]? = (S ++ [Cel.lst (vI r)])[p]? := fun p h1 h2 => by
    rw [List.getElem?_set_ne (Ne.symm h2), List.getElem?_set_ne (Ne.symm h1)]
  refine ⟨?_, ?_, h.mr, by rw [List.length_set, List.length_set]; exact h.cl, ?_, fun i p r' e1 e2 => ?_, fun i p e => ?_⟩
  · rw [List.getElem?_set_ne (Ne.symm h.mr), List.getElem?_set_self (by omega)]
  · rw [List.getElem?_set_self (by rw [List.length_set]; omega)]
  · refine List.pairwise_iff_getElem.mpr fun x y hx hy hxy e => ?_
    rw [List.length_set] at hx hy
    rw [List.getElem_set, List.getElem_set] at e
    have lt : ∀ k (hk : k < cs.length), cs[k] < S.length := fun k hk => h.lt (List.getElem?_eq_getElem hk)
    split at e
    · split at e
      · omega
      · have := lt y hy; omega
    · split at e
      · have := lt x hx; omega
      · have h1 : cs[x]? = some cs[x] := List.getElem?_eq_getElem hx
        have h2 : cs[y]? = some cs[x] := by rw [e]; exact List.getElem?_eq_getElem hy
        have := nodup_ix h.nd h1 h2
        omega
  · by_cases c : a = i
    · subst c
      have hm : a < M.length := by have := h.cl; omega
      rw [List.getElem?_set_self ha] at e1
      rw [List.getElem?_set_self hm] at e2
      cases e1
      cases e2
      rw [get _ (by omega) (by omega), List.getElem?_append_right (Nat.le_refl _), Nat.sub_self]
      rfl
    · rw [List.getElem?_set_ne c] at e1 e2
      have hn := h.ne i p e1
      rw [get _ hn.1 hn.2, List.getElem?_append_left (h.lt e1)]
      exact h.ce i p r' e1 e2
  · by_cases c : a = i
    · subst c
      rw [List.getElem?_set_self ha] at e
      cases e
      omega
    · rw [List.getElem?_set_ne c] at e
      exact h.ne i p e
/-- so many empty lists, the list of them, and who has a road -/
theorem RdC.init {S : Sto} {m : Nat} {g : List Bool} : RdC (S ++ List.replicate m (Cel.lst (vI [])) ++ [.lst (cellsD S.length m)] ++ [.lst (bL g)]) (S.length + m) (S.length + m + 1) ((List.range m).map fun i => S.length + i) g (List.replicate m []) := by
  have e1 : cellsD S.length m = ((List.range m).map fun i => S.length + i).map D.cell := by
    unfold cellsD
    rw [List.map_map]
    rfl
  have l1 : (S ++ List.replicate m (Cel.lst (vI []))).length = S.length + m := by simp
  have l2 : (S ++ List.replicate m (Cel.lst (vI [])) ++ [Cel.lst (cellsD S.length m)]).length = S.length + m + 1 := by rw [List.length_append, l1]; rfl
  refine ⟨?_, ?_, by omega, by simp, ?_, fun i p r h1 h2 => ?_, fun i p h => ?_⟩
  · rw [List.getElem?_append_left (by omega), List.getElem?_append_right (by omega), l1, Nat.sub_self, e1]
    rfl
  · rw [List.getElem?_append_right (by omega), l2, Nat.sub_self]
    rfl
  · exact map_nodup (fun a b h => by omega) List.nodup_range
  · have hi := (List.getElem?_eq_some_iff.mp h1).1
    simp at hi
    rw [List.getElem?_map, List.getElem?_range hi] at h1
    rw [List.getElem?_replicate, if_pos hi] at h2
    cases h1
    cases h2
    show (_ : Sto)[S.length + i]? = _
    rw [List.getElem?_append_left (by rw [l2]; omega), List.getElem?_append_left (by rw [l1]; omega), List.getElem?_append_right (by omega), List.getElem?_replicate, if_pos (by omega)]
  · have hi := (List.getElem?_eq_some_iff.mp h).1
    simp at hi
    rw [List.getElem?_map, List.getElem?_range hi] at h
    cases h
    show S.length + i ≠ _ ∧ S.length + i ≠ _
    omega
end Ab.Cl

namespace Ab.Cl
open PySem L2
/-- weights that go by the amount -/
def Addy (w : Dd → Rat) : Prop := ∀ a b r c d, w ⟨a, b, r, c + d⟩ = w ⟨a, b, r, c⟩ + w ⟨a, b, r, d⟩
theorem Addy.zero {w : Dd → Rat} (h : Addy w) (a b r : Int) : w ⟨a, b, r, 0⟩ = 0 := by
  have := h a b r 0 0
  rw [Int.add_zero] at this
  grind
/-- one sheet told otherwise -/
structure Alike (sh sh' : List Dd) : Prop where
  sm : ∀ w : Dd → Rat, Addy w → (sh'.map w).sum = (sh.map w).sum
  mem : ∀ x ∈ sh, 0 < x.c → ∃ c, 0 < c ∧ (⟨x.a, x.b, x.r, c⟩ : Dd) ∈ sh'
section
variable {m : Int} {sh sh' sh2 : List Dd} {ps : List Int} {qs : List Rat}
theorem Alike.refl : Alike sh sh := ⟨fun _ _ => rfl, fun x hx hc => ⟨x.c, hc, hx⟩⟩
theorem Alike.trans (h1 : Alike sh sh') (h2 : Alike sh' sh2) : Alike sh sh2 := ⟨fun w hw => (h2.sm w hw).trans (h1.sm w hw), fun x hx hc => by
  obtain ⟨c, c0, hm⟩ := h1.mem x hx hc
  obtain ⟨d, d0, hd⟩ := h2.mem _ hm c0
  exact ⟨d, d0, hd⟩⟩
theorem rsum_app {xs ys : List Dd} {w : Dd → Rat} : ((xs ++ ys).map w).sum = (xs.map w).sum + (ys.map w).sum := by rw [List.map_append, List.sum_append]
theorem rsum_rev {w : Dd → Rat} : ∀ {xs : List Dd}, (xs.reverse.map w).sum = (xs.map w).sum
  | [] => rfl
  | x :: xs => by
    rw [List.reverse_cons, rsum_app, rsum_rev (xs := xs), List.map_cons, List.map_cons, List.sum_cons, List.map_nil, List.sum_cons, List.sum_nil]
    grind
theorem Alike.turn {t : Nat} : Alike sh (sh.drop t ++ sh.take t).reverse := ⟨fun w _ => by
  rw [rsum_rev, rsum_app]
  have := rsum_app (xs := sh.take t) (ys := sh.drop t) (w := w)
  rw [List.take_append_drop] at this
  rw [this]
  grind, fun x hx hc => ⟨x.c, hc, by
  rw [List.mem_reverse, List.mem_append]
  rw [← List.take_append_drop t sh, List.mem_append] at hx
  exact hx.symm⟩⟩
theorem Alike.none {a b r : Int} : Alike sh (sh ++ [⟨a, b, r, 0⟩]) := ⟨fun w hw => by
  rw [rsum_app, List.map_cons, List.map_nil, List.sum_cons, List.sum_nil, hw.zero]
  grind, fun x hx hc => ⟨x.c, hc, List.mem_append.mpr (.inl hx)⟩⟩
theorem Alike.split {i : Nat} {x : Dd} {c d : Int} (hx : sh[i]? = some x) (c0 : 0 ≤ c) (d0 : 0 ≤ d) (e : c + d = x.c) : Alike sh (sh.take i ++ [⟨x.a, x.b, x.r, c⟩] ++ sh.drop (i + 1) ++ [⟨x.a, x.b, x.r, d⟩]) := by
  have hi := (List.getElem?_eq_some_iff.mp hx).1
  have hsh : sh = sh.take i ++ (x :: sh.drop (i + 1)) := by
    have := List.drop_eq_getElem_cons hi
    rw [(List.getElem?_eq_some_iff.mp hx).2] at this
    rw [← this, List.take_append_drop]
  refine ⟨fun w hw => ?_, fun y hy hc => ?_⟩
  · have h1 : w x = w ⟨x.a, x.b, x.r, c⟩ + w ⟨x.a, x.b, x.r, d⟩ := by rw [← hw, e]
    rw [rsum_app, rsum_app, rsum_app]
    have h2 : (sh.map w).sum = ((sh.take i).map w).sum + (w x + ((sh.drop (i + 1)).map w).sum) := by
      conv => lhs; rw [hsh]
      rw [rsum_app, List.map_cons, List.sum_cons]
    rw [h2, h1]
    simp only [List.map_cons, List.map_nil, List.sum_cons, List.sum_nil]
    grind
  · rw [hsh, List.mem_append, List.mem_cons] at hy
    rcases hy with hy | rfl | hy
    · exact ⟨y.c, hc, by simp [hy]⟩
    · by_cases h : 0 < c
      · exact ⟨c, h, by simp⟩
      · exact ⟨d, by omega, by simp⟩
    · exact ⟨y.c, hc, by simp [hy]⟩
theorem Alike.rk (h : Alike sh sh') (j r : Int) : rkI sh' j r = rkI sh j r := by
  have := h.sm (fun x => ((if x.a = j ∧ x.r = r then x.c else 0 : Int) : Rat)) fun a b r' c d => by
    dsimp only
    split
    · rw [Rat.intCast_add]
    · grind
  unfold rkI
  refine Rat.intCast_inj.mp ?_
  rw [rsum_int, rsum_int, List.map_map, List.map_map]
  exact this
theorem Alike.allC (h : Alike sh sh') : Cl.allC sh' = Cl.allC sh := by
  have := h.sm (fun x => ((x.c : Int) : Rat)) fun a b r' c d => by dsimp only; rw [Rat.intCast_add]
  unfold Cl.allC
  refine Rat.intCast_inj.mp ?_
  rw [rsum_int, rsum_int, List.map_map, List.map_map]
  exact this
theorem Alike.row (h : Alike sh sh') (j : Int) : rkRow sh' j = rkRow sh j := by unfold rkRow; rw [h.rk, h.rk, h.rk]
theorem Alike.rkT (h : Alike sh sh') (j : Int) : Ab.rkT sh' j = Ab.rkT sh j := by unfold Ab.rkT; rw [h.rk, h.rk, h.rk]
theorem Alike.st (h : Alike sh sh') (j : Int) : stQ qs sh' j = stQ qs sh j := by unfold stQ; rw [h.row]
theorem Alike.pay (h : Alike sh sh') (x : Dd) : payR qs sh' x = payR qs sh x := by
  unfold payR laidA
  rw [h.rk, h.row]
theorem Alike.got (h : Alike sh sh') (j : Int) : gotP qs sh' sh' j = gotP qs sh sh j := by
  unfold gotP
  rw [← h.sm (fun x => if x.b = j then payR qs sh x else 0) fun a b r c d => by
    dsimp only
    split
    · rw [payR_eq, payR_eq, payR_eq]
      show _ * ((c + d : Int) : Rat) = _ * ((c : Int) : Rat) + _ * ((d : Int) : Rat)
      rw [Rat.intCast_add]
      grind
    · grind]
  congr 1
  refine List.map_congr_left fun x _ => ?_
  rw [h.pay]
theorem Alike.openN (h : Alike sh sh') : Cl.openN m sh' qs = Cl.openN m sh qs := by
  unfold Cl.openN ahI
  congr 1
  funext p
  rw [h.rk, h.row]
theorem Alike.clrd (h : Alike sh sh') (C : Clrd m sh ps qs) : Clrd m sh' ps qs := by
  refine ⟨C.hl, fun j a b => by rw [h.rkT]; exact C.q0 j a b, fun j r a b e => by rw [h.got]; rw [h.st] at e; exact C.eq j r a b e, fun j a b e => by rw [h.got, h.rkT]; rw [h.st] at e; exact C.ge j a b e, fun M hM hc => ?_⟩
  refine C.ns M (fun j hj => by have := hM j hj; rwa [h.st] at this) fun x hx ha => ?_
  obtain ⟨h1, h2, h3⟩ := mem_some.mp hx
  obtain ⟨c, c0, hm⟩ := h.mem x h1 h2
  exact hc ⟨x.a, x.b, x.r, c⟩ (mem_some.mpr ⟨hm, c0, by rw [h.st]; exact h3⟩) ha
end
end Ab.Cl

namespace Ab.Cl
open PySem L2
/-! ### all so many times as great -/
def scaleD (n : Int) (sh : List Dd) : List Dd := sh.map fun x => ⟨x.a, x.b, x.r, x.c * n⟩
def scaleQ (n : Int) (qs : List Rat) : List Rat := qs.map fun q => q * (n : Rat)
section
variable {m n : Int} {sh : List Dd} {ps : List Int} {qs : List Rat} {j r : Int}
theorem isum_mul {α : Type} {f : α → Int} : ∀ {xs : List α}, (xs.map fun x => f x * n).sum = (xs.map f).sum * n
  | [] => by simp
  | x :: xs => by rw [List.map_cons, List.map_cons, List.sum_cons, List.sum_cons, isum_mul (xs := xs), Int.add_mul]
theorem rsum_mul {α : Type} {f : α → Rat} {c : Rat} : ∀ {xs : List α}, (xs.map fun x => f x * c).sum = (xs.map f).sum * c
  | [] => by simp
  | x :: xs => by rw [List.map_cons, List.map_cons, List.sum_cons, List.sum_cons, rsum_mul (xs := xs)]; grind
theorem sc_rk : rkI (scaleD n sh) j r = rkI sh j r * n := by
  unfold rkI scaleD
  rw [List.map_map, ← isum_mul]
  congr 1
  refine List.map_congr_left fun x _ => ?_
  show (if x.a = j ∧ x.r = r then x.c * n else 0) = (if x.a = j ∧ x.r = r then x.c else 0) * n
  split <;> simp
theorem sc_rkT : Ab.rkT (scaleD n sh) j = Ab.rkT sh j * n := by
  unfold Ab.rkT
  rw [sc_rk, sc_rk, sc_rk, Int.add_mul, Int.add_mul]
theorem sc_gR : gR (scaleQ n qs) j = gR qs j * (n : Rat) := by
  unfold gR scaleQ
  rw [List.getD_eq_getElem?_getD, List.getD_eq_getElem?_getD, List.getElem?_map]
  cases qs[j.toNat]? with
  | none => show (0 : Rat) = 0 * _; grind
  | some q => rfl
theorem sc_gI : gI (ps.map fun z => z * n) j = gI ps j * n := by
  unfold gI
  rw [List.getD_eq_getElem?_getD, List.getD_eq_getElem?_getD, List.getElem?_map]
  cases ps[j.toNat]? with
  | none => show (0 : Int) = 0 * _; simp
  | some q => rfl
theorem sc_lt (n0 : 0 < n) {q : Rat} {a : Int} : q * (n : Rat) < ((a * n : Int) : Rat) ↔ q < (a : Rat) := by
  rw [Rat.intCast_mul]
  exact Rat.mul_lt_mul_right (by exact_mod_cast n0)
theorem sc_st (n0 : 0 < n) : stQ (scaleQ n qs) (scaleD n sh) j = stQ qs sh j := by
  unfold stQ stop3 rkRow
  rw [sc_gR, sc_rk, sc_rk, sc_rk]
  simp only [stopF, Int.zero_add, ← Int.add_mul, sc_lt n0]
theorem sc_min (n0 : 0 < n) {q : Rat} {a : Int} : minR (q * (n : Rat)) ((a * n : Int) : Rat) = minR q (a : Rat) * (n : Rat) := by
  unfold minR
  rw [Rat.intCast_mul]
  have h : (0 : Rat) < (n : Rat) := by exact_mod_cast n0
  have := Rat.mul_lt_mul_right (a := (a : Rat)) (b := q) h
  by_cases c : (a : Rat) < q
  · rw [if_pos c, if_pos (this.mpr c)]
  · rw [if_neg c, if_neg (fun z => c (this.mp z))]
theorem sc_laid (n0 : 0 < n) : ∀ {as : List Int} {q : Rat}, laidR (q * (n : Rat)) (as.map fun a => a * n) = (laidR q as).map fun z => z * (n : Rat)
  | [], _ => rfl
  | a :: as, q => by
    show minR (q * (n : Rat)) ((a * n : Int) : Rat) :: laidR (q * (n : Rat) - minR (q * (n : Rat)) ((a * n : Int) : Rat)) (as.map fun a => a * n) = minR q (a : Rat) * (n : Rat) :: (laidR (q - minR q (a : Rat)) as).map fun z => z * (n : Rat)
    rw [sc_min n0, show q * (n : Rat) - minR q (a : Rat) * (n : Rat) = (q - minR q (a : Rat)) * (n : Rat) by grind, sc_laid n0]
theorem sc_pay (n0 : 0 < n) {x : Dd} : payR (scaleQ n qs) (scaleD n sh) ⟨x.a, x.b, x.r, x.c * n⟩ = payR qs sh x * (n : Rat) := by
  have hn : (n : Rat) ≠ 0 := by exact_mod_cast (show n ≠ 0 by omega)
  rw [payR_eq, payR_eq]
  unfold shareF laidA
  dsimp only
  have e : rkRow (scaleD n sh) x.a = (rkRow sh x.a).map fun a => a * n := by unfold rkRow; rw [sc_rk, sc_rk, sc_rk]; rfl
  rw [sc_gR, e, sc_laid n0, sc_rk, show gR ((laidR (gR qs x.a) (rkRow sh x.a)).map fun z => z * (n : Rat)) x.r = gR (laidR (gR qs x.a) (rkRow sh x.a)) x.r * (n : Rat) from sc_gR]
  by_cases c : rkI sh x.a x.r = 0
  · rw [c, if_pos (by simp), if_pos rfl]
    grind
  · rw [if_neg (fun z => by rcases Int.mul_eq_zero.mp z with z | z <;> omega), if_neg c]
    have h1 : ((rkI sh x.a x.r : Int) : Rat) ≠ 0 := by exact_mod_cast c
    rw [Rat.intCast_mul, Rat.intCast_mul]
    grind
theorem sc_got (n0 : 0 < n) : gotP (scaleQ n qs) (scaleD n sh) (scaleD n sh) j = gotP qs sh sh j * (n : Rat) := by
  unfold gotP
  rw [← rsum_mul]
  congr 1
  show (scaleD n sh).map _ = _
  rw [show scaleD n sh = sh.map fun x => ⟨x.a, x.b, x.r, x.c * n⟩ from rfl, List.map_map]
  refine List.map_congr_left fun x _ => ?_
  show (if x.b = j then payR (scaleQ n qs) (scaleD n sh) ⟨x.a, x.b, x.r, x.c * n⟩ else 0) = _
  rw [sc_pay n0]
  split
  · rfl
  · grind
theorem Clrd.scale (n0 : 0 < n) (C : Clrd m sh ps qs) : Clrd m (scaleD n sh) (ps.map fun z => z * n) (scaleQ n qs) := by
  have h0 : (0 : Rat) < (n : Rat) := by exact_mod_cast n0
  have mono : ∀ a b : Rat, a ≤ b → a * (n : Rat) ≤ b * (n : Rat) := fun a b h => Rat.mul_le_mul_of_nonneg_right h (by grind)
  refine ⟨by unfold scaleQ; rw [List.length_map]; exact C.hl, fun j a b => ?_, fun j r a b e => ?_, fun j a b e => ?_, fun M hM hc => ?_⟩
  · rw [sc_gR, sc_rkT, Rat.intCast_mul]
    have := C.q0 j a b
    have h1 := mono _ _ this.1
    exact ⟨by grind, mono _ _ this.2⟩
  · rw [sc_st n0] at e
    rw [sc_gR, sc_got n0, sc_gI, Rat.intCast_mul, C.eq j r a b e]
    grind
  · rw [sc_st n0] at e
    rw [sc_got n0, sc_gI, sc_rkT, Rat.intCast_mul, Rat.intCast_mul]
    have := mono _ _ (C.ge j a b e)
    grind
  · refine C.ns M (fun j hj => by have := hM j hj; rwa [sc_st n0] at this) fun x hx ha => ?_
    obtain ⟨h1, h2, h3⟩ := mem_some.mp hx
    exact hc ⟨x.a, x.b, x.r, x.c * n⟩ (mem_some.mpr ⟨List.mem_map.mpr ⟨x, h1, rfl⟩, Int.mul_pos h2 n0, by rw [sc_st n0]; exact h3⟩) ha
end
end Ab.Cl

namespace Ab
/-- a right side by itself: its size goes in once -/
theorem det_abs2 {n : Nat} {v : Nat → Nat → Int} {r : Nat} (hr : r < n) {z : Nat → Int} {P : Nat} {e B : Nat → Nat} (hz : ∀ c, c < n → (z c).natAbs ≤ P * e c) (hv : ∀ c, c < n → (sm n fun i => if i = r then (e c : Int) else ((v i c).natAbs : Int)) ≤ B c) : ((det n (upv v r z)).natAbs : Int) ≤ P * prN n fun c => B c := by
  let u : Nat → Nat → Int := fun k c => if k = c then 1 else 0
  let F : Nat → Int := fun k => det n (upv v r (u k))
  have e1 : ∀ Y : Nat → Int, det n (upv v r Y) = sm n fun k => Y k * F k := fun Y => by
    rw [← det_sum v hr Y u n]
    refine det_congr fun i c hi hc => ?_
    by_cases h : i = r
    · subst h
      rw [upv_at, upv_at, sm_one hc fun k hk hn => by
        show Y k * (if k = c then 1 else 0) = 0
        rw [if_neg hn, Int.mul_zero]]
      show Y c = Y c * (if c = c then 1 else 0)
      rw [if_pos rfl, Int.mul_one]
    · rw [upv_ne h, upv_ne h]
  let s : Nat → Int := fun k => if 0 ≤ F k then (e k : Int) else -(e k : Int)
  have e2 : ∀ k, s k * F k = (e k : Int) * ((F k).natAbs : Int) := fun k => by
    show (if 0 ≤ F k then (e k : Int) else -(e k : Int)) * F k = _
    by_cases h : 0 ≤ F k
    · rw [if_pos h, Int.natAbs_of_nonneg h]
    · rw [if_neg h, Int.ofNat_natAbs_of_nonpos (by omega), Int.neg_mul, Int.mul_neg]
  have e3 : det n (upv v r s) = sm n fun k => (e k : Int) * ((F k).natAbs : Int) := by
    rw [e1]
    exact sm_congr fun k _ => e2 k
  have h1 : ((det n (upv v r s)).natAbs : Int) ≤ prN n fun c => B c := det_abs fun c hc => by
    refine Int.le_trans (Int.le_of_eq (sm_congr fun i hi => ?_)) (hv c hc)
    by_cases h : i = r
    · rw [if_pos h, h, upv_at]
      show (((if 0 ≤ F c then (e c : Int) else -(e c : Int)).natAbs : Nat) : Int) = _
      split <;> omega
    · rw [if_neg h, upv_ne h]
  have h2 : ((det n (upv v r z)).natAbs : Int) ≤ P * sm n fun k => (e k : Int) * ((F k).natAbs : Int) := by
    rw [e1, ← sm_mul]
    refine Int.le_trans (sm_abs _ _) (sm_le fun k hk => ?_)
    rw [Int.natAbs_mul, Int.natCast_mul, ← Int.mul_assoc]
    refine Int.mul_le_mul_of_nonneg_right ?_ (Int.natCast_nonneg _)
    have := hz k hk
    exact_mod_cast this
  rw [← e3] at h2
  have h3 : det n (upv v r s) ≤ prN n fun c => B c := by omega
  exact Int.le_trans h2 (Int.mul_le_mul_of_nonneg_left h3 (Int.natCast_nonneg _))
theorem Elim.size2 {n t : Nat} {A G : Nat → Nat → Int} {d : Int} (E : Elim n (n + 1) t A G d) {B P : Nat} {e : Nat → Nat} (hB : 1 ≤ B) (hP : 1 ≤ P) (hA : ∀ i, i < n → (sm n fun j => ((A i j).natAbs : Int)) + e i ≤ B) (hR : ∀ i, i < n → (A i n).natAbs ≤ P * e i) {k j : Nat} (hk : k < n) (hj : j < n + 1) : d.natAbs ≤ P * B ^ n ∧ (G k j).natAbs ≤ P * B ^ n := by
  have ht := E.ht
  have nn : ∀ i j, 0 ≤ ((A i j).natAbs : Int) := fun i j => by omega
  have hA1 : ∀ i, i < n → (sm n fun j => ((A i j).natAbs : Int)) ≤ B := fun i hi => by have := hA i hi; omega
  have up : ∀ {x m : Nat}, x ≤ B ^ m → m ≤ n → x ≤ P * B ^ n := fun {x m} hx hm => by
    have h1 := Nat.le_trans hx (Nat.pow_le_pow_right hB hm)
    exact Nat.le_trans h1 (Nat.le_mul_of_pos_left _ hP)
  have up2 : ∀ {x m : Nat}, x ≤ P * B ^ m → m ≤ n → x ≤ P * B ^ n := fun {x m} hx hm => Nat.le_trans hx (Nat.mul_le_mul_left _ (Nat.pow_le_pow_right hB hm))
  have hd : d.natAbs ≤ P * B ^ n := by
    have := det_abs (n := t) (v := fun j i => A i j) (B := fun _ => B) fun c hc => Int.le_trans (sm_le_all (fun i => nn c i) (by omega)) (hA1 c (by omega))
    rw [prN_const, E.dt] at this
    exact up (by exact_mod_cast this) ht
  refine ⟨hd, ?_⟩
  have key2 : ∀ (m r : Nat) (v : Nat → Nat → Int) (z : Nat → Int) (f : Nat → Nat), m ≤ n → r < m → (∀ c, c < m → (z c).natAbs ≤ P * f c) → (∀ c, c < m → (sm m fun i => if i = r then (f c : Int) else ((v i c).natAbs : Int)) ≤ B) → (det m (upv v r z)).natAbs ≤ P * B ^ n := fun m r v z f hm hr hz hv => by
    have := det_abs2 (n := m) (v := v) (B := fun _ => B) hr hz hv
    rw [prN_const] at this
    exact up2 (m := m) (by exact_mod_cast this) hm
  have key : ∀ (m : Nat) (v : Nat → Nat → Int), m ≤ n → (∀ c, c < m → (sm m fun i => ((v i c).natAbs : Int)) ≤ B) → (det m v).natAbs ≤ P * B ^ n := fun m v hm hv => by
    have := det_abs (n := m) (v := v) (B := fun _ => B) hv
    rw [prN_const] at this
    exact up (m := m) (by exact_mod_cast this) hm
  by_cases hjt : j < t
  · by_cases hkt : k < t
    · rw [E.dg k hkt j hjt]
      split
      · exact hd
      · exact Nat.zero_le _
    · have e := E.eq k hk j hj
      rw [if_pos (by omega)] at e
      rw [sm_one (r := j) hjt fun m hm hn => by rw [E.dg m hm j hjt, if_neg hn, Int.zero_mul], E.dg j hjt j hjt, if_pos rfl] at e
      have : G k j = 0 := by omega
      rw [this]
      exact Nat.zero_le _
  by_cases hjn : j = n
  · subst hjn
    by_cases hkt : k < t
    · rw [E.lowG hkt hj]
      refine key2 t k _ _ (fun c => e c) ht hkt (fun c hc => hR c (by omega)) fun c hc => ?_
      have h1 : (sm t fun i => if i = k then (e c : Int) else ((A c i).natAbs : Int)) ≤ sm t (fun i => ((A c i).natAbs : Int) + if i = k then (e c : Int) else 0) := sm_le fun i hi => by
        have := nn c i
        split <;> omega
      rw [sm_add, sm_one (r := k) (f := fun i => if i = k then (e c : Int) else 0) hkt fun i hi hn => if_neg hn, if_pos rfl] at h1
      have h2 := sm_le_all (fun i => nn c i) (show t ≤ j by omega)
      have h3 := hA c (by omega)
      exact Int.le_trans h1 (by omega)
    · rw [E.highG (by omega) hk hj]
      refine key2 (t + 1) t _ _ (fun c => e (if c < t then c else k)) (by omega) (by omega) (fun c hc => ?_) fun c hc => ?_
      · unfold ext
        exact hR _ (by split <;> omega)
      · rw [sm, if_pos rfl]
        have h1 : (sm t fun i => if i = t then ((e (if c < t then c else k) : Nat) : Int) else ((ext A t k c i).natAbs : Int)) = sm t fun i => ((ext A t k c i).natAbs : Int) := sm_congr fun i hi => if_neg (by omega)
        rw [h1]
        unfold ext
        have h2 := sm_le_all (fun i => nn (if c < t then c else k) i) (show t ≤ j by omega)
        have h3 := hA (if c < t then c else k) (by split <;> omega)
        omega
  · have hjn : j < n := by omega
    by_cases hkt : k < t
    · rw [E.lowG hkt hj]
      refine key t _ ht fun c hc => ?_
      have h1 : (sm t fun i => ((upv (fun j i => A i j) k (fun i => A i j) i c).natAbs : Int)) ≤ sm t (fun i => ((A c i).natAbs : Int)) + ((A c j).natAbs : Int) := by
        have : (sm t fun i => ((upv (fun j i => A i j) k (fun i => A i j) i c).natAbs : Int)) ≤ sm t (fun i => ((A c i).natAbs : Int) + if i = k then ((A c j).natAbs : Int) else 0) := sm_le fun i hi => by
          by_cases e : i = k
          · subst e
            rw [upv_at, if_pos rfl]
            have := nn c i
            omega
          · rw [upv_ne e, if_neg e]
            omega
        rw [sm_add, sm_one (r := k) hkt fun i hi hn => if_neg hn, if_pos rfl] at this
        exact this
      exact Int.le_trans h1 (Int.le_trans (sm_sub (f := fun i => ((A c i).natAbs : Int)) (fun i => nn c i) (by omega) hjn) (hA1 c (by omega)))
    · rw [E.highG (by omega) hk hj]
      refine key (t + 1) _ (by omega) fun c hc => ?_
      rw [sm]
      have e0 : upv (fun j i => ext A t k i j) t (fun i => ext A t k i j) t c = ext A t k c j := by rw [upv_at]
      have h1 : (sm t fun i => ((upv (fun j i => ext A t k i j) t (fun i => ext A t k i j) i c).natAbs : Int)) = sm t fun i => ((ext A t k c i).natAbs : Int) := sm_congr fun i hi => by rw [upv_ne (by omega)]
      rw [h1, e0]
      unfold ext
      exact Int.le_trans (sm_sub (f := fun i => ((A (if c < t then c else k) i).natAbs : Int)) (fun i => nn _ i) (by omega) hjn) (hA1 _ (by split <;> omega))
end Ab

namespace Ab.Cl
theorem ev_of {sh : List Dd} {ps : List Int} {B : Nat} (h : ∀ z ∈ ps, allC sh + z ≤ B) (h2 : 2 * allC sh ≤ B) : ∃ ev : Nat, allC sh + ev ≤ B ∧ ∀ z ∈ ps, z ≤ ((1 * ev : Nat) : Int) := by
  refine ⟨((B : Int) - allC sh).toNat, by omega, fun z hz => ?_⟩
  have := h z hz
  rw [Nat.one_mul]
  omega
end Ab.Cl

namespace Ab
open PySem L2
/-! ### a day's means -/
def addB (a b : List Int) : List Int := List.zipWith (fun x y => x + y) a b
def meansR (ps : List Int) (rows : List (Str × List Int × List Int)) : List Int := rows.foldl (fun m x => addB m x.2.1) ps
theorem meansR_one {ps : List Int} {rows : List (Str × List Int × List Int)} {x : Str × List Int × List Int} : meansR ps (rows ++ [x]) = addB (meansR ps rows) x.2.1 := by
  unfold meansR
  rw [List.foldl_append]
  rfl
structure MOk (n : Nat) (ps g : List Int) (s : LSt) : Prop where
  ln : (meansR ps s.rows).length = n
  gt : ∀ k : Nat, k < n → gI (meansR ps s.rows) k + gI s.rests k = gI ps k + gI g k
  lo : ∀ k : Nat, k < n → gI ps k ≤ gI (meansR ps s.rows) k
  rl : ∀ x ∈ s.rows, x.2.1.length = n ∧ ∀ k : Nat, k < n → 0 ≤ gI x.2.1 k
theorem run_means {n : Nat} {g pl sh ps : List Int} {own : Int} (hg : Fit n g) (hp : Fit n pl) (hs : Fit n sh) (ho : 0 ≤ own) (lp : ps.length = n) (ws : List Str) (i : Nat) : MOk n ps g (runR g pl sh own (ws.take i)) := by
  induction i with
  | zero => exact ⟨lp, fun k hk => rfl, fun k hk => Int.le_refl _, fun x hx => by cases hx⟩
  | succ i ih =>
    cases e : ws[i]? with
    | none =>
      have : ws.length ≤ i := List.getElem?_eq_none_iff.mp e
      rw [List.take_of_length_le this] at ih
      rw [List.take_of_length_le (by omega)]
      exact ih
    | some w =>
      have L := (run_ok hg hp hs ho ws i).1
      rw [take_succ_of e, runR_one]
      generalize runR g pl sh own (ws.take i) = s at ih L
      have ok := row_ok (w := w) hg.1 hp L.rests L.stock ho
      unfold stepR
      generalize rowR g pl own w s.rests s.stock = p at ok
      have lr := L.rests.1
      refine ⟨?_, fun k hk => ?_, fun k hk => ?_, fun x hx => ?_⟩
      · dsimp only
        rw [meansR_one]
        unfold addB
        rw [List.length_zipWith, ih.ln, ok.len1]
        omega
      · dsimp only
        rw [meansR_one]
        unfold addB subB
        rw [zip_get (by rw [ih.ln]; exact hk) (by rw [ok.len1]; exact hk), zip_get (by omega) (by rw [ok.len1]; exact hk)]
        have := ih.gt k hk
        dsimp only
        omega
      · dsimp only
        rw [meansR_one]
        unfold addB
        rw [zip_get (by rw [ih.ln]; exact hk) (by rw [ok.len1]; exact hk)]
        have h1 := ih.lo k hk
        have h2 := (ok.le1 k hk).1
        dsimp only
        omega
      · rcases List.mem_append.mp hx with hx | hx
        · exact ih.rl x hx
        · rw [List.mem_singleton] at hx
          subst hx
          exact ⟨ok.len1, fun k hk => (ok.le1 k hk).1⟩
namespace Cl
section
variable {m : Int} {sh : List Dd} {ps : List Int} {qs : List Rat} {j : Int}
theorem got_le_B (hs : ∀ x ∈ sh, x.Ok m) (hq : ∀ k : Int, 0 ≤ k → k < m → 0 ≤ gR qs k) : gotP qs sh sh j ≤ ((sumB sh j : Int) : Rat) := by
  unfold gotP sumB
  rw [rsum_int, List.map_map]
  refine sum_mono fun x hx => ?_
  have ho := hs x hx
  unfold Dd.Ok at ho
  show (if x.b = j then payR qs sh x else 0) ≤ ((if x.b = j then x.c else 0 : Int) : Rat)
  split
  · exact payR_le hs hx (hq x.a (by omega) (by omega))
  · exact Rat.le_refl
theorem got_full (hs : ∀ x ∈ sh, x.Ok m) (hq : ∀ k : Int, 0 ≤ k → k < m → gR qs k = ((rkT sh k : Int) : Rat)) : gotP qs sh sh j = ((sumB sh j : Int) : Rat) := by
  unfold gotP sumB
  rw [rsum_int, List.map_map]
  refine sum_congr fun x hx => ?_
  have ho := hs x hx
  unfold Dd.Ok at ho
  show (if x.b = j then payR qs sh x else 0) = ((if x.b = j then x.c else 0 : Int) : Rat)
  have e := hq x.a (by omega) (by omega)
  split
  · exact pay_full hs hx (by rw [e]; exact_mod_cast rkT_nonneg hs) e
  · rfl
/-- enough for all: all pay in full -/
theorem Clrd.allfull (hs : ∀ x ∈ sh, x.Ok m) (C : Clrd m sh ps qs) (h : ∀ k : Int, 0 ≤ k → k < m → sumA sh k ≤ gI ps k + sumB sh k) : ∀ k : Int, 0 ≤ k → k < m → stQ qs sh k = none := by
  have m0 : 0 ≤ m := by have := C.hl; omega
  let rs : List Rat := (List.range m.toNat).map fun (k : Nat) => ((rkT sh k : Int) : Rat)
  have hr : ∀ k : Int, 0 ≤ k → k < m → gR rs k = ((rkT sh k : Int) : Rat) := fun k k0 k1 => by
    obtain ⟨i, rfl⟩ : ∃ i : Nat, k = (i : Int) := ⟨k.toNat, by omega⟩
    rw [gR_nat (by show i < ((List.range m.toNat).map _).length; simp; omega)]
    show ((List.range m.toNat).map fun (k : Nat) => ((rkT sh k : Int) : Rat))[i]'_ = _
    simp
  have hg := C.great hs (rs := rs) (fun k k0 k1 => by rw [hr k k0 k1]; exact ⟨by exact_mod_cast rkT_nonneg hs, Rat.le_refl⟩) fun k k0 k1 => by
    rw [hr k k0 k1, got_full hs hr, rkT_sumA hs, ← Rat.intCast_add]
    exact Rat.intCast_le_intCast.mpr (h k k0 k1)
  intro k k0 k1
  have := hg k k0 k1
  rw [hr k k0 k1] at this
  exact st_full hs this
/-- too little: short -/
theorem Clrd.short (hs : ∀ x ∈ sh, x.Ok m) (C : Clrd m sh ps qs) (k0 : 0 ≤ j) (k1 : j < m) (h : gI ps j + sumB sh j < sumA sh j) : stQ qs sh j ≠ none := fun e => by
  have h1 := C.ge j k0 k1 e
  have h2 := got_le_B (j := j) hs C.nn
  rw [rkT_sumA hs] at h1
  have h3 : ((sumA sh j : Int) : Rat) ≤ ((gI ps j + sumB sh j : Int) : Rat) := by rw [Rat.intCast_add]; grind
  have := Rat.intCast_le_intCast.mp h3
  omega
/-- who has no more than it lacks ends with nothing -/
theorem Clrd.endZ (hs : ∀ x ∈ sh, x.Ok m) (C : Clrd m sh ps qs) (k0 : 0 ≤ j) (k1 : j < m) (h : gI ps j + sumB sh j ≤ sumA sh j) : endR qs sh ps j = 0 := by
  by_cases e : gR qs j = ((rkT sh j : Int) : Rat)
  · have h1 := C.end0 hs k0 k1
    have h2 := got_le_B (j := j) hs C.nn
    have h3 : ((gI ps j + sumB sh j : Int) : Rat) ≤ ((sumA sh j : Int) : Rat) := Rat.intCast_le_intCast.mpr h
    rw [Rat.intCast_add] at h3
    unfold endR at h1 ⊢
    rw [e, rkT_sumA hs] at h1 ⊢
    grind
  · exact C.endS k0 k1 e
end
end Cl
end Ab

namespace Ab
open PySem PySem.Spec PyProof.Rows L2
/-! ### sorted(range(e), key=lambda day: (0 - losses[day], day)) -/
abbrev keyScope : Scope := { kind := .function, names := [("day", .local), ("losses", .free)], isGenerator := false, isCoroutine := false, more := [] }
abbrev keyParams (pp : Pos) : Arguments := { posonlyargs := [], args := [{ arg := "day", annotation := none, pos := pp }], vararg := none, kwonlyargs := [], kw_defaults := [], kwarg := none, defaults := [] }
abbrev keyBody (j kk : Nat) (p0 p1 p2 p3 p4 p5 p6 : Pos) : Expr := .Tuple [.BinOp (.Constant (.int 0) j p0) .Sub (.Subscript (.Name "losses" p1) (.Name "day" p2) p3) p4, .Name "day" p5] kk p6
theorem run_key {prog : Program} {w : World} {A : Around} {s : Shared} {f c' cl aL : Addr} {q : Str} {j kk : Nat} {pp p0 p1 p2 p3 p4 p5 p6 : Pos} {pm ctv : Value} {clos : List (Str × Addr)} {items : List Value} {ns : List Int} {d : Int} {t : Tok}
    (hroom : A.depth < recursionLimit) (hlim : s.heap.NoLimit) (ho : s.heap.get? f = some (PySem.W.kla_obj "<lambda>" q (keyParams pp) (keyBody j kk p0 p1 p2 p3 p4 p5 p6) keyScope clos pm c' ctv)) (hcd : s.heap.CodeRec (.ref c') q)
    (hcl : clos.lookup ("losses" : Str) = some cl) (hcell : s.heap.IsCell cl (some (.ref aL))) (hl : s.heap.IsList aL items.toArray) (hi : IntsAre items ns) (h0 : 0 ≤ d) (h1 : d < (ns.length : Int)) (h2 : d < 2 ^ 63) :
    wpAny (model prog w) A (call (.ref f) [.int d t]) (PySem.W.KeyPure (.tuple [.int (0 - gI ns d), .int d]) s) (fun _ _ => False) s := by
  refine wpAny_call (PySem.W.kla_callFunE hroom ho rfl rfl rfl rfl hcd ?_)
  rw [show bindArgs (PySem.W.kla_fn "<lambda>" q (keyParams pp) (keyBody j kk p0 p1 p2 p3 p4 p5 p6) keyScope clos pm (.ref c') ctv) ⟨[.int d t], []⟩ = pure [(("day" : Str), Value.int d t)] from rfl]
  refine wpAny_pure (wpAny_newFunctionEnv (show ∀ x ∈ keyScope.names, x.2 ≠ .cell by decide) (fun x hx => ?_) (fun h₁ hns hsb => ⟨hlim.fresh _ hsb, ?_⟩) rfl)
  · rw [List.mem_singleton] at hx
    subst hx
    rfl
  have kp : ∀ b o, s.heap.get? b = some o → h₁.get? b = some o := fun b o e => hsb.extBut b o (Nat.ne_of_lt (Heap.lt_size e)) (Heap.get?_push_of_some _ e)
  refine PySem.W.kla_codeExpr (wpAny_Tuple_spliced ?_)
  obtain ⟨env, hE⟩ : ∃ env, env = PySem.W.envX q keyScope s.heap.objs.size f (.ref c') clos := ⟨_, rfl⟩
  have eS : env.scope = keyScope := by rw [hE]
  have eL : env.locals = s.heap.objs.size := by rw [hE]
  have eC : env.cells = clos := by rw [hE]
  have kL : env.kindOf "day" = some .local := by rw [hE]; rfl
  have kF : env.kindOf "losses" = some .free := by rw [hE]; rfl
  have kE : env.scope.kind = .function := by rw [hE]
  show wpAny _ (A.deeper (PySem.W.envX q keyScope s.heap.objs.size f (.ref c') clos)) (spliced (backTo p6 (starEach [.BinOp (.Constant (.int 0) j p0) .Sub (.Subscript (.Name "losses" p1) (.Name "day" p2) p3) p4, .Name "day" p5] (PySem.W.envX q keyScope s.heap.objs.size f (.ref c') clos)))) _ _ _
  rw [← hE]
  have dayAt : ∀ (h' : Heap) (tk : Nat) (p : Pos) (Q : Value → Shared → Prop) (E : Value → Shared → Prop), (∀ b o, h₁.get? b = some o → h'.get? b = some o) → Q (.int d t) { s with heap := h', toks := tk } → wpAny (model prog w) (A.deeper env) (eval (.Name "day" p) env) Q E { s with heap := h', toks := tk } := fun h' tk p Q E hk hq =>
    wpAny_Name (wpAny_loadName_local kE kL (by rw [eL]; exact hns.keeps hk) rfl hq) (by decide)
  show wpAny _ _ (spliced ((false, eval (.BinOp (.Constant (.int 0) j p0) .Sub (.Subscript (.Name "losses" p1) (.Name "day" p2) p3) p4) env) :: backTo p6 (starEach [.Name "day" p5] env))) _ _ _
  refine Calls.spliced_cons (wpAny_BinOp (wpAny_Constant_int (Subscript_ ?_)))
  refine wpAny_Name (wpAny_loadName_free kE kF (by rw [eC]; exact hcl) (hcell.keeps kp) ?_ (by decide)) (by decide)
  refine dayAt _ _ _ _ _ (fun _ _ e => e) ?_
  refine item_list_intsR (let ⟨o, e, r⟩ := hl; ⟨o, kp _ _ e, r⟩) hi h0 h1 h2 (fun t' => ?_)
  refine sub_int ?_
  show wpAny _ _ (spliced ((false, eval (.Name "day" p5) env) :: backTo p6 (starEach [] env))) _ _ _
  refine Calls.spliced_cons (dayAt _ _ _ _ _ (fun _ _ e => e) ?_)
  refine Calls.spliced_nil ⟨szle (show 2 ≤ 1000000 by decide), ?_⟩
  refine ⟨_, _, rfl, fun b o e => Heap.get?_push_of_some _ (kp b o e), ?_⟩
  exact .tuple (Heap.get?_push_size _ rfl) rfl rfl (.cons (.int _ _) (.cons (.int _ _) .nil))
/-- sorted(range object, key=f) -/
def kDat (key : Int → Int) (x : Int) : PyData := .tuple [.int (key x), .int x]
theorem kDat_alike {key : Int → Int} {bs : List Int} : PySem.W.AllAlike (bs.map (kDat key)) := by
  intro d hd d' hd'
  obtain ⟨b, _, rfl⟩ := List.mem_map.mp hd
  obtain ⟨b', _, rfl⟩ := List.mem_map.mp hd'
  unfold kDat
  simp [PySem.W.alike, PySem.W.alikeAll]
theorem kDat_sortable {key : Int → Int} {bs : List Int} : PySem.W.Sortable (bs.map (kDat key)) := .inl fun d hd => by
  obtain ⟨b, _, rfl⟩ := List.mem_map.mp hd
  exact ⟨_, _, rfl⟩
theorem kDat_depth {key : Int → Int} {x : Int} : (kDat key x).depth = 1 := by
  unfold kDat
  simp [PyData.depth, PyData.depthAll]
theorem each_rng {N : Int} {acc : Array Value} (h : ItemsOf (fun i v => ∃ t, v = .int (0 + i * 1) t) acc N.toNat) : PySem.W.EachIs (fun (v : Value) (x : Int) => (∃ t, v = .int x t) ∧ 0 ≤ x ∧ x < N) acc.toList (intsL N) := by
  refine PySem.W.EachIs.of_zip (by rw [Array.length_toList, h.1, intsL_len]) fun p hp => ?_
  obtain ⟨j, hj⟩ := List.mem_iff_getElem?.mp hp
  obtain ⟨e1, e2⟩ := List.getElem?_zip_eq_some.mp hj
  have hj2 := (List.getElem?_eq_some_iff.mp e2).1
  rw [intsL_len] at hj2
  unfold intsL at e2
  rw [List.getElem?_map, List.getElem?_range hj2] at e2
  have e3 : ((j : Nat) : Int) = p.2 := Option.some.inj e2
  obtain ⟨t, ht⟩ := h.2 j p.1 (by rw [← e1, Array.getElem?_toList])
  exact ⟨⟨t, by rw [ht, ← e3, Int.zero_add, Int.mul_one]⟩, by omega, by omega⟩
theorem sorted_rng {prog : Program} {w : World} {A : Around} {E : Value → Shared → Prop} {s : Shared} {r f : Addr} {N : Int} {t u v : Tok} {key : Int → Int} {Q : Value → Shared → Prop} (hh : A.in1.handled = none) (hu : A.units + 64 < cLine) (hr : IsRange s.heap r 0 N 1 t u v) (hN : RgOk 0 N)
    (turn : ∀ (h : Heap) (tk : Nat) (d : Int) (t : Tok), 0 ≤ d → d < N → (∀ b o, s.heap.get? b = some o → h.get? b = some o) → wpAny (model prog w) A.in1.in1 (call (.ref f) [.int d t]) (PySem.W.KeyPure (kDat key d) { s with heap := h, toks := tk }) (fun _ _ => False) { s with heap := h, toks := tk })
    (h : ∀ (h₁ h' : Heap) (tk : Nat) (out : List Value) (c : Nat), (∀ b o, s.heap.get? b = some o → h₁.get? b = some o) → (∀ b o, h₁.get? b = some o → h'.get? b = some o) → h'.get? h₁.objs.size = some (seqObj "list" (List.toArray out) c) → PySem.W.EachIs (fun (v : Value) (x : Int) => (∃ t, v = .int x t) ∧ 0 ≤ x ∧ x < N) out ((intsL N).mergeSort (PySem.W.dataLe false (kDat key))) → Q (.ref h₁.objs.size) { s with heap := h', toks := tk }) :
    wpAny (model prog w) A (call (.builtin "sorted") [.ref r] [(Str.ofString "key", .ref f)]) Q E s := by
  obtain ⟨b1, b2, b3, b4, b5⟩ := hN
  refine call_function_entry_kw kind_sorted plain_sorted entry_sorted (PyProof.Rows.ksk_s1 _ _) ?_
  unfold Builtin.«sorted»
  refine wpAny_bind (wpAny_pure ?_)
  refine wpAny_bind (collect_range hh hr (small_one b1 b2 b3 b4) (rangeSize_nat 0 N) b5 fun h₁ tk₁ acc hk hi => ?_)
  rw [Int.sub_zero] at hi b5
  have lacc : acc.toList.length ≤ sizeLine := by
    rw [Array.length_toList, hi.1, sizeLine_eq]
    omega
  refine wpAny_bind (wpAny_newList ?_ lacc)
  have hz : (intsL N).length ≤ sizeLine := by
    rw [intsL_len, sizeLine_eq]
    omega
  have eacc := each_rng hi
  refine wpAny_bind (wpAny_holding (PySem.W.list_sort_key_data (b := false) (vs := acc.toList) (bs := intsL N) (kDat key) (Heap.get?_push_size _ rfl) eacc kDat_alike kDat_sortable hz (fun x _ => ?_) (PyProof.Rows.ksk_l1 _ _) (PyProof.Rows.ksk_t1 _ _) (fun v x hR _ g tk kp => ?_) fun out c g tk kp hD _ eo => ?_))
  · rw [kDat_depth]
    show A.units + 1 + 1 + 1 < cLine
    omega
  · obtain ⟨⟨t, rfl⟩, x0, x1⟩ := hR
    exact turn g tk x t x0 x1 fun b o e => kp b o (Nat.ne_of_lt (Heap.lt_size (hk b o e))) (Heap.get?_push_of_some _ (hk b o e))
  · refine wpAny_pure ⟨_, rfl, ?_⟩
    exact h h₁ g tk out c hk (fun b o e => kp b o (Nat.ne_of_lt (Heap.lt_size e)) (Heap.get?_push_of_some _ e)) hD eo
/-! ### the lambda made -/
def TabOk (H : Hp) (ps : Array Value) (q : Str) : Prop := TriplesOk ps.toList ∧ ∀ (pos : Pos) (cv : Value), codeAmong pos ps.toList = some cv → ∃ c, cv = .ref c ∧ H c = some (LamX.CodeO c q)
/-- what becomes of the heap where a lambda of the table P is made -/
def LamH (H H1 : Hp) (P : Addr) (ps : Array Value) (q : Str) : Prop := H1 = H ∨ ∃ (c' : Addr) (more : Array Value), H c' = none ∧ H1 = upd (upd H P (.tbl (ps ++ more))) c' (LamX.CodeO c' q) ∧ TriplesOk (ps ++ more).toList ∧ ∀ (pos : Pos) (cv : Value), codeAmong pos (ps ++ more).toList = some cv → codeAmong pos ps.toList = some cv ∨ cv = .ref c'
theorem lam_mk {X : Cx} {pins : List (Addr × Obj)} {σ : L2.St} {H : Hp} {s : Shared} {c P : Addr} {q : Str} {ps : Array Value} {params : Arguments} {body : Expr} {scope : Scope} {pos : Pos} {E : Value → Shared → Prop} {Q : Value → Shared → Prop} (I : Inv X pins σ H s) (TB : LamX.TabB X.base X.mg c P)
    (hcode : X.env.code = .ref c) (hq : X.env.qual ++ "<lambda>" = q) (hP : H P = some (.tbl ps)) (T : TabOk H ps q) (hdef : defaultsOf params X.env = ([], [])) (hfree : ∀ y ∈ scope.names, y.2 = .free → ∃ c, X.env.cells.lookup y.1 = some c)
    (h : ∀ (f c' : Addr) (pm ctv : Value) (H1 : Hp) (s' : Shared), Inv X pins σ H1 s' → (∀ b o, b ≠ P → s.heap.get? b = some o → s'.heap.get? b = some o) → LamH H H1 P ps q → H1 c' = some (LamX.CodeO c' q) →
      s'.heap.get? f = some (PySem.W.kla_obj "<lambda>" q params body scope (cloFrom X.env.cells scope.names []) pm c' ctv) → Q (.ref f) s') :
    wpAny (model X.prog X.w) X.A (eval (.Lambda params body scope pos) X.env) Q E s := by
  obtain ⟨t1, t2⟩ := T
  have tabP := I.hok P _ hP
  have bmP := TB.bm.keeps I.bk
  have gl := I.mod.glob.keeps I.bk
  have cdP := TB.code.keeps I.bk
  refine PySem.W.kla_eval hdef ?_
  rw [hq]
  cases hc : codeAmong pos ps.toList with
  | some cv =>
    obtain ⟨c', rfl, hco⟩ := t2 pos cv hc
    refine PySem.W.kla_makeFunctionHit (mg := X.mg) (c := c) (P := P) (ps := ps) (closure_ok hfree) I.ok.glob gl hcode cdP tabP t1 hc bmP fun ctv h1 tk hx hsz => ?_
    have up : ∀ b o, s.heap.get? b = some o → (h1.push (PySem.W.kla_obj "<lambda>" q params body scope (cloFrom X.env.cells scope.names []) ((X.mg "__name__").getD .none) c' ctv)).get? b = some o := fun b o e => Heap.get?_push_of_some _ (hx b o e)
    exact h _ c' _ ctv H _ (I.kept (t' := tk) up) (fun b o _ => up b o) (.inl rfl) hco (Heap.get?_push_size _ rfl)
  | none =>
    refine PySem.W.kla_makeFunction (mg := X.mg) (c := c) (P := P) (ps := ps) (closure_ok hfree) I.ok.glob gl hcode cdP tabP t1 hc TB.gP bmP fun c' ctv h1 tk hx hge hlt hrec htb => ?_
    obtain ⟨c2, oc, vs, t, e2, hoc, hd, hv⟩ := hrec
    cases e2
    have nC : H c' = none := I.hok.fresh hge
    have nPc : P ≠ c' := ne_of_none hP nC
    have up : ∀ b o, b ≠ P → s.heap.get? b = some o → (h1.push (PySem.W.kla_obj "<lambda>" q params body scope (cloFrom X.env.cells scope.names []) ((X.mg "__name__").getD .none) c' ctv)).get? b = some o := fun b o hb e => Heap.get?_push_of_some _ (hx b o hb e)
    have I1 := LamX.inv_table (q := q) (t' := tk) (more := #[rawInt pos.line, rawInt pos.col, .ref c']) I hP up (Heap.get?_push_of_some _ htb) hge ⟨oc, vs, t, Heap.get?_push_of_some _ hoc, hd, hv⟩
    refine h _ c' _ ctv _ _ I1 up (.inr ⟨c', _, nC, rfl, ?_, fun p' cv hcv => ?_⟩) upd_same (Heap.get?_push_size _ rfl)
    · rw [show (ps ++ #[rawInt pos.line, rawInt pos.col, Value.ref c']).toList = ps.toList ++ [rawInt pos.line, rawInt pos.col, .ref c'] by simp]
      exact PySem.TriplesOk_snoc _ _ _ _ t1
    · rw [show (ps ++ #[rawInt pos.line, rawInt pos.col, Value.ref c']).toList = ps.toList ++ [rawInt pos.line, rawInt pos.col, .ref c'] by simp] at hcv
      exact LamX.among_app _ t1 hcv
def sortK (ns : List Int) (n : Int) : List Int := (intsL n).mergeSort (PySem.W.dataLe false (kDat fun x => 0 - gI ns x))
def tSortKey (K : PySem.W.Frag) (i : Nat) (P : Addr) (q : Str) (te : L2.St → Hp → (Int → Int → Hp → Prop) → Prop) : TE := fun σ H Q => te σ H fun a b H1 => a = 0 ∧ RgOk 0 b ∧ ∃ (aL : Addr) (ns : List Int) (ps : Array Value),
  σ[i]? = some (some (.ref aL)) ∧ SqL K H1 aL (ns.map V.int) ∧ b ≤ (ns.length : Int) ∧ H1 P = some (.tbl ps) ∧ TabOk H1 ps q ∧ ∀ (H2 : Hp) (p : Addr), LamH H1 H2 P ps q → H2 p = none → Q (.ref p) (upd H2 p (.lst ((sortK ns b).map V.int)))
theorem LamH.sql {K : PySem.W.Frag} {H H1 : Hp} {P a : Addr} {ps : Array Value} {q : Str} {xs : List V} (L : LamH H H1 P ps q) (hP : H P = some (.tbl ps)) (h : SqL K H a xs) : SqL K H1 a xs := by
  rcases L with rfl | ⟨c', more, n, rfl, _⟩
  · exact h
  have key : ∀ o, H a = some o → (∀ ps, o ≠ .tbl ps) → upd (upd H P (.tbl (ps ++ more))) c' (LamX.CodeO c' q) a = some o := fun o e hn => by
    rw [upd_ne (ne_of_none e n), upd_ne (fun z => hn ps (by rw [z, hP] at e; exact (Option.some.inj e).symm))]
    exact e
  rcases h with (h | ⟨o, h⟩) | h
  · exact .inl (.inl (key _ h fun ps z => by cases z))
  · exact .inl (.inr ⟨o, key _ h fun ps z => by cases z⟩)
  · exact .inr h
theorem each_vals {out : List Value} : ∀ {bs : List Int} {N : Int}, PySem.W.EachIs (fun (v : Value) (x : Int) => (∃ t, v = .int x t) ∧ 0 ≤ x ∧ x < N) out bs → Vals (bs.map V.int) out := fun {bs N} h => by
  induction h with
  | nil => exact .nil
  | cons h1 _ ih => exact .cons h1.1 ih
theorem pe_sortKey {X : Cx} {i k : Nat} {c P : Addr} {q : Str} {te : L2.St → Hp → (Int → Int → Hp → Prop) → Prop} {g0 : Expr} {as0 : List Expr} {ps0 p kpos lpos pos pp p0 p1 p2 p3 p4 p5 p6 : Pos} {j kk : Nat} (hc : X.calm = true) (hr : Room k X.A) (TB : LamX.TabB X.base X.mg c P) (hcode : X.env.code = .ref c)
    (hq : X.env.qual ++ "<lambda>" = q) (hg : Gl X "sorted") (hm : X.mg "sorted" = none) (he : PRg X (.Call g0 as0 [] ps0) te) (hN : X.N[i]? = some ("losses" : Str)) (hv : X.env.scope.names.lookup ("losses" : Str) = some .cell) :
    PE X (.Call (.Name "sorted" p) [.Call g0 as0 [] ps0] [⟨some "key", .Lambda (keyParams pp) (keyBody j kk p0 p1 p2 p3 p4 p5 p6) keyScope lpos, kpos⟩] pos) (tSortKey X.K i P q te) := by
  refine ⟨fun pins s σ H Q I h => ?_⟩
  refine wpAny_Call_Name_kw (ld_blt I hg hm boot_sorted ?_)
  refine PyProof.Rows.callWith_kw (show wpAny _ _ (spliced ((false, eval (.Call g0 as0 [] ps0) X.env) :: backTo pos (starEach [] X.env))) _ _ _ from Calls.spliced_cons (thn (he pins s σ H _ I h) fun x s1 ⟨r, a, b, t, u, v, H1, ex, hrg, I1, ea, hN1, aL, ns, ps, hσ, hs, hb, hP, hT, hQ⟩ => ?_))
  subst ex ea
  refine Calls.spliced_nil ?_
  have hhas : ∀ y ∈ keyScope.names, y.2 = .free → ∃ c, X.env.cells.lookup y.1 = some c := fun y hy e => by
    have : y = (("losses" : Str), NameKind.free) := by
      simp only [List.mem_cons, List.not_mem_nil, or_false] at hy
      rcases hy with rfl | rfl
      · cases e
      · rfl
    subst this
    exact I1.ok.has _ (.inl hv)
  show wpAny _ _ (evalAll ((do let v ← eval (.Lambda (keyParams pp) (keyBody j kk p0 p1 p2 p3 p4 p5 p6) keyScope lpos) X.env; standAt pos; pure v) :: (backToKw pos (keywordEach [] X.env)).map (·.2))) _ _ s1
  refine wpAny_evalAll_cons (wpAny_bind (lam_mk I1 TB hcode hq hP hT rfl hhas fun f c' pm ctv H2 s2 I2 up hL hco hf => wpAny_bind (wpAny_standAt (wpAny_pure ?_))))
  refine wpAny_evalAll_nil ?_
  show wpAny _ _ (call (.builtin "sorted") [.ref r] [(Str.ofString "key", .ref f)]) _ _ s2
  have hP2 := I1.hok P _ hP
  have nrP : r ≠ P := fun z => by
    rw [z] at hrg
    have e : some _ = some _ := hrg.symm.trans hP2
    cases e
  have hrg2 := up _ _ nrP hrg
  obtain ⟨m, hn, hl⟩ := I2.loc
  obtain ⟨w', rw', q'⟩ := hl i ("losses" : Str) (.ref aL) hN hσ (.inr (.inl hv))
  obtain rfl : w' = Value.ref aL := rw'
  obtain ⟨cl, hcl0, hcell⟩ : ∃ cl, X.env.cells.lookup ("losses" : Str) = some cl ∧ s2.heap.IsCell cl (some (.ref aL)) := by
    rcases q' with ⟨k', _⟩ | ⟨_, cl, e', z⟩
    · have k' : X.env.scope.names.lookup ("losses" : Str) = some .local := k'
      rw [hv] at k'
      cases k'
    · exact ⟨cl, e', z⟩
  obtain ⟨its, rv, pl, hz⟩ := I2.list (hL.sql hP hs)
  have hi := rv.ints
  have hcl : (cloFrom X.env.cells keyScope.names []).lookup ("losses" : Str) = some cl := by
    obtain ⟨c1, hc1⟩ := mem_lookup (cloFrom_has (cells := X.env.cells) (acc := []) (n := ("losses" : Str)) (show (("losses" : Str), NameKind.free) ∈ keyScope.names by simp))
    rcases cloFrom_mem (PySem.mem_of_lookup hc1) with hm1 | ⟨h1, h2⟩
    · cases hm1
    · rw [hc1, h2, hcl0]
      rfl
  refine sorted_rng (key := fun x => 0 - gI ns x) (show X.A.handled = none from hr.hd) hr.units hrg2 hN1 (fun h tk d t d0 d1 kp => ?_) fun h₁ h' tk out cc hk1 hk2 hD eo => ?_
  · obtain ⟨oc, vs, tq, hoc, hdc, hvc⟩ := (I2.hok c' _ hco).1
    obtain ⟨ol, hol, rl⟩ := pl.isList
    exact run_key (s := { s2 with heap := h, toks := tk }) (show X.A.depth < recursionLimit from hr.depth) (I2.nolimit.keeps kp) (kp _ _ hf) ⟨c', oc, vs, tq, rfl, kp _ _ hoc, hdc, hvc⟩ hcl (hcell.keeps kp) ⟨ol, kp _ _ hol, rl⟩ hi d0 (by omega) (by have := hN1.2.2.2.1; omega)
  · have I3 : Inv X pins σ H2 { s2 with heap := h₁, toks := tk } := I2.kept hk1
    have ev := each_vals eo
    have hlen : ((sortK ns b).map V.int).length ≤ sizeLine := by
      have h5 := hN1.2.2.2.2
      unfold sortK
      rw [List.length_map, List.length_mergeSort, intsL_len, sizeLine_eq]
      omega
    exact ⟨.ref h₁.objs.size, upd H2 h₁.objs.size (.lst ((sortK ns b).map V.int)), I3.laid (t' := tk) hk2 (Nat.le_refl _) (show ObjOk X.prog X.w _ _ _ (.lst ((sortK ns b).map V.int)) from ⟨hlen, out, cc, ev, hD⟩), rfl, hQ _ _ hL (I3.hok.fresh (Nat.le_refl _))⟩
/-! ### the same over data -/
def kSortK (i : Nat) (q : Str) (k : KD) (s : Env) : D → Sto → Prop
  | .int n, S => ∃ (j : Nat) (P0 : Addr) (d : D) (ns : List Int), S[j]? = some (.tab P0 q) ∧ slot s i = some d ∧ lview S d = some (ns.map .int) ∧ 0 ≤ n ∧ n ≤ (ns.length : Int) ∧ n ≤ 16777216 ∧ k (.lst ((sortK ns n).map .int)) S
  | _, _ => False
def wSortK (i : Nat) (q : Str) (we : WE) : WE := fun (xc : HG XE) s S k => we xc s S (kSortK i q k s)
theorem upd_comm {H : Hp} {a b : Addr} {x y : HO} (h : a ≠ b) : upd (upd H a x) b y = upd (upd H b y) a x := by
  funext z
  by_cases e1 : z = a
  · subst e1
    rw [upd_ne h, upd_same, upd_same]
  · by_cases e2 : z = b
    · subst e2
      rw [upd_same, upd_ne e1, upd_same]
    · rw [upd_ne e2, upd_ne e1, upd_ne e1, upd_ne e2]
theorem set_self {α : Type} {l : List α} {n : Nat} {x : α} (h : l[n]? = some x) : l.set n x = l := by
  refine List.ext_getElem? fun k => ?_
  by_cases e : n = k
  · subst e
    rw [List.getElem?_set_self (List.getElem?_eq_some_iff.mp h).1, h]
  · rw [List.getElem?_set_ne e]
theorem se_sortK {X : Cx} {g : Gi} {W : WX} {i k : Nat} {c P : Addr} {q : Str} {e : Expr} {we : WE} {pos2 p2 p kpos lpos pos pp p0 p1 p2' p3 p4 p5 p6 : Pos} {j kk : Nat} (hc : X.calm = true) (hr : Room k X.A) (TB : LamX.TabB X.base X.mg c P) (hcode : X.env.code = .ref c) (hgP : g.cl q = P)
    (hq : X.env.qual ++ "<lambda>" = q) (hg : Gl X "sorted") (hm : X.mg "sorted" = none) (hg2 : Gl X "range") (hm2 : X.mg "range" = none) (hN : X.N[i]? = some ("losses" : Str)) (hv : X.env.scope.names.lookup ("losses" : Str) = some .cell) (he : SE X g W e we)
    (hs : starEach [e] X.env = (false, eval e X.env) :: starEach [] X.env := by rfl) :
    SE X g W (.Call (.Name "sorted" p) [.Call (.Name "range" p2) [e] [] pos2] [⟨some "key", .Lambda (keyParams pp) (keyBody j kk p0 p1 p2' p3 p4 p5 p6) keyScope lpos, kpos⟩] pos) (wSortK i q we) := by
  obtain ⟨ta, pa, ga⟩ := he
  refine ⟨_, pe_sortKey hc hr TB hcode hq hg hm (prg_1 hg2 hm2 pa hs) hN hv, fun H0 r S H s sv Q k xc si rs h ce cx => ?_⟩
  refine ga H0 r S H s sv _ _ xc si rs h (fun d v H1 r1 S1 H1' f1 s1 rl h1 => ?_) cx
  unfold kSortK at h1
  split at h1
  · rename_i n
    obtain ⟨jj, P0, d', ns, hS, hsl, hlv, n0, n1, n2, hk⟩ := h1
    rw [rel_int rl]
    obtain ⟨v', hv', rl'⟩ := (rs.fut f1).2 i d' (slot_some hsl)
    obtain ⟨aL, xs, rfl, hsq, hrels⟩ := lview_rel s1 rl' hlv
    obtain rfl := Rels.ints.mp hrels
    have hjl : jj < r1.length := by rw [s1.len]; exact (List.getElem?_eq_some_iff.mp hS).1
    have hrj : r1[jj]? = some r1[jj] := List.getElem?_eq_getElem hjl
    obtain ⟨ea, hn0, ps, hps, hT1, hT2⟩ := s1.cel jj _ _ hrj hS
    rw [ea, hgP] at hrj hn0 hps
    refine ⟨n, rfl, rfl, .of_le (by omega) (by omega) (by omega) (by omega), aL, ns, ps, hv', hsq, n1, hps, ⟨hT1, fun pos cv hcv => ?_⟩, fun H2 p hL hp => ?_⟩
    · obtain ⟨c0, e1, e2⟩ := hT2 pos cv hcv
      exact ⟨c0, e1, s1.ex _ _ e2⟩
    · rcases hL with rfl | ⟨c', more, nC, rfl, hT3, hT4⟩
      · obtain ⟨s4, f4, rl4⟩ := s1.lst (ds := (sortK ns n).map .int) hp (Rels.ints.mpr rfl)
        exact ce _ _ _ _ _ _ (f1.tr s1 f4) s4 rl4 hk
      · have nP : P ≠ c' := ne_of_none hps nC
        rw [upd_comm nP] at hp ⊢
        obtain ⟨sa, fa⟩ := s1.frz (o := LamX.CodeO c' q) nC
        have h0 : upd H1 c' (LamX.CodeO c' q) P = none := by rw [upd_ne nP]; exact hn0
        obtain ⟨sb, fb⟩ := sa.write (o := .tbl (ps ++ more)) (c' := .tab P0 q) hrj hS h0 fun H' e' => ⟨hgP.symm, h0, ps ++ more, e', hT3, fun pos cv hcv => by
          rcases hT4 pos cv hcv with z | z
          · obtain ⟨c0, e1, e2⟩ := hT2 pos cv z
            exact ⟨c0, e1, by rw [upd_ne (ne_of_none (s1.ex _ _ e2) nC)]; exact e2⟩
          · exact ⟨c', z, upd_same⟩⟩
        rw [set_self hS] at sb
        obtain ⟨s4, f4, rl4⟩ := sb.lst (ds := (sortK ns n).map .int) hp (Rels.ints.mpr rfl)
        exact ce _ _ _ _ _ _ (f1.tr s1 (fa.tr sa (fb.tr sb f4))) s4 rl4 hk
  · exact h1.elim
/-! ### a def by its own code object; the law's end with a table -/
theorem fn_okC {P : Program} {w0 : World} {K : PySem.W.Frag} {g : Gi} {mg : Str → Option Value} {base : Heap} {x qual : Str} {st : Stmt} {f : Addr} {fd : FuncData} {N ps : List Str} {k : Nat} {w : WS} (F : Fun K x qual st f fd) (Sc : FnScope N ps (defScope st))
    (hb : ∀ (cdv : Value), fd.code = cdv → ∀ (A : Around) (outer : List PySem.Env) (s : Shared) (H : Hp) (E : XK), Room k (A.deeper (envOfC qual (defScope st) s.heap.objs.size f cdv)) →
      SSs (cxOf (L2.CX P w0) P w0 K mg base N qual (defScope st) f cdv A outer s H E) g (fun cls d _ H => E cls d H) (defBody st) w) :
    FnOk P w0 K mg base (L2.CX P w0) (k + 1) f fd ps (spW K g ps.length (wDef ps.length N.length w)) := by
  obtain ⟨⟨oc, od, kV, doc, pm, an, cdv, ct, osl, rfl, lk, hcd⟩, kp⟩ := F
  refine fn_of lk hcd Sc (fun vs H Q E h => h.1) fun A outer s H vs Q E hr h => ?_
  obtain ⟨hv, H0, r, S, ds, kk, xk, si, rl, hw, ce, cx⟩ := h
  obtain ⟨t, p, gg⟩ := hb cdv rfl A outer s H E hr
  refine ⟨t, p, ?_⟩
  have hw := hw.2
  refine gg H0 r S H _ _ _ _ si (relSt_start rl) hw ⟨fun s' sv' H0' r' S' H' f' si' rs' h' => ce _ _ _ _ _ _ f' si' rel_non' h', ce, fun c s' sv' H0' r' S' H' f' si' rs' h' => cx _ _ _ _ _ f' si' h'⟩
theorem tab_code {K : PySem.W.Frag} {x : Str} {c P f : Addr} {oc : Value} {od : Option Addr} {osl : Array (Option Value)} {fd : FuncData} (ht : PySem.W.tabIn K x = some (c, P)) (a : PySem.W.nsIn K mainGlobals x = some (some (.ref f))) (l : K.lookup f = some ⟨oc, od, .func fd, osl⟩) : fd.code = .ref c := by
  unfold PySem.W.tabIn at ht
  rw [a] at ht
  dsimp only at ht
  rw [l] at ht
  dsimp only at ht
  split at ht
  · rename_i c' hc
    split at ht
    · split at ht
      · cases ht
        exact hc
      · cases ht
    · cases ht
  · cases ht
theorem law_walkT {l : PySem.W.OpenLaw} {k : Nat} {q : Program} {loose : List Str} {XP : (Str → Option Value) → Heap → Prop} {YP : World → Heap → Prop} {d : DefRec} {K : Params → PySem.W.Frag} {wf : WF} {qn : Str} {ts : List Addr}
    (hn : l.most = some 63) (hdf : d.params.defaults = []) (hr : Room k callerA) (hY : ∀ (w : World) (h : Heap), YP w h → (K w.params).In h) (hYT : ∀ (w : World) (h : Heap), YP w h → ∀ P ∈ ts, h.get? P = some (PySem.W.tabObj #[]))
    (F : ∀ (w : World) (mg : Str → Option Value) (fa : Addr) (h : Heap), (K w.params).In h → h.Ns mainGlobals mg → mg d.name = some (.ref fa) →
      ∃ (fd : FuncData) (g : Gi) (c P : Addr), PySem.W.codeHdIn (K w.params) c P = true ∧ P ∈ ts ∧ (K w.params).lookup P = none ∧ g.cl qn = P ∧ (∀ (s : Shared) (u : Value), BindsTo s fd ⟨[u], []⟩ [("script", u)]) ∧
        ∀ base : Heap, (K w.params).In base → base.Ns mainGlobals mg → LamX.TabB base mg c P → FnOk l.prog w (K w.params) mg base (L2.CX l.prog w) k fa fd ["script"] (spW (K w.params) g 1 wf))
    (h : ∀ ns : List Int, ns.length ≤ 63 → (∀ z ∈ ns, Builtin.Int.intBits z ≤ 1048576) → wf [.scr (ns.map .int)] [.tab 0 qn] (fun d _ => d = .bl true) fun _ _ => False) :
    PySem.W.WalkO q loose XP YP l.row.toRowW d [] (fun f vs => PySem.call f vs) := by
  refine Att.attach_callB hn hdf fun w s₀ s₁ mg mb fa o pm cd doc a vs ns G Y ho hd hcd hmg hobj hints hlen hbits hg => ?_
  have KX := hY w _ Y
  obtain ⟨fd, g, c, P, ht, hmP, hnP, hgP, hb, hF⟩ := F w mg fa _ KX G.T.g hmg
  have C := PySem.W.codeHd_of_K KX ht
  have hP := hYT w _ Y P hmP
  have one : ∀ {α : (Addr × Addr) → Prop}, α (c, P) → ∀ p ∈ [(c, P)], α p := fun h p hp => by
    rw [List.mem_singleton] at hp
    rw [hp]
    exact h
  refine LamX.law_callTs (cs := [(c, P)]) (CX := L2.CX l.prog w) (sp := fun vs H Q _ => ∃ (p : Addr) (ns : List Int), vs = [.ref p] ∧ SqL (K w.params) H p (ns.map V.int) ∧ ns.length ≤ 63 ∧ (∀ z ∈ ns, Builtin.Int.intBits z ≤ 1048576) ∧ H P = some (.tbl #[]) ∧ ∀ H', Q (.bl true) H')
    KX G.T.g G.T.b G.T.builtins G.T.nolimit hg (one hP) (one hnP) (one C) G.T.bmain hobj hints (Nat.le_trans hlen (by decide)) hr (fun base kb nb hTB => ?_) hb (fun H hH hS => ⟨a, ns, rfl, hS, hlen, hbits, hH _ (List.mem_singleton_self _), fun _ => rfl⟩) fun H e s' => law_cx H s₁ e s'
  refine (hF base kb nb (hTB _ (List.mem_singleton_self _))).imp fun vs H Q E ⟨p, ns, ev, hS, hl, hb, hT, qq⟩ => ?_
  subst ev
  have hpP : ∀ u, Rd H p u → (∀ ps, u ≠ .tbl ps) → (∀ o u' , u ≠ .frz o u') → p ≠ P := fun u hu h1 h2 z => by
    subst z
    rcases hu with hu | ⟨o, hu⟩
    · rw [hT] at hu; exact h1 _ (Option.some.inj hu).symm
    · rw [hT] at hu; cases hu
  let H0 : Hp := fun b => if b = P then none else H b
  have hex : Ex H0 H := fun b o e => by
    by_cases z : b = P
    · have e' : (if b = P then none else H b) = some o := e
      rw [if_pos z] at e'
      cases e'
    · have e' : (if b = P then none else H b) = some o := e
      rwa [if_neg z] at e'
  have hS0 : SqL (K w.params) H0 p (ns.map V.int) := by
    rcases hS with hS | hS
    · have hne := hpP _ hS (fun _ z => by cases z) (fun _ _ z => by cases z)
      have e0 : H0 p = H p := if_neg hne
      rcases hS with hS | ⟨o, hS⟩
      · exact .inl (.inl (by rw [e0]; exact hS))
      · exact .inl (.inr ⟨o, by rw [e0]; exact hS⟩)
    · exact .inr hS
  have n0 : H0 P = none := if_pos rfl
  refine ⟨rfl, H0, [P], [.tab 0 qn], _, _, _, ⟨hex, rfl, by simp, fun b hb => ?_, fun n b cc e1 e2 => ?_⟩, .cons ?_ .nil, h ns hl hb, fun d v H0' r' S' H' _ _ rl e => ?_, fun _ _ _ _ _ _ _ z => z.elim⟩
  · rw [List.mem_singleton] at hb
    rw [hb, hT]
    intro z
    cases z
  · match n, e1, e2 with
    | 0, e1, e2 =>
      cases e1
      cases e2
      exact ⟨hgP.symm, n0, #[], hT, True.intro, fun pos cv hc => by
        have z : codeAmong pos [] = some cv := hc
        simp [codeAmong] at z⟩
    | n + 1, e1, _ => simp at e1
  · unfold Rel
    exact ⟨p, _, rfl, hS0, Rels.ints.mpr rfl⟩
  · subst e
    rw [rel_bl rl]
    exact qq H'
end Ab

namespace Ab
open PySem PySem.Spec PyProof.Rows L2
noncomputable def vSortK : (Nat) → (Str) → (WE) → (WE) := sld wSortK
theorem vSortK_s : vSortK = wSortK := sld_eq _
theorem vSortK_q (i : Nat) (q : Str) (we : WE) (xc : _) (s : _) (S : _) (k : _) : vSortK i q we xc s S k = (we xc s S (kSortK i q k s)) := by rw [vSortK_s]; rfl
theorem kSortK_i {i : Nat} {q : Str} {k : KD} {s : Env} {n : Int} {S : Sto} : kSortK i q k s (.int n) S = ∃ (j : Nat) (P0 : Addr) (d : D) (ns : List Int), S[j]? = some (.tab P0 q) ∧ slot s i = some d ∧ lview S d = some (ns.map .int) ∧ 0 ≤ n ∧ n ≤ (ns.length : Int) ∧ n ≤ 16777216 ∧ k (.lst ((sortK ns n).map .int)) S := id rfl
end Ab

namespace Lw
open PySem PySem.Spec PyProof.Rows L2 Ab
theorem seq_e {a b : WS} {Dk : Kd} {s : Ab.Env} {S : Sto} (h : a { Dk with nx := b Dk } s S) : vSeq a b Dk s S := vseq_e h
theorem seq_i {a b : WS} {Dk : Kd} {s : Ab.Env} {S : Sto} (h : ∀ R : Ab.Env → Sto → Prop, (∀ s' S', b Dk s' S' → R s' S') → a { Dk with nx := R } s S) : vSeq a b Dk s S := vseq_i h
theorem seq_cut {a b : WS} {Dk : Kd} {s : Ab.Env} {S : Sto} (M : Ab.Env → Sto → Prop) (h1 : ∀ R : Ab.Env → Sto → Prop, (∀ s' S', M s' S' → R s' S') → a { Dk with nx := R } s S) (h2 : ∀ s' S', M s' S' → b Dk s' S') : vSeq a b Dk s S := vseq_cut M h1 h2
theorem while_inv {wt : WT} {w : WS} {Dk : Kd} {s : Ab.Env} {S : Sto} (P : Nat → Ab.Env → Sto → Prop) (m0 : Nat) (h0 : P m0 s S)
    (hs : ∀ m s' S', P m s' S' → ∀ nx : Ab.Env → Sto → Prop, (∀ m' s2 S2, m' < m → P m' s2 S2 → nx s2 S2) → wt Dk.xc s' S' fun b S1 => if b = true then w { Dk with nx := nx } s' S1 else Dk.nx s' S1) : vWhile wt w Dk s S := vwhile_inv P m0 h0 hs
theorem lc_map {i : Nat} {vs : List Nat} {we : WE} {ds : List D} {gd : Sto → Prop} {s : Ab.Env} {S : Sto} {fin : List D → Sto → Prop} (f : D → D) (hl : ds.length < sizeLine) (hg : gd S)
    (he : ∀ x ∈ ds, ∀ k : KD, k (f x) S → we noXC ((wipeD s vs).set i (some x)) S k) (hf : fin (ds.map f) S) : lcW i vs vYes we ds gd s S fin := vlc_map f hl hg he hf
theorem lc_rel {i : Nat} {vs : List Nat} {we : WE} {ds : List D} {gd : Sto → Prop} {s : Ab.Env} {S : Sto} {fin : List D → Sto → Prop} (Q : Nat → D → D → Prop) (hl : ds.length < sizeLine) (hg : gd S)
    (he : ∀ n x, ds[n]? = some x → ∀ k : KD, (∀ y, Q n x y → k y S) → we noXC ((wipeD s vs).set i (some x)) S k)
    (hf : ∀ ys : List D, ys.length = ds.length → (∀ (n : Nat) (x y : D), ds[n]? = some x → ys[n]? = some y → Q n x y) → fin ys S) : lcW i vs vYes we ds gd s S fin := vlc_rel Q hl hg he hf
local macro_rules | `(tactic| walk_at "i") => `(tactic| first | refine vDef_i rfl ?_ | refine vTrim_i rfl ?_ | refine vTrimC_i rfl ?_ | refine vTrimM_i rfl ?_)
local macro_rules | `(tactic| walk_at "v") => `(tactic| simp only [vSortK_q, kSortK_i, vTryO_q, vDGet2_q, vDNew_q, vDPut_q, vKeysL_q, vLock_q, vPnil_q, vPcons_q, vDisp_q, vFld_q, vSetF_q, vMeth_q, vMake_q, vTrimM_q, vCallE_q, kFld_c, kSetF_c, isO_c, vVar_q, vC_q, vOp_q, vNeg_q, vTest_q, vChain_q, vAnd_q, vOr_q, vNot_q, vAndV_q, vOrV_q, vNotV_q, vIfE_q, vNoP_q, vSoP_q, vSl_q, vNil_q, vCons_q, vTup_q, vLst_q, vLstC_q, vFrz_q, vB_q, vIsi_q, vM_q, vM0_q, vCall_q, vSeqI_q, vRng1_q, vRng2_q, vYes_q, vLc_q, vLcC_q, vNx_q, vDrop_q, vRet_q, vRetN_q, vIf_q, vSet_q, vSto_q, vFor_q, vRaise_q, vDef_q, vTrim_q, vTrimC_q, vTry_q, vIsE_q, vFrzD_q, neW_q, slot, addW_ii, addW_ss, addW_tt, iiW_ii, ii0_ii, kNeg_i, eqW_ii, eqW_bb, eqW_ss, eqW_nn, eqW_ni, eqW_in, kNot_b, kBl_b, kOpt_s, isi_pR, ixD_t, ixD_l, ixD_r, ixD_c, isBW_bb, isNW_nn, isNW_i, isNW_t, isNW_l, kSoP_i, slW_t, slW_c, frzW_c, frzW_i, frzW_b, frzW_n, frzW_s, frzW_t, frzW_l, frzC_s, lview_0, lview_1, lview_2, lview_3, lview_4, lview_5, lenF_s, lenF_c, absF_i, maxF_ii, minF_ii, sumF_1, allF_1, sortedF_1, listF_1, listFC_1, tupleF_1, intF_i, intF_b, appF_c, popF_c, isi_due, isi_fr, Option.bind_some, wipeD, kRng1_i, kRng2_i, lview_l, lview_r, sview_c, sview_l, sview_r, sview_t, tview_t, gdOf_l, gdOf_r, gdOf_t, gdOf_c, isiD_i, isiD_b, isiD_n, isiD_s, isiD_t, isiD_l, List.map, List.length, List.replicate, List.append, List.cons_append, List.nil_append, Nat.reduceAdd, Nat.reduceSub, vLstRev_q, vLstRevC_q, vLstRg_q, vLstRgC_q, vRng3_q, vRem_q, kLstRev_i, kLstRevC_i, kRng3_i, kLstRg_i, kLstRgC_i, popAtF_i, clrF_i, setq_0, setq_s, List.getElem?_cons_zero, List.getElem?_cons_succ])
local macro_rules | `(tactic| walk_at "u") => `(tactic| simp only [addW_ll, addW_cl, addW_lc, ix_pR0, ix_pR1, len_pR, atI_0, atI_1, atI_2, atI_3, atI_4, atI_5, atI_6, atI_7, ixW_i, slW_l, slW_r, lenF_l, lenF_r, lenF_t, maxF_1, minF_1, stl_get, stl_set, stl_take, lview_top, rview_top, ix_due0, ix_fr0, ix_fr1, len_fr, frL_len, ratL_len, matL_len, ix_due1, ix_due2, ix_due3, len_due, vI_len, dueL_len, rngD_len, List.append_nil, Bool.not_eq_true', Bool.not_eq_true, decide_eq_true_eq, decide_eq_false_iff_not, Bool.and_eq_true, Bool.or_eq_true, Bool.not_true, Bool.not_false, if_true, if_false, true_and, and_true, ite_true, ite_false, reduceCtorEq, decide_true, decide_false, Bool.or_false, Bool.false_or, Bool.true_or, Bool.or_true, Int.cast_ofNat_Int, Int.natCast_zero, Int.natCast_one, fmod_pos, fdiv_pos, size_ok, size_ok2, div_lit, mul_litr, mul_litl, Int.reduceEq, Int.reduceNe, Nat.reduceEqDiff, Int.reduceToNat, Int.reduceAdd, Int.reduceMul, Int.reduceSub, Int.reduceNeg, Int.reduceLT, Int.reduceLE, ne_eq, not_false_eq_true, not_true_eq_false, Nat.reduceLeDiff, Bool.false_eq_true, exists_eq_left', exists_eq', Cel.lst.injEq, Option.some.injEq, exists_const, eq_self, List.length, Nat.reduceAdd, pw_10_6, pw_10_7, pw_10_8, pw_10_9, pw_10_11, pw_10_12, pw_10_14, pw_10_15, pw_10_18, pw_10_20, pw_10_29, pw_10_30, pw_10_50, pw_10_58, pw_10_59, pw_10_60, pw_m61_4])
local macro_rules | `(tactic| walk_at "w") => `(tactic| (try simp only [vSortK_q, kSortK_i, vTryO_q, vDGet2_q, vDNew_q, vDPut_q, vKeysL_q, vLock_q, vPnil_q, vPcons_q, vDisp_q, vFld_q, vSetF_q, vMeth_q, vMake_q, vTrimM_q, vCallE_q, kFld_c, kSetF_c, isO_c, vVar_q, vC_q, vOp_q, vNeg_q, vTest_q, vChain_q, vAnd_q, vOr_q, vNot_q, vAndV_q, vOrV_q, vNotV_q, vIfE_q, vNoP_q, vSoP_q, vSl_q, vNil_q, vCons_q, vTup_q, vLst_q, vLstC_q, vFrz_q, vB_q, vIsi_q, vM_q, vM0_q, vCall_q, vSeqI_q, vRng1_q, vRng2_q, vYes_q, vLc_q, vLcC_q, vNx_q, vDrop_q, vRet_q, vRetN_q, vIf_q, vSet_q, vSto_q, vFor_q, vRaise_q, vDef_q, vTrim_q, vTrimC_q, vTry_q, vIsE_q, vFrzD_q, neW_q, slot, addW_ii, addW_ss, addW_tt, iiW_ii, ii0_ii, kNeg_i, eqW_ii, eqW_bb, eqW_ss, eqW_nn, eqW_ni, eqW_in, kNot_b, kBl_b, kOpt_s, isi_pR, ixD_t, ixD_l, ixD_r, ixD_c, isBW_bb, isNW_nn, isNW_i, isNW_t, isNW_l, kSoP_i, slW_t, slW_c, frzW_c, frzW_i, frzW_b, frzW_n, frzW_s, frzW_t, frzW_l, frzC_s, lview_0, lview_1, lview_2, lview_3, lview_4, lview_5, lenF_s, lenF_c, absF_i, maxF_ii, minF_ii, sumF_1, allF_1, sortedF_1, listF_1, listFC_1, tupleF_1, intF_i, intF_b, appF_c, popF_c, isi_due, isi_fr, Option.bind_some, wipeD, kRng1_i, kRng2_i, lview_l, lview_r, sview_c, sview_l, sview_r, sview_t, tview_t, gdOf_l, gdOf_r, gdOf_t, gdOf_c, isiD_i, isiD_b, isiD_n, isiD_s, isiD_t, isiD_l, List.map, List.length, List.replicate, List.append, List.cons_append, List.nil_append, Nat.reduceAdd, Nat.reduceSub, vLstRev_q, vLstRevC_q, vLstRg_q, vLstRgC_q, vRng3_q, vRem_q, kLstRev_i, kLstRevC_i, kRng3_i, kLstRg_i, kLstRgC_i, popAtF_i, clrF_i, setq_0, setq_s, List.getElem?_cons_zero, List.getElem?_cons_succ, addW_ll, addW_cl, addW_lc, ix_pR0, ix_pR1, len_pR, atI_0, atI_1, atI_2, atI_3, atI_4, atI_5, atI_6, atI_7, ixW_i, slW_l, slW_r, lenF_l, lenF_r, lenF_t, maxF_1, minF_1, stl_get, stl_set, stl_take, lview_top, rview_top, ix_due0, ix_fr0, ix_fr1, len_fr, frL_len, ratL_len, matL_len, ix_due1, ix_due2, ix_due3, len_due, vI_len, dueL_len, rngD_len, List.append_nil, Bool.not_eq_true', Bool.not_eq_true, decide_eq_true_eq, decide_eq_false_iff_not, Bool.and_eq_true, Bool.or_eq_true, Bool.not_true, Bool.not_false, if_true, if_false, true_and, and_true, ite_true, ite_false, reduceCtorEq, decide_true, decide_false, Bool.or_false, Bool.false_or, Bool.true_or, Bool.or_true, Int.cast_ofNat_Int, Int.natCast_zero, Int.natCast_one, fmod_pos, fdiv_pos, size_ok, size_ok2, div_lit, mul_litr, mul_litl, Int.reduceEq, Int.reduceNe, Nat.reduceEqDiff, Int.reduceToNat, Int.reduceAdd, Int.reduceMul, Int.reduceSub, Int.reduceNeg, Int.reduceLT, Int.reduceLE, ne_eq, not_false_eq_true, not_true_eq_false, Nat.reduceLeDiff, Bool.false_eq_true, exists_eq_left', exists_eq', Cel.lst.injEq, Option.some.injEq, exists_const, eq_self, pw_10_6, pw_10_7, pw_10_8, pw_10_9, pw_10_11, pw_10_12, pw_10_14, pw_10_15, pw_10_18, pw_10_20, pw_10_29, pw_10_30, pw_10_50, pw_10_58, pw_10_59, pw_10_60, pw_m61_4]))
/- one statement, up to what it asks -/
local macro_rules | `(tactic| walk_at "s") => `(tactic| (walk_at "w"; (try with_reducible refine seq_e ?_); walk_at "w"))

/- statements, as far as it goes -/
local macro_rules | `(tactic| walk_at "S") => `(tactic| (walk_at "w"; repeat ((with_reducible refine seq_e ?_); walk_at "w")))

noncomputable def w__law_cell : WF := vDef 2 2 (vSeq (vIf (vTest (vOp ltW (vVar 1) (vB lenF (vCons (vVar 0) vNil)))) (vRet (vOp ixW (vVar 0) (vVar 1))) vNx)
  (vRet (vC (.int 0))))
noncomputable def w__law_draw : WF := vDef 4 4 (vRet (vOp modW (vOp modW (vOp addW (vOp addW (vOp mulW (vCall w__law_cell (vCons (vVar 0) (vCons (vVar 1) vNil))) (vC (.int 48271))) (vOp mulW (vOp mulW (vC (.int 7919)) (vVar 1)) (vVar 1))) (vC (.int 11))) (vVar 2)) (vVar 3)))
noncomputable def w__law_days : WF := vDef 2 2 (vSeq (vIf (vTest (vOp eqW (vCall w__law_draw (vCons (vVar 0) (vCons (vC (.int 0)) (vCons (vC (.int 10007)) (vCons (vC (.int 3)) vNil))))) (vC (.int 0)))) (vRet (vOp addW (vC (.int 1)) (vCall w__law_draw (vCons (vVar 0) (vCons (vC (.int 0)) (vCons (vC (.int 15013)) (vCons (vVar 1) vNil))))))) vNx)
  (vRet (vOp addW (vC (.int 1)) (vCall w__law_draw (vCons (vVar 0) (vCons (vC (.int 0)) (vCons (vC (.int 15013)) (vCons (vC (.int 6)) vNil))))))))
noncomputable def w__law_most : WF := vDef 1 1 (vSeq (vIf (vTest (vOp eqW (vCall w__law_draw (vCons (vVar 0) (vCons (vC (.int 1)) (vCons (vC (.int 20011)) (vCons (vC (.int 2)) vNil))))) (vC (.int 0)))) (vRet (vC (.int 3))) vNx)
  (vRet (vOp subW (vOp powW (vC (.int 10)) (vC (.int 12))) (vC (.int 1)))))
noncomputable def w__law_number : WF := vDef 3 4 (vSeq (vSet 3 (vOp addW (vOp addW (vOp mulW (vCall w__law_cell (vCons (vVar 0) (vCons (vOp modW (vVar 1) (vC (.int 60))) vNil))) (vC (.int 48271))) (vOp mulW (vOp mulW (vC (.int 7919)) (vVar 1)) (vVar 1))) (vC (.int 11))))
  (vSeq (vIf (vTest (vOp eqW (vOp modW (vOp modW (vVar 3) (vC (.int 40009))) (vC (.int 4))) (vC (.int 0)))) (vRet (vC (.int 0))) vNx)
  (vSeq (vIf (vTest (vOp eqW (vOp modW (vOp modW (vVar 3) (vC (.int 40009))) (vC (.int 4))) (vC (.int 1)))) (vRet (vOp subW (vOp modW (vOp modW (vVar 3) (vC (.int 15013))) (vC (.int 7))) (vC (.int 3)))) vNx)
  (vRet (vOp subW (vOp modW (vOp mulW (vVar 3) (vOp powW (vC (.int 2305843009213693951)) (vC (.int 4)))) (vOp addW (vOp mulW (vC (.int 2)) (vVar 2)) (vC (.int 1)))) (vVar 2))))))
noncomputable def w__law_moves : WF := vTrim (vDef 4 8 (vSeq (vSet 4 (vLstC vNil))
  (vSeq (vFor 5 (vRng1 (vCons (vVar 1) vNil))
  (vSeq (vSet 6 (vLc 7 [7] (vRng1 (vCons (vVar 2) vNil)) vYes (vCall w__law_number (vCons (vVar 0) (vCons (vOp addW (vOp addW (vC (.int 5)) (vOp mulW (vVar 2) (vVar 5))) (vVar 7)) (vCons (vVar 3) vNil))))))
  (vSeq (vIf (vAnd (vTest (vOp gtW (vVar 5) (vC (.int 0)))) (vTest (vOp eqW (vCall w__law_draw (vCons (vVar 0) (vCons (vOp addW (vC (.int 1)) (vVar 5)) (vCons (vC (.int 60013)) (vCons (vC (.int 5)) vNil))))) (vC (.int 0))))) (vSet 6 (vB listF (vCons (vOp ixW (vVar 4) (vCall w__law_draw (vCons (vVar 0) (vCons (vOp addW (vC (.int 1)) (vVar 5)) (vCons (vC (.int 70001)) (vCons (vVar 5) vNil)))))) vNil))) vNx)
  (vDrop (vM appF (vVar 4) (vCons (vVar 6) vNil))))))
  (vRet (vFrz (vVar 4))))))
noncomputable def w__law_position : WF := vDef 4 5 (vRet (vLc 4 [4] (vRng1 (vCons (vVar 2) vNil)) vYes (vCall w__law_number (vCons (vVar 0) (vCons (vOp addW (vVar 1) (vOp mulW (vC (.int 7)) (vVar 4))) (vCons (vVar 3) vNil))))))
noncomputable def w_loss_on : WF := vDef 2 3 (vRet (vOp subW (vC (.int 0)) (vB sumF (vCons (vLc 2 [2] (vRng1 (vCons (vB lenF (vCons (vVar 0) vNil)) vNil)) vYes (vOp mulW (vOp ixW (vVar 0) (vVar 2)) (vOp ixW (vVar 1) (vVar 2)))) vNil))))
noncomputable def w_losses_of : WF := vDef 2 3 (vRet (vLc 2 [2] (vSeqI (vVar 1)) vYes (vCall w_loss_on (vCons (vVar 0) (vCons (vVar 2) vNil)))))
noncomputable def w_worst_days : WF := vDef 3 5 (vSeq (vSet 3 (vCall w_losses_of (vCons (vVar 0) (vCons (vVar 1) vNil))))
  (vSeq (vSet 4 (vSortK 3 "worst_days.<locals>.<lambda>" (vB lenF (vCons (vVar 1) vNil))))
  (vRet (vSl (vVar 4) vNoP (vSoP (vVar 2))))))
noncomputable def w__law_loss : WF := vDef 2 4 (vSeq (vSet 2 (vC (.int 0)))
  (vSeq (vFor 3 (vRng1 (vCons (vB lenF (vCons (vVar 0) vNil)) vNil))
  (vSet 2 (vOp subW (vVar 2) (vOp mulW (vOp ixW (vVar 0) (vVar 3)) (vOp ixW (vVar 1) (vVar 3))))))
  (vRet (vVar 2))))
noncomputable def w__law_before : WF := vDef 3 3 (vRet (vOrV (vOp gtW (vOp ixW (vVar 0) (vVar 1)) (vOp ixW (vVar 0) (vVar 2))) (vAndV (vOp eqW (vOp ixW (vVar 0) (vVar 1)) (vOp ixW (vVar 0) (vVar 2))) (vOp ltW (vVar 1) (vVar 2)))))
noncomputable def w__law_whole : WF := vDef 1 1 (vRet (vAndV (vIsi .int (vVar 0)) (vNotV (vIsi .bool (vVar 0)))))
noncomputable def w_law : WF := vDef 1 14 (vSeq (vSet 1 (vOp addW (vC (.int 1)) (vCall w__law_draw (vCons (vVar 0) (vCons (vC (.int 2)) (vCons (vC (.int 10007)) (vCons (vC (.int 4)) vNil)))))))
  (vSeq (vSet 2 (vCall w__law_days (vCons (vVar 0) (vCons (vC (.int 30)) vNil))))
  (vSeq (vSet 3 (vCall w__law_most (vCons (vVar 0) vNil)))
  (vSeq (vSet 4 (vCall w__law_moves (vCons (vVar 0) (vCons (vVar 2) (vCons (vVar 1) (vCons (vVar 3) vNil))))))
  (vSeq (vSet 5 (vCall w__law_position (vCons (vVar 0) (vCons (vC (.int 130)) (vCons (vVar 1) (vCons (vVar 3) vNil))))))
  (vSeq (vSet 6 (vCall w__law_draw (vCons (vVar 0) (vCons (vC (.int 3)) (vCons (vC (.int 10007)) (vCons (vOp addW (vVar 2) (vC (.int 1))) vNil))))))
  (vSeq (vIf (vTest (vOp eqW (vCall w__law_draw (vCons (vVar 0) (vCons (vC (.int 3)) (vCons (vC (.int 15013)) (vCons (vC (.int 4)) vNil))))) (vC (.int 0)))) (vSet 6 (vVar 2)) vNx)
  (vSeq (vSet 7 (vLc 13 [13] (vSeqI (vVar 4)) vYes (vB listF (vCons (vVar 13) vNil))))
  (vSeq (vSet 8 (vB listF (vCons (vVar 5) vNil)))
  (vSeq (vSet 9 (vCall w_worst_days (vCons (vVar 8) (vCons (vVar 7) (vCons (vVar 6) vNil)))))
  (vSeq (vIf (vOr (vTest (vOp neW (vVar 7) (vVar 4))) (vTest (vOp neW (vVar 8) (vVar 5)))) (vRet (vC (.bl false))) vNx)
  (vSeq (vIf (vOr (vNot (vTest (vIsi .list (vVar 9)))) (vTest (vOp neW (vB lenF (vCons (vVar 9) vNil)) (vVar 6)))) (vRet (vC (.bl false))) vNx)
  (vSeq (vFor 10 (vSeqI (vVar 9))
  (vIf (vOr (vNot (vTest (vCall w__law_whole (vCons (vVar 10) vNil)))) (vNot (vTest (vChain leW ltW (vC (.int 0)) (vVar 10) (vVar 2))))) (vRet (vC (.bl false))) vNx))
  (vSeq (vSet 11 (vLc 13 [13] (vSeqI (vVar 4)) vYes (vCall w__law_loss (vCons (vVar 5) (vCons (vVar 13) vNil)))))
  (vSeq (vFor 12 (vRng2 (vCons (vC (.int 1)) (vCons (vVar 6) vNil)))
  (vIf (vNot (vTest (vCall w__law_before (vCons (vVar 11) (vCons (vOp ixW (vVar 9) (vOp subW (vVar 12) (vC (.int 1)))) (vCons (vOp ixW (vVar 9) (vVar 12)) vNil)))))) (vRet (vC (.bl false))) vNx))
  (vSeq (vFor 10 (vRng1 (vCons (vVar 2) vNil))
  (vIf (vAnd (vTest (vOp gtW (vVar 6) (vC (.int 0)))) (vAnd (vTest (vOp (inW true) (vVar 10) (vVar 9))) (vTest (vCall w__law_before (vCons (vVar 11) (vCons (vVar 10) (vCons (vOp ixW (vVar 9) (vOp subW (vVar 6) (vC (.int 1)))) vNil))))))) (vRet (vC (.bl false))) vNx))
  (vRet (vC (.bl true)))))))))))))))))))


/-! ### specs: small helpers of the laws -/
theorem gcd_step (x y : Int) (hx : 0 ≤ x) (hy : 0 < y) : Int.gcd y (x % y) = Int.gcd x y := by
  rw [← Int.gcd_add_mul_left_right y (x % y) (x / y), Int.emod_add_mul_ediv, Int.gcd_comm]
theorem cell_sp (ns : List Int) (i : Int) (S : Sto) (k : KD) (xk : XD) (hi : 0 ≤ i) (hl : ns.length ≤ 63) (h : k (.int (cellv ns i)) S) : w__law_cell [.scr (ns.map .int), .int i] S k xk := by
  walk_at "i"
  walk_at "s"
  rw [List.length_map]
  unfold cellv at h
  split
  · rename_i h1
    rw [if_pos h1] at h
    exact ⟨_, at_ints hi h1, h⟩
  · rename_i h1
    rw [if_neg h1] at h
    exact h
local macro_rules | `(tactic| walk_at "c") => `(tactic| repeat ((with_reducible refine cell_sp _ _ _ _ _ ?_ ?_ ?_; decide; assumption) ; walk_at "w"))

theorem draw4_sp (ns : List Int) (i p m : Int) (S : Sto) (k : KD) (xk : XD) (hl : ns.length ≤ 63) (h0 : 0 ≤ i) (h1 : i ≤ 1000000) (hp : 0 < p) (hm : 0 < m) (h : ∀ z : Int, 0 ≤ z → z < m → k (.int z) S) : w__law_draw [.scr (ns.map .int), .int i, .int p, .int m] S k xk := by
  walk_at "i"
  walk_at "w"
  refine cell_sp _ _ _ _ _ h0 hl ?_
  walk_at "w"
  refine ⟨mul_r (by omega) (by omega), by omega, by omega, ?_⟩
  simp only [fmod_pos hp, fmod_pos hm]
  exact h _ (emod_lo hm) (emod_hi hm)

theorem number3_sp (ns : List Int) (i m : Int) (S : Sto) (k : KD) (xk : XD) (hl : ns.length ≤ 63) (hb : ∀ z ∈ ns, Builtin.Int.intBits z ≤ 1048576) (h0 : 0 ≤ i) (h1 : i ≤ 1000000) (m0 : 3 ≤ m) (m1 : m ≤ 1000000000000) (h : ∀ z : Int, -1000000000000 ≤ z → z ≤ 1000000000000 → k (.int z) S) : w__law_number [.scr (ns.map .int), .int i, .int m] S k xk := by
  walk_at "i"
  walk_at "s"
  refine cell_sp _ _ _ _ _ (emod_lo (by decide)) hl ?_
  walk_at "w"
  refine ⟨mul_r (by omega) (by omega), ?_⟩
  have sc : Sz 1048576 (cellv ns (i % 60)) := Sz.of_bits (cellv_bits hb _)
  have s1 : Sz 1048592 (cellv ns (i % 60) * 48271) := Sz.mul (m := 16) sc (sz_le 48271 (by decide) (by decide))
  have s2 : Sz 33 (7919 * i) := Sz.mul (n := 13) (m := 20) (sz_le 7919 (by decide) (by decide)) (sz_le 1000000 (by omega) (by decide))
  have s3 : Sz 53 (7919 * i * i) := Sz.mul (m := 20) s2 (sz_le 1000000 (by omega) (by decide))
  have s4 : Sz 1048593 (cellv ns (i % 60) * 48271 + 7919 * i * i) := s1.add (s3.mono (by decide))
  have s5 : Sz 1048594 (cellv ns (i % 60) * 48271 + 7919 * i * i + 11) := s4.add (Sz.mono (n := 4) (sz_lit (by decide)) (by decide))
  generalize cellv ns (i % 60) * 48271 + 7919 * i * i + 11 = mixed at s5
  walk_at "s"
  generalize mixed % 40009 % 4 = way
  split
  · exact h _ (by decide) (by decide)
  walk_at "s"
  split
  · have h1 := @emod_lo (mixed % 15013) 7 (by decide)
    have h2 := @emod_hi (mixed % 15013) 7 (by decide)
    exact h _ (by omega) (by omega)
  walk_at "w"
  have mp : 0 < 2 * m + 1 := by omega
  refine ⟨s5.mulOk (m := 244) (sz_lit (by decide +kernel)) (by decide) (by decide) (by decide), by omega, ?_⟩
  simp only [fmod_pos mp]
  generalize mixed * 28269553036454149224292902704178252817674109380037990394614044720680140801 = big
  have g1 := @emod_lo big (2 * m + 1) mp
  have g2 := @emod_hi big (2 * m + 1) mp
  exact h _ (by omega) (by omega)

def BdV (w : Nat) (v : List Int) : Prop := v.length = w ∧ ∀ z ∈ v, -1000000000000 ≤ z ∧ z ≤ 1000000000000
theorem BdV.get {w : Nat} {v : List Int} (h : BdV w v) {k : Int} : -1000000000000 ≤ gI v k ∧ gI v k ≤ 1000000000000 := by
  unfold gI
  rw [List.getD_eq_getElem?_getD]
  cases e : v[k.toNat]? with
  | none => exact ⟨by decide, by decide⟩
  | some z => exact h.2 z (List.mem_of_getElem? e)
/-- w numbers, as a comprehension over a range makes them -/
theorem days_sp (ns : List Int) (m : Int) (S : Sto) (k : KD) (xk : XD) (hl : ns.length ≤ 63) (hm : 6 ≤ m) (h : ∀ z : Int, 1 ≤ z → z ≤ m → k (.int z) S) : w__law_days [.scr (ns.map .int), .int m] S k xk := by
  walk_at "i"
  walk_at "s"
  refine draw4_sp _ _ _ _ _ _ _ hl (by decide) (by decide) (by decide) (by decide) fun z _ _ => ?_
  walk_at "w"
  split
  · refine draw4_sp _ _ _ _ _ _ _ hl (by decide) (by decide) (by decide) (by omega) fun z z0 z1 => ?_
    walk_at "w"
    exact h _ (by omega) (by omega)
  · refine draw4_sp _ _ _ _ _ _ _ hl (by decide) (by decide) (by decide) (by decide) fun z z0 z1 => ?_
    walk_at "w"
    exact h _ (by omega) (by omega)
theorem most_sp (ns : List Int) (S : Sto) (k : KD) (xk : XD) (hl : ns.length ≤ 63) (h : ∀ z : Int, 3 ≤ z → z ≤ 1000000000000 → k (.int z) S) : w__law_most [.scr (ns.map .int)] S k xk := by
  walk_at "i"
  walk_at "s"
  refine draw4_sp _ _ _ _ _ _ _ hl (by decide) (by decide) (by decide) (by decide) fun z _ _ => ?_
  walk_at "w"
  split
  · exact h _ (by decide) (by decide)
  · exact h _ (by decide) (by decide)
theorem position_sp (ns : List Int) (i w m : Int) (S : Sto) (k : KD) (xk : XD) (hl : ns.length ≤ 63) (hb : ∀ z ∈ ns, Builtin.Int.intBits z ≤ 1048576) (h0 : 0 ≤ i) (h1 : i ≤ 1000) (w0 : 0 ≤ w) (w1 : w ≤ 100) (m0 : 3 ≤ m) (m1 : m ≤ 1000000000000) (h : ∀ v : List Int, BdV w.toNat v → k (.lst (vI v)) S) : w__law_position [.scr (ns.map .int), .int i, .int w, .int m] S k xk := by
  walk_at "i"
  walk_at "w"
  refine ⟨by omega, by omega, ?_⟩
  refine lc_rel (fun _ _ y => ∃ z : Int, y = .int z ∧ (-1000000000000 ≤ z ∧ z ≤ 1000000000000)) (by rw [rngD_len]; exact Nat.lt_of_le_of_lt (m := 1000) (by omega) (by decide +kernel)) trivial (fun n x hx k' hk => ?_) fun ys hl' hy => ?_
  · obtain ⟨hn, rfl⟩ := rngD_get hx
    walk_at "w"
    exact number3_sp _ _ _ _ _ _ hl hb (by omega) (by omega) m0 m1 fun z z0 z1 => hk _ ⟨z, rfl, z0, z1⟩
  · rw [rngD_len] at hl'
    obtain ⟨v, rfl, hv⟩ := lift_ints (P := fun z => -1000000000000 ≤ z ∧ z ≤ 1000000000000) ys fun y hy' => by
      obtain ⟨n, hn⟩ := List.mem_iff_getElem?.mp hy'
      have := (List.getElem?_eq_some_iff.mp hn).1
      exact hy n _ y (List.getElem?_eq_getElem (by rw [rngD_len]; omega)) hn
    rw [vI_len] at hl'
    exact h v ⟨hl', hv⟩
theorem moves_sp (ns : List Int) (d w m : Int) (S : Sto) (k : KD) (xk : XD) (hl : ns.length ≤ 63) (hb : ∀ z ∈ ns, Builtin.Int.intBits z ≤ 1048576) (d0 : 0 ≤ d) (d1 : d ≤ 100) (w0 : 0 ≤ w) (w1 : w ≤ 100) (m0 : 3 ≤ m) (m1 : m ≤ 1000000000000) (h : ∀ M : List (List Int), M.length = d.toNat → (∀ v ∈ M, BdV w.toNat v) → k (.lst (matL M)) S) : w__law_moves [.scr (ns.map .int), .int d, .int w, .int m] S k xk := by
  walk_at "i"
  walk_at "s"
  refine seq_cut (fun s' S' => ∃ (o1 o2 : Option D) (M : List (List Int)), s' = [some (.scr (ns.map .int)), some (.int d), some (.int w), some (.int m), some (.cell S.length), o1, o2, none] ∧ S' = S ++ [.lst (matL M)] ∧ M.length = d.toNat ∧ ∀ v ∈ M, BdV w.toNat v) (fun R hR => ?_) ?_
  · walk_at "w"
    refine ⟨by omega, by omega, ?_⟩
    refine for_inv (fun n s' S' => ∃ (o1 o2 : Option D) (M : List (List Int)), s' = [some (.scr (ns.map .int)), some (.int d), some (.int w), some (.int m), some (.cell S.length), o1, o2, none] ∧ S' = S ++ [.lst (matL M)] ∧ M.length = n ∧ ∀ v ∈ M, BdV w.toNat v) ⟨none, none, [], rfl, rfl, rfl, by simp⟩ (fun n x s' S' hx ⟨o1, o2, M, e1, e2, e3, e4⟩ => ⟨trivial, fun nx hnx => ?_⟩) fun s' S' ⟨o1, o2, M, e1, e2, e3, e4⟩ => ⟨trivial, hR _ _ ⟨o1, o2, M, e1, e2, by rw [e3, rngD_len], e4⟩⟩
    obtain ⟨hn, rfl⟩ := rngD_get hx
    have q0 : (0 : Int) + (n : Int) = (n : Int) := by omega
    rw [q0]
    subst e1 e2
    have wn : 0 ≤ w * n ∧ w * n ≤ 100 * 100 := ⟨Int.mul_nonneg w0 (by omega), Int.mul_le_mul w1 (by omega) (by omega) (by omega)⟩
    walk_at "s"
    refine ⟨by omega, by omega, ?_⟩
    refine lc_rel (fun _ _ y => ∃ z : Int, y = .int z ∧ (-1000000000000 ≤ z ∧ z ≤ 1000000000000)) (by rw [rngD_len]; exact Nat.lt_of_le_of_lt (m := 1000) (by omega) (by decide +kernel)) trivial (fun j x hx k' hk => ?_) fun ys hl' hy => ?_
    · obtain ⟨hj, rfl⟩ := rngD_get hx
      walk_at "w"
      refine ⟨mul_l (by omega) (by omega), ?_⟩
      exact number3_sp _ _ _ _ _ _ hl hb (by omega) (by omega) m0 m1 fun z z0 z1 => hk _ ⟨z, rfl, z0, z1⟩
    rw [rngD_len] at hl'
    obtain ⟨v, rfl, hv⟩ := lift_ints (P := fun z => -1000000000000 ≤ z ∧ z ≤ 1000000000000) ys fun y hy' => by
      obtain ⟨n, hn⟩ := List.mem_iff_getElem?.mp hy'
      have := (List.getElem?_eq_some_iff.mp hn).1
      exact hy n _ y (List.getElem?_eq_getElem (by rw [rngD_len]; omega)) hn
    rw [vI_len] at hl'
    have bv : BdV w.toNat v := ⟨hl', hv⟩
    refine seq_cut (fun s' S' => ∃ v : List Int, s' = [some (.scr (ns.map .int)), some (.int d), some (.int w), some (.int m), some (.cell S.length), some (.int n), some (.lst (vI v)), none] ∧ S' = S ++ [.lst (matL M)] ∧ BdV w.toNat v) (fun R hR => ?_) ?_
    · walk_at "w"
      split
      · rename_i c
        refine draw4_sp _ _ _ _ _ _ _ hl (by omega) (by omega) (by decide) (by decide) fun z _ _ => ?_
        walk_at "w"
        split
        · refine draw4_sp _ _ _ _ _ _ _ hl (by omega) (by omega) (by decide) (by omega) fun z z0 z1 => ?_
          obtain ⟨u, hu, au⟩ := at_matL (m := M) z0 (by omega)
          walk_at "w"
          refine ⟨_, au, ?_⟩
          walk_at "w"
          exact hR _ _ ⟨u, rfl, rfl, e4 u hu⟩
        · exact hR _ _ ⟨v, rfl, rfl, bv⟩
      · exact hR _ _ ⟨v, rfl, rfl, bv⟩
    rintro _ _ ⟨u, rfl, rfl, bu⟩
    walk_at "w"
    refine ⟨szlt (by omega), ?_⟩
    rw [matL_snoc]
    refine hnx _ _ ⟨_, _, M ++ [u], rfl, rfl, by simp [e3], fun x hx => ?_⟩
    rcases List.mem_append.mp hx with hx | hx
    · exact e4 x hx
    · rw [List.mem_singleton.mp hx]; exact bu
  rintro _ _ ⟨o1, o2, M, rfl, rfl, l1, l2⟩
  walk_at "w"
  exact ⟨lst_pure (matL_pure _), h M l1 l2⟩
def prodI (p v : List Int) : List Int := (List.range p.length).map fun (k : Nat) => gI p k * gI v k
def lossI (p v : List Int) : Int := 0 - (prodI p v).sum
theorem prodI_len {p v : List Int} : (prodI p v).length = p.length := by unfold prodI; simp
theorem prodI_get {p v : List Int} {n : Nat} (h : n < p.length) : gI (prodI p v) n = gI p n * gI v n := by
  unfold prodI gI
  rw [List.getD_eq_getElem?_getD, List.getElem?_map]
  simp [h]
theorem losson_sp (w : Nat) (p v : List Int) (S : Sto) (k : KD) (xk : XD) (hw : w ≤ 100) (hp : BdV w p) (hv : BdV w v) (h : k (.int (lossI p v)) S) : w_loss_on [.lst (vI p), .lst (vI v)] S k xk := by
  walk_at "i"
  have e1 := hp.1
  have e2 := hv.1
  walk_at "w"
  refine ⟨by omega, by omega, ?_⟩
  refine lc_rel (fun n _ y => y = .int (gI (prodI p v) n)) (by rw [rngD_len]; exact Nat.lt_of_le_of_lt (m := 1000) (by omega) (by decide +kernel)) trivial (fun n x hx k' hk => ?_) fun ys hl' hy => ?_
  · obtain ⟨hn, rfl⟩ := rngD_get hx
    have q0 : (0 : Int) + (n : Int) = (n : Int) := by omega
    rw [q0]
    walk_at "w"
    refine ⟨_, at_vI (by omega) (by omega), _, at_vI (by omega) (by omega), ?_⟩
    walk_at "w"
    have b1 := hp.get (k := (n : Int))
    have b2 := hv.get (k := (n : Int))
    refine ⟨mul_l (by omega) (by omega), hk _ ?_⟩
    rw [prodI_get (by omega)]
  rw [rngD_len] at hl'
  obtain rfl : ys = vI (prodI p v) := vI_of (by rw [hl', prodI_len]; omega) fun n y hn => by
    refine hy n _ y (List.getElem?_eq_getElem ?_) hn
    rw [rngD_len, ← hl']
    exact (List.getElem?_eq_some_iff.mp hn).1
  walk_at "w"
  refine ⟨prodI p v, rfl, ?_⟩
  walk_at "w"
  exact h
theorem lloss_sp (w : Nat) (p v : List Int) (S : Sto) (k : KD) (xk : XD) (hw : w ≤ 100) (hp : BdV w p) (hv : BdV w v) (h : k (.int (lossI p v)) S) : w__law_loss [.lst (vI p), .lst (vI v)] S k xk := by
  walk_at "i"
  have e1 := hp.1
  have e2 := hv.1
  walk_at "s"
  refine seq_cut (fun s' S' => ∃ o : Option D, s' = [some (.lst (vI p)), some (.lst (vI v)), some (.int (lossI p v)), o] ∧ S' = S) (fun R hR => ?_) ?_
  · walk_at "w"
    refine ⟨by omega, by omega, ?_⟩
    refine for_inv (fun n s' S' => ∃ o : Option D, s' = [some (.lst (vI p)), some (.lst (vI v)), some (.int (0 - ((prodI p v).take n).sum)), o] ∧ S' = S) ⟨none, rfl, rfl⟩ (fun n x s' S' hx ⟨o, e3, e4⟩ => ⟨trivial, fun nx hnx => ?_⟩) fun s' S' ⟨o, e3, e4⟩ => ⟨trivial, hR _ _ ⟨o, ?_, e4⟩⟩
    · obtain ⟨hn, rfl⟩ := rngD_get hx
      have q0 : (0 : Int) + (n : Int) = (n : Int) := by omega
      rw [q0]
      subst e3 e4
      walk_at "w"
      refine ⟨_, at_vI (by omega) (by omega), _, at_vI (by omega) (by omega), ?_⟩
      walk_at "w"
      have b1 := hp.get (k := (n : Int))
      have b2 := hv.get (k := (n : Int))
      refine ⟨mul_l (by omega) (by omega), ?_⟩
      have et : 0 - ((prodI p v).take n).sum - gI p n * gI v n = 0 - ((prodI p v).take (n + 1)).sum := by
        have hn' : n < (prodI p v).length := by rw [prodI_len]; omega
        have eg : (prodI p v)[n]? = some (gI p n * gI v n) := by
          have := prodI_get (p := p) (v := v) (n := n) (by omega)
          rw [← this]
          unfold gI
          rw [List.getD_eq_getElem?_getD]
          simp [hn']
        rw [take_succ_of eg, List.sum_append]
        simp
        omega
      rw [et]
      exact hnx _ _ ⟨_, rfl, rfl⟩
    · rw [e3]
      unfold lossI
      rw [List.take_of_length_le (by rw [rngD_len, prodI_len]; omega)]
  rintro _ _ ⟨o, rfl, rfl⟩
  walk_at "w"
  exact h
theorem losses_sp (w : Nat) (p : List Int) (M : List (List Int)) (S : Sto) (k : KD) (xk : XD) (hw : w ≤ 100) (hp : BdV w p) (hl : M.length ≤ 100) (hv : ∀ v ∈ M, BdV w v) (h : k (.lst (vI (M.map (lossI p)))) S) : w_losses_of [.lst (vI p), .lst (matL M)] S k xk := by
  walk_at "i"
  walk_at "w"
  refine lc_rel (fun _ x y => ∀ v : List Int, x = .lst (vI v) → y = .int (lossI p v)) (by rw [matL_len]; exact Nat.lt_of_le_of_lt (m := 1000) (by omega) (by decide +kernel)) trivial (fun n x hx k' hk => ?_) fun ys hl' hy => ?_
  · obtain ⟨v, hm, rfl⟩ := matL_get hx
    walk_at "w"
    refine losson_sp w _ _ _ _ _ hw hp (hv v (List.mem_of_getElem? hm)) (hk _ fun u hu => ?_)
    simp only [D.lst.injEq] at hu
    rw [vI_inj hu]
  rw [matL_len] at hl'
  obtain rfl := vI_map (as := M) (lossI p) hl' fun n v y e1 e2 => hy n (.lst (vI v)) y (by unfold matL; rw [List.getElem?_map, e1]; rfl) e2 v rfl
  exact h

theorem sortK_perm {ns : List Int} {n : Int} : (sortK ns n).Perm (intsL n) := List.mergeSort_perm _ _
theorem sortK_len {ns : List Int} {n : Int} : (sortK ns n).length = n.toNat := by rw [sortK_perm.length_eq, intsL_len]
theorem sortK_mem {ns : List Int} {n z : Int} : z ∈ sortK ns n ↔ 0 ≤ z ∧ z < n := by rw [sortK_perm.mem_iff, intsL_mem]
theorem sortK_nodup {ns : List Int} {n : Int} : (sortK ns n).Nodup := sortK_perm.nodup_iff.mpr intsL_nodup
/-- day x comes ahead of day y -/
def befI (ns : List Int) (x y : Int) : Bool := decide (gI ns x > gI ns y ∨ (gI ns x = gI ns y ∧ x < y))
theorem sortK_sorted {ns : List Int} {n : Int} : (sortK ns n).Pairwise fun x y => gI ns x > gI ns y ∨ (gI ns x = gI ns y ∧ x ≤ y) := by
  have e : PySem.W.dataLe false (kDat fun x => 0 - gI ns x) = fun p q : Int => decide (0 - gI ns p < 0 - gI ns q ∨ (0 - gI ns p = 0 - gI ns q ∧ p ≤ q)) := PySem.W.dataLe_ii (fun x => 0 - gI ns x) (fun x : Int => x)
  have := List.pairwise_mergeSort (le := PySem.W.dataLe false (kDat fun x => 0 - gI ns x)) (by rw [e]; intro a b c h1 h2; simp only [decide_eq_true_eq] at *; omega) (by rw [e]; intro a b; simp only [Bool.or_eq_true, decide_eq_true_eq]; omega) (intsL n)
  refine this.imp fun {x y} h => ?_
  rw [e] at h
  simp only [decide_eq_true_eq] at h
  omega
theorem sortK_bef {ns : List Int} {n : Int} {i j : Nat} {x y : Int} (hij : i < j) (hx : (sortK ns n)[i]? = some x) (hy : (sortK ns n)[j]? = some y) : befI ns x y = true := by
  have hj := (List.getElem?_eq_some_iff.mp hy).1
  have hi := (List.getElem?_eq_some_iff.mp hx).1
  have h1 := List.pairwise_iff_getElem.mp (sortK_sorted (ns := ns) (n := n)) i j hi hj hij
  have ne : x ≠ y := fun e => by
    have h2 := (List.getElem_inj (sortK_nodup (ns := ns) (n := n)) (h₀ := hi) (h₁ := hj)).mp (by rw [(List.getElem?_eq_some_iff.mp hx).2, (List.getElem?_eq_some_iff.mp hy).2, e])
    omega
  rw [(List.getElem?_eq_some_iff.mp hx).2, (List.getElem?_eq_some_iff.mp hy).2] at h1
  unfold befI
  refine decide_eq_true ?_
  omega
theorem worst_sp (w : Nat) (p : List Int) (M : List (List Int)) (n : Int) (j : Nat) (P0 : Addr) (S : Sto) (k : KD) (xk : XD) (hw : w ≤ 100) (hp : BdV w p) (hl : M.length ≤ 100) (hv : ∀ v ∈ M, BdV w v) (hT : S[j]? = some (.tab P0 "worst_days.<locals>.<lambda>")) (n0 : 0 ≤ n) (h : k (.lst (vI ((sortK (M.map (lossI p)) (M.length : Int)).take n.toNat))) S) : w_worst_days [.lst (vI p), .lst (matL M), .int n] S k xk := by
  walk_at "i"
  walk_at "s"
  refine losses_sp w p M _ _ _ hw hp hl hv ?_
  walk_at "s"
  refine ⟨j, P0, _, M.map (lossI p), hT, rfl, rfl, by omega, by rw [List.length_map]; omega, by omega, ?_⟩
  walk_at "w"
  rw [cut_take n0, show ((sortK (M.map (lossI p)) (M.length : Int)).map D.int).take n.toNat = vI ((sortK (M.map (lossI p)) (M.length : Int)).take n.toNat) by unfold vI; rw [List.map_take]]
  exact h


theorem before_sp (ls : List Int) (x y : Int) (S : Sto) (k : KD) (xk : XD) (x0 : 0 ≤ x) (x1 : x < (ls.length : Int)) (y0 : 0 ≤ y) (y1 : y < (ls.length : Int)) (h : k (.bl (befI ls x y)) S) : w__law_before [.lst (vI ls), .int x, .int y] S k xk := by
  walk_at "i"
  walk_at "w"
  refine ⟨_, at_vI x0 x1, ?_⟩
  walk_at "w"
  refine ⟨_, at_vI y0 y1, ?_⟩
  walk_at "w"
  unfold befI at h
  by_cases c1 : gI ls y < gI ls x
  · rw [if_pos c1]
    rwa [decide_eq_true (show gI ls x > gI ls y ∨ (gI ls x = gI ls y ∧ x < y) from .inl c1)] at h
  · rw [if_neg c1]
    refine ⟨_, at_vI x0 x1, _, at_vI y0 y1, ?_⟩
    walk_at "w"
    by_cases c2 : gI ls x = gI ls y
    · rw [if_pos c2]
      rwa [decide_eq_decide.mpr (show (gI ls x > gI ls y ∨ (gI ls x = gI ls y ∧ x < y)) ↔ x < y by omega)] at h
    · rw [if_neg c2]
      rwa [decide_eq_false (show ¬ (gI ls x > gI ls y ∨ (gI ls x = gI ls y ∧ x < y)) by omega)] at h
theorem law_true (ns : List Int) (hl : ns.length ≤ 63) (hb : ∀ z ∈ ns, Builtin.Int.intBits z ≤ 1048576) : w_law [.scr (ns.map .int)] [.tab 0 "worst_days.<locals>.<lambda>"] (fun d _ => d = .bl true) fun _ _ => False := by
  walk_at "i"
  walk_at "s"
  refine draw4_sp _ _ _ _ _ _ _ hl (by decide) (by decide) (by decide) (by decide) fun z z0 z1 => ?_
  walk_at "s"
  refine days_sp _ _ _ _ _ hl (by decide) fun days d0 d1 => ?_
  walk_at "s"
  refine most_sp _ _ _ _ hl fun most m0 m1 => ?_
  walk_at "s"
  refine moves_sp _ _ _ _ _ _ _ hl hb (by omega) (by omega) (by omega) (by omega) m0 m1 fun M lM hM => ?_
  walk_at "s"
  refine position_sp _ _ _ _ _ _ _ hl hb (by decide) (by decide) (by omega) (by omega) m0 m1 fun p hp => ?_
  walk_at "s"
  refine draw4_sp _ _ _ _ _ _ _ hl (by decide) (by decide) (by decide) (by omega) fun n n0 n1 => ?_
  have lM2 : M.length ≤ 100 := by omega
  have hw : (1 + z).toNat ≤ 100 := by omega
  generalize (1 + z).toNat = w at hM hp hw
  refine seq_cut (fun s' S' => ∃ n : Int, s' = [some (.scr (ns.map .int)), some (.int (1 + z)), some (.int days), some (.int most), some (.lst (matL M)), some (.lst (vI p)), some (.int n), none, none, none, none, none, none, none] ∧ S' = [.tab 0 "worst_days.<locals>.<lambda>"] ∧ 0 ≤ n ∧ n ≤ days) (fun R hR => ?_) ?_
  · walk_at "w"
    refine draw4_sp _ _ _ _ _ _ _ hl (by decide) (by decide) (by decide) (by decide) fun y y0 y1 => ?_
    walk_at "w"
    split
    · exact hR _ _ ⟨days, rfl, rfl, by omega, by omega⟩
    · exact hR _ _ ⟨n, rfl, rfl, by omega, by omega⟩
  clear n0 n1 n
  rintro _ _ ⟨n, rfl, rfl, n0, n1⟩
  walk_at "s"
  refine lc_map id (by rw [matL_len]; exact szlt (by omega)) trivial (fun x hx k' hk => ?_) ?_
  · obtain ⟨n, hn⟩ := List.mem_iff_getElem?.mp hx
    obtain ⟨v, hm, rfl⟩ := matL_get hn
    walk_at "w"
    exact hk
  rw [List.map_id]
  walk_at "S"
  refine worst_sp w p M n 0 0 _ _ _ hw hp lM2 hM rfl n0 ?_
  generalize hls : M.map (lossI p) = ls
  have ll : ls.length = M.length := by rw [← hls, List.length_map]
  have lT : (((sortK ls (M.length : Int)).take n.toNat).length : Int) = n := by rw [List.length_take, sortK_len]; omega
  have hTm : ∀ x ∈ (sortK ls (M.length : Int)).take n.toNat, 0 ≤ x ∧ x < days := fun x hx => by
    have := sortK_mem.mp (List.mem_of_mem_take hx)
    omega
  have hbef : ∀ (i j : Nat) (x y : Int), i < j → ((sortK ls (M.length : Int)).take n.toNat)[i]? = some x → (sortK ls (M.length : Int))[j]? = some y → befI ls x y = true := fun i j x y hij hx hy => by
    have hi := (List.getElem?_eq_some_iff.mp hx).1
    rw [List.length_take] at hi
    rw [List.getElem?_take_of_lt (by omega)] at hx
    exact sortK_bef hij hx hy
  have hbefT : ∀ (i j : Nat) (x y : Int), i < j → ((sortK ls (M.length : Int)).take n.toNat)[i]? = some x → ((sortK ls (M.length : Int)).take n.toNat)[j]? = some y → befI ls x y = true := fun i j x y hij hx hy => by
    have hj := (List.getElem?_eq_some_iff.mp hy).1
    rw [List.length_take] at hj
    rw [List.getElem?_take_of_lt (by omega)] at hy
    exact hbef i j x y hij hx hy
  have hrest : ∀ x : Int, 0 ≤ x → x < days → x ∉ (sortK ls (M.length : Int)).take n.toNat → ∃ j : Nat, n.toNat ≤ j ∧ (sortK ls (M.length : Int))[j]? = some x := fun x x0 x1 hx => by
    obtain ⟨j, hj⟩ := List.mem_iff_getElem?.mp (sortK_mem (ns := ls) (n := (M.length : Int)).mpr ⟨x0, by omega⟩)
    refine ⟨j, ?_, hj⟩
    rcases Nat.lt_or_ge j n.toNat with hlt | hge
    · exact absurd (List.mem_of_getElem? (by rw [List.getElem?_take_of_lt hlt]; exact hj : ((sortK ls (M.length : Int)).take n.toNat)[j]? = some x)) hx
    · exact hge
  generalize (sortK ls (M.length : Int)).take n.toNat = T at lT hTm hbef hbefT hrest
  walk_at "s"
  refine neW_self (lst_plain (matL_plain _)) (matL_ok _) ?_
  walk_at "w"
  refine neW_self (lst_plain (vI_plain _)) (vI_ok _) ?_
  walk_at "s"
  rw [if_neg (by omega)]
  refine seq_cut (fun s' S' => ∃ o10, s' = [some (.scr (ns.map .int)), some (.int (1 + z)), some (.int days), some (.int most), some (.lst (matL M)), some (.lst (vI p)), some (.int n), some (.lst (matL M)), some (.lst (vI p)), some (.lst (vI T)), o10, none, none, none] ∧ S' = [.tab 0 "worst_days.<locals>.<lambda>"]) (fun R hR => ?_) ?_
  · walk_at "w"
    refine for_list D.int T (fun i s' S' => ∃ o10, s' = [some (.scr (ns.map .int)), some (.int (1 + z)), some (.int days), some (.int most), some (.lst (matL M)), some (.lst (vI p)), some (.int n), some (.lst (matL M)), some (.lst (vI p)), some (.lst (vI T)), o10, none, none, none] ∧ S' = [.tab 0 "worst_days.<locals>.<lambda>"]) ⟨_, rfl, rfl⟩ (fun _ _ _ _ => trivial) (fun i x hx s' S' ⟨o10, e1, e2⟩ nx hnx => ?_) fun s' S' hp => hR _ _ hp
    subst e1 e2
    have hxr := hTm x (List.mem_of_getElem? hx)
    have hwh : ∀ (n : Int) (S : Sto) (k : KD) (xk : XD), k (.bl true) S → w__law_whole [.int n] S k xk := fun n S k xk h => by
      walk_at "i"
      walk_at "w"
      exact h
    walk_at "w"
    refine hwh _ _ _ _ ?_
    walk_at "w"
    rw [if_pos hxr.1, if_neg (fun z => z hxr.2)]
    exact hnx _ _ ⟨_, rfl, rfl⟩
  rintro _ _ ⟨o10, rfl, rfl⟩
  walk_at "s"
  refine lc_rel (fun _ x y => ∀ v : List Int, x = .lst (vI v) → y = .int (lossI p v)) (by rw [matL_len]; exact szlt (by omega)) trivial (fun n x hx k' hk => ?_) fun ys hl' hy => ?_
  · obtain ⟨v, hm, rfl⟩ := matL_get hx
    walk_at "w"
    refine lloss_sp w _ _ _ _ _ hw hp (hM v (List.mem_of_getElem? hm)) (hk _ fun u hu => ?_)
    simp only [D.lst.injEq] at hu
    rw [vI_inj hu]
  rw [matL_len] at hl'
  obtain rfl := vI_map (as := M) (lossI p) hl' fun n v y e1 e2 => hy n (.lst (vI v)) y (by unfold matL; rw [List.getElem?_map, e1]; rfl) e2 v rfl
  clear hy hl'
  rw [hls]
  refine seq_cut (fun s' S' => ∃ o12, s' = [some (.scr (ns.map .int)), some (.int (1 + z)), some (.int days), some (.int most), some (.lst (matL M)), some (.lst (vI p)), some (.int n), some (.lst (matL M)), some (.lst (vI p)), some (.lst (vI T)), o10, some (.lst (vI ls)), o12, none] ∧ S' = [.tab 0 "worst_days.<locals>.<lambda>"]) (fun R hR => ?_) ?_
  · walk_at "w"
    refine ⟨⟨by omega, by omega, by omega, by omega⟩, ?_⟩
    refine for_inv (fun i s' S' => ∃ o12, s' = [some (.scr (ns.map .int)), some (.int (1 + z)), some (.int days), some (.int most), some (.lst (matL M)), some (.lst (vI p)), some (.int n), some (.lst (matL M)), some (.lst (vI p)), some (.lst (vI T)), o10, some (.lst (vI ls)), o12, none] ∧ S' = [.tab 0 "worst_days.<locals>.<lambda>"]) ⟨_, rfl, rfl⟩ (fun i x s' S' hx ⟨o12, e1, e2⟩ => ⟨trivial, fun nx hnx => ?_⟩) fun s' S' hp => ⟨trivial, hR _ _ hp⟩
    obtain ⟨hi, rfl⟩ := rngD_get hx
    subst e1 e2
    have ex : T[i]? = some T[i] := List.getElem?_eq_getElem (by omega)
    have ey : T[i + 1]? = some T[i + 1] := List.getElem?_eq_getElem (by omega)
    have b := hbefT i (i + 1) _ _ (by omega) ex ey
    have rx := hTm _ (List.mem_of_getElem? ex)
    have ry := hTm _ (List.mem_of_getElem? ey)
    have ax := at_vI (v := T) (k := 1 + (i : Int) - 1) (by omega) (by omega)
    have ay := at_vI (v := T) (k := 1 + (i : Int)) (by omega) (by omega)
    rw [show (1 : Int) + (i : Int) - 1 = ((i : Nat) : Int) by omega, gI_at ex] at ax
    rw [show (1 : Int) + (i : Int) = ((i + 1 : Nat) : Int) by omega, gI_at ey] at ay
    walk_at "w"
    rw [show (1 : Int) + (i : Int) - 1 = ((i : Nat) : Int) by omega]
    refine ⟨_, ax, ?_⟩
    rw [show (1 : Int) + (i : Int) = ((i + 1 : Nat) : Int) by omega]
    refine ⟨_, ay, ?_⟩
    refine before_sp ls _ _ _ _ _ rx.1 (by omega) ry.1 (by omega) ?_
    rw [b]
    walk_at "w"
    exact hnx _ _ ⟨_, rfl, rfl⟩
  rintro _ _ ⟨o12, rfl, rfl⟩
  refine seq_cut (fun s' S' => S' = [.tab 0 "worst_days.<locals>.<lambda>"]) (fun R hR => ?_) ?_
  · walk_at "w"
    refine ⟨by omega, by omega, ?_⟩
    refine for_rng (fun i s' S' => ∃ o10, s' = [some (.scr (ns.map .int)), some (.int (1 + z)), some (.int days), some (.int most), some (.lst (matL M)), some (.lst (vI p)), some (.int n), some (.lst (matL M)), some (.lst (vI p)), some (.lst (vI T)), o10, some (.lst (vI ls)), o12, none] ∧ S' = [.tab 0 "worst_days.<locals>.<lambda>"]) ⟨_, rfl, rfl⟩ (fun i hi s' S' ⟨o10, e1, e2⟩ nx hnx => ?_) fun s' S' ⟨o10, e1, e2⟩ => hR _ _ e2
    subst e1 e2
    walk_at "w"
    split
    · rename_i hn
      refine inW_vI rfl ?_
      walk_at "w"
      split
      · rename_i hx
        obtain ⟨j, hj, ej⟩ := hrest (i : Int) (by omega) (by omega) hx
        have ey : T[n.toNat - 1]? = some T[n.toNat - 1] := List.getElem?_eq_getElem (by omega)
        have b := hbef (n.toNat - 1) j _ _ (by omega) ey ej
        have ry := hTm _ (List.mem_of_getElem? ey)
        have ay := at_vI (v := T) (k := n - 1) (by omega) (by omega)
        rw [show n - 1 = ((n.toNat - 1 : Nat) : Int) by omega, gI_at ey] at ay
        rw [show n - 1 = ((n.toNat - 1 : Nat) : Int) by omega]
        refine ⟨_, ay, ?_⟩
        refine before_sp ls _ _ _ _ _ (by omega) (by omega) ry.1 (by omega) ?_
        have nb : befI ls (i : Int) T[n.toNat - 1] = false := by
          unfold befI at b ⊢
          have b := of_decide_eq_true b
          exact decide_eq_false (by omega)
        rw [nb]
        walk_at "w"
        exact hnx _ _ ⟨_, rfl, rfl⟩
      · exact hnx _ _ ⟨_, rfl, rfl⟩
    · exact hnx _ _ ⟨_, rfl, rfl⟩
  rintro _ _ rfl
  walk_at "w"

end Lw
namespace Lw
open PySem PySem.Spec PyProof.Rows L2 Ab
def u__law_cell : WF := wDef 2 2 (wSeq (wIf (wTest (wOp ltW (wVar 1) (wB lenF (wCons (wVar 0) wNil)))) (wRet (wOp ixW (wVar 0) (wVar 1))) wNx)
  (wRet (wC (.int 0))))
theorem l__law_cell : ∀ ds S kk xk, u__law_cell ds S kk xk → ds.length = 2 := fun _ _ _ _ h => h.1
theorem uw__law_cell : u__law_cell = w__law_cell := by
  unfold u__law_cell w__law_cell
  simp only [vVar_s, vC_s, vOp_s, vNeg_s, vTest_s, vChain_s, vAnd_s, vOr_s, vNot_s, vAndV_s, vOrV_s, vNotV_s, vIfE_s, vNoP_s, vSoP_s, vSl_s, vNil_s, vCons_s, vTup_s, vLst_s, vLstC_s, vFrz_s, vB_s, vIsi_s, vM_s, vM0_s, vCall_s, vSeqI_s, vRng1_s, vRng2_s, vYes_s, vLc_s, vLcC_s, vNx_s, vSeq_s, vNever_s, vDrop_s, vRet_s, vRetN_s, vIf_s, vSet_s, vSto_s, vFor_s, vWhile_s, vRaise_s, vDef_s, vTrim_s, vTrimC_s, vTry_s, vIsE_s, vFrzD_s, vLstRev_s, vLstRevC_s, vLstRg_s, vLstRgC_s, vRng3_s, vRem_s, vFld_s, vSetF_s, vMeth_s, vMake_s, vTrimM_s, vCallE_s, vDGet2_s, vDNew_s, vDPut_s, vKeysL_s, vLock_s, vPnil_s, vPcons_s, vDisp_s, vTryO_s, vSortK_s]
def u__law_draw : WF := wDef 4 4 (wRet (wOp modW (wOp modW (wOp addW (wOp addW (wOp mulW (wCall u__law_cell (wCons (wVar 0) (wCons (wVar 1) wNil))) (wC (.int 48271))) (wOp mulW (wOp mulW (wC (.int 7919)) (wVar 1)) (wVar 1))) (wC (.int 11))) (wVar 2)) (wVar 3)))
theorem l__law_draw : ∀ ds S kk xk, u__law_draw ds S kk xk → ds.length = 4 := fun _ _ _ _ h => h.1
theorem uw__law_draw : u__law_draw = w__law_draw := by
  unfold u__law_draw w__law_draw
  simp only [vVar_s, vC_s, vOp_s, vNeg_s, vTest_s, vChain_s, vAnd_s, vOr_s, vNot_s, vAndV_s, vOrV_s, vNotV_s, vIfE_s, vNoP_s, vSoP_s, vSl_s, vNil_s, vCons_s, vTup_s, vLst_s, vLstC_s, vFrz_s, vB_s, vIsi_s, vM_s, vM0_s, vCall_s, vSeqI_s, vRng1_s, vRng2_s, vYes_s, vLc_s, vLcC_s, vNx_s, vSeq_s, vNever_s, vDrop_s, vRet_s, vRetN_s, vIf_s, vSet_s, vSto_s, vFor_s, vWhile_s, vRaise_s, vDef_s, vTrim_s, vTrimC_s, vTry_s, vIsE_s, vFrzD_s, vLstRev_s, vLstRevC_s, vLstRg_s, vLstRgC_s, vRng3_s, vRem_s, vFld_s, vSetF_s, vMeth_s, vMake_s, vTrimM_s, vCallE_s, vDGet2_s, vDNew_s, vDPut_s, vKeysL_s, vLock_s, vPnil_s, vPcons_s, vDisp_s, vTryO_s, vSortK_s, uw__law_cell]
def u__law_days : WF := wDef 2 2 (wSeq (wIf (wTest (wOp eqW (wCall u__law_draw (wCons (wVar 0) (wCons (wC (.int 0)) (wCons (wC (.int 10007)) (wCons (wC (.int 3)) wNil))))) (wC (.int 0)))) (wRet (wOp addW (wC (.int 1)) (wCall u__law_draw (wCons (wVar 0) (wCons (wC (.int 0)) (wCons (wC (.int 15013)) (wCons (wVar 1) wNil))))))) wNx)
  (wRet (wOp addW (wC (.int 1)) (wCall u__law_draw (wCons (wVar 0) (wCons (wC (.int 0)) (wCons (wC (.int 15013)) (wCons (wC (.int 6)) wNil))))))))
theorem l__law_days : ∀ ds S kk xk, u__law_days ds S kk xk → ds.length = 2 := fun _ _ _ _ h => h.1
theorem uw__law_days : u__law_days = w__law_days := by
  unfold u__law_days w__law_days
  simp only [vVar_s, vC_s, vOp_s, vNeg_s, vTest_s, vChain_s, vAnd_s, vOr_s, vNot_s, vAndV_s, vOrV_s, vNotV_s, vIfE_s, vNoP_s, vSoP_s, vSl_s, vNil_s, vCons_s, vTup_s, vLst_s, vLstC_s, vFrz_s, vB_s, vIsi_s, vM_s, vM0_s, vCall_s, vSeqI_s, vRng1_s, vRng2_s, vYes_s, vLc_s, vLcC_s, vNx_s, vSeq_s, vNever_s, vDrop_s, vRet_s, vRetN_s, vIf_s, vSet_s, vSto_s, vFor_s, vWhile_s, vRaise_s, vDef_s, vTrim_s, vTrimC_s, vTry_s, vIsE_s, vFrzD_s, vLstRev_s, vLstRevC_s, vLstRg_s, vLstRgC_s, vRng3_s, vRem_s, vFld_s, vSetF_s, vMeth_s, vMake_s, vTrimM_s, vCallE_s, vDGet2_s, vDNew_s, vDPut_s, vKeysL_s, vLock_s, vPnil_s, vPcons_s, vDisp_s, vTryO_s, vSortK_s, uw__law_draw]
def u__law_most : WF := wDef 1 1 (wSeq (wIf (wTest (wOp eqW (wCall u__law_draw (wCons (wVar 0) (wCons (wC (.int 1)) (wCons (wC (.int 20011)) (wCons (wC (.int 2)) wNil))))) (wC (.int 0)))) (wRet (wC (.int 3))) wNx)
  (wRet (wOp subW (wOp powW (wC (.int 10)) (wC (.int 12))) (wC (.int 1)))))
theorem l__law_most : ∀ ds S kk xk, u__law_most ds S kk xk → ds.length = 1 := fun _ _ _ _ h => h.1
theorem uw__law_most : u__law_most = w__law_most := by
  unfold u__law_most w__law_most
  simp only [vVar_s, vC_s, vOp_s, vNeg_s, vTest_s, vChain_s, vAnd_s, vOr_s, vNot_s, vAndV_s, vOrV_s, vNotV_s, vIfE_s, vNoP_s, vSoP_s, vSl_s, vNil_s, vCons_s, vTup_s, vLst_s, vLstC_s, vFrz_s, vB_s, vIsi_s, vM_s, vM0_s, vCall_s, vSeqI_s, vRng1_s, vRng2_s, vYes_s, vLc_s, vLcC_s, vNx_s, vSeq_s, vNever_s, vDrop_s, vRet_s, vRetN_s, vIf_s, vSet_s, vSto_s, vFor_s, vWhile_s, vRaise_s, vDef_s, vTrim_s, vTrimC_s, vTry_s, vIsE_s, vFrzD_s, vLstRev_s, vLstRevC_s, vLstRg_s, vLstRgC_s, vRng3_s, vRem_s, vFld_s, vSetF_s, vMeth_s, vMake_s, vTrimM_s, vCallE_s, vDGet2_s, vDNew_s, vDPut_s, vKeysL_s, vLock_s, vPnil_s, vPcons_s, vDisp_s, vTryO_s, vSortK_s, uw__law_draw]
def u__law_number : WF := wDef 3 4 (wSeq (wSet 3 (wOp addW (wOp addW (wOp mulW (wCall u__law_cell (wCons (wVar 0) (wCons (wOp modW (wVar 1) (wC (.int 60))) wNil))) (wC (.int 48271))) (wOp mulW (wOp mulW (wC (.int 7919)) (wVar 1)) (wVar 1))) (wC (.int 11))))
  (wSeq (wIf (wTest (wOp eqW (wOp modW (wOp modW (wVar 3) (wC (.int 40009))) (wC (.int 4))) (wC (.int 0)))) (wRet (wC (.int 0))) wNx)
  (wSeq (wIf (wTest (wOp eqW (wOp modW (wOp modW (wVar 3) (wC (.int 40009))) (wC (.int 4))) (wC (.int 1)))) (wRet (wOp subW (wOp modW (wOp modW (wVar 3) (wC (.int 15013))) (wC (.int 7))) (wC (.int 3)))) wNx)
  (wRet (wOp subW (wOp modW (wOp mulW (wVar 3) (wOp powW (wC (.int 2305843009213693951)) (wC (.int 4)))) (wOp addW (wOp mulW (wC (.int 2)) (wVar 2)) (wC (.int 1)))) (wVar 2))))))
theorem l__law_number : ∀ ds S kk xk, u__law_number ds S kk xk → ds.length = 3 := fun _ _ _ _ h => h.1
theorem uw__law_number : u__law_number = w__law_number := by
  unfold u__law_number w__law_number
  simp only [vVar_s, vC_s, vOp_s, vNeg_s, vTest_s, vChain_s, vAnd_s, vOr_s, vNot_s, vAndV_s, vOrV_s, vNotV_s, vIfE_s, vNoP_s, vSoP_s, vSl_s, vNil_s, vCons_s, vTup_s, vLst_s, vLstC_s, vFrz_s, vB_s, vIsi_s, vM_s, vM0_s, vCall_s, vSeqI_s, vRng1_s, vRng2_s, vYes_s, vLc_s, vLcC_s, vNx_s, vSeq_s, vNever_s, vDrop_s, vRet_s, vRetN_s, vIf_s, vSet_s, vSto_s, vFor_s, vWhile_s, vRaise_s, vDef_s, vTrim_s, vTrimC_s, vTry_s, vIsE_s, vFrzD_s, vLstRev_s, vLstRevC_s, vLstRg_s, vLstRgC_s, vRng3_s, vRem_s, vFld_s, vSetF_s, vMeth_s, vMake_s, vTrimM_s, vCallE_s, vDGet2_s, vDNew_s, vDPut_s, vKeysL_s, vLock_s, vPnil_s, vPcons_s, vDisp_s, vTryO_s, vSortK_s, uw__law_cell]
def u__law_moves : WF := wTrim (wDef 4 8 (wSeq (wSet 4 (wLstC wNil))
  (wSeq (wFor 5 (wRng1 (wCons (wVar 1) wNil))
  (wSeq (wSet 6 (wLc 7 [7] (wRng1 (wCons (wVar 2) wNil)) wYes (wCall u__law_number (wCons (wVar 0) (wCons (wOp addW (wOp addW (wC (.int 5)) (wOp mulW (wVar 2) (wVar 5))) (wVar 7)) (wCons (wVar 3) wNil))))))
  (wSeq (wIf (wAnd (wTest (wOp gtW (wVar 5) (wC (.int 0)))) (wTest (wOp eqW (wCall u__law_draw (wCons (wVar 0) (wCons (wOp addW (wC (.int 1)) (wVar 5)) (wCons (wC (.int 60013)) (wCons (wC (.int 5)) wNil))))) (wC (.int 0))))) (wSet 6 (wB listF (wCons (wOp ixW (wVar 4) (wCall u__law_draw (wCons (wVar 0) (wCons (wOp addW (wC (.int 1)) (wVar 5)) (wCons (wC (.int 70001)) (wCons (wVar 5) wNil)))))) wNil))) wNx)
  (wDrop (wM appF (wVar 4) (wCons (wVar 6) wNil))))))
  (wRet (wFrz (wVar 4))))))
theorem l__law_moves : ∀ ds S kk xk, u__law_moves ds S kk xk → ds.length = 4 := fun _ _ _ _ h => h.1
theorem uw__law_moves : u__law_moves = w__law_moves := by
  unfold u__law_moves w__law_moves
  simp only [vVar_s, vC_s, vOp_s, vNeg_s, vTest_s, vChain_s, vAnd_s, vOr_s, vNot_s, vAndV_s, vOrV_s, vNotV_s, vIfE_s, vNoP_s, vSoP_s, vSl_s, vNil_s, vCons_s, vTup_s, vLst_s, vLstC_s, vFrz_s, vB_s, vIsi_s, vM_s, vM0_s, vCall_s, vSeqI_s, vRng1_s, vRng2_s, vYes_s, vLc_s, vLcC_s, vNx_s, vSeq_s, vNever_s, vDrop_s, vRet_s, vRetN_s, vIf_s, vSet_s, vSto_s, vFor_s, vWhile_s, vRaise_s, vDef_s, vTrim_s, vTrimC_s, vTry_s, vIsE_s, vFrzD_s, vLstRev_s, vLstRevC_s, vLstRg_s, vLstRgC_s, vRng3_s, vRem_s, vFld_s, vSetF_s, vMeth_s, vMake_s, vTrimM_s, vCallE_s, vDGet2_s, vDNew_s, vDPut_s, vKeysL_s, vLock_s, vPnil_s, vPcons_s, vDisp_s, vTryO_s, vSortK_s, uw__law_draw, uw__law_number]
def u__law_position : WF := wDef 4 5 (wRet (wLc 4 [4] (wRng1 (wCons (wVar 2) wNil)) wYes (wCall u__law_number (wCons (wVar 0) (wCons (wOp addW (wVar 1) (wOp mulW (wC (.int 7)) (wVar 4))) (wCons (wVar 3) wNil))))))
theorem l__law_position : ∀ ds S kk xk, u__law_position ds S kk xk → ds.length = 4 := fun _ _ _ _ h => h.1
theorem uw__law_position : u__law_position = w__law_position := by
  unfold u__law_position w__law_position
  simp only [vVar_s, vC_s, vOp_s, vNeg_s, vTest_s, vChain_s, vAnd_s, vOr_s, vNot_s, vAndV_s, vOrV_s, vNotV_s, vIfE_s, vNoP_s, vSoP_s, vSl_s, vNil_s, vCons_s, vTup_s, vLst_s, vLstC_s, vFrz_s, vB_s, vIsi_s, vM_s, vM0_s, vCall_s, vSeqI_s, vRng1_s, vRng2_s, vYes_s, vLc_s, vLcC_s, vNx_s, vSeq_s, vNever_s, vDrop_s, vRet_s, vRetN_s, vIf_s, vSet_s, vSto_s, vFor_s, vWhile_s, vRaise_s, vDef_s, vTrim_s, vTrimC_s, vTry_s, vIsE_s, vFrzD_s, vLstRev_s, vLstRevC_s, vLstRg_s, vLstRgC_s, vRng3_s, vRem_s, vFld_s, vSetF_s, vMeth_s, vMake_s, vTrimM_s, vCallE_s, vDGet2_s, vDNew_s, vDPut_s, vKeysL_s, vLock_s, vPnil_s, vPcons_s, vDisp_s, vTryO_s, vSortK_s, uw__law_number]
def u_loss_on : WF := wDef 2 3 (wRet (wOp subW (wC (.int 0)) (wB sumF (wCons (wLc 2 [2] (wRng1 (wCons (wB lenF (wCons (wVar 0) wNil)) wNil)) wYes (wOp mulW (wOp ixW (wVar 0) (wVar 2)) (wOp ixW (wVar 1) (wVar 2)))) wNil))))
theorem l_loss_on : ∀ ds S kk xk, u_loss_on ds S kk xk → ds.length = 2 := fun _ _ _ _ h => h.1
theorem uw_loss_on : u_loss_on = w_loss_on := by
  unfold u_loss_on w_loss_on
  simp only [vVar_s, vC_s, vOp_s, vNeg_s, vTest_s, vChain_s, vAnd_s, vOr_s, vNot_s, vAndV_s, vOrV_s, vNotV_s, vIfE_s, vNoP_s, vSoP_s, vSl_s, vNil_s, vCons_s, vTup_s, vLst_s, vLstC_s, vFrz_s, vB_s, vIsi_s, vM_s, vM0_s, vCall_s, vSeqI_s, vRng1_s, vRng2_s, vYes_s, vLc_s, vLcC_s, vNx_s, vSeq_s, vNever_s, vDrop_s, vRet_s, vRetN_s, vIf_s, vSet_s, vSto_s, vFor_s, vWhile_s, vRaise_s, vDef_s, vTrim_s, vTrimC_s, vTry_s, vIsE_s, vFrzD_s, vLstRev_s, vLstRevC_s, vLstRg_s, vLstRgC_s, vRng3_s, vRem_s, vFld_s, vSetF_s, vMeth_s, vMake_s, vTrimM_s, vCallE_s, vDGet2_s, vDNew_s, vDPut_s, vKeysL_s, vLock_s, vPnil_s, vPcons_s, vDisp_s, vTryO_s, vSortK_s]
def u_losses_of : WF := wDef 2 3 (wRet (wLc 2 [2] (wSeqI (wVar 1)) wYes (wCall u_loss_on (wCons (wVar 0) (wCons (wVar 2) wNil)))))
theorem l_losses_of : ∀ ds S kk xk, u_losses_of ds S kk xk → ds.length = 2 := fun _ _ _ _ h => h.1
theorem uw_losses_of : u_losses_of = w_losses_of := by
  unfold u_losses_of w_losses_of
  simp only [vVar_s, vC_s, vOp_s, vNeg_s, vTest_s, vChain_s, vAnd_s, vOr_s, vNot_s, vAndV_s, vOrV_s, vNotV_s, vIfE_s, vNoP_s, vSoP_s, vSl_s, vNil_s, vCons_s, vTup_s, vLst_s, vLstC_s, vFrz_s, vB_s, vIsi_s, vM_s, vM0_s, vCall_s, vSeqI_s, vRng1_s, vRng2_s, vYes_s, vLc_s, vLcC_s, vNx_s, vSeq_s, vNever_s, vDrop_s, vRet_s, vRetN_s, vIf_s, vSet_s, vSto_s, vFor_s, vWhile_s, vRaise_s, vDef_s, vTrim_s, vTrimC_s, vTry_s, vIsE_s, vFrzD_s, vLstRev_s, vLstRevC_s, vLstRg_s, vLstRgC_s, vRng3_s, vRem_s, vFld_s, vSetF_s, vMeth_s, vMake_s, vTrimM_s, vCallE_s, vDGet2_s, vDNew_s, vDPut_s, vKeysL_s, vLock_s, vPnil_s, vPcons_s, vDisp_s, vTryO_s, vSortK_s, uw_loss_on]
def u_worst_days : WF := wDef 3 5 (wSeq (wSet 3 (wCall u_losses_of (wCons (wVar 0) (wCons (wVar 1) wNil))))
  (wSeq (wSet 4 (wSortK 3 "worst_days.<locals>.<lambda>" (wB lenF (wCons (wVar 1) wNil))))
  (wRet (wSl (wVar 4) wNoP (wSoP (wVar 2))))))
theorem l_worst_days : ∀ ds S kk xk, u_worst_days ds S kk xk → ds.length = 3 := fun _ _ _ _ h => h.1
theorem uw_worst_days : u_worst_days = w_worst_days := by
  unfold u_worst_days w_worst_days
  simp only [vVar_s, vC_s, vOp_s, vNeg_s, vTest_s, vChain_s, vAnd_s, vOr_s, vNot_s, vAndV_s, vOrV_s, vNotV_s, vIfE_s, vNoP_s, vSoP_s, vSl_s, vNil_s, vCons_s, vTup_s, vLst_s, vLstC_s, vFrz_s, vB_s, vIsi_s, vM_s, vM0_s, vCall_s, vSeqI_s, vRng1_s, vRng2_s, vYes_s, vLc_s, vLcC_s, vNx_s, vSeq_s, vNever_s, vDrop_s, vRet_s, vRetN_s, vIf_s, vSet_s, vSto_s, vFor_s, vWhile_s, vRaise_s, vDef_s, vTrim_s, vTrimC_s, vTry_s, vIsE_s, vFrzD_s, vLstRev_s, vLstRevC_s, vLstRg_s, vLstRgC_s, vRng3_s, vRem_s, vFld_s, vSetF_s, vMeth_s, vMake_s, vTrimM_s, vCallE_s, vDGet2_s, vDNew_s, vDPut_s, vKeysL_s, vLock_s, vPnil_s, vPcons_s, vDisp_s, vTryO_s, vSortK_s, uw_losses_of]
def u__law_loss : WF := wDef 2 4 (wSeq (wSet 2 (wC (.int 0)))
  (wSeq (wFor 3 (wRng1 (wCons (wB lenF (wCons (wVar 0) wNil)) wNil))
  (wSet 2 (wOp subW (wVar 2) (wOp mulW (wOp ixW (wVar 0) (wVar 3)) (wOp ixW (wVar 1) (wVar 3))))))
  (wRet (wVar 2))))
theorem l__law_loss : ∀ ds S kk xk, u__law_loss ds S kk xk → ds.length = 2 := fun _ _ _ _ h => h.1
theorem uw__law_loss : u__law_loss = w__law_loss := by
  unfold u__law_loss w__law_loss
  simp only [vVar_s, vC_s, vOp_s, vNeg_s, vTest_s, vChain_s, vAnd_s, vOr_s, vNot_s, vAndV_s, vOrV_s, vNotV_s, vIfE_s, vNoP_s, vSoP_s, vSl_s, vNil_s, vCons_s, vTup_s, vLst_s, vLstC_s, vFrz_s, vB_s, vIsi_s, vM_s, vM0_s, vCall_s, vSeqI_s, vRng1_s, vRng2_s, vYes_s, vLc_s, vLcC_s, vNx_s, vSeq_s, vNever_s, vDrop_s, vRet_s, vRetN_s, vIf_s, vSet_s, vSto_s, vFor_s, vWhile_s, vRaise_s, vDef_s, vTrim_s, vTrimC_s, vTry_s, vIsE_s, vFrzD_s, vLstRev_s, vLstRevC_s, vLstRg_s, vLstRgC_s, vRng3_s, vRem_s, vFld_s, vSetF_s, vMeth_s, vMake_s, vTrimM_s, vCallE_s, vDGet2_s, vDNew_s, vDPut_s, vKeysL_s, vLock_s, vPnil_s, vPcons_s, vDisp_s, vTryO_s, vSortK_s]
def u__law_before : WF := wDef 3 3 (wRet (wOrV (wOp gtW (wOp ixW (wVar 0) (wVar 1)) (wOp ixW (wVar 0) (wVar 2))) (wAndV (wOp eqW (wOp ixW (wVar 0) (wVar 1)) (wOp ixW (wVar 0) (wVar 2))) (wOp ltW (wVar 1) (wVar 2)))))
theorem l__law_before : ∀ ds S kk xk, u__law_before ds S kk xk → ds.length = 3 := fun _ _ _ _ h => h.1
theorem uw__law_before : u__law_before = w__law_before := by
  unfold u__law_before w__law_before
  simp only [vVar_s, vC_s, vOp_s, vNeg_s, vTest_s, vChain_s, vAnd_s, vOr_s, vNot_s, vAndV_s, vOrV_s, vNotV_s, vIfE_s, vNoP_s, vSoP_s, vSl_s, vNil_s, vCons_s, vTup_s, vLst_s, vLstC_s, vFrz_s, vB_s, vIsi_s, vM_s, vM0_s, vCall_s, vSeqI_s, vRng1_s, vRng2_s, vYes_s, vLc_s, vLcC_s, vNx_s, vSeq_s, vNever_s, vDrop_s, vRet_s, vRetN_s, vIf_s, vSet_s, vSto_s, vFor_s, vWhile_s, vRaise_s, vDef_s, vTrim_s, vTrimC_s, vTry_s, vIsE_s, vFrzD_s, vLstRev_s, vLstRevC_s, vLstRg_s, vLstRgC_s, vRng3_s, vRem_s, vFld_s, vSetF_s, vMeth_s, vMake_s, vTrimM_s, vCallE_s, vDGet2_s, vDNew_s, vDPut_s, vKeysL_s, vLock_s, vPnil_s, vPcons_s, vDisp_s, vTryO_s, vSortK_s]
def u__law_whole : WF := wDef 1 1 (wRet (wAndV (wIsi .int (wVar 0)) (wNotV (wIsi .bool (wVar 0)))))
theorem l__law_whole : ∀ ds S kk xk, u__law_whole ds S kk xk → ds.length = 1 := fun _ _ _ _ h => h.1
theorem uw__law_whole : u__law_whole = w__law_whole := by
  unfold u__law_whole w__law_whole
  simp only [vVar_s, vC_s, vOp_s, vNeg_s, vTest_s, vChain_s, vAnd_s, vOr_s, vNot_s, vAndV_s, vOrV_s, vNotV_s, vIfE_s, vNoP_s, vSoP_s, vSl_s, vNil_s, vCons_s, vTup_s, vLst_s, vLstC_s, vFrz_s, vB_s, vIsi_s, vM_s, vM0_s, vCall_s, vSeqI_s, vRng1_s, vRng2_s, vYes_s, vLc_s, vLcC_s, vNx_s, vSeq_s, vNever_s, vDrop_s, vRet_s, vRetN_s, vIf_s, vSet_s, vSto_s, vFor_s, vWhile_s, vRaise_s, vDef_s, vTrim_s, vTrimC_s, vTry_s, vIsE_s, vFrzD_s, vLstRev_s, vLstRevC_s, vLstRg_s, vLstRgC_s, vRng3_s, vRem_s, vFld_s, vSetF_s, vMeth_s, vMake_s, vTrimM_s, vCallE_s, vDGet2_s, vDNew_s, vDPut_s, vKeysL_s, vLock_s, vPnil_s, vPcons_s, vDisp_s, vTryO_s, vSortK_s]
def u_law : WF := wDef 1 14 (wSeq (wSet 1 (wOp addW (wC (.int 1)) (wCall u__law_draw (wCons (wVar 0) (wCons (wC (.int 2)) (wCons (wC (.int 10007)) (wCons (wC (.int 4)) wNil)))))))
  (wSeq (wSet 2 (wCall u__law_days (wCons (wVar 0) (wCons (wC (.int 30)) wNil))))
  (wSeq (wSet 3 (wCall u__law_most (wCons (wVar 0) wNil)))
  (wSeq (wSet 4 (wCall u__law_moves (wCons (wVar 0) (wCons (wVar 2) (wCons (wVar 1) (wCons (wVar 3) wNil))))))
  (wSeq (wSet 5 (wCall u__law_position (wCons (wVar 0) (wCons (wC (.int 130)) (wCons (wVar 1) (wCons (wVar 3) wNil))))))
  (wSeq (wSet 6 (wCall u__law_draw (wCons (wVar 0) (wCons (wC (.int 3)) (wCons (wC (.int 10007)) (wCons (wOp addW (wVar 2) (wC (.int 1))) wNil))))))
  (wSeq (wIf (wTest (wOp eqW (wCall u__law_draw (wCons (wVar 0) (wCons (wC (.int 3)) (wCons (wC (.int 15013)) (wCons (wC (.int 4)) wNil))))) (wC (.int 0)))) (wSet 6 (wVar 2)) wNx)
  (wSeq (wSet 7 (wLc 13 [13] (wSeqI (wVar 4)) wYes (wB listF (wCons (wVar 13) wNil))))
  (wSeq (wSet 8 (wB listF (wCons (wVar 5) wNil)))
  (wSeq (wSet 9 (wCall u_worst_days (wCons (wVar 8) (wCons (wVar 7) (wCons (wVar 6) wNil)))))
  (wSeq (wIf (wOr (wTest (wOp neW (wVar 7) (wVar 4))) (wTest (wOp neW (wVar 8) (wVar 5)))) (wRet (wC (.bl false))) wNx)
  (wSeq (wIf (wOr (wNot (wTest (wIsi .list (wVar 9)))) (wTest (wOp neW (wB lenF (wCons (wVar 9) wNil)) (wVar 6)))) (wRet (wC (.bl false))) wNx)
  (wSeq (wFor 10 (wSeqI (wVar 9))
  (wIf (wOr (wNot (wTest (wCall u__law_whole (wCons (wVar 10) wNil)))) (wNot (wTest (wChain leW ltW (wC (.int 0)) (wVar 10) (wVar 2))))) (wRet (wC (.bl false))) wNx))
  (wSeq (wSet 11 (wLc 13 [13] (wSeqI (wVar 4)) wYes (wCall u__law_loss (wCons (wVar 5) (wCons (wVar 13) wNil)))))
  (wSeq (wFor 12 (wRng2 (wCons (wC (.int 1)) (wCons (wVar 6) wNil)))
  (wIf (wNot (wTest (wCall u__law_before (wCons (wVar 11) (wCons (wOp ixW (wVar 9) (wOp subW (wVar 12) (wC (.int 1)))) (wCons (wOp ixW (wVar 9) (wVar 12)) wNil)))))) (wRet (wC (.bl false))) wNx))
  (wSeq (wFor 10 (wRng1 (wCons (wVar 2) wNil))
  (wIf (wAnd (wTest (wOp gtW (wVar 6) (wC (.int 0)))) (wAnd (wTest (wOp (inW true) (wVar 10) (wVar 9))) (wTest (wCall u__law_before (wCons (wVar 11) (wCons (wVar 10) (wCons (wOp ixW (wVar 9) (wOp subW (wVar 6) (wC (.int 1)))) wNil))))))) (wRet (wC (.bl false))) wNx))
  (wRet (wC (.bl true)))))))))))))))))))
theorem l_law : ∀ ds S kk xk, u_law ds S kk xk → ds.length = 1 := fun _ _ _ _ h => h.1
theorem uw_law : u_law = w_law := by
  unfold u_law w_law
  simp only [vVar_s, vC_s, vOp_s, vNeg_s, vTest_s, vChain_s, vAnd_s, vOr_s, vNot_s, vAndV_s, vOrV_s, vNotV_s, vIfE_s, vNoP_s, vSoP_s, vSl_s, vNil_s, vCons_s, vTup_s, vLst_s, vLstC_s, vFrz_s, vB_s, vIsi_s, vM_s, vM0_s, vCall_s, vSeqI_s, vRng1_s, vRng2_s, vYes_s, vLc_s, vLcC_s, vNx_s, vSeq_s, vNever_s, vDrop_s, vRet_s, vRetN_s, vIf_s, vSet_s, vSto_s, vFor_s, vWhile_s, vRaise_s, vDef_s, vTrim_s, vTrimC_s, vTry_s, vIsE_s, vFrzD_s, vLstRev_s, vLstRevC_s, vLstRg_s, vLstRgC_s, vRng3_s, vRem_s, vFld_s, vSetF_s, vMeth_s, vMake_s, vTrimM_s, vCallE_s, vDGet2_s, vDNew_s, vDPut_s, vKeysL_s, vLock_s, vPnil_s, vPcons_s, vDisp_s, vTryO_s, vSortK_s, uw__law_draw, uw__law_days, uw__law_most, uw__law_moves, uw__law_position, uw_worst_days, uw__law_loss, uw__law_before, uw__law_whole]
def top (i : Nat) : Stmt := PySem.Challenge.pw_quits_k47_worst_days.main.body.getD i (.Pass ⟨0, 0, 0, 0⟩)
abbrev s__law_cell : Stmt := top 5
abbrev n__law_cell : List Str := ["script", "k"]
theorem sc__law_cell : FnScope n__law_cell ["script", "k"] (defScope s__law_cell) := ⟨rfl, rfl, rfl, by decide +kernel, rfl, by decide +kernel, by decide +kernel⟩
abbrev s__law_draw : Stmt := top 6
abbrev n__law_draw : List Str := ["script", "k", "prime", "many"]
theorem sc__law_draw : FnScope n__law_draw ["script", "k", "prime", "many"] (defScope s__law_draw) := ⟨rfl, rfl, rfl, by decide +kernel, rfl, by decide +kernel, by decide +kernel⟩
abbrev s__law_days : Stmt := top 10
abbrev n__law_days : List Str := ["script", "most"]
theorem sc__law_days : FnScope n__law_days ["script", "most"] (defScope s__law_days) := ⟨rfl, rfl, rfl, by decide +kernel, rfl, by decide +kernel, by decide +kernel⟩
abbrev s__law_most : Stmt := top 11
abbrev n__law_most : List Str := ["script"]
theorem sc__law_most : FnScope n__law_most ["script"] (defScope s__law_most) := ⟨rfl, rfl, rfl, by decide +kernel, rfl, by decide +kernel, by decide +kernel⟩
abbrev s__law_number : Stmt := top 7
abbrev n__law_number : List Str := ["script", "k", "most", "mixed"]
theorem sc__law_number : FnScope n__law_number ["script", "k", "most"] (defScope s__law_number) := ⟨rfl, rfl, rfl, by decide +kernel, rfl, by decide +kernel, by decide +kernel⟩
abbrev s__law_moves : Stmt := top 8
abbrev n__law_moves : List Str := ["script", "days", "wares", "most", "moves", "day", "move", "k"]
theorem sc__law_moves : FnScope n__law_moves ["script", "days", "wares", "most"] (defScope s__law_moves) := ⟨rfl, rfl, rfl, by decide +kernel, rfl, by decide +kernel, by decide +kernel⟩
abbrev s__law_position : Stmt := top 9
abbrev n__law_position : List Str := ["script", "k", "wares", "most", "ware"]
theorem sc__law_position : FnScope n__law_position ["script", "k", "wares", "most"] (defScope s__law_position) := ⟨rfl, rfl, rfl, by decide +kernel, rfl, by decide +kernel, by decide +kernel⟩
abbrev s_loss_on : Stmt := top 1
abbrev n_loss_on : List Str := ["position", "move", "k"]
theorem sc_loss_on : FnScope n_loss_on ["position", "move"] (defScope s_loss_on) := ⟨rfl, rfl, rfl, by decide +kernel, rfl, by decide +kernel, by decide +kernel⟩
abbrev s_losses_of : Stmt := top 2
abbrev n_losses_of : List Str := ["position", "moves", "move"]
theorem sc_losses_of : FnScope n_losses_of ["position", "moves"] (defScope s_losses_of) := ⟨rfl, rfl, rfl, by decide +kernel, rfl, by decide +kernel, by decide +kernel⟩
abbrev s_worst_days : Stmt := top 3
abbrev n_worst_days : List Str := ["position", "moves", "k", "losses", "days"]
theorem sc_worst_days : FnScope n_worst_days ["position", "moves", "k"] (defScope s_worst_days) := ⟨rfl, rfl, rfl, by decide +kernel, rfl, by decide +kernel, by decide +kernel⟩
abbrev s__law_loss : Stmt := top 12
abbrev n__law_loss : List Str := ["position", "move", "found", "k"]
theorem sc__law_loss : FnScope n__law_loss ["position", "move"] (defScope s__law_loss) := ⟨rfl, rfl, rfl, by decide +kernel, rfl, by decide +kernel, by decide +kernel⟩
abbrev s__law_before : Stmt := top 14
abbrev n__law_before : List Str := ["losses", "one", "other"]
theorem sc__law_before : FnScope n__law_before ["losses", "one", "other"] (defScope s__law_before) := ⟨rfl, rfl, rfl, by decide +kernel, rfl, by decide +kernel, by decide +kernel⟩
abbrev s__law_whole : Stmt := top 13
abbrev n__law_whole : List Str := ["thing"]
theorem sc__law_whole : FnScope n__law_whole ["thing"] (defScope s__law_whole) := ⟨rfl, rfl, rfl, by decide +kernel, rfl, by decide +kernel, by decide +kernel⟩
abbrev s_law : Stmt := top 15
abbrev n_law : List Str := ["script", "wares", "days", "most", "moves", "position", "number", "handed", "side", "told", "day", "losses", "k", "move"]
theorem sc_law : FnScope n_law ["script"] (defScope s_law) := ⟨rfl, rfl, rfl, by decide +kernel, rfl, by decide +kernel, by decide +kernel⟩
structure Tx (K : PySem.W.Frag) (mg : Str → Option Value) (g : Gi) (base : Heap) where
  a__law_cell : Addr
  f__law_cell : FuncData
  F__law_cell : Fun K "_law_cell" "_law_cell" s__law_cell a__law_cell f__law_cell
  b__law_cell : Binds K f__law_cell ["script", "k"] []
  m__law_cell : mg "_law_cell" = some (.ref a__law_cell)
  a__law_draw : Addr
  f__law_draw : FuncData
  F__law_draw : Fun K "_law_draw" "_law_draw" s__law_draw a__law_draw f__law_draw
  b__law_draw : Binds K f__law_draw ["script", "k", "prime", "many"] []
  m__law_draw : mg "_law_draw" = some (.ref a__law_draw)
  a__law_days : Addr
  f__law_days : FuncData
  F__law_days : Fun K "_law_days" "_law_days" s__law_days a__law_days f__law_days
  b__law_days : Binds K f__law_days ["script", "most"] []
  m__law_days : mg "_law_days" = some (.ref a__law_days)
  a__law_most : Addr
  f__law_most : FuncData
  F__law_most : Fun K "_law_most" "_law_most" s__law_most a__law_most f__law_most
  b__law_most : Binds K f__law_most ["script"] []
  m__law_most : mg "_law_most" = some (.ref a__law_most)
  a__law_number : Addr
  f__law_number : FuncData
  F__law_number : Fun K "_law_number" "_law_number" s__law_number a__law_number f__law_number
  b__law_number : Binds K f__law_number ["script", "k", "most"] []
  m__law_number : mg "_law_number" = some (.ref a__law_number)
  a__law_moves : Addr
  f__law_moves : FuncData
  F__law_moves : Fun K "_law_moves" "_law_moves" s__law_moves a__law_moves f__law_moves
  b__law_moves : Binds K f__law_moves ["script", "days", "wares", "most"] []
  m__law_moves : mg "_law_moves" = some (.ref a__law_moves)
  a__law_position : Addr
  f__law_position : FuncData
  F__law_position : Fun K "_law_position" "_law_position" s__law_position a__law_position f__law_position
  b__law_position : Binds K f__law_position ["script", "k", "wares", "most"] []
  m__law_position : mg "_law_position" = some (.ref a__law_position)
  a_loss_on : Addr
  f_loss_on : FuncData
  F_loss_on : Fun K "loss_on" "loss_on" s_loss_on a_loss_on f_loss_on
  b_loss_on : Binds K f_loss_on ["position", "move"] []
  m_loss_on : mg "loss_on" = some (.ref a_loss_on)
  a_losses_of : Addr
  f_losses_of : FuncData
  F_losses_of : Fun K "losses_of" "losses_of" s_losses_of a_losses_of f_losses_of
  b_losses_of : Binds K f_losses_of ["position", "moves"] []
  m_losses_of : mg "losses_of" = some (.ref a_losses_of)
  a_worst_days : Addr
  f_worst_days : FuncData
  F_worst_days : Fun K "worst_days" "worst_days" s_worst_days a_worst_days f_worst_days
  b_worst_days : Binds K f_worst_days ["position", "moves", "k"] []
  m_worst_days : mg "worst_days" = some (.ref a_worst_days)
  a__law_loss : Addr
  f__law_loss : FuncData
  F__law_loss : Fun K "_law_loss" "_law_loss" s__law_loss a__law_loss f__law_loss
  b__law_loss : Binds K f__law_loss ["position", "move"] []
  m__law_loss : mg "_law_loss" = some (.ref a__law_loss)
  a__law_before : Addr
  f__law_before : FuncData
  F__law_before : Fun K "_law_before" "_law_before" s__law_before a__law_before f__law_before
  b__law_before : Binds K f__law_before ["losses", "one", "other"] []
  m__law_before : mg "_law_before" = some (.ref a__law_before)
  a__law_whole : Addr
  f__law_whole : FuncData
  F__law_whole : Fun K "_law_whole" "_law_whole" s__law_whole a__law_whole f__law_whole
  b__law_whole : Binds K f__law_whole ["thing"] []
  m__law_whole : mg "_law_whole" = some (.ref a__law_whole)
  a_law : Addr
  f_law : FuncData
  F_law : Fun K "law" "law" s_law a_law f_law
  b_law : Binds K f_law ["script"] []
  m_law : mg "law" = some (.ref a_law)
  z_bool : mg "bool" = none
  z_int : mg "int" = none
  z_isinstance : mg "isinstance" = none
  z_len : mg "len" = none
  z_list : mg "list" = none
  z_range : mg "range" = none
  z_sorted : mg "sorted" = none
  z_sum : mg "sum" = none
  cW : Addr
  PW : Addr
  cd : f_worst_days.code = .ref cW
  gP : g.cl "worst_days.<locals>.<lambda>" = PW
  tb : LamX.TabB base mg cW PW
section
variable {P : Program} {w0 : World} {K : PySem.W.Frag} {mg : Str → Option Value} {base : Heap} {g : Gi}
theorem ok__law_cell (T : Tx K mg g base) : FnOk P w0 K mg base (L2.CX P w0) 1 T.a__law_cell T.f__law_cell ["script", "k"] (spW K g 2 u__law_cell) :=
  fn_ok (k := 0) (N := n__law_cell) T.F__law_cell sc__law_cell (fun cdv A outer s H E hr =>
    (ss_cons (ss_if (st_cmp gc_lt (se_var 1) (se_len rfl T.z_len (sa_cons (se_var 0) sa_nil)))
    (ss_one (ss_ret (se_ix (se_var 0) (se_var 1))))
    ss_nil)
    (ss_one (ss_ret se_int))))
theorem ok__law_draw (T : Tx K mg g base) : FnOk P w0 K mg base (L2.CX P w0) 2 T.a__law_draw T.f__law_draw ["script", "k", "prime", "many"] (spW K g 4 u__law_draw) :=
  fn_ok (k := 1) (N := n__law_draw) T.F__law_draw sc__law_draw (fun cdv A outer s H E hr =>
    (ss_one (ss_ret (se_mod (se_mod (se_add (se_add (se_mul (se_call (ok__law_cell T) l__law_cell (hr.mono (by decide)) rfl T.m__law_cell T.F__law_cell.kp T.b__law_cell (takes_of rfl rfl rfl rfl) (sa_cons (se_var 0) (sa_cons (se_var 1) sa_nil))) se_int) (se_mul (se_mul se_int (se_var 1)) (se_var 1))) se_int) (se_var 2)) (se_var 3)))))
theorem ok__law_days (T : Tx K mg g base) : FnOk P w0 K mg base (L2.CX P w0) 3 T.a__law_days T.f__law_days ["script", "most"] (spW K g 2 u__law_days) :=
  fn_ok (k := 2) (N := n__law_days) T.F__law_days sc__law_days (fun cdv A outer s H E hr =>
    (ss_cons (ss_if (st_cmp (gc_eq hr.units) (se_call (ok__law_draw T) l__law_draw (hr.mono (by decide)) rfl T.m__law_draw T.F__law_draw.kp T.b__law_draw (takes_of rfl rfl rfl rfl) (sa_cons (se_var 0) (sa_cons se_int (sa_cons se_int (sa_cons se_int sa_nil))))) se_int)
    (ss_one (ss_ret (se_add se_int (se_call (ok__law_draw T) l__law_draw (hr.mono (by decide)) rfl T.m__law_draw T.F__law_draw.kp T.b__law_draw (takes_of rfl rfl rfl rfl) (sa_cons (se_var 0) (sa_cons se_int (sa_cons se_int (sa_cons (se_var 1) sa_nil))))))))
    ss_nil)
    (ss_one (ss_ret (se_add se_int (se_call (ok__law_draw T) l__law_draw (hr.mono (by decide)) rfl T.m__law_draw T.F__law_draw.kp T.b__law_draw (takes_of rfl rfl rfl rfl) (sa_cons (se_var 0) (sa_cons se_int (sa_cons se_int (sa_cons se_int sa_nil))))))))))
theorem ok__law_most (T : Tx K mg g base) : FnOk P w0 K mg base (L2.CX P w0) 3 T.a__law_most T.f__law_most ["script"] (spW K g 1 u__law_most) :=
  fn_ok (k := 2) (N := n__law_most) T.F__law_most sc__law_most (fun cdv A outer s H E hr =>
    (ss_cons (ss_if (st_cmp (gc_eq hr.units) (se_call (ok__law_draw T) l__law_draw (hr.mono (by decide)) rfl T.m__law_draw T.F__law_draw.kp T.b__law_draw (takes_of rfl rfl rfl rfl) (sa_cons (se_var 0) (sa_cons se_int (sa_cons se_int (sa_cons se_int sa_nil))))) se_int)
    (ss_one (ss_ret se_int))
    ss_nil)
    (ss_one (ss_ret (se_sub (se_pow se_int se_int) se_int)))))
theorem ok__law_number (T : Tx K mg g base) : FnOk P w0 K mg base (L2.CX P w0) 2 T.a__law_number T.f__law_number ["script", "k", "most"] (spW K g 3 u__law_number) :=
  fn_ok (k := 1) (N := n__law_number) T.F__law_number sc__law_number (fun cdv A outer s H E hr =>
    (ss_cons (ss_set 3 sc__law_number.nd (se_add (se_add (se_mul (se_call (ok__law_cell T) l__law_cell (hr.mono (by decide)) rfl T.m__law_cell T.F__law_cell.kp T.b__law_cell (takes_of rfl rfl rfl rfl) (sa_cons (se_var 0) (sa_cons (se_mod (se_var 1) se_int) sa_nil))) se_int) (se_mul (se_mul se_int (se_var 1)) (se_var 1))) se_int))
    (ss_cons (ss_if (st_cmp (gc_eq hr.units) (se_mod (se_mod (se_var 3) se_int) se_int) se_int)
    (ss_one (ss_ret se_int))
    ss_nil)
    (ss_cons (ss_if (st_cmp (gc_eq hr.units) (se_mod (se_mod (se_var 3) se_int) se_int) se_int)
    (ss_one (ss_ret (se_sub (se_mod (se_mod (se_var 3) se_int) se_int) se_int)))
    ss_nil)
    (ss_one (ss_ret (se_sub (se_mod (se_mul (se_var 3) (se_pow se_int se_int)) (se_add (se_mul se_int (se_var 2)) se_int)) (se_var 2))))))))
theorem ok__law_moves (T : Tx K mg g base) : FnOk P w0 K mg base (L2.CX P w0) 3 T.a__law_moves T.f__law_moves ["script", "days", "wares", "most"] (spW K g 4 u__law_moves) :=
  fn_trim (fn_ok (k := 2) (N := n__law_moves) T.F__law_moves sc__law_moves (fun cdv A outer s H E hr =>
    (ss_cons (ss_set 4 sc__law_moves.nd (se_lstC sa_nil))
    (ss_cons (ss_for 5 (passes_of rfl) rfl sc__law_moves.nd (si_rng1 rfl T.z_range (sa_cons (se_var 1) sa_nil))
    (ss_cons (ss_setLc (j := 6) rfl sc__law_moves.nd rfl rfl (sw_true rfl rfl rfl (by decide +kernel)) (own := [("k", 7)]) (i := 7) (si_rng1 rfl T.z_range (sa_cons (se_var 2) sa_nil)) (blkOk_by (N := n__law_moves) (sc := defScope s__law_moves) (by decide +kernel)) (by decide) (fun _ _ _ _ _ => pg_name (i := 7) sc__law_moves.nd rfl (Or.inl rfl)) (fun _ _ _ _ _ => sts_nil) (fun _ _ _ _ _ => (se_call (ok__law_number T) l__law_number (hr.mono (by decide)) rfl T.m__law_number T.F__law_number.kp T.b__law_number takes0 (sa_cons (se_var 0) (sa_cons (se_add (se_add se_int (se_mul (se_var 2) (se_var 5))) (se_var 7)) (sa_cons (se_var 3) sa_nil))))))
    (ss_cons (ss_if (SPw.st (sw_and (st_cmp gc_gt (se_var 5) se_int) (sw_one (st_cmp (gc_eq hr.units) (se_call (ok__law_draw T) l__law_draw (hr.mono (by decide)) rfl T.m__law_draw T.F__law_draw.kp T.b__law_draw (takes_of rfl rfl rfl rfl) (sa_cons (se_var 0) (sa_cons (se_add se_int (se_var 5)) (sa_cons se_int (sa_cons se_int sa_nil))))) se_int))))
    (ss_one (ss_set 6 sc__law_moves.nd (se_list rfl T.z_list (sa_cons (se_ix (se_var 4) (se_call (ok__law_draw T) l__law_draw (hr.mono (by decide)) rfl T.m__law_draw T.F__law_draw.kp T.b__law_draw (takes_of rfl rfl rfl rfl) (sa_cons (se_var 0) (sa_cons (se_add se_int (se_var 5)) (sa_cons se_int (sa_cons (se_var 5) sa_nil)))))) sa_nil))))
    ss_nil)
    (ss_one (ss_expr (se_app (se_var 4) (sa_cons (se_var 6) sa_nil)))))))
    (ss_one (ss_ret (se_frz (se_var 4))))))))
theorem ok__law_position (T : Tx K mg g base) : FnOk P w0 K mg base (L2.CX P w0) 3 T.a__law_position T.f__law_position ["script", "k", "wares", "most"] (spW K g 4 u__law_position) :=
  fn_ok (k := 2) (N := n__law_position) T.F__law_position sc__law_position (fun cdv A outer s H E hr =>
    (ss_one (ss_ret (se_lc (own := [("ware", 4)]) (i := 4) rfl sc__law_position.nd (si_rng1 rfl T.z_range (sa_cons (se_var 2) sa_nil)) (blkOk_by (N := n__law_position) (sc := defScope s__law_position) (by decide +kernel)) (by decide) (fun _ _ _ _ _ => pg_name (i := 4) sc__law_position.nd rfl (Or.inl rfl)) (fun _ _ _ _ _ => sts_nil) (fun _ _ _ _ _ => (se_call (ok__law_number T) l__law_number (hr.mono (by decide)) rfl T.m__law_number T.F__law_number.kp T.b__law_number takes0 (sa_cons (se_var 0) (sa_cons (se_add (se_var 1) (se_mul se_int (se_var 4))) (sa_cons (se_var 3) sa_nil)))))))))
theorem ok_loss_on (T : Tx K mg g base) : FnOk P w0 K mg base (L2.CX P w0) 1 T.a_loss_on T.f_loss_on ["position", "move"] (spW K g 2 u_loss_on) :=
  fn_ok (k := 0) (N := n_loss_on) T.F_loss_on sc_loss_on (fun cdv A outer s H E hr =>
    (ss_one (ss_ret (se_sub se_int (se_sum rfl rfl T.z_sum (sa_cons (se_lc (own := [("k", 2)]) (i := 2) rfl sc_loss_on.nd (si_rng1 rfl T.z_range (sa_cons (se_len rfl T.z_len (sa_cons (se_var 0) sa_nil)) sa_nil)) (blkOk_by (N := n_loss_on) (sc := defScope s_loss_on) (by decide +kernel)) (by decide) (fun _ _ _ _ _ => pg_name (i := 2) sc_loss_on.nd rfl (Or.inl rfl)) (fun _ _ _ _ _ => sts_nil) (fun _ _ _ _ _ => (se_mul (se_ix (se_var 0) (se_var 2)) (se_ix (se_var 1) (se_var 2))))) sa_nil))))))
theorem ok_losses_of (T : Tx K mg g base) : FnOk P w0 K mg base (L2.CX P w0) 2 T.a_losses_of T.f_losses_of ["position", "moves"] (spW K g 2 u_losses_of) :=
  fn_ok (k := 1) (N := n_losses_of) T.F_losses_of sc_losses_of (fun cdv A outer s H E hr =>
    (ss_one (ss_ret (se_lc (own := [("move", 2)]) (i := 2) rfl sc_losses_of.nd (si_seq (se_var 1)) (blkOk_by (N := n_losses_of) (sc := defScope s_losses_of) (by decide +kernel)) (by decide) (fun _ _ _ _ _ => pg_name (i := 2) sc_losses_of.nd rfl (Or.inl rfl)) (fun _ _ _ _ _ => sts_nil) (fun _ _ _ _ _ => (se_call (ok_loss_on T) l_loss_on (hr.mono (by decide)) rfl T.m_loss_on T.F_loss_on.kp T.b_loss_on takes0 (sa_cons (se_var 0) (sa_cons (se_var 2) sa_nil))))))))
theorem ok_worst_days (T : Tx K mg g base) : FnOk P w0 K mg base (L2.CX P w0) 3 T.a_worst_days T.f_worst_days ["position", "moves", "k"] (spW K g 3 u_worst_days) :=
  fn_okC (k := 2) (N := n_worst_days) T.F_worst_days sc_worst_days (fun cdv hcdv A outer s H E hr =>
    (ss_cons (ss_set 3 sc_worst_days.nd (se_call (ok_losses_of T) l_losses_of (hr.mono (by decide)) rfl T.m_losses_of T.F_losses_of.kp T.b_losses_of (takes_of rfl rfl rfl rfl) (sa_cons (se_var 0) (sa_cons (se_var 1) sa_nil))))
    (ss_cons (ss_set 4 sc_worst_days.nd (se_sortK (i := 3) (c := T.cW) (P := T.PW) (q := "worst_days.<locals>.<lambda>") rfl hr T.tb (hcdv.symm.trans T.cd) T.gP (show (("worst_days" : Str) ++ ".<locals>." ++ "<lambda>") = _ from by decide +kernel) rfl T.z_sorted rfl T.z_range rfl rfl (se_len rfl T.z_len (sa_cons (se_var 1) sa_nil))))
    (ss_one (ss_ret (se_slice (se_var 4) so_none (so_some (se_var 2))))))))
theorem ok__law_loss (T : Tx K mg g base) : FnOk P w0 K mg base (L2.CX P w0) 1 T.a__law_loss T.f__law_loss ["position", "move"] (spW K g 2 u__law_loss) :=
  fn_ok (k := 0) (N := n__law_loss) T.F__law_loss sc__law_loss (fun cdv A outer s H E hr =>
    (ss_cons (ss_set 2 sc__law_loss.nd se_int)
    (ss_cons (ss_for 3 (passes_of rfl) rfl sc__law_loss.nd (si_rng1 rfl T.z_range (sa_cons (se_len rfl T.z_len (sa_cons (se_var 0) sa_nil)) sa_nil))
    (ss_one (ss_set 2 sc__law_loss.nd (se_sub (se_var 2) (se_mul (se_ix (se_var 0) (se_var 3)) (se_ix (se_var 1) (se_var 3)))))))
    (ss_one (ss_ret (se_var 2))))))
theorem ok__law_before (T : Tx K mg g base) : FnOk P w0 K mg base (L2.CX P w0) 1 T.a__law_before T.f__law_before ["losses", "one", "other"] (spW K g 3 u__law_before) :=
  fn_ok (k := 0) (N := n__law_before) T.F__law_before sc__law_before (fun cdv A outer s H E hr =>
    (ss_one (ss_ret (se_or (se_cmp gc_gt (se_ix (se_var 0) (se_var 1)) (se_ix (se_var 0) (se_var 2))) (se_one (se_and (se_cmp (gc_eq hr.units) (se_ix (se_var 0) (se_var 1)) (se_ix (se_var 0) (se_var 2))) (se_one (se_cmp gc_lt (se_var 1) (se_var 2)))))))))
theorem ok__law_whole (T : Tx K mg g base) : FnOk P w0 K mg base (L2.CX P w0) 1 T.a__law_whole T.f__law_whole ["thing"] (spW K g 1 u__law_whole) :=
  fn_ok (k := 0) (N := n__law_whole) T.F__law_whole sc__law_whole (fun cdv A outer s H E hr =>
    (ss_one (ss_ret (se_and (se_isi .int rfl T.z_isinstance (se_var 0) rfl T.z_int) (se_one (se_not (se_isi .bool rfl T.z_isinstance (se_var 0) rfl T.z_bool)))))))
theorem ok_law (T : Tx K mg g base) : FnOk P w0 K mg base (L2.CX P w0) 4 T.a_law T.f_law ["script"] (spW K g 1 u_law) :=
  fn_ok (k := 3) (N := n_law) T.F_law sc_law (fun cdv A outer s H E hr =>
    (ss_cons (ss_set 1 sc_law.nd (se_add se_int (se_call (ok__law_draw T) l__law_draw (hr.mono (by decide)) rfl T.m__law_draw T.F__law_draw.kp T.b__law_draw (takes_of rfl rfl rfl rfl) (sa_cons (se_var 0) (sa_cons se_int (sa_cons se_int (sa_cons se_int sa_nil)))))))
    (ss_cons (ss_set 2 sc_law.nd (se_call (ok__law_days T) l__law_days (hr.mono (by decide)) rfl T.m__law_days T.F__law_days.kp T.b__law_days (takes_of rfl rfl rfl rfl) (sa_cons (se_var 0) (sa_cons se_int sa_nil))))
    (ss_cons (ss_set 3 sc_law.nd (se_call (ok__law_most T) l__law_most (hr.mono (by decide)) rfl T.m__law_most T.F__law_most.kp T.b__law_most (takes_of rfl rfl rfl rfl) (sa_cons (se_var 0) sa_nil)))
    (ss_cons (ss_set 4 sc_law.nd (se_call (ok__law_moves T) l__law_moves (hr.mono (by decide)) rfl T.m__law_moves T.F__law_moves.kp T.b__law_moves (takes_of rfl rfl rfl rfl) (sa_cons (se_var 0) (sa_cons (se_var 2) (sa_cons (se_var 1) (sa_cons (se_var 3) sa_nil))))))
    (ss_cons (ss_set 5 sc_law.nd (se_call (ok__law_position T) l__law_position (hr.mono (by decide)) rfl T.m__law_position T.F__law_position.kp T.b__law_position (takes_of rfl rfl rfl rfl) (sa_cons (se_var 0) (sa_cons se_int (sa_cons (se_var 1) (sa_cons (se_var 3) sa_nil))))))
    (ss_cons (ss_set 6 sc_law.nd (se_call (ok__law_draw T) l__law_draw (hr.mono (by decide)) rfl T.m__law_draw T.F__law_draw.kp T.b__law_draw (takes_of rfl rfl rfl rfl) (sa_cons (se_var 0) (sa_cons se_int (sa_cons se_int (sa_cons (se_add (se_var 2) se_int) sa_nil))))))
    (ss_cons (ss_if (st_cmp (gc_eq hr.units) (se_call (ok__law_draw T) l__law_draw (hr.mono (by decide)) rfl T.m__law_draw T.F__law_draw.kp T.b__law_draw (takes_of rfl rfl rfl rfl) (sa_cons (se_var 0) (sa_cons se_int (sa_cons se_int (sa_cons se_int sa_nil))))) se_int)
    (ss_one (ss_set 6 sc_law.nd (se_var 2)))
    ss_nil)
    (ss_cons (ss_setLc (j := 7) rfl sc_law.nd rfl rfl (sw_true rfl rfl rfl (by decide +kernel)) (own := [("move", 13)]) (i := 13) (si_seq (se_var 4)) (blkOk_by (N := n_law) (sc := defScope s_law) (by decide +kernel)) (by decide) (fun _ _ _ _ _ => pg_name (i := 13) sc_law.nd rfl (Or.inl rfl)) (fun _ _ _ _ _ => sts_nil) (fun _ _ _ _ _ => (se_list rfl T.z_list (sa_cons (se_var 13) sa_nil))))
    (ss_cons (ss_set 8 sc_law.nd (se_list rfl T.z_list (sa_cons (se_var 5) sa_nil)))
    (ss_cons (ss_set 9 sc_law.nd (se_call (ok_worst_days T) l_worst_days (hr.mono (by decide)) rfl T.m_worst_days T.F_worst_days.kp T.b_worst_days (takes_of rfl rfl rfl rfl) (sa_cons (se_var 8) (sa_cons (se_var 7) (sa_cons (se_var 6) sa_nil)))))
    (ss_cons (ss_if (SPw.st (sw_or (st_cmp (gc_ne hr.units) (se_var 7) (se_var 4)) (sw_one (st_cmp (gc_ne hr.units) (se_var 8) (se_var 5)))))
    (ss_one (ss_ret se_bl))
    ss_nil)
    (ss_cons (ss_if (SPw.st (sw_or (st_not (st_val (se_isi .list rfl T.z_isinstance (se_var 9) rfl T.z_list))) (sw_one (st_cmp (gc_ne hr.units) (se_len rfl T.z_len (sa_cons (se_var 9) sa_nil)) (se_var 6)))))
    (ss_one (ss_ret se_bl))
    ss_nil)
    (ss_cons (ss_for 10 (passes_of rfl) rfl sc_law.nd (si_seq (se_var 9))
    (ss_one (ss_if (SPw.st (sw_or (st_not (st_val (se_call (ok__law_whole T) l__law_whole (hr.mono (by decide)) rfl T.m__law_whole T.F__law_whole.kp T.b__law_whole (takes_of rfl rfl rfl rfl) (sa_cons (se_var 10) sa_nil)))) (sw_one (st_not (st_chain gc_le gc_lt se_int (se_var 10) (se_var 2))))))
    (ss_one (ss_ret se_bl))
    ss_nil)))
    (ss_cons (ss_setLc (j := 11) rfl sc_law.nd rfl rfl (sw_true rfl rfl rfl (by decide +kernel)) (own := [("move", 13)]) (i := 13) (si_seq (se_var 4)) (blkOk_by (N := n_law) (sc := defScope s_law) (by decide +kernel)) (by decide) (fun _ _ _ _ _ => pg_name (i := 13) sc_law.nd rfl (Or.inl rfl)) (fun _ _ _ _ _ => sts_nil) (fun _ _ _ _ _ => (se_call (ok__law_loss T) l__law_loss (hr.mono (by decide)) rfl T.m__law_loss T.F__law_loss.kp T.b__law_loss takes0 (sa_cons (se_var 5) (sa_cons (se_var 13) sa_nil)))))
    (ss_cons (ss_for 12 (passes_of rfl) rfl sc_law.nd (si_rng2 rfl T.z_range (sa_cons se_int (sa_cons (se_var 6) sa_nil)))
    (ss_one (ss_if (st_not (st_val (se_call (ok__law_before T) l__law_before (hr.mono (by decide)) rfl T.m__law_before T.F__law_before.kp T.b__law_before (takes_of rfl rfl rfl rfl) (sa_cons (se_var 11) (sa_cons (se_ix (se_var 9) (se_sub (se_var 12) se_int)) (sa_cons (se_ix (se_var 9) (se_var 12)) sa_nil))))))
    (ss_one (ss_ret se_bl))
    ss_nil)))
    (ss_cons (ss_for 10 (passes_of rfl) rfl sc_law.nd (si_rng1 rfl T.z_range (sa_cons (se_var 2) sa_nil))
    (ss_one (ss_if (SPw.st (sw_and (st_cmp gc_gt (se_var 6) se_int) (sw_and (st_cmp gc_notIn (se_var 10) (se_var 9)) (sw_one (st_val (se_call (ok__law_before T) l__law_before (hr.mono (by decide)) rfl T.m__law_before T.F__law_before.kp T.b__law_before (takes_of rfl rfl rfl rfl) (sa_cons (se_var 11) (sa_cons (se_var 10) (sa_cons (se_ix (se_var 9) (se_sub (se_var 6) se_int)) sa_nil)))))))))
    (ss_one (ss_ret se_bl))
    ss_nil)))
    (ss_one (ss_ret se_bl)))))))))))))))))))
end
theorem all_mk {l : PySem.W.OpenLaw} {w : World} {K : PySem.W.Frag} {h : Heap} {mg : Str → Option Value} {fa : Addr} (X : K.In h) (G : h.Ns mainGlobals mg) (hfa : mg "law" = some (.ref fa))
    {od0 an0 : Option Addr} {sl0 : Array (Option Value)} {oc0 kV0 dc0 pm0 cd0 ct0 : Value} {f0 : Addr}
    (a0 : PySem.W.nsIn K mainGlobals "_law_cell" = some (some (.ref f0))) (l0 : K.lookup f0 = some ⟨oc0, od0, .func (PySem.W.fnOf "_law_cell" "_law_cell" (defArgs s__law_cell) (defBody s__law_cell) (defScope s__law_cell) .none kV0 dc0 pm0 an0 cd0 ct0), sl0⟩) (c0 : PySem.W.codeIn K cd0 "_law_cell" = true) (k0 : PySem.W.keepIn K (.ref f0) = true)
    {od1 an1 : Option Addr} {sl1 : Array (Option Value)} {oc1 kV1 dc1 pm1 cd1 ct1 : Value} {f1 : Addr}
    (a1 : PySem.W.nsIn K mainGlobals "_law_draw" = some (some (.ref f1))) (l1 : K.lookup f1 = some ⟨oc1, od1, .func (PySem.W.fnOf "_law_draw" "_law_draw" (defArgs s__law_draw) (defBody s__law_draw) (defScope s__law_draw) .none kV1 dc1 pm1 an1 cd1 ct1), sl1⟩) (c1 : PySem.W.codeIn K cd1 "_law_draw" = true) (k1 : PySem.W.keepIn K (.ref f1) = true)
    {od2 an2 : Option Addr} {sl2 : Array (Option Value)} {oc2 kV2 dc2 pm2 cd2 ct2 : Value} {f2 : Addr}
    (a2 : PySem.W.nsIn K mainGlobals "_law_days" = some (some (.ref f2))) (l2 : K.lookup f2 = some ⟨oc2, od2, .func (PySem.W.fnOf "_law_days" "_law_days" (defArgs s__law_days) (defBody s__law_days) (defScope s__law_days) .none kV2 dc2 pm2 an2 cd2 ct2), sl2⟩) (c2 : PySem.W.codeIn K cd2 "_law_days" = true) (k2 : PySem.W.keepIn K (.ref f2) = true)
    {od3 an3 : Option Addr} {sl3 : Array (Option Value)} {oc3 kV3 dc3 pm3 cd3 ct3 : Value} {f3 : Addr}
    (a3 : PySem.W.nsIn K mainGlobals "_law_most" = some (some (.ref f3))) (l3 : K.lookup f3 = some ⟨oc3, od3, .func (PySem.W.fnOf "_law_most" "_law_most" (defArgs s__law_most) (defBody s__law_most) (defScope s__law_most) .none kV3 dc3 pm3 an3 cd3 ct3), sl3⟩) (c3 : PySem.W.codeIn K cd3 "_law_most" = true) (k3 : PySem.W.keepIn K (.ref f3) = true)
    {od4 an4 : Option Addr} {sl4 : Array (Option Value)} {oc4 kV4 dc4 pm4 cd4 ct4 : Value} {f4 : Addr}
    (a4 : PySem.W.nsIn K mainGlobals "_law_number" = some (some (.ref f4))) (l4 : K.lookup f4 = some ⟨oc4, od4, .func (PySem.W.fnOf "_law_number" "_law_number" (defArgs s__law_number) (defBody s__law_number) (defScope s__law_number) .none kV4 dc4 pm4 an4 cd4 ct4), sl4⟩) (c4 : PySem.W.codeIn K cd4 "_law_number" = true) (k4 : PySem.W.keepIn K (.ref f4) = true)
    {od5 an5 : Option Addr} {sl5 : Array (Option Value)} {oc5 kV5 dc5 pm5 cd5 ct5 : Value} {f5 : Addr}
    (a5 : PySem.W.nsIn K mainGlobals "_law_moves" = some (some (.ref f5))) (l5 : K.lookup f5 = some ⟨oc5, od5, .func (PySem.W.fnOf "_law_moves" "_law_moves" (defArgs s__law_moves) (defBody s__law_moves) (defScope s__law_moves) .none kV5 dc5 pm5 an5 cd5 ct5), sl5⟩) (c5 : PySem.W.codeIn K cd5 "_law_moves" = true) (k5 : PySem.W.keepIn K (.ref f5) = true)
    {od6 an6 : Option Addr} {sl6 : Array (Option Value)} {oc6 kV6 dc6 pm6 cd6 ct6 : Value} {f6 : Addr}
    (a6 : PySem.W.nsIn K mainGlobals "_law_position" = some (some (.ref f6))) (l6 : K.lookup f6 = some ⟨oc6, od6, .func (PySem.W.fnOf "_law_position" "_law_position" (defArgs s__law_position) (defBody s__law_position) (defScope s__law_position) .none kV6 dc6 pm6 an6 cd6 ct6), sl6⟩) (c6 : PySem.W.codeIn K cd6 "_law_position" = true) (k6 : PySem.W.keepIn K (.ref f6) = true)
    {od7 an7 : Option Addr} {sl7 : Array (Option Value)} {oc7 kV7 dc7 pm7 cd7 ct7 : Value} {f7 : Addr}
    (a7 : PySem.W.nsIn K mainGlobals "loss_on" = some (some (.ref f7))) (l7 : K.lookup f7 = some ⟨oc7, od7, .func (PySem.W.fnOf "loss_on" "loss_on" (defArgs s_loss_on) (defBody s_loss_on) (defScope s_loss_on) .none kV7 dc7 pm7 an7 cd7 ct7), sl7⟩) (c7 : PySem.W.codeIn K cd7 "loss_on" = true) (k7 : PySem.W.keepIn K (.ref f7) = true)
    {od8 an8 : Option Addr} {sl8 : Array (Option Value)} {oc8 kV8 dc8 pm8 cd8 ct8 : Value} {f8 : Addr}
    (a8 : PySem.W.nsIn K mainGlobals "losses_of" = some (some (.ref f8))) (l8 : K.lookup f8 = some ⟨oc8, od8, .func (PySem.W.fnOf "losses_of" "losses_of" (defArgs s_losses_of) (defBody s_losses_of) (defScope s_losses_of) .none kV8 dc8 pm8 an8 cd8 ct8), sl8⟩) (c8 : PySem.W.codeIn K cd8 "losses_of" = true) (k8 : PySem.W.keepIn K (.ref f8) = true)
    {od9 an9 : Option Addr} {sl9 : Array (Option Value)} {oc9 kV9 dc9 pm9 cd9 ct9 : Value} {f9 : Addr}
    (a9 : PySem.W.nsIn K mainGlobals "worst_days" = some (some (.ref f9))) (l9 : K.lookup f9 = some ⟨oc9, od9, .func (PySem.W.fnOf "worst_days" "worst_days" (defArgs s_worst_days) (defBody s_worst_days) (defScope s_worst_days) .none kV9 dc9 pm9 an9 cd9 ct9), sl9⟩) (c9 : PySem.W.codeIn K cd9 "worst_days" = true) (k9 : PySem.W.keepIn K (.ref f9) = true)
    {od10 an10 : Option Addr} {sl10 : Array (Option Value)} {oc10 kV10 dc10 pm10 cd10 ct10 : Value} {f10 : Addr}
    (a10 : PySem.W.nsIn K mainGlobals "_law_loss" = some (some (.ref f10))) (l10 : K.lookup f10 = some ⟨oc10, od10, .func (PySem.W.fnOf "_law_loss" "_law_loss" (defArgs s__law_loss) (defBody s__law_loss) (defScope s__law_loss) .none kV10 dc10 pm10 an10 cd10 ct10), sl10⟩) (c10 : PySem.W.codeIn K cd10 "_law_loss" = true) (k10 : PySem.W.keepIn K (.ref f10) = true)
    {od11 an11 : Option Addr} {sl11 : Array (Option Value)} {oc11 kV11 dc11 pm11 cd11 ct11 : Value} {f11 : Addr}
    (a11 : PySem.W.nsIn K mainGlobals "_law_before" = some (some (.ref f11))) (l11 : K.lookup f11 = some ⟨oc11, od11, .func (PySem.W.fnOf "_law_before" "_law_before" (defArgs s__law_before) (defBody s__law_before) (defScope s__law_before) .none kV11 dc11 pm11 an11 cd11 ct11), sl11⟩) (c11 : PySem.W.codeIn K cd11 "_law_before" = true) (k11 : PySem.W.keepIn K (.ref f11) = true)
    {od12 an12 : Option Addr} {sl12 : Array (Option Value)} {oc12 kV12 dc12 pm12 cd12 ct12 : Value} {f12 : Addr}
    (a12 : PySem.W.nsIn K mainGlobals "_law_whole" = some (some (.ref f12))) (l12 : K.lookup f12 = some ⟨oc12, od12, .func (PySem.W.fnOf "_law_whole" "_law_whole" (defArgs s__law_whole) (defBody s__law_whole) (defScope s__law_whole) .none kV12 dc12 pm12 an12 cd12 ct12), sl12⟩) (c12 : PySem.W.codeIn K cd12 "_law_whole" = true) (k12 : PySem.W.keepIn K (.ref f12) = true)
    {od13 an13 : Option Addr} {sl13 : Array (Option Value)} {oc13 kV13 dc13 pm13 cd13 ct13 : Value} {f13 : Addr}
    (a13 : PySem.W.nsIn K mainGlobals "law" = some (some (.ref f13))) (l13 : K.lookup f13 = some ⟨oc13, od13, .func (PySem.W.fnOf "law" "law" (defArgs s_law) (defBody s_law) (defScope s_law) .none kV13 dc13 pm13 an13 cd13 ct13), sl13⟩) (c13 : PySem.W.codeIn K cd13 "law" = true) (k13 : PySem.W.keepIn K (.ref f13) = true)
    (zbool : PySem.W.nsIn K mainGlobals "bool" = some none)
    (zint : PySem.W.nsIn K mainGlobals "int" = some none)
    (zisinstance : PySem.W.nsIn K mainGlobals "isinstance" = some none)
    (zlen : PySem.W.nsIn K mainGlobals "len" = some none)
    (zlist : PySem.W.nsIn K mainGlobals "list" = some none)
    (zrange : PySem.W.nsIn K mainGlobals "range" = some none)
    (zsorted : PySem.W.nsIn K mainGlobals "sorted" = some none)
    (zsum : PySem.W.nsIn K mainGlobals "sum" = some none)
    {cW PW : Addr} (tW : PySem.W.tabIn K "worst_days" = some (cW, PW)) (hW : PySem.W.codeHdIn K cW PW = true) {ts : List Addr} (mW : PW ∈ ts) (nW : K.lookup PW = none) :
    ∃ (fd : FuncData) (g : Gi) (c P : Addr), PySem.W.codeHdIn K c P = true ∧ P ∈ ts ∧ K.lookup P = none ∧ g.cl "worst_days.<locals>.<lambda>" = P ∧ (∀ (s : Shared) (v : Value), BindsTo s fd ⟨[v], []⟩ [("script", v)]) ∧ ∀ base : Heap, K.In base → base.Ns mainGlobals mg → LamX.TabB base mg c P → FnOk l.prog w K mg base (L2.CX l.prog w) 4 fa fd ["script"] (spW K g 1 u_law) := by
  have e := hfa.symm.trans (PySem.W.mg_of X G a13)
  cases e
  have F0 := fun_mk (st := s__law_cell) l0 c0 k0
  have F1 := fun_mk (st := s__law_draw) l1 c1 k1
  have F2 := fun_mk (st := s__law_days) l2 c2 k2
  have F3 := fun_mk (st := s__law_most) l3 c3 k3
  have F4 := fun_mk (st := s__law_number) l4 c4 k4
  have F5 := fun_mk (st := s__law_moves) l5 c5 k5
  have F6 := fun_mk (st := s__law_position) l6 c6 k6
  have F7 := fun_mk (st := s_loss_on) l7 c7 k7
  have F8 := fun_mk (st := s_losses_of) l8 c8 k8
  have F9 := fun_mk (st := s_worst_days) l9 c9 k9
  have F10 := fun_mk (st := s__law_loss) l10 c10 k10
  have F11 := fun_mk (st := s__law_before) l11 c11 k11
  have F12 := fun_mk (st := s__law_whole) l12 c12 k12
  have F13 := fun_mk (st := s_law) l13 c13 k13
  let T : ∀ base : Heap, LamX.TabB base mg cW PW → Tx K mg ⟨fun s => if s = "worst_days.<locals>.<lambda>" then PW else 0⟩ base := fun base hTB => ⟨f0, _, F0, F0.binds (ps := ["script", "k"]) (fun _ _ _ _ _ _ us hl => match us, hl with | [_, _], _ => rfl), PySem.W.mg_of X G a0,
    f1, _, F1, F1.binds (ps := ["script", "k", "prime", "many"]) (fun _ _ _ _ _ _ us hl => match us, hl with | [_, _, _, _], _ => rfl), PySem.W.mg_of X G a1,
    f2, _, F2, F2.binds (ps := ["script", "most"]) (fun _ _ _ _ _ _ us hl => match us, hl with | [_, _], _ => rfl), PySem.W.mg_of X G a2,
    f3, _, F3, F3.binds (ps := ["script"]) (fun _ _ _ _ _ _ us hl => match us, hl with | [_], _ => rfl), PySem.W.mg_of X G a3,
    f4, _, F4, F4.binds (ps := ["script", "k", "most"]) (fun _ _ _ _ _ _ us hl => match us, hl with | [_, _, _], _ => rfl), PySem.W.mg_of X G a4,
    f5, _, F5, F5.binds (ps := ["script", "days", "wares", "most"]) (fun _ _ _ _ _ _ us hl => match us, hl with | [_, _, _, _], _ => rfl), PySem.W.mg_of X G a5,
    f6, _, F6, F6.binds (ps := ["script", "k", "wares", "most"]) (fun _ _ _ _ _ _ us hl => match us, hl with | [_, _, _, _], _ => rfl), PySem.W.mg_of X G a6,
    f7, _, F7, F7.binds (ps := ["position", "move"]) (fun _ _ _ _ _ _ us hl => match us, hl with | [_, _], _ => rfl), PySem.W.mg_of X G a7,
    f8, _, F8, F8.binds (ps := ["position", "moves"]) (fun _ _ _ _ _ _ us hl => match us, hl with | [_, _], _ => rfl), PySem.W.mg_of X G a8,
    f9, _, F9, F9.binds (ps := ["position", "moves", "k"]) (fun _ _ _ _ _ _ us hl => match us, hl with | [_, _, _], _ => rfl), PySem.W.mg_of X G a9,
    f10, _, F10, F10.binds (ps := ["position", "move"]) (fun _ _ _ _ _ _ us hl => match us, hl with | [_, _], _ => rfl), PySem.W.mg_of X G a10,
    f11, _, F11, F11.binds (ps := ["losses", "one", "other"]) (fun _ _ _ _ _ _ us hl => match us, hl with | [_, _, _], _ => rfl), PySem.W.mg_of X G a11,
    f12, _, F12, F12.binds (ps := ["thing"]) (fun _ _ _ _ _ _ us hl => match us, hl with | [_], _ => rfl), PySem.W.mg_of X G a12,
    fa, _, F13, F13.binds (ps := ["script"]) (fun _ _ _ _ _ _ us hl => match us, hl with | [_], _ => rfl), PySem.W.mg_of X G a13,
    PySem.W.mg_none_of X G zbool,
    PySem.W.mg_none_of X G zint,
    PySem.W.mg_none_of X G zisinstance,
    PySem.W.mg_none_of X G zlen,
    PySem.W.mg_none_of X G zlist,
    PySem.W.mg_none_of X G zrange,
    PySem.W.mg_none_of X G zsorted,
    PySem.W.mg_none_of X G zsum,
    cW,
    PW,
    tab_code tW a9 l9,
    rfl,
    hTB⟩
  exact ⟨_, ⟨fun s => if s = "worst_days.<locals>.<lambda>" then PW else 0⟩, cW, PW, hW, mW, nW, rfl, fun s v => .of_eq rfl, fun base _ _ hTB => ok_law (T base hTB)⟩
end Lw
open PySem PySem.W PyProof.Rows
set_option maxRecDepth 100000 in
set_option maxHeartbeats 0 in
theorem PySem.Challenge.cw_quits_k47_worst_days_holds : PySem.Challenge.rw_quits_k47_worst_days.Holds := by
  w_on; o_law; k_head; (case hw => w_witness2)
  k_fill
  refine Ab.law_walkT (l := PySem.Challenge.rw_quits_k47_worst_days) (k := 4) (wf := Lw.u_law) (qn := "worst_days.<locals>.<lambda>") rfl rfl ⟨rfl, by decide, by decide⟩ (fun w h Y => PySem.W.km_in_of Y) (fun w h Y => PySem.W.km_tabs_of Y) ?F (by rw [Lw.uw_law]; exact Lw.law_true)
  case F =>
    intro w mg fa h KX G hmg
    refine' Lw.all_mk KX G hmg ?a0 ?l0 ?c0 ?k0 ?a1 ?l1 ?c1 ?k1 ?a2 ?l2 ?c2 ?k2 ?a3 ?l3 ?c3 ?k3 ?a4 ?l4 ?c4 ?k4 ?a5 ?l5 ?c5 ?k5 ?a6 ?l6 ?c6 ?k6 ?a7 ?l7 ?c7 ?k7 ?a8 ?l8 ?c8 ?k8 ?a9 ?l9 ?c9 ?k9 ?a10 ?l10 ?c10 ?k10 ?a11 ?l11 ?c11 ?k11 ?a12 ?l12 ?c12 ?k12 ?a13 ?l13 ?c13 ?k13 ?zbool ?zint ?zisinstance ?zlen ?zlist ?zrange ?zsorted ?zsum ?tW ?hW ?mW ?nW
    (case a0 => k_is); (case l0 => k_is); (case c0 => k_is); (case k0 => k_is); (case a1 => k_is); (case l1 => k_is); (case c1 => k_is); (case k1 => k_is); (case a2 => k_is); (case l2 => k_is); (case c2 => k_is); (case k2 => k_is); (case a3 => k_is); (case l3 => k_is); (case c3 => k_is); (case k3 => k_is); (case a4 => k_is); (case l4 => k_is); (case c4 => k_is); (case k4 => k_is); (case a5 => k_is); (case l5 => k_is); (case c5 => k_is); (case k5 => k_is); (case a6 => k_is); (case l6 => k_is); (case c6 => k_is); (case k6 => k_is); (case a7 => k_is); (case l7 => k_is); (case c7 => k_is); (case k7 => k_is); (case a8 => k_is); (case l8 => k_is); (case c8 => k_is); (case k8 => k_is); (case a9 => k_is); (case l9 => k_is); (case c9 => k_is); (case k9 => k_is); (case a10 => k_is); (case l10 => k_is); (case c10 => k_is); (case k10 => k_is); (case a11 => k_is); (case l11 => k_is); (case c11 => k_is); (case k11 => k_is); (case a12 => k_is); (case l12 => k_is); (case c12 => k_is); (case k12 => k_is); (case a13 => k_is); (case l13 => k_is); (case c13 => k_is); (case k13 => k_is); (case zbool => k_is); (case zint => k_is); (case zisinstance => k_is); (case zlen => k_is); (case zlist => k_is); (case zrange => k_is); (case zsorted => k_is); (case zsum => k_is); (case tW => exact rfl); (case hW => exact rfl); (case mW => exact .head _); (case nW => exact rfl)
#print axioms PySem.Challenge.cw_quits_k47_worst_days_holds
