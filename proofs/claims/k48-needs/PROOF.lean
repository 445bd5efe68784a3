import PyProof.Rows.All
import Wide.All
import OpenK.AllK
import Wide.FinOn
import HandS.ForExc
import HandS.Comp
import HandS.Iter
import HandS.Wide
import HandS.Lambda
import HandS.IsInst
import HandS.SortInts
import HandS.SetFor
import HandS.More
import HandS.EndBits
import HandS.ExcIs
import HandS.Conv
import HandS.Remove
import HandS.RevTup
import HandS.Rev
import HandS.HotCalls
import HandS.SortKw
import HandS.ForDict
import KE.SortData
import KE.SortKeyHeap
import HandS.TryOnly
import HandS.TupLe
import KE.KLam
import KE.KNestM
import HandS.EndTab
import HandS.Codes
import HandS.Text
import PySem.Challenge.RW_quits_k48_needs
set_option Elab.async false
set_option linter.all false
set_option maxRecDepth 100000
set_option maxHeartbeats 8000000
namespace Ab
open PySem PySem.Spec PyProof.Rows L2

inductive D where
  | non | bl (b : Bool) | int (i : Int) | str (s : Str) | tup (xs : List D) | lst (xs : List D) | scr (xs : List D) | cell (n : Nat) | exn (a : Addr) (c : Str)
inductive Cel where
  | lst (xs : List D) | obj (C : Str) (fs : List (Str × D)) | dk (kvs : List (Key × D)) | dt (kvs : List (List Key × D)) | dkf (o : Obj) (xs : List (Key × V)) (kvs : List (Key × D)) | dtf (o : Obj) (xs : List (List Key × V)) (kvs : List (List Key × D)) | tab (P : Addr) (q : Str) | dead
abbrev Env := List (Option D)
abbrev Sto := List Cel
abbrev KD := D → Sto → Prop
abbrev XD := Str → Sto → Prop
abbrev XE := Str → Env → Sto → Prop

mutual
def D.pure : D → Bool
  | .non => true
  | .bl _ => true
  | .int _ => true
  | .str _ => true
  | .tup xs => pureAll xs
  | .lst xs => pureAll xs
  | .scr xs => pureAll xs
  | .cell _ => false
  | .exn .. => false
def pureAll : List D → Bool
  | [] => true
  | x :: xs => x.pure && pureAll xs
end

structure Gi where
  cl : Str → Addr

section
variable (K : PySem.W.Frag) (H0 : Hp) (r : List Addr)
mutual
def Rel : D → V → Prop
  | .non, v => v = .non
  | .bl b, v => v = .bl b
  | .int i, v => v = .int i
  | .str s, v => v = .str s
  | .tup ds, v => ∃ a xs, v = .ref a ∧ SqT K H0 a xs ∧ Rels ds xs
  | .lst ds, v => ∃ a xs, v = .ref a ∧ Rd H0 a (.lst xs) ∧ Rels ds xs
  | .scr ds, v => ∃ a xs, v = .ref a ∧ SqL K H0 a xs ∧ Rels ds xs
  | .cell n, v => ∃ a, v = .ref a ∧ r[n]? = some a
  | .exn a _, v => v = .ref a
def Rels : List D → List V → Prop
  | [], xs => xs = []
  | d :: ds, xs => ∃ y ys, xs = y :: ys ∧ Rel d y ∧ Rels ds ys
end
end

def Ex (H H' : Hp) : Prop := ∀ a o, H a = some o → H' a = some o
theorem Ex.refl (H : Hp) : Ex H H := fun _ _ h => h
theorem Ex.trans {H H1 H2 : Hp} (a : Ex H H1) (b : Ex H1 H2) : Ex H H2 := fun x o h => b x o (a x o h)
theorem Ex.new {H : Hp} {p : Addr} {o : HO} (h : H p = none) : Ex H (upd H p o) := fun a u e => by
  rw [upd_ne (ne_of_none e h)]
  exact e
theorem Ex.none {H H' : Hp} {p : Addr} (e : Ex H H') (h : H' p = none) : H p = none := by
  cases h1 : H p with
  | none => rfl
  | some o =>
    rw [e p o h1] at h
    cases h
theorem Ex.rd {H H' : Hp} {a : Addr} {u : HO} (e : Ex H H') (h : Rd H a u) : Rd H' a u := by
  rcases h with h | ⟨o, h⟩
  · exact .inl (e a _ h)
  · exact .inr ⟨o, e a _ h⟩
theorem Ex.sql {K : PySem.W.Frag} {H H' : Hp} {a : Addr} {xs : List V} (e : Ex H H') (h : SqL K H a xs) : SqL K H' a xs := by
  rcases h with h | h
  · exact .inl (e.rd h)
  · exact .inr h
theorem Ex.sqt {K : PySem.W.Frag} {H H' : Hp} {a : Addr} {xs : List V} (e : Ex H H') (h : SqT K H a xs) : SqT K H' a xs := by
  rcases h with h | h
  · exact .inl (e.rd h)
  · exact .inr h

section
variable {K : PySem.W.Frag} {H0 H0' : Hp} {r r' : List Addr}
theorem pre_get {α : Type} {l l' : List α} (h : l <+: l') {n : Nat} {a : α} (e : l[n]? = some a) : l'[n]? = some a := by
  obtain ⟨t, rfl⟩ := h
  have : n < l.length := (List.getElem?_eq_some_iff.mp e).1
  rw [List.getElem?_append_left this]
  exact e
mutual
theorem Rel.mono (e : Ex H0 H0') (p : r <+: r') : ∀ {d : D} {v : V}, Rel K H0 r d v → Rel K H0' r' d v
  | .non, _, h => by unfold Rel at h ⊢; exact h
  | .bl _, _, h => by unfold Rel at h ⊢; exact h
  | .int _, _, h => by unfold Rel at h ⊢; exact h
  | .str _, _, h => by unfold Rel at h ⊢; exact h
  | .tup ds, _, h => by
    unfold Rel at h ⊢
    obtain ⟨a, xs, rfl, h1, h2⟩ := h
    exact ⟨a, xs, rfl, e.sqt h1, Rels.mono e p h2⟩
  | .lst ds, _, h => by
    unfold Rel at h ⊢
    obtain ⟨a, xs, rfl, h1, h2⟩ := h
    exact ⟨a, xs, rfl, e.rd h1, Rels.mono e p h2⟩
  | .scr ds, _, h => by
    unfold Rel at h ⊢
    obtain ⟨a, xs, rfl, h1, h2⟩ := h
    exact ⟨a, xs, rfl, e.sql h1, Rels.mono e p h2⟩
  | .cell n, _, h => by
    unfold Rel at h ⊢
    obtain ⟨a, rfl, h1⟩ := h
    exact ⟨a, rfl, pre_get p h1⟩
  | .exn ..,  _, h => by unfold Rel at h ⊢; exact h
theorem Rels.mono (e : Ex H0 H0') (p : r <+: r') : ∀ {ds : List D} {vs : List V}, Rels K H0 r ds vs → Rels K H0' r' ds vs
  | [], _, h => by unfold Rels at h ⊢; exact h
  | d :: ds, _, h => by
    unfold Rels at h ⊢
    obtain ⟨y, ys, rfl, h1, h2⟩ := h
    exact ⟨y, ys, rfl, Rel.mono e p h1, Rels.mono e p h2⟩
end
theorem Rels.length : ∀ {ds : List D} {vs : List V}, Rels K H0 r ds vs → vs.length = ds.length
  | [], _, h => by unfold Rels at h; subst h; rfl
  | d :: ds, _, h => by
    unfold Rels at h
    obtain ⟨y, ys, rfl, h1, h2⟩ := h
    rw [List.length_cons, List.length_cons, Rels.length h2]
theorem Rels.nil : Rels K H0 r [] [] := by unfold Rels; rfl
theorem Rels.cons {d : D} {ds : List D} {v : V} {vs : List V} (h : Rel K H0 r d v) (h2 : Rels K H0 r ds vs) : Rels K H0 r (d :: ds) (v :: vs) := by
  unfold Rels; exact ⟨v, vs, rfl, h, h2⟩
theorem Rels.uncons {d : D} {ds : List D} {vs : List V} (h : Rels K H0 r (d :: ds) vs) : ∃ y ys, vs = y :: ys ∧ Rel K H0 r d y ∧ Rels K H0 r ds ys := by
  unfold Rels at h; exact h
theorem Rels.unnil {vs : List V} (h : Rels K H0 r [] vs) : vs = [] := by
  unfold Rels at h; exact h
theorem Rels.get : ∀ {ds : List D} {vs : List V} {i : Nat} {d : D}, Rels K H0 r ds vs → ds[i]? = some d → ∃ v, vs[i]? = some v ∧ Rel K H0 r d v
  | [], _, _, _, _, e => by simp at e
  | x :: ds, _, 0, d, h, e => by
    obtain ⟨y, ys, rfl, h1, h2⟩ := h.uncons
    simp at e; subst e
    exact ⟨y, rfl, h1⟩
  | x :: ds, _, i + 1, d, h, e => by
    obtain ⟨y, ys, rfl, h1, h2⟩ := h.uncons
    simp at e
    obtain ⟨v, e1, e2⟩ := Rels.get h2 e
    exact ⟨v, by simpa using e1, e2⟩
theorem Rels.append : ∀ {ds es : List D} {vs ws : List V}, Rels K H0 r ds vs → Rels K H0 r es ws → Rels K H0 r (ds ++ es) (vs ++ ws)
  | [], es, vs, ws, h, h2 => by rw [h.unnil]; exact h2
  | d :: ds, es, vs, ws, h, h2 => by
    obtain ⟨y, ys, rfl, h1, h3⟩ := h.uncons
    exact Rels.cons h1 (Rels.append h3 h2)
theorem Rels.set : ∀ {ds : List D} {vs : List V} {d : D} {v : V} (i : Nat), Rels K H0 r ds vs → Rel K H0 r d v → Rels K H0 r (ds.set i d) (vs.set i v)
  | [], _, _, _, _, h, _ => by rw [h.unnil]; exact Rels.nil
  | x :: ds, _, d, v, 0, h, h2 => by
    obtain ⟨y, ys, rfl, h1, h3⟩ := h.uncons
    exact Rels.cons h2 h3
  | x :: ds, _, d, v, i + 1, h, h2 => by
    obtain ⟨y, ys, rfl, h1, h3⟩ := h.uncons
    exact Rels.cons h1 (Rels.set i h3 h2)
theorem Rels.take : ∀ {ds : List D} {vs : List V} (n : Nat), Rels K H0 r ds vs → Rels K H0 r (ds.take n) (vs.take n)
  | [], _, n, h => by rw [h.unnil]; simp; exact Rels.nil
  | x :: ds, _, 0, h => by simp; exact Rels.nil
  | x :: ds, _, n + 1, h => by
    obtain ⟨y, ys, rfl, h1, h3⟩ := h.uncons
    exact Rels.cons h1 (Rels.take n h3)
theorem Rels.drop : ∀ {ds : List D} {vs : List V} (n : Nat), Rels K H0 r ds vs → Rels K H0 r (ds.drop n) (vs.drop n)
  | [], _, n, h => by rw [h.unnil]; simp; exact Rels.nil
  | x :: ds, _, 0, h => by simpa using h
  | x :: ds, _, n + 1, h => by
    obtain ⟨y, ys, rfl, h1, h3⟩ := h.uncons
    exact Rels.drop n h3
theorem Rels.reverse : ∀ {ds : List D} {vs : List V}, Rels K H0 r ds vs → Rels K H0 r ds.reverse vs.reverse
  | [], _, h => by rw [h.unnil]; exact Rels.nil
  | x :: ds, _, h => by
    obtain ⟨y, ys, rfl, h1, h3⟩ := h.uncons
    rw [List.reverse_cons, List.reverse_cons]
    exact (Rels.reverse h3).append (Rels.cons h1 Rels.nil)
theorem Rels.ints : ∀ {ns : List Int} {vs : List V}, Rels K H0 r (ns.map D.int) vs ↔ vs = ns.map V.int
  | [], vs => ⟨fun h => h.unnil, fun h => by rw [h]; exact Rels.nil⟩
  | n :: ns, vs => by
    constructor
    · intro h
      obtain ⟨y, ys, rfl, h1, h3⟩ := Rels.uncons h
      unfold Rel at h1
      rw [Rels.ints.mp h3, h1]
      rfl
    · intro h
      subst h
      refine Rels.cons ?_ (Rels.ints.mpr rfl)
      unfold Rel
      rfl
mutual
theorem Rel.of_pure : ∀ {d : D} {v : V}, d.pure = true → Rel K H0 r d v → Rel K H0 r' d v
  | .non, _, _, h => by unfold Rel at h ⊢; exact h
  | .bl _, _, _, h => by unfold Rel at h ⊢; exact h
  | .int _, _, _, h => by unfold Rel at h ⊢; exact h
  | .str _, _, _, h => by unfold Rel at h ⊢; exact h
  | .tup ds, _, p, h => by
    unfold Rel at h ⊢
    obtain ⟨a, xs, rfl, h1, h2⟩ := h
    exact ⟨a, xs, rfl, h1, Rels.of_pure (by unfold D.pure at p; exact p) h2⟩
  | .lst ds, _, p, h => by
    unfold Rel at h ⊢
    obtain ⟨a, xs, rfl, h1, h2⟩ := h
    exact ⟨a, xs, rfl, h1, Rels.of_pure (by unfold D.pure at p; exact p) h2⟩
  | .scr ds, _, p, h => by
    unfold Rel at h ⊢
    obtain ⟨a, xs, rfl, h1, h2⟩ := h
    exact ⟨a, xs, rfl, h1, Rels.of_pure (by unfold D.pure at p; exact p) h2⟩
  | .cell n, _, p, h => by unfold D.pure at p; cases p
  | .exn ..,  _, p, h => by unfold D.pure at p; cases p
theorem Rels.of_pure : ∀ {ds : List D} {vs : List V}, pureAll ds = true → Rels K H0 r ds vs → Rels K H0 r' ds vs
  | [], _, _, h => by rw [h.unnil]; exact Rels.nil
  | d :: ds, _, p, h => by
    unfold pureAll at p
    rw [Bool.and_eq_true] at p
    obtain ⟨y, ys, rfl, h1, h3⟩ := h.uncons
    exact Rels.cons (Rel.of_pure p.1 h1) (Rels.of_pure p.2 h3)
end
end

def RelF (K : PySem.W.Frag) (H0 : Hp) (r : List Addr) : List (Str × D) → List (Str × V) → Prop
  | [], xs => xs = []
  | (f, d) :: ds, xs => ∃ y ys, xs = (f, y) :: ys ∧ Rel K H0 r d y ∧ RelF K H0 r ds ys
def RelK {κ : Type} (K : PySem.W.Frag) (H0 : Hp) (r : List Addr) : List (κ × D) → List (κ × V) → Prop
  | [], xs => xs = []
  | (f, d) :: ds, xs => ∃ y ys, xs = (f, y) :: ys ∧ Rel K H0 r d y ∧ RelK K H0 r ds ys
theorem RelF.mono {K : PySem.W.Frag} {H0 H0' : Hp} {r r' : List Addr} (e : Ex H0 H0') (p : r <+: r') : ∀ {ds : List (Str × D)} {vs : List (Str × V)}, RelF K H0 r ds vs → RelF K H0' r' ds vs
  | [], _, h => h
  | (f, d) :: ds, _, h => by
    obtain ⟨y, ys, rfl, h1, h2⟩ := h
    exact ⟨y, ys, rfl, h1.mono e p, RelF.mono e p h2⟩
theorem RelK.mono {κ : Type} {K : PySem.W.Frag} {H0 H0' : Hp} {r r' : List Addr} (e : Ex H0 H0') (p : r <+: r') : ∀ {ds : List (κ × D)} {vs : List (κ × V)}, RelK K H0 r ds vs → RelK K H0' r' ds vs
  | [], _, h => h
  | (f, d) :: ds, _, h => by
    obtain ⟨y, ys, rfl, h1, h2⟩ := h
    exact ⟨y, ys, rfl, h1.mono e p, RelK.mono e p h2⟩

def CelOk (K : PySem.W.Frag) (g : Gi) (H0 : Hp) (r : List Addr) (H : Hp) (a : Addr) : Cel → Prop
  | .lst ds => H0 a = none ∧ ∃ xs, H a = some (.lst xs) ∧ Rels K H0 r ds xs
  | .obj C fs => H0 a = none ∧ ∃ dx xs, H a = some (.ins (g.cl C) dx xs) ∧ RelF K H0 r fs xs
  | .dk kvs => H0 a = none ∧ ∃ xs, H a = some (.dK xs) ∧ RelK K H0 r kvs xs
  | .dt kvs => H0 a = none ∧ ∃ xs, H a = some (.dT xs) ∧ RelK K H0 r kvs xs
  | .dkf o xs kvs => H0 a = none ∧ H a = some (.frz o (.dK xs)) ∧ RelK K H0 r kvs xs
  | .dtf o xs kvs => H0 a = none ∧ H a = some (.frz o (.dT xs)) ∧ RelK K H0 r kvs xs
  | .tab _ q => a = g.cl q ∧ H0 a = none ∧ ∃ ps : Array Value, H a = some (.tbl ps) ∧ TriplesOk ps.toList ∧ ∀ (pos : Pos) (cv : Value), codeAmong pos ps.toList = some cv → ∃ c, cv = .ref c ∧ H0 c = some (LamX.CodeO c q)
  | .dead => True
structure Sim (K : PySem.W.Frag) (g : Gi) (H0 : Hp) (r : List Addr) (S : Sto) (H : Hp) : Prop where
  ex : Ex H0 H
  len : r.length = S.length
  nd : r.Nodup
  there : ∀ a ∈ r, H a ≠ none
  cel : ∀ (n : Nat) (a : Addr) (c : Cel), r[n]? = some a → S[n]? = some c → CelOk K g H0 r H a c
structure Fut (H0 : Hp) (r : List Addr) (H : Hp) (H0' : Hp) (r' : List Addr) (H' : Hp) : Prop where
  ext : Ex H0 H0'
  pre : r <+: r'
  keep : ∀ a o, H a = some o → a ∉ r → H' a = some o
  newC : ∀ a, a ∈ r' → a ∉ r → H a = none
  newF : ∀ a o, H0' a = some o → H0 a = none → H a = none ∨ a ∈ r

section
variable {K : PySem.W.Frag} {g : Gi} {H0 H0' H1 H H' H'' : Hp} {r r' r'' : List Addr} {S S' : Sto}
theorem Fut.refl : Fut H0 r H H0 r H :=
  ⟨Ex.refl _, List.prefix_refl _, fun _ _ h _ => h, fun _ h h' => absurd h h', fun _ _ h h' => by rw [h] at h'; cases h'⟩
theorem Fut.trans (a : Fut H0 r H H0' r' H') (t' : ∀ a ∈ r, H' a ≠ none) (b : Fut H0' r' H' H1 r'' H'') : Fut H0 r H H1 r'' H'' := by
  refine ⟨a.ext.trans b.ext, a.pre.trans b.pre, fun x o h hn => ?_, fun x h hn => ?_, fun x o h hn => ?_⟩
  · refine b.keep x o (a.keep x o h hn) fun h' => ?_
    rw [a.newC x h' hn] at h
    cases h
  · by_cases h' : x ∈ r'
    · exact a.newC x h' hn
    · have q := b.newC x h h'
      cases e : H x with
      | none => rfl
      | some o =>
        rw [a.keep x o e hn] at q
        cases q
  · cases e : H0' x with
    | some u => exact a.newF x u e hn
    | none =>
      rcases b.newF x o h e with q | q
      · by_cases hr : x ∈ r
        · exact .inr hr
        · refine .inl ?_
          cases e2 : H x with
          | none => rfl
          | some u =>
            rw [a.keep x u e2 hr] at q
            cases q
      · by_cases hr : x ∈ r
        · exact .inr hr
        · exact .inl (a.newC x q hr)
theorem Sim.therePre (s : Sim K g H0' r' S' H') (p : r <+: r') : ∀ a ∈ r, H' a ≠ none := fun a h => s.there a (p.subset h)
theorem Fut.tr (a : Fut H0 r H H0' r' H') (s : Sim K g H0' r' S' H') (b : Fut H0' r' H' H1 r'' H'') : Fut H0 r H H1 r'' H'' := a.trans (s.therePre a.pre) b
theorem Rel.fut {d : D} {v : V} (h : Rel K H0 r d v) (f : Fut H0 r H H0' r' H') : Rel K H0' r' d v := h.mono f.ext f.pre
theorem Rels.fut {d : List D} {v : List V} (h : Rels K H0 r d v) (f : Fut H0 r H H0' r' H') : Rels K H0' r' d v := h.mono f.ext f.pre
theorem CelOk.mono {a : Addr} {c : Cel} (h : CelOk K g H0 r H a c) (e : Ex H0 H0') (p : r <+: r') (h0 : H0 a = none → H0' a = none) (hH : H' a = H a) : CelOk K g H0' r' H' a c := by
  cases c with
  | lst ds =>
    obtain ⟨q, xs, h1, h2⟩ := h
    exact ⟨h0 q, xs, by rw [hH]; exact h1, h2.mono e p⟩
  | obj C fs =>
    obtain ⟨q, dx, xs, h1, h2⟩ := h
    exact ⟨h0 q, dx, xs, by rw [hH]; exact h1, h2.mono e p⟩
  | dk kvs =>
    obtain ⟨q, xs, h1, h2⟩ := h
    exact ⟨h0 q, xs, by rw [hH]; exact h1, h2.mono e p⟩
  | dt kvs =>
    obtain ⟨q, xs, h1, h2⟩ := h
    exact ⟨h0 q, xs, by rw [hH]; exact h1, h2.mono e p⟩
  | dkf o xs kvs =>
    obtain ⟨q, h1, h2⟩ := h
    exact ⟨h0 q, by rw [hH]; exact h1, h2.mono e p⟩
  | dtf o xs kvs =>
    obtain ⟨q, h1, h2⟩ := h
    exact ⟨h0 q, by rw [hH]; exact h1, h2.mono e p⟩
  | tab P q =>
    obtain ⟨ea, n0, ps, h1, h2, h3⟩ := h
    refine ⟨ea, h0 n0, ps, by rw [hH]; exact h1, h2, fun pos cv hc => ?_⟩
    obtain ⟨c, e1, e2⟩ := h3 pos cv hc
    exact ⟨c, e1, e _ _ e2⟩
  | dead => trivial
theorem Sim.frz (s : Sim K g H0 r S H) {p : Addr} {o : HO} (h : H p = none) : Sim K g (upd H0 p o) r S (upd H p o) ∧ Fut H0 r H (upd H0 p o) r (upd H p o) := by
  have h0 : H0 p = none := s.ex.none h
  have np : p ∉ r := fun z => s.there p z h
  refine ⟨⟨fun a u e => ?_, s.len, s.nd, fun a ha => ?_, fun n a c e1 e2 => ?_⟩, ⟨Ex.new h0, List.prefix_refl _, fun a u e _ => Ex.new h a u e, fun a h1 h2 => absurd h1 h2, fun a u e en => ?_⟩⟩
  · by_cases ha : a = p
    · subst ha; rw [upd_same] at e ⊢; exact e
    · rw [upd_ne ha] at e ⊢; exact s.ex a u e
  · have : a ≠ p := fun z => np (z ▸ ha)
    rw [upd_ne this]; exact s.there a ha
  · have : a ≠ p := fun z => np (z ▸ List.mem_of_getElem? e1)
    exact (s.cel n a c e1 e2).mono (Ex.new h0) (List.prefix_refl _) (fun q => by rw [upd_ne this]; exact q) (upd_ne this)
  · by_cases ha : a = p
    · subst ha; exact .inl h
    · rw [upd_ne ha, en] at e; cases e
theorem Sim.junk (s : Sim K g H0 r S H) {p : Addr} {o : HO} (h : H p = none) : Sim K g H0 r S (upd H p o) ∧ Fut H0 r H H0 r (upd H p o) := by
  have np : p ∉ r := fun z => s.there p z h
  refine ⟨⟨s.ex.trans (Ex.new h), s.len, s.nd, fun a ha => ?_, fun n a c e1 e2 => ?_⟩, ⟨Ex.refl _, List.prefix_refl _, fun a u e _ => Ex.new h a u e, fun a h1 h2 => absurd h1 h2, fun a u e en => by rw [e] at en; cases en⟩⟩
  · have : a ≠ p := fun z => np (z ▸ ha)
    rw [upd_ne this]; exact s.there a ha
  · have : a ≠ p := fun z => np (z ▸ List.mem_of_getElem? e1)
    exact (s.cel n a c e1 e2).mono (Ex.refl _) (List.prefix_refl _) (fun q => q) (upd_ne this)
theorem Sim.new (s : Sim K g H0 r S H) {p : Addr} {o : HO} {c : Cel} (h : H p = none) (hc : ∀ H', H' p = some o → CelOk K g H0 r H' p c) : Sim K g H0 (r ++ [p]) (S ++ [c]) (upd H p o) ∧ Fut H0 r H H0 (r ++ [p]) (upd H p o) := by
  have h0 : H0 p = none := s.ex.none h
  have np : p ∉ r := fun z => s.there p z h
  refine ⟨⟨s.ex.trans (Ex.new h), by rw [List.length_append, List.length_append, s.len]; rfl, ?_, fun a ha => ?_, fun n a c' e1 e2 => ?_⟩, ⟨Ex.refl _, List.prefix_append _ _, fun a u e _ => Ex.new h a u e, fun a h1 h2 => ?_, fun a u e en => by rw [e] at en; cases en⟩⟩
  · refine List.nodup_append.mpr ⟨s.nd, by simp, fun a ha b hb => ?_⟩
    rw [List.mem_singleton] at hb
    subst hb
    exact fun z => np (z ▸ ha)
  · rcases List.mem_append.mp ha with ha | ha
    · have : a ≠ p := fun z => np (z ▸ ha)
      rw [upd_ne this]; exact s.there a ha
    · rw [List.mem_singleton] at ha
      subst ha
      rw [upd_same]; intro z; cases z
  · by_cases hn : n < r.length
    · rw [List.getElem?_append_left hn] at e1
      rw [List.getElem?_append_left (by rw [← s.len]; exact hn)] at e2
      have : a ≠ p := fun z => np (z ▸ List.mem_of_getElem? e1)
      exact (s.cel n a c' e1 e2).mono (Ex.refl _) (List.prefix_append _ _) (fun q => q) (upd_ne this)
    · have hn' : n = r.length := by
        have := (List.getElem?_eq_some_iff.mp e1).1
        rw [List.length_append, List.length_singleton] at this
        omega
      subst hn'
      rw [List.getElem?_append_right (Nat.le_refl _), Nat.sub_self] at e1
      rw [s.len, List.getElem?_append_right (Nat.le_refl _), Nat.sub_self] at e2
      cases e1
      cases e2
      exact (hc _ upd_same).mono (Ex.refl _) (List.prefix_append _ _) (fun q => q) rfl
  · rcases List.mem_append.mp h1 with h1 | h1
    · exact absurd h1 h2
    · rw [List.mem_singleton] at h1
      subst h1
      exact h
theorem Sim.write (s : Sim K g H0 r S H) {n : Nat} {p : Addr} {o : HO} {c c' : Cel} (hr : r[n]? = some p) (hS : S[n]? = some c) (h0 : H0 p = none) (hc : ∀ H', H' p = some o → CelOk K g H0 r H' p c') : Sim K g H0 r (S.set n c') (upd H p o) ∧ Fut H0 r H H0 r (upd H p o) := by
  have pr : p ∈ r := List.mem_of_getElem? hr
  have hn : n < S.length := (List.getElem?_eq_some_iff.mp hS).1
  refine ⟨⟨fun a u e => ?_, by rw [List.length_set]; exact s.len, s.nd, fun a ha => ?_, fun m a d e1 e2 => ?_⟩, ⟨Ex.refl _, List.prefix_refl _, fun a u e na => ?_, fun a h1 h2 => absurd h1 h2, fun a u e en => by rw [e] at en; cases en⟩⟩
  · have : a ≠ p := fun z => by rw [z, h0] at e; cases e
    rw [upd_ne this]; exact s.ex a u e
  · by_cases e : a = p
    · subst e; rw [upd_same]; intro z; cases z
    · rw [upd_ne e]; exact s.there a ha
  · by_cases hm : m = n
    · subst hm
      rw [hr] at e1
      cases e1
      rw [List.getElem?_set_self hn] at e2
      cases e2
      exact hc _ upd_same
    · rw [List.getElem?_set_ne (Ne.symm hm)] at e2
      have : a ≠ p := fun z => hm (nd_ix s.nd (z ▸ e1) hr)
      exact (s.cel m a d e1 e2).mono (Ex.refl _) (List.prefix_refl _) (fun q => q) (upd_ne this)
  · have : a ≠ p := fun z => na (z ▸ pr)
    rw [upd_ne this]; exact e
theorem Sim.freeze (s : Sim K g H0 r S H) {n : Nat} {p : Addr} {ds : List D} (hr : r[n]? = some p) (hS : S[n]? = some (.lst ds)) :
    ∃ xs, H p = some (.lst xs) ∧ Sim K g (upd H0 p (.lst xs)) r (S.set n .dead) H ∧ Fut H0 r H (upd H0 p (.lst xs)) r H ∧ Rels K H0 r ds xs := by
  obtain ⟨h0, xs, hp, hx⟩ := s.cel n p _ hr hS
  have pr : p ∈ r := List.mem_of_getElem? hr
  have hn : n < S.length := (List.getElem?_eq_some_iff.mp hS).1
  refine ⟨xs, hp, ⟨fun a u e => ?_, by rw [List.length_set]; exact s.len, s.nd, s.there, fun m a d e1 e2 => ?_⟩, ⟨Ex.new h0, List.prefix_refl _, fun a u e _ => e, fun a h1 h2 => absurd h1 h2, fun a u e en => ?_⟩, hx⟩
  · by_cases ha : a = p
    · subst ha; rw [upd_same] at e; rw [hp]; exact e
    · rw [upd_ne ha] at e; exact s.ex a u e
  · by_cases hm : m = n
    · subst hm
      rw [List.getElem?_set_self hn] at e2
      cases e2
      trivial
    · rw [List.getElem?_set_ne (Ne.symm hm)] at e2
      have : a ≠ p := fun z => hm (nd_ix s.nd (z ▸ e1) hr)
      exact (s.cel m a d e1 e2).mono (Ex.new h0) (List.prefix_refl _) (fun q => by rw [upd_ne this]; exact q) rfl
  · by_cases ha : a = p
    · subst ha; exact .inr pr
    · rw [upd_ne ha, en] at e; cases e
end
end Ab

namespace Ab
open PySem PySem.Spec PyProof.Rows L2

def hgt0 : Nat := 0
def hgt1 : Nat := hgt0
def hgt2 : Nat := hgt1
def hgt3 : Nat := hgt2
def hgt4 : Nat := hgt3
def hgt5 : Nat := hgt4
def hgt6 : Nat := hgt5
def hgt7 : Nat := hgt6
def hgt8 : Nat := hgt7
def hgt9 : Nat := hgt8
def hgt10 : Nat := hgt9
def hgt11 : Nat := hgt10
def hgt12 : Nat := hgt11
def hgt13 : Nat := hgt12
def hgt14 : Nat := hgt13
def hgt15 : Nat := hgt14
def hgt16 : Nat := hgt15
def hgt17 : Nat := hgt16
def hgt18 : Nat := hgt17
def hgt19 : Nat := hgt18
def hgt20 : Nat := hgt19
def hgt21 : Nat := hgt20
def hgt22 : Nat := hgt21
def hgt23 : Nat := hgt22
def hgt24 : Nat := hgt23
def hgt25 : Nat := hgt24
def hgt26 : Nat := hgt25
def hgt27 : Nat := hgt26
def hgt28 : Nat := hgt27
def hgt29 : Nat := hgt28
def hgt30 : Nat := hgt29
def hgt31 : Nat := hgt30
def hgt32 : Nat := hgt31
def hgt33 : Nat := hgt32
def hgt34 : Nat := hgt33
def hgt35 : Nat := hgt34
def hgt36 : Nat := hgt35
def hgt37 : Nat := hgt36
def hgt38 : Nat := hgt37
def hgt39 : Nat := hgt38
def hgt40 : Nat := hgt39
def hgt41 : Nat := hgt40
def hgt42 : Nat := hgt41
def hgt43 : Nat := hgt42
def hgt44 : Nat := hgt43
def hgt45 : Nat := hgt44
def hgt46 : Nat := hgt45
def hgt47 : Nat := hgt46
def hgt48 : Nat := hgt47
def hgt49 : Nat := hgt48
def hgt50 : Nat := hgt49
def hgt51 : Nat := hgt50
def hgt52 : Nat := hgt51
def hgt53 : Nat := hgt52
def hgt54 : Nat := hgt53
def hgt55 : Nat := hgt54
def hgt56 : Nat := hgt55
def hgt57 : Nat := hgt56
def hgt58 : Nat := hgt57
def hgt59 : Nat := hgt58
@[reducible] def HG (α : Type) : Type := (fun (_ : Nat) => α) hgt59
abbrev WE := XE → Env → Sto → KD → Prop
abbrev WT := XE → Env → Sto → (Bool → Sto → Prop) → Prop
abbrev WA := XE → Env → Sto → (List D → Sto → Prop) → Prop
structure Kd where
  nx : Env → Sto → Prop
  rt : KD
  xc : XE
abbrev WS := Kd → Env → Sto → Prop
abbrev WF := List D → Sto → KD → XD → Prop

def slot : Env → Nat → Option D
  | [], _ => none
  | x :: _, 0 => x
  | _ :: xs, n + 1 => slot xs n
theorem slot_some : ∀ {s : Env} {i : Nat} {d : D}, slot s i = some d → s[i]? = some (some d)
  | [], _, _, h => by cases h
  | x :: _, 0, d, h => by
    have : x = some d := h
    subst this; rfl
  | _ :: xs, n + 1, d, h => by
    have := slot_some (s := xs) (i := n) h
    simpa using this

def RelSt (K : PySem.W.Frag) (H0 : Hp) (r : List Addr) (s : Env) (sv : L2.St) : Prop := s.length = sv.length ∧ ∀ (i : Nat) (d : D), s[i]? = some (some d) → ∃ v, sv[i]? = some (some v) ∧ Rel K H0 r d v
section
variable {K : PySem.W.Frag} {g : Gi} {H0 H0' H1 H H' : Hp} {r r' : List Addr} {S S' : Sto} {s : Env} {sv : L2.St}
theorem RelSt.mono (h : RelSt K H0 r s sv) (e : Ex H0 H0') (p : r <+: r') : RelSt K H0' r' s sv := ⟨h.1, fun i d q => by
  obtain ⟨v, h1, h2⟩ := h.2 i d q
  exact ⟨v, h1, h2.mono e p⟩⟩
theorem RelSt.fut (h : RelSt K H0 r s sv) (f : Fut H0 r H H0' r' H') : RelSt K H0' r' s sv := h.mono f.ext f.pre
theorem RelSt.set (h : RelSt K H0 r s sv) (i : Nat) {d : D} {v : V} (q : Rel K H0 r d v) : RelSt K H0 r (s.set i (some d)) (sv.set i (some v)) := by
  refine ⟨by rw [List.length_set, List.length_set]; exact h.1, fun j e hj => ?_⟩
  by_cases hij : i = j
  · subst hij
    by_cases hl : i < s.length
    · rw [List.getElem?_set_self hl] at hj
      cases hj
      exact ⟨v, List.getElem?_set_self (by rw [← h.1]; exact hl), q⟩
    · rw [List.getElem?_eq_none (by rw [List.length_set]; omega)] at hj
      cases hj
  · rw [List.getElem?_set_ne hij] at hj ⊢
    exact h.2 j e hj
theorem RelSt.unset (h : RelSt K H0 r s sv) (i : Nat) : RelSt K H0 r (s.set i none) (sv.set i none) := by
  refine ⟨by rw [List.length_set, List.length_set]; exact h.1, fun j e hj => ?_⟩
  by_cases hij : i = j
  · subst hij
    by_cases hl : i < s.length
    · rw [List.getElem?_set_self hl] at hj
      cases hj
    · rw [List.getElem?_eq_none (by rw [List.length_set]; omega)] at hj
      cases hj
  · rw [List.getElem?_set_ne hij] at hj ⊢
    exact h.2 j e hj

def CtE (K : PySem.W.Frag) (g : Gi) (H0 : Hp) (r : List Addr) (H : Hp) (k : KD) (Q : VK) : Prop :=
  ∀ d v H0' r' S' H', Fut H0 r H H0' r' H' → Sim K g H0' r' S' H' → Rel K H0' r' d v → k d S' → Q v H'
def CtX (K : PySem.W.Frag) (g : Gi) (H0 : Hp) (r : List Addr) (H : Hp) (s : Env) (sv : L2.St) (xc : XE) (W : WX) : Prop :=
  ∀ c H0' r' S' H', Fut H0 r H H0' r' H' → Sim K g H0' r' S' H' → xc c s S' → W (.ref (g.cl c)) none sv H'
theorem CtE.fut {k : KD} {Q : VK} (c : CtE K g H0 r H k Q) (f : Fut H0 r H H0' r' H') (si : Sim K g H0' r' S' H') : CtE K g H0' r' H' k Q :=
  fun d v H0'' r'' S'' H'' f2 s2 rl kk => c d v H0'' r'' S'' H'' (f.tr si f2) s2 rl kk
theorem CtX.fut {xc : XE} {W : WX} (c : CtX K g H0 r H s sv xc W) (f : Fut H0 r H H0' r' H') (si : Sim K g H0' r' S' H') : CtX K g H0' r' H' s sv xc W :=
  fun d H0'' r'' S'' H'' f2 s2 kk => c d H0'' r'' S'' H'' (f.tr si f2) s2 kk
end

def GoodE (X : Cx) (g : Gi) (W : WX) (te : TE) (w : WE) : Prop :=
  ∀ H0 r S H s sv Q k xc, Sim X.K g H0 r S H → RelSt X.K H0 r s sv → w xc s S k → CtE X.K g H0 r H k Q → CtX X.K g H0 r H s sv xc W → te sv H Q
def GoodT (X : Cx) (g : Gi) (W : WX) (te : TT) (w : WT) : Prop :=
  ∀ H0 r S H s sv (Q : Bool → Hp → Prop) (k : Bool → Sto → Prop) xc, Sim X.K g H0 r S H → RelSt X.K H0 r s sv → w xc s S k →
    (∀ b H0' r' S' H', Fut H0 r H H0' r' H' → Sim X.K g H0' r' S' H' → k b S' → Q b H') → CtX X.K g H0 r H s sv xc W → te sv H Q
def GoodA (X : Cx) (g : Gi) (W : WX) (te : TA) (w : WA) : Prop :=
  ∀ H0 r S H s sv (Q : List V → Hp → Prop) (k : List D → Sto → Prop) xc, Sim X.K g H0 r S H → RelSt X.K H0 r s sv → w xc s S k →
    (∀ ds vs H0' r' S' H', Fut H0 r H H0' r' H' → Sim X.K g H0' r' S' H' → Rels X.K H0' r' ds vs → k ds S' → Q vs H') → CtX X.K g H0 r H s sv xc W → te sv H Q
def SE (X : Cx) (g : Gi) (W : WX) (e : Expr) (w : WE) : Prop := ∃ te, PE X e te ∧ GoodE X g W te w
def STt (X : Cx) (g : Gi) (W : WX) (e : Expr) (w : WT) : Prop := ∃ te, PT X e te ∧ GoodT X g W te w
def SPw (X : Cx) (g : Gi) (W : WX) (e : Expr) (w : WT) : Prop := ∃ te, PW X e te ∧ GoodT X g W te w
def SA (X : Cx) (g : Gi) (W : WX) (e : List Expr) (w : WA) : Prop := ∃ te, PA X e te ∧ GoodA X g W te w

section
variable {X : Cx} {g : Gi} {W : WX} {a b c e : Expr} {pos : Pos} {wa wb wc we : WE} {wt wu : WT}

def kOpt : Option D → Sto → KD → Prop := fun (x0 : HG (Option D)) x1 x2 => match x0, x1, x2 with
  | some d, S, k => k d S
  | none, _, _ => False
def wVar (i : Nat) : WE := fun (_ : HG XE) s S k => kOpt (slot s i) S k
def wC (d : D) : WE := fun (_ : HG XE) _ S k => k d S
theorem se_var (i : Nat) {x : Str} {pos : Pos} (hN : X.N[i]? = some x := by rfl) (hv : Vis X.env.scope x := by first | exact Or.inl rfl | exact Or.inr (Or.inl rfl) | exact Or.inr (Or.inr rfl)) (hd : (x == ("__debug__" : Str)) = false := by decide)
    (hcd : (x == ("__classdict__" : Str)) = false := by decide) : SE X g W (.Name x pos) (wVar i) := by
  refine ⟨_, pe_var hN hv hd hcd, fun H0 r S H s sv Q k xc si rs h ce _ => ?_⟩
  unfold wVar at h
  cases q : slot s i with
  | none => rw [q] at h; exact h.elim
  | some d =>
    rw [q] at h
    obtain ⟨v, h1, h2⟩ := rs.2 i d (slot_some q)
    exact ⟨v, h1, ce d v H0 r S H .refl si h2 h⟩
theorem se_int {i : Int} {j : Nat} : SE X g W (.Constant (.int i) j pos) (wC (.int i)) :=
  ⟨_, pe_int, fun H0 r S H s sv Q k xc si rs h ce _ => ce _ _ H0 r S H .refl si (by unfold Rel; rfl) h⟩
theorem se_bl {i : Bool} {j : Nat} : SE X g W (.Constant (.bool i) j pos) (wC (.bl i)) :=
  ⟨_, pe_bl, fun H0 r S H s sv Q k xc si rs h ce _ => ce _ _ H0 r S H .refl si (by unfold Rel; rfl) h⟩
theorem se_str {i : Str} {j : Nat} : SE X g W (.Constant (.str i) j pos) (wC (.str i)) :=
  ⟨_, pe_str, fun H0 r S H s sv Q k xc si rs h ce _ => ce _ _ H0 r S H .refl si (by unfold Rel; rfl) h⟩
theorem se_non {j : Nat} : SE X g W (.Constant .none j pos) (wC .non) :=
  ⟨_, pe_non, fun H0 r S H s sv Q k xc si rs h ce _ => ce _ _ H0 r S H .refl si (by unfold Rel; rfl) h⟩
def lview (S : Sto) : D → Option (List D)
  | .lst xs => some xs
  | .scr xs => some xs
  | .cell n => match S[n]? with
    | some (.lst xs) => some xs
    | _ => none
  | _ => none
def tview : D → Option (List D)
  | .tup xs => some xs
  | _ => none
def sview (S : Sto) : D → Option (List D)
  | .tup xs => some xs
  | d => lview S d
section
variable {K : PySem.W.Frag} {H0 H : Hp} {r : List Addr} {S : Sto} {d : D} {v : V} {ds : List D}
def rview (S : Sto) : D → Option (List D)
  | .lst xs => some xs
  | .cell n => match S[n]? with
    | some (.lst xs) => some xs
    | _ => none
  | _ => none
theorem rview_rel (si : Sim K g H0 r S H) (h : Rel K H0 r d v) (e : rview S d = some ds) : ∃ a xs, v = .ref a ∧ Rd H a (.lst xs) ∧ Rels K H0 r ds xs := by
  unfold rview at e
  split at e
  · cases e
    unfold Rel at h
    obtain ⟨a, xs, rfl, h1, h2⟩ := h
    exact ⟨a, xs, rfl, si.ex.rd h1, h2⟩
  · rename_i n
    split at e
    · rename_i xs hS
      cases e
      unfold Rel at h
      obtain ⟨a, rfl, h1⟩ := h
      obtain ⟨_, ys, h2, h3⟩ := si.cel n a _ h1 hS
      exact ⟨a, ys, rfl, .inl h2, h3⟩
    · cases e
  · cases e
theorem lview_rel (si : Sim K g H0 r S H) (h : Rel K H0 r d v) (e : lview S d = some ds) : ∃ a xs, v = .ref a ∧ SqL K H a xs ∧ Rels K H0 r ds xs := by
  unfold lview at e
  split at e
  · cases e
    unfold Rel at h
    obtain ⟨a, xs, rfl, h1, h2⟩ := h
    exact ⟨a, xs, rfl, .inl (si.ex.rd h1), h2⟩
  · cases e
    unfold Rel at h
    obtain ⟨a, xs, rfl, h1, h2⟩ := h
    exact ⟨a, xs, rfl, si.ex.sql h1, h2⟩
  · rename_i n
    split at e
    · rename_i xs hS
      cases e
      unfold Rel at h
      obtain ⟨a, rfl, h1⟩ := h
      obtain ⟨_, ys, h2, h3⟩ := si.cel n a _ h1 hS
      exact ⟨a, ys, rfl, .inl (.inl h2), h3⟩
    · cases e
  · cases e
theorem tview_rel (si : Sim K g H0 r S H) (h : Rel K H0 r d v) (e : tview d = some ds) : ∃ a xs, v = .ref a ∧ SqT K H a xs ∧ Rels K H0 r ds xs := by
  unfold tview at e
  split at e
  · cases e
    unfold Rel at h
    obtain ⟨a, xs, rfl, h1, h2⟩ := h
    exact ⟨a, xs, rfl, si.ex.sqt h1, h2⟩
  · cases e
theorem sview_rel (si : Sim K g H0 r S H) (h : Rel K H0 r d v) (e : sview S d = some ds) : ∃ a xs, v = .ref a ∧ (SqL K H a xs ∨ SqT K H a xs) ∧ Rels K H0 r ds xs := by
  cases d with
  | tup xs =>
    obtain ⟨a, ys, h1, h2, h3⟩ := tview_rel (d := .tup xs) si h e
    exact ⟨a, ys, h1, .inr h2, h3⟩
  | lst xs =>
    obtain ⟨a, ys, h1, h2, h3⟩ := lview_rel (d := .lst xs) si h e
    exact ⟨a, ys, h1, .inl h2, h3⟩
  | scr xs =>
    obtain ⟨a, ys, h1, h2, h3⟩ := lview_rel (d := .scr xs) si h e
    exact ⟨a, ys, h1, .inl h2, h3⟩
  | cell n =>
    obtain ⟨a, ys, h1, h2, h3⟩ := lview_rel (d := .cell n) si h e
    exact ⟨a, ys, h1, .inl h2, h3⟩
  | _ => cases e
theorem rel_int {i : Int} (h : Rel K H0 r (.int i) v) : v = .int i := by unfold Rel at h; exact h
theorem rel_bl {i : Bool} (h : Rel K H0 r (.bl i) v) : v = .bl i := by unfold Rel at h; exact h
theorem rel_str {i : Str} (h : Rel K H0 r (.str i) v) : v = .str i := by unfold Rel at h; exact h
theorem rel_non (h : Rel K H0 r .non v) : v = .non := by unfold Rel at h; exact h
theorem rel_int' {i : Int} : Rel K H0 r (.int i) (.int i) := by unfold Rel; rfl
theorem rel_bl' {i : Bool} : Rel K H0 r (.bl i) (.bl i) := by unfold Rel; rfl
theorem rel_str' {i : Str} : Rel K H0 r (.str i) (.str i) := by unfold Rel; rfl
theorem rel_non' : Rel K H0 r .non .non := by unfold Rel; rfl
theorem Sim.lst {xs : List V} {p : Addr} (si : Sim K g H0 r S H) (hp : H p = none) (h : Rels K H0 r ds xs) :
    Sim K g (upd H0 p (.lst xs)) r S (upd H p (.lst xs)) ∧ Fut H0 r H (upd H0 p (.lst xs)) r (upd H p (.lst xs)) ∧ Rel K (upd H0 p (.lst xs)) r (.lst ds) (.ref p) := by
  obtain ⟨h1, h2⟩ := si.frz (o := .lst xs) hp
  refine ⟨h1, h2, ?_⟩
  unfold Rel
  exact ⟨p, xs, rfl, .inl upd_same, h.fut h2⟩
theorem Sim.tup {xs : List V} {p : Addr} (si : Sim K g H0 r S H) (hp : H p = none) (h : Rels K H0 r ds xs) :
    Sim K g (upd H0 p (.tup xs)) r S (upd H p (.tup xs)) ∧ Fut H0 r H (upd H0 p (.tup xs)) r (upd H p (.tup xs)) ∧ Rel K (upd H0 p (.tup xs)) r (.tup ds) (.ref p) := by
  obtain ⟨h1, h2⟩ := si.frz (o := .tup xs) hp
  refine ⟨h1, h2, ?_⟩
  unfold Rel
  exact ⟨p, xs, rfl, .inl (.inl upd_same), h.fut h2⟩
end

abbrev OW := D → D → Sto → KD → Prop
def GoodO (K : PySem.W.Frag) (g : Gi) (rr : R2) (f : OW) : Prop :=
  ∀ H0 r S H d e x y k Q, Sim K g H0 r S H → Rel K H0 r d x → Rel K H0 r e y → f d e S k → CtE K g H0 r H k Q → rr x y H Q
def wOp (f : OW) (wa wb : WE) : WE := fun (xc : HG XE) s S k => wa xc s S fun x S1 => wb xc s S1 fun y S2 => f x y S2 k
theorem goodOp {rr : R2} {f : OW} {ta tb : TE} (go : GoodO X.K g rr f) (ga : GoodE X g W ta wa) (gb : GoodE X g W tb wb) : GoodE X g W (tOp rr ta tb) (wOp f wa wb) := by
  intro H0 r S H s sv Q k xc si rs h ce cx
  refine ga H0 r S H s sv _ _ xc si rs h (fun d v H1 r1 S1 H1' f1 s1 rl h1 => ?_) cx
  refine gb H1 r1 S1 H1' s sv _ _ xc s1 (rs.fut f1) h1 (fun d2 v2 H2 r2 S2 H2' f2 s2 rl2 h2 => ?_) (cx.fut f1 s1)
  exact go H2 r2 S2 H2' d d2 v v2 k Q s2 (rl.fut f2) rl2 h2 (ce.fut (f1.tr s1 f2) s2)
theorem OpR.or {f : Value → Value → Sem Value} {r r' : R2} (h : OpR X f r) (h' : OpR X f r') : OpR X f (fun x y H Q => r x y H Q ∨ r' x y H Q) := by
  intro pins s σ H x y v u Q I rx ry q
  rcases q with q | q
  · exact h pins s σ H x y v u Q I rx ry q
  · exact h' pins s σ H x y v u Q I rx ry q
theorem se_bin {op : Operator} {rr : R2} {f : OW} (ho : OpR X (binaryOp op) rr) (go : GoodO X.K g rr f) (ha : SE X g W a wa) (hb : SE X g W b wb) : SE X g W (.BinOp a op b pos) (wOp f wa wb) := by
  obtain ⟨ta, pa, ga⟩ := ha
  obtain ⟨tb, pb, gb⟩ := hb
  exact ⟨_, pe_op ho pa pb, goodOp go ga gb⟩
def rCatX : R2 := fun x y H Q => ∃ l b xs zs, x = .ref l ∧ y = .ref b ∧ Rd H l (.lst xs) ∧ Rd H b (.lst zs) ∧ xs.length + zs.length ≤ sizeLine ∧ ∀ p, H p = none → Q (.ref p) (upd H p (.lst (xs ++ zs)))
theorem op_catX : OpR X (binaryOp .Add) rCatX := by
  intro pins s σ H x y v u Q I rx ry h
  obtain ⟨l, b, xs, zs, rfl, rfl, hH, hB, hz, q⟩ := h
  cases rx
  cases ry
  obtain ⟨z1, its, n, r, e⟩ := hH.ok I.hok
  obtain ⟨z2, its2, n2, r2, e2⟩ := hB.ok I.hok
  have l1 := r.length
  have l2 := r2.length
  refine PySem.P.add_list (items := its.toArray) (items2 := its2.toArray) e e2 ?_ (by rw [List.size_toArray, List.size_toArray]; omega)
  have ea : its.toArray ++ its2.toArray = (its ++ its2).toArray := by simp
  rw [ea]
  exact ⟨.ref _, _, I.lnew (t' := s.toks) (r.append r2) (by rw [List.length_append]; omega), rfl, q _ I.fresh⟩
end
end Ab

namespace Ab
open PySem PySem.Spec PyProof.Rows L2

mutual
def D.py : D → PyData
  | .non => .none
  | .bl b => .bool b
  | .int i => .int i
  | .str s => .str s
  | .tup xs => .tuple (pyAll xs)
  | .lst xs => .list (pyAll xs)
  | .scr xs => .list (pyAll xs)
  | .cell _ => .none
  | .exn .. => .none
def pyAll : List D → List PyData
  | [] => []
  | x :: xs => x.py :: pyAll xs
end
def D.eqv (a b : D) : Bool := PyData.eqv a.py b.py
def okEq : Nat → D → Bool
  | 0, _ => false
  | n + 1, d => match d with
    | .non => true
    | .bl _ => true
    | .int _ => true
    | .str s => PyData.strOk s
    | .tup xs => xs.all (okEq n)
    | .lst xs => xs.all (okEq n)
    | .scr xs => xs.all (okEq n)
    | .cell _ => false
    | .exn .. => false
theorem okEq_all_lay {n : Nat} (ih : ∀ d, okEq n d = true → d.py.canLay0 = true ∧ d.py.depth ≤ n) : ∀ xs : List D, xs.all (okEq n) = true → PyData.canLayAll0 (pyAll xs) = true ∧ PyData.depthAll (pyAll xs) ≤ n
  | [], _ => by unfold pyAll PyData.canLayAll0 PyData.depthAll; exact ⟨rfl, Nat.zero_le _⟩
  | x :: xs, h => by
    rw [List.all_cons, Bool.and_eq_true] at h
    obtain ⟨h1, h2⟩ := ih x h.1
    obtain ⟨h3, h4⟩ := okEq_all_lay ih xs h.2
    unfold pyAll PyData.canLayAll0 PyData.depthAll
    exact ⟨by rw [h1, h3]; rfl, Nat.max_le.mpr ⟨h2, h4⟩⟩
theorem okEq_lay : ∀ (n : Nat) (d : D), okEq n d = true → d.py.canLay0 = true ∧ d.py.depth ≤ n
  | 0, _, h => by unfold okEq at h; cases h
  | n + 1, d, h => by
    cases d with
    | non => unfold D.py PyData.canLay0 PyData.depth; exact ⟨rfl, Nat.zero_le _⟩
    | bl b => unfold D.py PyData.canLay0 PyData.depth; exact ⟨rfl, Nat.zero_le _⟩
    | int i => unfold D.py PyData.canLay0 PyData.depth; exact ⟨rfl, Nat.zero_le _⟩
    | str s =>
      unfold D.py PyData.canLay0 PyData.depth
      unfold okEq at h
      exact ⟨h, Nat.zero_le _⟩
    | tup xs =>
      unfold okEq at h
      obtain ⟨h1, h2⟩ := okEq_all_lay (okEq_lay n) xs h
      unfold D.py PyData.canLay0 PyData.depth
      exact ⟨h1, Nat.succ_le_succ h2⟩
    | lst xs =>
      unfold okEq at h
      obtain ⟨h1, h2⟩ := okEq_all_lay (okEq_lay n) xs h
      unfold D.py PyData.canLay0 PyData.depth
      exact ⟨h1, Nat.succ_le_succ h2⟩
    | scr xs =>
      unfold okEq at h
      obtain ⟨h1, h2⟩ := okEq_all_lay (okEq_lay n) xs h
      unfold D.py PyData.canLay0 PyData.depth
      exact ⟨h1, Nat.succ_le_succ h2⟩
    | cell n => unfold okEq at h; cases h
    | exn _ _ => unfold okEq at h; cases h
theorem okEq_shaped {d : D} (h : okEq 9 d = true) : SeqAt.shaped d.py = true := by
  obtain ⟨h1, h2⟩ := okEq_lay 9 d h
  unfold SeqAt.shaped
  rw [h1, Bool.true_and]
  exact decide_eq_true (by omega)

inductive Res (S : Sto) : D → D → Prop
  | pure {d : D} : d.pure = true → Res S d d
  | cell {n : Nat} {xs ys : List D} : S[n]? = some (.lst xs) → xs.length = ys.length → (∀ (i : Nat) (x y : D), xs[i]? = some x → ys[i]? = some y → Res S x y) → Res S (.cell n) (.lst ys)
  | lst {xs ys : List D} : xs.length = ys.length → (∀ (i : Nat) (x y : D), xs[i]? = some x → ys[i]? = some y → Res S x y) → Res S (.lst xs) (.lst ys)
  | tup {xs ys : List D} : xs.length = ys.length → (∀ (i : Nat) (x y : D), xs[i]? = some x → ys[i]? = some y → Res S x y) → Res S (.tup xs) (.tup ys)

section
variable {X : Cx} {g : Gi} {W : WX} {a b c e : Expr} {pos : Pos} {wa wb wc we : WE} {wt wu : WT}
variable {K : PySem.W.Frag} {H0 H : Hp} {r : List Addr} {S : Sto} {d : D} {v : V} {ds : List D}

mutual
theorem dp_pure (si : Sim K g H0 r S H) : ∀ {d : D} {v : V}, d.pure = true → Rel K H0 r d v → Dp K H v d.py
  | .non, v, _, h => by rw [rel_non h]; unfold D.py; exact .non
  | .bl b, v, _, h => by rw [rel_bl h]; unfold D.py; exact .bl b
  | .int i, v, _, h => by rw [rel_int h]; unfold D.py; exact .int i
  | .str i, v, _, h => by rw [rel_str h]; unfold D.py; exact .str i
  | .tup xs, v, p, h => by
    unfold Rel at h
    obtain ⟨a, ys, rfl, h1, h2⟩ := h
    unfold D.py
    exact .tup (si.ex.sqt h1) (dp_pureAll si (by unfold D.pure at p; exact p) h2)
  | .lst xs, v, p, h => by
    unfold Rel at h
    obtain ⟨a, ys, rfl, h1, h2⟩ := h
    unfold D.py
    exact .lst (.inl (si.ex.rd h1)) (dp_pureAll si (by unfold D.pure at p; exact p) h2)
  | .scr xs, v, p, h => by
    unfold Rel at h
    obtain ⟨a, ys, rfl, h1, h2⟩ := h
    unfold D.py
    exact .lst (si.ex.sql h1) (dp_pureAll si (by unfold D.pure at p; exact p) h2)
  | .cell n, v, p, _ => by unfold D.pure at p; cases p
  | .exn .., v, p, _ => by unfold D.pure at p; cases p
theorem dp_pureAll (si : Sim K g H0 r S H) : ∀ {ds : List D} {vs : List V}, pureAll ds = true → Rels K H0 r ds vs → DpAll K H vs (pyAll ds)
  | [], vs, _, h => by rw [h.unnil]; unfold pyAll; exact .nil
  | d :: ds, vs, p, h => by
    unfold pureAll at p
    rw [Bool.and_eq_true] at p
    obtain ⟨y, ys, rfl, h1, h2⟩ := h.uncons
    unfold pyAll
    exact .cons (dp_pure si p.1 h1) (dp_pureAll si p.2 h2)
end
theorem dpAll_of : ∀ {ys : List D} {xs : List D} {vs : List V}, xs.length = ys.length → Rels K H0 r xs vs → (∀ (i : Nat) (x y : D) (v : V), xs[i]? = some x → ys[i]? = some y → Rel K H0 r x v → Dp K H v y.py) → DpAll K H vs (pyAll ys)
  | [], xs, vs, hl, h, _ => by
    have : xs = [] := List.length_eq_zero_iff.mp hl
    subst this
    rw [h.unnil]
    unfold pyAll
    exact .nil
  | y :: ys, [], vs, hl, h, _ => by cases hl
  | y :: ys, x :: xs, vs, hl, h, f => by
    obtain ⟨v, vs', rfl, h1, h2⟩ := h.uncons
    unfold pyAll
    exact .cons (f 0 x y v rfl rfl h1) (dpAll_of (by simpa using hl) h2 fun i x' y' v' e1 e2 h3 => f (i + 1) x' y' v' (by simpa using e1) (by simpa using e2) h3)
theorem dp_res (si : Sim K g H0 r S H) {d a : D} (q : Res S d a) : ∀ {v : V}, Rel K H0 r d v → Dp K H v a.py := by
  induction q with
  | pure p => intro v h; exact dp_pure si p h
  | @cell n xs ys hS hl hh ih =>
    intro v h
    obtain ⟨a, zs, rfl, h1, h2⟩ := lview_rel (d := .cell n) (ds := xs) si h (by show (match S[n]? with | some (Cel.lst xs) => some xs | _ => none) = some xs; rw [hS])
    unfold D.py
    exact .lst h1 (dpAll_of hl h2 fun i x y v e1 e2 h3 => ih i x y e1 e2 h3)
  | @lst xs ys hl hh ih =>
    intro v h
    obtain ⟨a, zs, rfl, h1, h2⟩ := lview_rel (d := .lst xs) (ds := xs) si h rfl
    unfold D.py
    exact .lst h1 (dpAll_of hl h2 fun i x y v e1 e2 h3 => ih i x y e1 e2 h3)
  | @tup xs ys hl hh ih =>
    intro v h
    obtain ⟨a, zs, rfl, h1, h2⟩ := tview_rel (d := .tup xs) (ds := xs) si h rfl
    unfold D.py
    exact .tup h1 (dpAll_of hl h2 fun i x y v e1 e2 h3 => ih i x y e1 e2 h3)

def addW : D → D → Sto → KD → Prop
  | .int a, .int b, S, k => k (.int (a + b)) S
  | .str a, .str b, S, k => a.length + b.length ≤ sizeLine ∧ k (.str (a ++ b)) S
  | .tup a, .tup b, S, k => a ≠ [] ∧ a.length + b.length ≤ sizeLine ∧ k (.tup (a ++ b)) S
  | x, y, S, k => ∃ a b, rview S x = some a ∧ rview S y = some b ∧ a.length + b.length ≤ sizeLine ∧ k (.lst (a ++ b)) S
def rAddU (K : PySem.W.Frag) : R2 := fun x y H Q => rI0 (fun i j => .int (i + j)) x y H Q ∨ (∃ i j, x = .str i ∧ y = .str j ∧ i.length + j.length ≤ sizeLine ∧ Q (.str (i ++ j)) H) ∨ rCatT K x y H Q ∨ rCatX x y H Q
theorem op_addU : OpR X (binaryOp .Add) (rAddU X.K) := op_add.or (op_add_str.or (op_catT.or op_catX))
theorem good_add : GoodO K g (rAddU K) addW := by
  intro H0 r S H d e x y k Q si h1 h2 hw ce
  unfold addW at hw
  split at hw
  · rw [rel_int h1, rel_int h2]
    exact .inl ⟨_, _, rfl, rfl, ce _ _ _ _ _ _ .refl si rel_int' hw⟩
  · rw [rel_str h1, rel_str h2]
    exact .inr (.inl ⟨_, _, rfl, rfl, hw.1, ce _ _ _ _ _ _ .refl si rel_str' hw.2⟩)
  · obtain ⟨hn, hl, hk⟩ := hw
    obtain ⟨p, xs, rfl, q1, q2⟩ := tview_rel si h1 rfl
    obtain ⟨p', ys, rfl, q3, q4⟩ := tview_rel si h2 rfl
    refine .inr (.inr (.inl ⟨p, p', xs, ys, rfl, rfl, q1, q3, fun z => hn ?_, by rw [q2.length, q4.length]; exact hl, fun z => ?_, fun z q hq => ?_⟩))
    · have := q2.length
      rw [z] at this
      exact List.length_eq_zero_iff.mp this.symm
    · subst z
      have := q4.length
      rename_i b
      have hb : b = [] := List.length_eq_zero_iff.mp this.symm
      subst hb
      rw [List.append_nil] at hk
      exact ce _ _ _ _ _ _ .refl si h1 hk
    · obtain ⟨s1, s2, s3⟩ := si.tup hq (q2.append q4)
      exact ce _ _ _ _ _ _ s2 s1 s3 hk
  · obtain ⟨a, b, e1, e2, hl, hk⟩ := hw
    obtain ⟨p, xs, rfl, q1, q2⟩ := rview_rel si h1 e1
    obtain ⟨p', ys, rfl, q3, q4⟩ := rview_rel si h2 e2
    refine .inr (.inr (.inr ⟨p, p', xs, ys, rfl, rfl, q1, q3, by rw [q2.length, q4.length]; exact hl, fun q hq => ?_⟩))
    obtain ⟨s1, s2, s3⟩ := si.lst hq (q2.append q4)
    exact ce _ _ _ _ _ _ s2 s1 s3 hk
def iiW (C : Int → Int → Prop) (f : Int → Int → D) : D → D → Sto → KD → Prop
  | .int a, .int b, S, k => C a b ∧ k (f a b) S
  | _, _, _, _ => False
def ii0 (f : Int → Int → D) : D → D → Sto → KD → Prop
  | .int a, .int b, S, k => k (f a b) S
  | _, _, _, _ => False
theorem good_ii {C : Int → Int → Prop} {f : Int → Int → D} {fv : Int → Int → V} (hf : ∀ i j H0 r, Rel K H0 r (f i j) (fv i j)) : GoodO K g (rI C fv) (iiW C f) := by
  intro H0 r S H d e x y k Q si h1 h2 hw ce
  unfold iiW at hw
  split at hw
  · rw [rel_int h1, rel_int h2]
    exact ⟨_, _, rfl, rfl, hw.1, ce _ _ _ _ _ _ .refl si (hf _ _ _ _) hw.2⟩
  · exact hw.elim
theorem good_ii0 {f : Int → Int → D} {fv : Int → Int → V} (hf : ∀ i j H0 r, Rel K H0 r (f i j) (fv i j)) : GoodO K g (rI0 fv) (ii0 f) := by
  intro H0 r S H d e x y k Q si h1 h2 hw ce
  unfold ii0 at hw
  split at hw
  · rw [rel_int h1, rel_int h2]
    exact ⟨_, _, rfl, rfl, ce _ _ _ _ _ _ .refl si (hf _ _ _ _) hw⟩
  · exact hw.elim
def CDivX (i j : Int) : Prop := j ≠ 0 ∧ Builtin.divisionGoesByPylong i j = false
theorem op_mulX : OpR X (binaryOp .Mult) (rI IntMulOk fun i j => .int (i * j)) := opI fun _ _ _ _ _ _ _ hc q => mul_int q hc
theorem op_fdivX : OpR X (binaryOp .FloorDiv) (rI CDivX fun i j => .int (i.fdiv j)) := opI fun i j _ _ _ _ _ hc q => floordiv_int hc.1 q (.inl hc.2)
abbrev subW : OW := ii0 fun i j => .int (i - j)
abbrev mulW : OW := iiW IntMulOk fun i j => .int (i * j)
abbrev fdivW : OW := iiW CDivX fun i j => .int (i.fdiv j)
abbrev modW : OW := iiW (fun _ j => j ≠ 0) fun i j => .int (i.fmod j)
def powW : OW := iiW CPow fun i j => .int (i ^ j.toNat)
abbrev ltW : OW := ii0 fun i j => .bl (decide (i < j))
abbrev leW : OW := ii0 fun i j => .bl (decide (i ≤ j))
abbrev gtW : OW := ii0 fun i j => .bl (decide (j < i))
abbrev geW : OW := ii0 fun i j => .bl (decide (j ≤ i))
theorem se_add (ha : SE X g W a wa) (hb : SE X g W b wb) : SE X g W (.BinOp a .Add b pos) (wOp addW wa wb) := se_bin op_addU good_add ha hb
theorem se_sub (ha : SE X g W a wa) (hb : SE X g W b wb) : SE X g W (.BinOp a .Sub b pos) (wOp subW wa wb) := se_bin op_sub (good_ii0 fun _ _ _ _ => rel_int') ha hb
theorem se_mul (ha : SE X g W a wa) (hb : SE X g W b wb) : SE X g W (.BinOp a .Mult b pos) (wOp mulW wa wb) := se_bin op_mulX (good_ii fun _ _ _ _ => rel_int') ha hb
theorem se_fdiv (ha : SE X g W a wa) (hb : SE X g W b wb) : SE X g W (.BinOp a .FloorDiv b pos) (wOp fdivW wa wb) := se_bin op_fdivX (good_ii fun _ _ _ _ => rel_int') ha hb
theorem se_mod (ha : SE X g W a wa) (hb : SE X g W b wb) : SE X g W (.BinOp a .Mod b pos) (wOp modW wa wb) := se_bin op_modN (good_ii fun _ _ _ _ => rel_int') ha hb
theorem se_pow (ha : SE X g W a wa) (hb : SE X g W b wb) : SE X g W (.BinOp a .Pow b pos) (wOp powW wa wb) := se_bin op_pow (good_ii fun _ _ _ _ => rel_int') ha hb
def kNeg (k : KD) : D → Sto → Prop := fun (x0 : HG (D)) x1 => match x0, x1 with
  | .int i, S => k (.int (-i)) S
  | _, _ => False
def wNeg (wa : WE) : WE := fun (xc : HG XE) s S k => wa xc s S (kNeg k)
theorem se_neg (ha : SE X g W a wa) : SE X g W (.UnaryOp .USub a pos) (wNeg wa) := by
  obtain ⟨ta, pa, ga⟩ := ha
  refine ⟨_, pe_un un_neg pa, fun H0 r S H s sv Q k xc si rs h ce cx => ?_⟩
  refine ga H0 r S H s sv _ _ xc si rs h (fun d v H1 r1 S1 H1' f1 s1 rl h1 => ?_) cx
  unfold kNeg at h1
  split at h1
  · exact ⟨_, rel_int rl, ce _ _ _ _ _ _ f1 s1 rel_int' h1⟩
  · exact h1.elim

def GoodC (X : Cx) (g : Gi) (op : CmpOp) (f : OW) : Prop := ∃ rr, OpR X (compareOp op) rr ∧ GoodO X.K g rr f
def eqW : D → D → Sto → KD → Prop
  | .int a, .int b, S, k => k (.bl (decide (a = b))) S
  | .bl a, .bl b, S, k => k (.bl (decide (a = b))) S
  | .str a, .str b, S, k => k (.bl (decide (a = b))) S
  | .non, .non, S, k => k (.bl true) S
  | .non, .int _, S, k => k (.bl false) S
  | .int _, .non, S, k => k (.bl false) S
  | x, y, S, k => ∃ a b, Res S x a ∧ Res S y b ∧ okEq 9 a = true ∧ okEq 9 b = true ∧ k (.bl (a.eqv b)) S
def kNot (k : KD) : D → Sto → Prop := fun (x0 : HG (D)) x1 => match x0, x1 with
  | .bl b, S => k (.bl (!b)) S
  | _, _ => False
def neW : OW := fun x y S k => eqW x y S (kNot k)
def rEqU (K : PySem.W.Frag) : R2 := fun x y H Q => rEq x y H Q ∨ rEqD K x y H Q
def rNeU (K : PySem.W.Frag) : R2 := fun x y H Q => rNe x y H Q ∨ rNeD K x y H Q
theorem good_eq : GoodO K g (rEqU K) eqW := by
  intro H0 r S H d e x y k Q si h1 h2 hw ce
  unfold eqW at hw
  split at hw
  · rw [rel_int h1, rel_int h2]
    refine .inl ⟨rfl, ?_⟩
    rw [dec_int, Bool.beq_eq_decide_eq]
    exact ce _ _ _ _ _ _ .refl si rel_bl' hw
  · rw [rel_bl h1, rel_bl h2]
    refine .inl ⟨rfl, ?_⟩
    rw [dec_bl, Bool.beq_eq_decide_eq]
    exact ce _ _ _ _ _ _ .refl si rel_bl' hw
  · rw [rel_str h1, rel_str h2]
    refine .inl ⟨rfl, ?_⟩
    rw [dec_str, Bool.beq_eq_decide_eq]
    exact ce _ _ _ _ _ _ .refl si rel_bl' hw
  · rw [rel_non h1, rel_non h2]
    exact .inl ⟨rfl, ce _ _ _ _ _ _ .refl si rel_bl' hw⟩
  · rw [rel_non h1, rel_int h2]
    exact .inl ⟨rfl, ce _ _ _ _ _ _ .refl si rel_bl' hw⟩
  · rw [rel_int h1, rel_non h2]
    exact .inl ⟨rfl, ce _ _ _ _ _ _ .refl si rel_bl' hw⟩
  · obtain ⟨a, b, q1, q2, o1, o2, hk⟩ := hw
    exact .inr ⟨_, _, dp_res si q1 h1, dp_res si q2 h2, okEq_shaped o1, okEq_shaped o2, ce _ _ _ _ _ _ .refl si rel_bl' hk⟩
theorem good_ne : GoodO K g (rNeU K) neW := by
  intro H0 r S H d e x y k Q si h1 h2 hw ce
  unfold neW eqW kNot at hw
  split at hw
  · rw [rel_int h1, rel_int h2]
    refine .inl ⟨rfl, ?_⟩
    rw [dec_int, Bool.beq_eq_decide_eq]
    exact ce _ _ _ _ _ _ .refl si rel_bl' hw
  · rw [rel_bl h1, rel_bl h2]
    refine .inl ⟨rfl, ?_⟩
    rw [dec_bl, Bool.beq_eq_decide_eq]
    exact ce _ _ _ _ _ _ .refl si rel_bl' hw
  · rw [rel_str h1, rel_str h2]
    refine .inl ⟨rfl, ?_⟩
    rw [dec_str, Bool.beq_eq_decide_eq]
    exact ce _ _ _ _ _ _ .refl si rel_bl' hw
  · rw [rel_non h1, rel_non h2]
    exact .inl ⟨rfl, ce _ _ _ _ _ _ .refl si rel_bl' hw⟩
  · rw [rel_non h1, rel_int h2]
    exact .inl ⟨rfl, ce _ _ _ _ _ _ .refl si rel_bl' hw⟩
  · rw [rel_int h1, rel_non h2]
    exact .inl ⟨rfl, ce _ _ _ _ _ _ .refl si rel_bl' hw⟩
  · obtain ⟨a, b, q1, q2, o1, o2, hk⟩ := hw
    exact .inr ⟨_, _, dp_res si q1 h1, dp_res si q2 h2, okEq_shaped o1, okEq_shaped o2, ce _ _ _ _ _ _ .refl si rel_bl' hk⟩
def D.flat : D → Bool
  | .non => true
  | .bl _ => true
  | .int _ => true
  | .str _ => true
  | _ => false
def eqF : D → D → Bool
  | .non, .non => true
  | .bl a, .bl b => a == b
  | .bl a, .int b => (if a then 1 else 0) == b
  | .int a, .bl b => a == (if b then 1 else 0)
  | .int a, .int b => a == b
  | .str a, .str b => a == b
  | _, _ => false
def inF (x : D) (xs : List D) : Bool := xs.any fun y => eqF y x
def inW (neg : Bool) : OW := fun x y S k => ∃ xs, sview S y = some xs ∧ x.flat = true ∧ xs.all D.flat = true ∧ k (.bl (if neg then !inF x xs else inF x xs)) S
def isNW (neg : Bool) : D → D → Sto → KD → Prop
  | .non, .non, S, k => k (.bl (!neg)) S
  | _, .non, S, k => k (.bl neg) S
  | _, _, _, _ => False
def D.isN : D → Bool
  | .non => true
  | _ => false
theorem isN_rel {d : D} {v : V} (h : Rel K H0 r d v) : decide (v = .non) = d.isN := by
  cases d with
  | non => rw [rel_non h]; rfl
  | bl b => rw [rel_bl h]; rfl
  | int b => rw [rel_int h]; rfl
  | str b => rw [rel_str h]; rfl
  | tup xs => unfold Rel at h; obtain ⟨a, _, rfl, _⟩ := h; rfl
  | lst xs => unfold Rel at h; obtain ⟨a, _, rfl, _⟩ := h; rfl
  | scr xs => unfold Rel at h; obtain ⟨a, _, rfl, _⟩ := h; rfl
  | cell xs => unfold Rel at h; obtain ⟨a, rfl, _⟩ := h; rfl
  | exn a c => unfold Rel at h; subst h; rfl
theorem isNW_eq {neg : Bool} {x : D} {S : Sto} {k : KD} (h : isNW neg x .non S k) : k (.bl (if neg then !x.isN else x.isN)) S := by
  unfold isNW at h
  cases x <;> cases neg <;> exact h
theorem good_isN : GoodO K g (fun x y H Q => y = .non ∧ Q (.bl (decide (x = .non))) H) (isNW false) := by
  intro H0 r S H d e x y k Q si h1 h2 hw ce
  cases e with
  | non =>
    refine ⟨rel_non h2, ?_⟩
    rw [isN_rel h1]
    exact ce _ _ _ _ _ _ .refl si rel_bl' (isNW_eq hw)
  | _ => unfold isNW at hw; cases d <;> exact hw.elim
theorem gc_lt : GoodC X g .Lt ltW := ⟨_, op_lt, good_ii0 fun _ _ _ _ => rel_bl'⟩
theorem gc_gt : GoodC X g .Gt gtW := ⟨_, op_gt, good_ii0 fun _ _ _ _ => rel_bl'⟩
theorem gc_eq (hu : X.A.units + 64 < cLine) : GoodC X g .Eq eqW := ⟨_, op_eq.or (op_eqD hu), good_eq⟩
theorem gc_ne (hu : X.A.units + 64 < cLine) : GoodC X g .NotEq neW := ⟨_, op_ne.or (op_neD hu), good_ne⟩
theorem gc_isN : GoodC X g .Is (isNW false) := ⟨_, op_isN, good_isN⟩
theorem se_cmp {op : CmpOp} {f : OW} (hc : GoodC X g op f) (ha : SE X g W a wa) (hb : SE X g W b wb) (hm : behindInMarks op b = false := by first | exact nomark _ | rfl) : SE X g W (.Compare a [op] [b] pos) (wOp f wa wb) := by
  obtain ⟨rr, ho, go⟩ := hc
  obtain ⟨ta, pa, ga⟩ := ha
  obtain ⟨tb, pb, gb⟩ := hb
  exact ⟨_, pe_cmpR ho pa pb hm, goodOp go ga gb⟩
def kBl (k : Bool → Sto → Prop) : D → Sto → Prop := fun (x0 : HG (D)) x1 => match x0, x1 with
  | .bl b, S => k b S
  | _, _ => False
def wTest (w : WE) : WT := fun (xc : HG XE) s S k => w xc s S (kBl k)
theorem goodTest {t : TE} (gg : GoodE X g W t we) : GoodT X g W (tTest t) (wTest we) := by
  intro H0 r S H s sv Q k xc si rs h ce cx
  refine gg H0 r S H s sv _ _ xc si rs h (fun d v H1 r1 S1 H1' f1 s1 rl h1 => ?_) cx
  unfold kBl at h1
  split at h1
  · exact ⟨_, rel_bl rl, ce _ _ _ _ _ f1 s1 h1⟩
  · exact h1.elim
theorem st_cmp {op : CmpOp} {f : OW} (hc : GoodC X g op f) (ha : SE X g W a wa) (hb : SE X g W b wb) (hm : behindInMarks op b = false := by first | exact nomark _ | rfl) : STt X g W (.Compare a [op] [b] pos) (wTest (wOp f wa wb)) := by
  obtain ⟨rr, ho, go⟩ := hc
  obtain ⟨ta, pa, ga⟩ := ha
  obtain ⟨tb, pb, gb⟩ := hb
  exact ⟨_, pt_cmpR ho pa pb hm, goodTest (goodOp go ga gb)⟩
theorem st_val (ha : SE X g W a wa) (he : ∀ whole, isTrue a X.env whole = (do let v ← whole; standAt a.pos; holding [v] (truthy v)) := by intro _; rfl) : STt X g W a (wTest wa) := by
  obtain ⟨ta, pa, ga⟩ := ha
  exact ⟨_, pt_val pa he, goodTest ga⟩
def wChain (f f' : OW) (wa wb wc : WE) : WE := fun (xc : HG XE) s S k => wa xc s S fun x S1 => wb xc s S1 fun y S2 => f x y S2 (kBl fun b S3 => if b = true then wc xc s S3 fun u S4 => f' y u S4 k else k (.bl false) S3)
def wAnd (wt wu : WT) : WT := fun (xc : HG XE) s S k => wt xc s S fun b S1 => if b = true then wu xc s S1 k else k false S1
def wOr (wt wu : WT) : WT := fun (xc : HG XE) s S k => wt xc s S fun b S1 => if b = true then k true S1 else wu xc s S1 k
def wNot (wt : WT) : WT := fun (xc : HG XE) s S k => wt xc s S fun b S1 => k (!b) S1
theorem goodAnd {t u : TT} (ga : GoodT X g W t wt) (gb : GoodT X g W u wu) : GoodT X g W (tAnd t u) (wAnd wt wu) := by
  intro H0 r S H s sv Q k xc si rs h ce cx
  refine ga H0 r S H s sv _ _ xc si rs h (fun b H1 r1 S1 H1' f1 s1 h1 => ?_) cx
  cases b with
  | true =>
    rw [if_pos rfl] at h1 ⊢
    exact gb H1 r1 S1 H1' s sv _ _ xc s1 (rs.fut f1) h1 (fun b2 H2 r2 S2 H2' f2 s2 h2 => ce _ _ _ _ _ (f1.tr s1 f2) s2 h2) (cx.fut f1 s1)
  | false =>
    rw [if_neg Bool.false_ne_true] at h1 ⊢
    exact ce _ _ _ _ _ f1 s1 h1
theorem goodOr {t u : TT} (ga : GoodT X g W t wt) (gb : GoodT X g W u wu) : GoodT X g W (tOr t u) (wOr wt wu) := by
  intro H0 r S H s sv Q k xc si rs h ce cx
  refine ga H0 r S H s sv _ _ xc si rs h (fun b H1 r1 S1 H1' f1 s1 h1 => ?_) cx
  cases b with
  | false =>
    rw [if_neg Bool.false_ne_true] at h1 ⊢
    exact gb H1 r1 S1 H1' s sv _ _ xc s1 (rs.fut f1) h1 (fun b2 H2 r2 S2 H2' f2 s2 h2 => ce _ _ _ _ _ (f1.tr s1 f2) s2 h2) (cx.fut f1 s1)
  | true =>
    rw [if_pos rfl] at h1 ⊢
    exact ce _ _ _ _ _ f1 s1 h1
theorem sw_one {op : BoolOp} (ha : STt X g W a wt) : SPw X g W (.BoolOp op [a] pos) wt := by
  obtain ⟨ta, pa, ga⟩ := ha
  cases op with
  | And => exact ⟨_, pw_and1 pa, ga⟩
  | Or => exact ⟨_, pw_or1 pa, ga⟩
theorem sw_and {rest : List Expr} (ha : STt X g W a wt) (hb : SPw X g W (.BoolOp .And (b :: rest) pos) wu) : SPw X g W (.BoolOp .And (a :: b :: rest) pos) (wAnd wt wu) := by
  obtain ⟨ta, pa, ga⟩ := ha
  obtain ⟨tb, pb, gb⟩ := hb
  exact ⟨_, pw_and pa pb, goodAnd ga gb⟩
theorem sw_or {rest : List Expr} (ha : STt X g W a wt) (hb : SPw X g W (.BoolOp .Or (b :: rest) pos) wu) : SPw X g W (.BoolOp .Or (a :: b :: rest) pos) (wOr wt wu) := by
  obtain ⟨ta, pa, ga⟩ := ha
  obtain ⟨tb, pb, gb⟩ := hb
  exact ⟨_, pw_or pa pb, goodOr ga gb⟩
theorem SPw.st (h : SPw X g W a wt) : STt X g W a wt := by
  obtain ⟨ta, pa, ga⟩ := h
  exact ⟨_, pa.pt, ga⟩
theorem st_not (ha : STt X g W a wt) : STt X g W (.UnaryOp .Not a pos) (wNot wt) := by
  obtain ⟨ta, pa, ga⟩ := ha
  refine ⟨_, pt_not pa, fun H0 r S H s sv Q k xc si rs h ce cx => ?_⟩
  exact ga H0 r S H s sv _ _ xc si rs h (fun b H1 r1 S1 H1' f1 s1 h1 => ce _ _ _ _ _ f1 s1 h1) cx
def wAndV (wa wb : WE) : WE := fun (xc : HG XE) s S k => wa xc s S (kBl fun b S1 => if b = true then wb xc s S1 k else k (.bl false) S1)
def wOrV (wa wb : WE) : WE := fun (xc : HG XE) s S k => wa xc s S (kBl fun b S1 => if b = true then k (.bl true) S1 else wb xc s S1 k)
def wNotV (wa : WE) : WE := fun (xc : HG XE) s S k => wa xc s S (kNot k)
theorem se_one {op : BoolOp} (ha : SE X g W a wa) : SE X g W (.BoolOp op [a] pos) wa := by
  obtain ⟨ta, pa, ga⟩ := ha
  exact ⟨_, pe_one pa, ga⟩
theorem se_and {rest : List Expr} (ha : SE X g W a wa) (hb : SE X g W (.BoolOp .And (b :: rest) pos) wb) : SE X g W (.BoolOp .And (a :: b :: rest) pos) (wAndV wa wb) := by
  obtain ⟨ta, pa, ga⟩ := ha
  obtain ⟨tb, pb, gb⟩ := hb
  refine ⟨_, pe_and pa pb, fun H0 r S H s sv Q k xc si rs h ce cx => ?_⟩
  refine ga H0 r S H s sv _ _ xc si rs h (fun d v H1 r1 S1 H1' f1 s1 rl h1 => ?_) cx
  unfold kBl at h1
  split at h1
  · rename_i _ b
    refine ⟨b, rel_bl rl, ?_⟩
    cases b with
    | true =>
      rw [if_pos rfl] at h1 ⊢
      exact gb H1 r1 S1 H1' s sv _ _ xc s1 (rs.fut f1) h1 (ce.fut f1 s1) (cx.fut f1 s1)
    | false =>
      rw [if_neg Bool.false_ne_true] at h1 ⊢
      exact ce _ _ _ _ _ _ f1 s1 rel_bl' h1
  · exact h1.elim
theorem se_or {rest : List Expr} (ha : SE X g W a wa) (hb : SE X g W (.BoolOp .Or (b :: rest) pos) wb) : SE X g W (.BoolOp .Or (a :: b :: rest) pos) (wOrV wa wb) := by
  obtain ⟨ta, pa, ga⟩ := ha
  obtain ⟨tb, pb, gb⟩ := hb
  refine ⟨_, pe_or pa pb, fun H0 r S H s sv Q k xc si rs h ce cx => ?_⟩
  refine ga H0 r S H s sv _ _ xc si rs h (fun d v H1 r1 S1 H1' f1 s1 rl h1 => ?_) cx
  unfold kBl at h1
  split at h1
  · rename_i _ b
    refine ⟨b, rel_bl rl, ?_⟩
    cases b with
    | false =>
      rw [if_neg Bool.false_ne_true] at h1 ⊢
      exact gb H1 r1 S1 H1' s sv _ _ xc s1 (rs.fut f1) h1 (ce.fut f1 s1) (cx.fut f1 s1)
    | true =>
      rw [if_pos rfl] at h1 ⊢
      exact ce _ _ _ _ _ _ f1 s1 rel_bl' h1
  · exact h1.elim
theorem se_not (ha : SE X g W a wa) : SE X g W (.UnaryOp .Not a pos) (wNotV wa) := by
  obtain ⟨ta, pa, ga⟩ := ha
  refine ⟨_, pe_not pa, fun H0 r S H s sv Q k xc si rs h ce cx => ?_⟩
  refine ga H0 r S H s sv _ _ xc si rs h (fun d v H1 r1 S1 H1' f1 s1 rl h1 => ?_) cx
  unfold kNot at h1
  split at h1
  · exact ⟨_, rel_bl rl, ce _ _ _ _ _ _ f1 s1 rel_bl' h1⟩
  · exact h1.elim
def wIfE (wt : WT) (wa wb : WE) : WE := fun (xc : HG XE) s S k => wt xc s S fun b S1 => if b = true then wa xc s S1 k else wb xc s S1 k
end
end Ab

namespace Ab
open PySem PySem.Spec PyProof.Rows L2

section
variable {X : Cx} {g : Gi} {W : WX} {a b c e : Expr} {es : List Expr} {pos : Pos} {wa wb wc we : WE} {wt wu : WT} {ws : WA}
variable {K : PySem.W.Frag} {H0 H : Hp} {r : List Addr} {S : Sto} {d : D} {v : V} {ds : List D}

def ixD (S : Sto) : D → Int → Option D
  | .str z, i => if z.length ≤ sizeLine then (atI z.cps.toList i).map fun c => .str ⟨#[c]⟩ else none
  | x, i => (sview S x).bind fun xs => atI xs i
def ixW : D → D → Sto → KD → Prop
  | x, .int i, S, k => ∃ d, ixD S x i = some d ∧ k d S
  | _, _, _, _ => False
theorem rels_at {ds : List D} {vs : List V} {i : Int} {d : D} (h : Rels K H0 r ds vs) (e : atI ds i = some d) : ∃ v, atI vs i = some v ∧ Rel K H0 r d v := by
  unfold atI at e ⊢
  rw [h.length]
  cases q : ixN ds.length i with
  | none => rw [q] at e; cases e
  | some j =>
    rw [q] at e
    exact h.get e
theorem good_ix : GoodO K g (rIx K) ixW := by
  intro H0 r S H d e x y k Q si h1 h2 hw ce
  unfold ixW at hw
  split at hw
  · rename_i i
    obtain ⟨d', e1, hk⟩ := hw
    rw [rel_int h2]
    unfold ixD at e1
    split at e1
    · rename_i z
      rw [rel_str h1]
      split at e1
      · rename_i hz
        cases q : atI z.cps.toList i with
        | none => rw [q] at e1; cases e1
        | some c =>
          rw [q] at e1
          cases e1
          exact .inr (.inr ⟨z, i, c, rfl, rfl, hz, q, ce _ _ _ _ _ _ .refl si rel_str' hk⟩)
      · cases e1
    · cases q : sview S d with
      | none => rw [q] at e1; cases e1
      | some xs =>
        rw [q] at e1
        have e1 : atI xs i = some d' := e1
        obtain ⟨p, ys, rfl, q1, q2⟩ := sview_rel si h1 q
        obtain ⟨v', e2, r2⟩ := rels_at q2 e1
        rcases q1 with q1 | q1
        · exact .inl ⟨p, ys, i, v', rfl, rfl, q1, e2, ce _ _ _ _ _ _ .refl si r2 hk⟩
        · exact .inr (.inl ⟨p, ys, i, v', rfl, rfl, q1, e2, ce _ _ _ _ _ _ .refl si r2 hk⟩)
  · exact hw.elim
theorem se_ix (ha : SE X g W a wa) (hb : SE X g W b wb) (hs : PlainIx b := by intro _ _; rfl) : SE X g W (.Subscript a b pos) (wOp ixW wa wb) := by
  obtain ⟨ta, pa, ga⟩ := ha
  obtain ⟨tb, pb, gb⟩ := hb
  exact ⟨_, pe_ix ix_seq pa pb hs, goodOp good_ix ga gb⟩

abbrev WO := XE → Env → Sto → (Option Int → Sto → Prop) → Prop
def GoodPO (X : Cx) (g : Gi) (W : WX) (te : TO) (w : WO) : Prop :=
  ∀ H0 r S H s sv (Q : Option Int → Hp → Prop) (k : Option Int → Sto → Prop) xc, Sim X.K g H0 r S H → RelSt X.K H0 r s sv → w xc s S k →
    (∀ b H0' r' S' H', Fut H0 r H H0' r' H' → Sim X.K g H0' r' S' H' → k b S' → Q b H') → CtX X.K g H0 r H s sv xc W → te sv H Q
def SO (X : Cx) (g : Gi) (W : WX) (e : Option Expr) (w : WO) : Prop := ∃ te, PO X e te ∧ GoodPO X g W te w
def wNoP : WO := fun (_ : HG XE) _ S k => k none S
def kSoP (k : Option Int → Sto → Prop) : D → Sto → Prop := fun (x0 : HG (D)) x1 => match x0, x1 with
  | .int i, S => k (some i) S
  | _, _ => False
def wSoP (w : WE) : WO := fun (xc : HG XE) s S k => w xc s S (kSoP k)
theorem so_none : SO X g W none wNoP := ⟨_, po_none, fun _ _ _ _ _ _ _ _ _ si _ h ce _ => ce _ _ _ _ _ .refl si h⟩
theorem so_some (ha : SE X g W a wa) : SO X g W (some a) (wSoP wa) := by
  obtain ⟨ta, pa, ga⟩ := ha
  refine ⟨_, po_some pa, fun H0 r S H s sv Q k xc si rs h ce cx => ?_⟩
  refine ga H0 r S H s sv _ _ xc si rs h (fun d v H1 r1 S1 H1' f1 s1 rl h1 => ?_) cx
  unfold kSoP at h1
  split at h1
  · exact ⟨_, rel_int rl, ce _ _ _ _ _ f1 s1 h1⟩
  · exact h1.elim
def cutD (xs : List D) (lo hi : Option Int) : List D := (xs.drop (HT.sIx xs.length 0 lo)).take (HT.sIx xs.length xs.length hi - HT.sIx xs.length 0 lo)
theorem rels_cut {ds : List D} {vs : List V} {lo hi : Option Int} (h : Rels K H0 r ds vs) : Rels K H0 r (cutD ds lo hi) (cutV vs lo hi) := by
  unfold cutD cutV
  rw [h.length]
  exact (h.drop _).take _
def slW : D → Option Int → Option Int → Sto → KD → Prop
  | .tup xs, lo, hi, S, k => ¬ (HT.sIx xs.length 0 lo = 0 ∧ HT.sIx xs.length xs.length hi = xs.length) ∧ k (.tup (cutD xs lo hi)) S
  | x, lo, hi, S, k => ∃ xs, lview S x = some xs ∧ k (.lst (cutD xs lo hi)) S
def wSl (wa : WE) (wl wh : WO) : WE := fun (xc : HG XE) s S k => wa xc s S fun x S1 => wl xc s S1 fun l S2 => wh xc s S2 fun u S3 => slW x l u S3 k
theorem se_slice {lo hi : Option Expr} {wl wh : WO} {p2 : Pos} (ha : SE X g W a wa) (hl : SO X g W lo wl) (hh : SO X g W hi wh) : SE X g W (.Subscript a (.Slice lo hi none p2) pos) (wSl wa wl wh) := by
  obtain ⟨ta, pa, ga⟩ := ha
  obtain ⟨tl, pl, gl⟩ := hl
  obtain ⟨th, ph, gh⟩ := hh
  refine ⟨_, pe_slice (sl_list.or sl_tup) pa pl ph, fun H0 r S H s sv Q k xc si rs h ce cx => ?_⟩
  refine ga H0 r S H s sv _ _ xc si rs h (fun d v H1 r1 S1 H1' f1 s1 rl h1 => ?_) cx
  refine gl H1 r1 S1 H1' s sv _ _ xc s1 (rs.fut f1) h1 (fun l H2 r2 S2 H2' f2 s2 h2 => ?_) (cx.fut f1 s1)
  have f12 := f1.tr s1 f2
  refine gh H2 r2 S2 H2' s sv _ _ xc s2 (rs.fut f12) h2 (fun u H3 r3 S3 H3' f3 s3 h3 => ?_) (cx.fut f12 s2)
  have f13 := f12.tr s2 f3
  have rl3 := (rl.fut f2).fut f3
  unfold slW at h3
  split at h3
  · obtain ⟨nw, hk⟩ := h3
    obtain ⟨p, ys, rfl, q1, q2⟩ := tview_rel s3 rl3 rfl
    refine .inr ⟨p, ys, rfl, q1, by rw [q2.length]; exact nw, fun q hq => ?_⟩
    obtain ⟨s4, f4, rl4⟩ := s3.tup hq (rels_cut q2)
    exact ce _ _ _ _ _ _ (f13.tr s3 f4) s4 rl4 hk
  · obtain ⟨xs, e1, hk⟩ := h3
    obtain ⟨p, ys, rfl, q1, q2⟩ := lview_rel s3 rl3 e1
    refine .inl ⟨p, ys, rfl, q1, fun q hq => ?_⟩
    obtain ⟨s4, f4, rl4⟩ := s3.lst hq (rels_cut q2)
    exact ce _ _ _ _ _ _ (f13.tr s3 f4) s4 rl4 hk

def wNil : WA := fun (_ : HG XE) _ S k => k [] S
def wCons (wa : WE) (ws : WA) : WA := fun (xc : HG XE) s S k => wa xc s S fun d S1 => ws xc s S1 fun ds S2 => k (d :: ds) S2
theorem sa_nil : SA X g W [] wNil := ⟨_, pa_nil, fun _ _ _ _ _ _ _ _ _ si _ h ce _ => ce _ _ _ _ _ _ .refl si .nil h⟩
theorem sa_cons (ha : SE X g W a wa) (hs : SA X g W es ws) (hst : starEach (a :: es) X.env = (false, eval a X.env) :: starEach es X.env := by rfl) : SA X g W (a :: es) (wCons wa ws) := by
  obtain ⟨ta, pa, ga⟩ := ha
  obtain ⟨tb, pb, gb⟩ := hs
  refine ⟨_, pa_cons pa pb hst, fun H0 r S H s sv Q k xc si rs h ce cx => ?_⟩
  refine ga H0 r S H s sv _ _ xc si rs h (fun d v H1 r1 S1 H1' f1 s1 rl h1 => ?_) cx
  refine gb H1 r1 S1 H1' s sv _ _ xc s1 (rs.fut f1) h1 (fun ds vs H2 r2 S2 H2' f2 s2 rl2 h2 => ?_) (cx.fut f1 s1)
  exact ce _ _ _ _ _ _ (f1.tr s1 f2) s2 (.cons (rl.fut f2) rl2) h2
def wTup (ws : WA) : WE := fun (xc : HG XE) s S k => ws xc s S fun ds S1 => ds.length ≤ sizeLine ∧ k (.tup ds) S1
def wLst (ws : WA) : WE := fun (xc : HG XE) s S k => ws xc s S fun ds S1 => ds.length ≤ sizeLine ∧ k (.lst ds) S1
def wLstC (ws : WA) : WE := fun (xc : HG XE) s S k => ws xc s S fun ds S1 => ds.length ≤ sizeLine ∧ k (.cell S1.length) (S1 ++ [.lst ds])
theorem se_tup {x1} (hs : SA X g W es ws) : SE X g W (.Tuple es x1 pos) (wTup ws) := by
  obtain ⟨ta, pa, ga⟩ := hs
  refine ⟨_, pe_tup pa, fun H0 r S H s sv Q k xc si rs h ce cx => ?_⟩
  refine ga H0 r S H s sv _ _ xc si rs h (fun ds vs H1 r1 S1 H1' f1 s1 rl h1 => ?_) cx
  refine ⟨by rw [rl.length]; exact h1.1, fun p hp => ?_⟩
  obtain ⟨s4, f4, rl4⟩ := s1.tup hp rl
  exact ce _ _ _ _ _ _ (f1.tr s1 f4) s4 rl4 h1.2
theorem se_lst (hs : SA X g W es ws) : SE X g W (.List es pos) (wLst ws) := by
  obtain ⟨ta, pa, ga⟩ := hs
  refine ⟨_, pe_lst pa, fun H0 r S H s sv Q k xc si rs h ce cx => ?_⟩
  refine ga H0 r S H s sv _ _ xc si rs h (fun ds vs H1 r1 S1 H1' f1 s1 rl h1 => ?_) cx
  refine ⟨by rw [rl.length]; exact h1.1, fun p hp => ?_⟩
  obtain ⟨s4, f4, rl4⟩ := s1.lst hp rl
  exact ce _ _ _ _ _ _ (f1.tr s1 f4) s4 rl4 h1.2
theorem Sim.newLst {xs : List V} {p : Addr} (si : Sim K g H0 r S H) (hp : H p = none) (h : Rels K H0 r ds xs) :
    Sim K g H0 (r ++ [p]) (S ++ [.lst ds]) (upd H p (.lst xs)) ∧ Fut H0 r H H0 (r ++ [p]) (upd H p (.lst xs)) ∧ Rel K H0 (r ++ [p]) (.cell S.length) (.ref p) := by
  obtain ⟨h1, h2⟩ := si.new (o := .lst xs) (c := .lst ds) hp fun H' e => ⟨si.ex.none hp, xs, e, h⟩
  refine ⟨h1, h2, ?_⟩
  unfold Rel
  exact ⟨p, rfl, by rw [← si.len, List.getElem?_append_right (Nat.le_refl _), Nat.sub_self]; rfl⟩
theorem se_lstC (hs : SA X g W es ws) : SE X g W (.List es pos) (wLstC ws) := by
  obtain ⟨ta, pa, ga⟩ := hs
  refine ⟨_, pe_lst pa, fun H0 r S H s sv Q k xc si rs h ce cx => ?_⟩
  refine ga H0 r S H s sv _ _ xc si rs h (fun ds vs H1 r1 S1 H1' f1 s1 rl h1 => ?_) cx
  refine ⟨by rw [rl.length]; exact h1.1, fun p hp => ?_⟩
  obtain ⟨s4, f4, rl4⟩ := s1.newLst hp rl
  exact ce _ _ _ _ _ _ (f1.tr s1 f4) s4 rl4 h1.2

def frzC : Option Cel → Nat → Sto → KD → Prop
  | some (.lst xs), n, S, k => k (.lst xs) (S.set n .dead)
  | _, _, _, _ => False
def frzW : D → Sto → KD → Prop
  | .cell n, S, k => frzC S[n]? n S k
  | d, S, k => k d S
def wFrz (w : WE) : WE := fun (xc : HG XE) s S k => w xc s S fun d S1 => frzW d S1 k
theorem frz_good {H0 : Hp} {r : List Addr} {S : Sto} {H : Hp} {k : KD} {Q : VK} (si : Sim K g H0 r S H) (rl : Rel K H0 r d v) (h : frzW d S k) (ce : CtE K g H0 r H k Q) : Q v H := by
  unfold frzW at h
  split at h
  · rename_i n _ _
    unfold frzC at h
    split at h
    · rename_i xs _ _ _ hS
      unfold Rel at rl
      obtain ⟨p, rfl, hr⟩ := rl
      obtain ⟨ys, hp, s2, f2, rx⟩ := si.freeze hr hS
      refine ce _ _ _ _ _ _ f2 s2 ?_ h
      unfold Rel
      exact ⟨p, ys, rfl, .inl upd_same, rx.fut f2⟩
    · exact h.elim
  · exact ce _ _ _ _ _ _ .refl si rl h
theorem se_frz (ha : SE X g W a wa) : SE X g W a (wFrz wa) := by
  obtain ⟨ta, pa, ga⟩ := ha
  refine ⟨_, pa, fun H0 r S H s sv Q k xc si rs h ce cx => ?_⟩
  exact ga H0 r S H s sv _ _ xc si rs h (fun d v H1 r1 S1 H1' f1 s1 rl h1 => frz_good s1 rl h1 (ce.fut f1 s1)) cx

abbrev CW := List D → Sto → KD → Prop
def GoodCl (K : PySem.W.Frag) (g : Gi) (rr : List V → Hp → VK → Prop) (f : CW) : Prop :=
  ∀ H0 r S H ds vs k Q, Sim K g H0 r S H → Rels K H0 r ds vs → f ds S k → CtE K g H0 r H k Q → rr vs H Q
def wB (f : CW) (ws : WA) : WE := fun (xc : HG XE) s S k => ws xc s S fun ds S1 => f ds S1 k
theorem goodCl {rr : List V → Hp → VK → Prop} {f : CW} {t : TA} (gc : GoodCl X.K g rr f) (ga : GoodA X g W t ws) : GoodE X g W (tCB rr t) (wB f ws) := by
  intro H0 r S H s sv Q k xc si rs h ce cx
  exact ga H0 r S H s sv _ _ xc si rs h (fun ds vs H1 r1 S1 H1' f1 s1 rl h1 => gc H1 r1 S1 H1' ds vs k Q s1 rl h1 (ce.fut f1 s1)) cx
theorem se_callB {x : Str} {p : Pos} {id : String} {rr : List V → Hp → VK → Prop} {f : CW} (hc : CallR X (.builtin id) rr) (gc : GoodCl X.K g rr f) (hg : Gl X x) (hm : X.mg x = none) (hv : bootBuiltins x = some (.builtin id))
    (ha : SA X g W (e :: es) ws) (hn : x ≠ "__name__" := by decide) (hdb : (x == ("__debug__" : Str)) = false := by decide)
    (he : starEach (e :: es) X.env = (false, eval e X.env) :: starEach es X.env := by rfl) (hpl : (backTo pos (starEach es X.env)).any (·.1) = false := by rfl) : SE X g W (.Call (.Name x p) (e :: es) [] pos) (wB f ws) := by
  obtain ⟨ta, pa, ga⟩ := ha
  exact ⟨_, pe_callB hc hg hm hv pa hn hdb he hpl, goodCl gc ga⟩
theorem se_callTy {x : Str} {p : Pos} {T : String} {rr : List V → Hp → VK → Prop} {f : CW} (hc : CallR X (.type T) rr) (gc : GoodCl X.K g rr f) (hg : Gl X x) (hm : X.mg x = none) (hv : bootBuiltins x = some (.type T))
    (ha : SA X g W (e :: es) ws) (hn : x ≠ "__name__" := by decide) (hdb : (x == ("__debug__" : Str)) = false := by decide)
    (he : starEach (e :: es) X.env = (false, eval e X.env) :: starEach es X.env := by rfl) (hpl : (backTo pos (starEach es X.env)).any (·.1) = false := by rfl) : SE X g W (.Call (.Name x p) (e :: es) [] pos) (wB f ws) := by
  obtain ⟨ta, pa, ga⟩ := ha
  exact ⟨_, pe_callTy hc hg hm hv pa hn hdb he hpl, goodCl gc ga⟩
def lenF : List D → Sto → KD → Prop
  | [.str z], S, k => z.length ≤ sizeLine ∧ k (.int z.length) S
  | [x], S, k => ∃ xs, sview S x = some xs ∧ k (.int xs.length) S
  | _, _, _ => False
def rLenU (K : PySem.W.Frag) : List V → Hp → VK → Prop := fun xs H Q => (∃ p ys, xs = [.ref p] ∧ (SqL K H p ys ∨ SqT K H p ys) ∧ Q (.int ys.length) H) ∨ ∃ z, xs = [.str z] ∧ z.length ≤ sizeLine ∧ Q (.int z.length) H
theorem rels1 (h : Rels K H0 r [d] ds') : ∃ v, ds' = [v] ∧ Rel K H0 r d v := by
  obtain ⟨v, ys, rfl, h1, h2⟩ := h.uncons
  rw [h2.unnil]
  exact ⟨v, rfl, h1⟩
theorem good_len : GoodCl K g (rLenU K) lenF := by
  intro H0 r S H ds vs k Q si rl h ce
  unfold lenF at h
  split at h
  · obtain ⟨v, rfl, h1⟩ := rels1 rl
    rw [rel_str h1]
    exact .inr ⟨_, rfl, h.1, ce _ _ _ _ _ _ .refl si rel_int' h.2⟩
  · obtain ⟨v, rfl, h1⟩ := rels1 rl
    obtain ⟨xs, e, hk⟩ := h
    obtain ⟨p, ys, rfl, q1, q2⟩ := sview_rel si h1 e
    refine .inl ⟨p, ys, rfl, q1, ?_⟩
    rw [q2.length]
    exact ce _ _ _ _ _ _ .refl si rel_int' hk
  · exact h.elim
theorem se_len {p : Pos} (hg : Gl X "len") (hm : X.mg "len" = none) (ha : SA X g W [e] ws) (he : starEach [e] X.env = (false, eval e X.env) :: starEach [] X.env := by rfl) (hpl : (backTo pos (starEach [] X.env)).any (·.1) = false := by rfl) :
    SE X g W (.Call (.Name "len" p) [e] [] pos) (wB lenF ws) := se_callB (call_len_seq.or call_len_str) good_len hg hm PySem.boot_len ha (by decide) (by decide) he hpl
def absF : List D → Sto → KD → Prop
  | [.int i], S, k => k (.int (if i < 0 then -i else i)) S
  | _, _, _ => False
theorem good_abs : GoodCl K g (fun xs H Q => ∃ i, xs = [.int i] ∧ Q (.int (if i < 0 then -i else i)) H) absF := by
  intro H0 r S H ds vs k Q si rl h ce
  unfold absF at h
  split at h
  · obtain ⟨v, rfl, h1⟩ := rels1 rl
    rw [rel_int h1]
    exact ⟨_, rfl, ce _ _ _ _ _ _ .refl si rel_int' h⟩
  · exact h.elim
theorem se_abs {p : Pos} (hg : Gl X "abs") (hm : X.mg "abs" = none) (ha : SA X g W [e] ws) (he : starEach [e] X.env = (false, eval e X.env) :: starEach [] X.env := by rfl) (hpl : (backTo pos (starEach [] X.env)).any (·.1) = false := by rfl) :
    SE X g W (.Call (.Name "abs" p) [e] [] pos) (wB absF ws) := se_callB call_abs good_abs hg hm (by decide +kernel) ha (by decide) (by decide) he hpl
def isInts (S : Sto) (x : D) (ns : List Int) : Prop := lview S x = some (ns.map .int)
def maxF : List D → Sto → KD → Prop
  | [.int i, .int j], S, k => k (.int (if j > i then j else i)) S
  | [x], S, k => ∃ ns : List Int, isInts S x ns ∧ 0 < ns.length ∧ ∀ m, m ∈ ns → (∀ y, y ∈ ns → y ≤ m) → k (.int m) S
  | _, _, _ => False
def minF : List D → Sto → KD → Prop
  | [.int i, .int j], S, k => k (.int (if j < i then j else i)) S
  | [x], S, k => ∃ ns : List Int, isInts S x ns ∧ 0 < ns.length ∧ ∀ m, m ∈ ns → (∀ y, y ∈ ns → m ≤ y) → k (.int m) S
  | _, _, _ => False
def sumF : List D → Sto → KD → Prop
  | [x], S, k => ∃ ns : List Int, isInts S x ns ∧ k (.int ns.sum) S
  | _, _, _ => False
theorem good_sum : GoodCl K g (rSum K) sumF := by
  intro H0 r S H ds vs k Q si rl h ce
  unfold sumF at h
  split at h
  · obtain ⟨v, rfl, h1⟩ := rels1 rl
    obtain ⟨ns, e, hk⟩ := h
    obtain ⟨p, ys, rfl, q1, q2⟩ := lview_rel si h1 e
    rw [Rels.ints] at q2
    subst q2
    exact ⟨p, ns, rfl, q1, ce _ _ _ _ _ _ .refl si rel_int' hk⟩
  · exact h.elim
theorem se_sum {p : Pos} (hc : X.calm = true) (hg : Gl X "sum") (hm : X.mg "sum" = none) (ha : SA X g W (e :: es) ws) (he : starEach (e :: es) X.env = (false, eval e X.env) :: starEach es X.env := by rfl) (hpl : (backTo pos (starEach es X.env)).any (·.1) = false := by rfl) :
    SE X g W (.Call (.Name "sum" p) (e :: es) [] pos) (wB sumF ws) := se_callB (cr_sum hc) good_sum hg hm (by decide +kernel) ha (by decide) (by decide) he hpl
def allF : List D → Sto → KD → Prop
  | [x], S, k => ∃ bs : List Bool, lview S x = some (bs.map .bl) ∧ k (.bl (bs.all id)) S
  | _, _, _ => False
def listF : List D → Sto → KD → Prop
  | [x], S, k => ∃ xs, sview S x = some xs ∧ k (.lst xs) S
  | _, _, _ => False
def listFC : List D → Sto → KD → Prop
  | [x], S, k => ∃ xs, sview S x = some xs ∧ k (.cell S.length) (S ++ [.lst xs])
  | _, _, _ => False
def rListU (K : PySem.W.Frag) : List V → Hp → VK → Prop := fun xs H Q => ∃ p ys, xs = [.ref p] ∧ (SqL K H p ys ∨ SqT K H p ys) ∧ ∀ l, H l = none → Q (.ref l) (upd H l (.lst ys))
theorem good_list : GoodCl K g (rListU K) listF := by
  intro H0 r S H ds vs k Q si rl h ce
  unfold listF at h
  split at h
  · obtain ⟨v, rfl, h1⟩ := rels1 rl
    obtain ⟨xs, e, hk⟩ := h
    obtain ⟨p, ys, rfl, q1, q2⟩ := sview_rel si h1 e
    refine ⟨p, ys, rfl, q1, fun l hl => ?_⟩
    obtain ⟨s4, f4, rl4⟩ := si.lst hl q2
    exact ce _ _ _ _ _ _ f4 s4 rl4 hk
  · exact h.elim
theorem se_list {p : Pos} (hg : Gl X "list") (hm : X.mg "list" = none) (ha : SA X g W [e] ws) (he : starEach [e] X.env = (false, eval e X.env) :: starEach [] X.env := by rfl) (hpl : (backTo pos (starEach [] X.env)).any (·.1) = false := by rfl) :
    SE X g W (.Call (.Name "list" p) [e] [] pos) (wB listF ws) := se_callTy call_list_of good_list hg hm (by decide +kernel) ha (by decide) (by decide) he hpl
def tupleF : List D → Sto → KD → Prop
  | [x], S, k => ∃ xs, sview S x = some xs ∧ k (.tup xs) S
  | _, _, _ => False
def rTupU (K : PySem.W.Frag) : List V → Hp → VK → Prop := fun xs H Q => ∃ p ys, xs = [.ref p] ∧ ((SqL K H p ys ∧ ∀ l, H l = none → Q (.ref l) (upd H l (.tup ys))) ∨ (SqT K H p ys ∧ Q (.ref p) H))
def intF : List D → Sto → KD → Prop
  | [.int i], S, k => k (.int i) S
  | [.bl b], S, k => k (.int (if b then 1 else 0)) S
  | _, _, _ => False
def sortedF : List D → Sto → KD → Prop
  | [x], S, k => ∃ ns : List Int, isInts S x ns ∧ ∀ ms : List Int, ms.Perm ns → ms.Pairwise (· ≤ ·) → k (.lst (ms.map .int)) S
  | _, _, _ => False
inductive Ty where | int | bool | list | tuple | str
  deriving DecidableEq
def Ty.nm : Ty → String
  | .int => "int" | .bool => "bool" | .list => "list" | .tuple => "tuple" | .str => "str"
def isiB : String → Ty → Bool
  | "int", .int => true
  | "bool", .int => true
  | "bool", .bool => true
  | "list", .list => true
  | "tuple", .tuple => true
  | "str", .str => true
  | _, _ => false
def tyD (S : Sto) : D → Option String
  | .non => some "NoneType"
  | .bl _ => some "bool"
  | .int _ => some "int"
  | .str _ => some "str"
  | .tup _ => some "tuple"
  | .lst _ => some "list"
  | .scr _ => some "list"
  | .cell n => match S[n]? with
    | some (.lst _) => some "list"
    | some (.dk _) => some "dict"
    | _ => none
  | .exn .. => none
theorem tyD_rel (si : Sim K g H0 r S H) (h : Rel K H0 r d v) {t : String} (e : tyD S d = some t) : TyX K H v (.type t) := by
  cases d with
  | non => cases e; rw [rel_non h]; exact .base .non
  | bl b => cases e; rw [rel_bl h]; exact .base (.bl b)
  | int i => cases e; rw [rel_int h]; exact .base (.int i)
  | str s => cases e; rw [rel_str h]; exact .base (.str s)
  | tup xs =>
    cases e
    obtain ⟨p, ys, rfl, q1, q2⟩ := tview_rel (d := .tup xs) si h rfl
    rcases q1 with (q1 | ⟨o, q1⟩) | ⟨o, its, n, q1, q2, _⟩
    · exact .base (.tup q1)
    · exact .fTuple q1
    · exact .kTuple q1 q2
  | lst xs =>
    cases e
    obtain ⟨p, ys, rfl, q1, q2⟩ := rview_rel (d := .lst xs) si h rfl
    rcases q1 with q1 | ⟨o, q1⟩
    · exact .base (.lst q1)
    · exact .base (.frz q1)
  | scr xs =>
    cases e
    obtain ⟨p, ys, rfl, q1, q2⟩ := lview_rel (d := .scr xs) si h rfl
    rcases q1 with (q1 | ⟨o, q1⟩) | ⟨o, its, n, q1, q2, _⟩
    · exact .base (.lst q1)
    · exact .base (.frz q1)
    · exact .kList q1 q2
  | cell n =>
    unfold Rel at h
    obtain ⟨a, rfl, hr⟩ := h
    have e : (match S[n]? with
      | some (.lst _) => some "list"
      | some (.dk _) => some "dict"
      | _ => none) = some t := e
    split at e
    · rename_i xs hS
      cases e
      obtain ⟨_, ys, q1, _⟩ := si.cel n a _ hr hS
      exact .base (.lst q1)
    · rename_i xs hS
      cases e
      obtain ⟨_, ys, q1, _⟩ := si.cel n a _ hr hS
      exact .base (.dK q1)
    · cases e
  | exn _ _ => cases e
theorem tyD_some {t : String} (e : tyD S d = some t) : t = "NoneType" ∨ t = "bool" ∨ t = "int" ∨ t = "str" ∨ t = "tuple" ∨ t = "list" ∨ t = "dict" := by
  cases d with
  | cell n =>
    have e : (match S[n]? with
      | some (.lst _) => some "list"
      | some (.dk _) => some "dict"
      | _ => none) = some t := e
    split at e
    · cases e; simp
    · cases e; simp
    · cases e
  | exn _ _ => cases e
  | _ => cases e; simp
theorem kit_isi {t : String} {n : Ty} (h : t = "NoneType" ∨ t = "bool" ∨ t = "int" ∨ t = "str" ∨ t = "tuple" ∨ t = "list" ∨ t = "dict") : kitB t n.nm = some (isiB t n) := by
  rcases h with rfl | rfl | rfl | rfl | rfl | rfl | rfl <;> cases n <;> decide +kernel
def isiD (S : Sto) (n : Ty) : D → Option Bool
  | .non => some false
  | .bl _ => some (decide (n = .int) || decide (n = .bool))
  | .int _ => some (decide (n = .int))
  | .str _ => some (decide (n = .str))
  | .tup _ => some (decide (n = .tuple))
  | .lst _ => some (decide (n = .list))
  | .scr _ => some (decide (n = .list))
  | .cell m => match S[m]? with
    | some (.lst _) => some (decide (n = .list))
    | some (.dk _) => some false
    | _ => none
  | .exn .. => none
theorem isiD_ty {n : Ty} {b : Bool} (e : isiD S n d = some b) : ∃ t, tyD S d = some t ∧ isiB t n = b := by
  cases d with
  | cell m =>
    have e : (match S[m]? with
      | some (.lst _) => some (decide (n = .list))
      | some (.dk _) => some false
      | _ => none) = some b := e
    show ∃ t, (match S[m]? with
      | some (.lst _) => some "list"
      | some (.dk _) => some "dict"
      | _ => none) = some t ∧ isiB t n = b
    split at e
    · cases e
      exact ⟨_, rfl, by cases n <;> rfl⟩
    · cases e
      exact ⟨_, rfl, by cases n <;> rfl⟩
    · cases e
  | exn _ _ => cases e
  | _ => cases e; exact ⟨_, rfl, by cases n <;> rfl⟩
def wIsi (n : Ty) (wa : WE) : WE := fun (xc : HG XE) s S k => wa xc s S fun d S1 => ∃ b, isiD S1 n d = some b ∧ k (.bl b) S1
theorem se_isi {x : Str} {p p2 : Pos} (n : Ty) (hg : Gl X "isinstance") (hm : X.mg "isinstance" = none) (ha : SE X g W e wa) (hg2 : Gl X x) (hm2 : X.mg x = none) (hx : bootBuiltins x = some (.type n.nm) := by decide +kernel)
    (hn2 : x ≠ "__name__" := by decide) (hd2 : (x == ("__debug__" : Str)) = false := by decide)
    (hst : starEach [e, .Name x p2] X.env = (false, eval e X.env) :: starEach [.Name x p2] X.env := by rfl) (hst2 : starEach [.Name x p2] X.env = (false, eval (.Name x p2) X.env) :: starEach [] X.env := by rfl) (hpl : (backTo pos (starEach [.Name x p2] X.env)).any (·.1) = false := by rfl) :
    SE X g W (.Call (.Name "isinstance" p) [e, .Name x p2] [] pos) (wIsi n wa) := by
  obtain ⟨ta, pa, ga⟩ := ha
  refine ⟨_, pe_callB call_isi hg hm (by decide +kernel) (pa_cons pa (pa_cons (pe_bltn (v := .ty n.nm) hg2 hm2 hx rfl hn2 hd2) pa_nil hst2) hst) (by decide) (by decide) hst hpl, fun H0 r S H s sv Q k xc si rs h ce cx => ?_⟩
  refine ga H0 r S H s sv _ _ xc si rs h (fun d v H1 r1 S1 H1' f1 s1 rl h1 => ?_) cx
  obtain ⟨b, e1, hk⟩ := h1
  obtain ⟨t, e2, e3⟩ := isiD_ty e1
  refine ⟨v, .ty n.nm, .type t, .type n.nm, b, rfl, .ty _, tyD_rel s1 rl e2, ?_, ce _ _ _ _ _ _ f1 s1 rel_bl' hk⟩
  rw [← e3]
  exact kit_ty (kit_isi (tyD_some e2))
end
end Ab

namespace Ab
open PySem PySem.Spec PyProof.Rows L2

section
variable {X : Cx} {g : Gi} {W : WX} {a b c e o : Expr} {es : List Expr} {pos cpos apos : Pos} {wa wb wc we wo : WE} {wt wu : WT} {ws : WA}
variable {K : PySem.W.Frag} {H0 H : Hp} {r : List Addr} {S : Sto} {d : D} {v : V} {ds : List D}

abbrev MW := D → List D → Sto → KD → Prop
def GoodM (K : PySem.W.Frag) (g : Gi) (rr : V → List V → Hp → VK → Prop) (f : MW) : Prop :=
  ∀ H0 r S H d ds x vs k Q, Sim K g H0 r S H → Rel K H0 r d x → Rels K H0 r ds vs → f d ds S k → CtE K g H0 r H k Q → rr x vs H Q
def wM (f : MW) (wo : WE) (ws : WA) : WE := fun (xc : HG XE) s S k => wo xc s S fun o S1 => (∃ xs, lview S1 o = some xs) ∧ ws xc s S1 fun ds S2 => f o ds S2 k
def wM0 (f : MW) (wo : WE) : WE := fun (xc : HG XE) s S k => wo xc s S fun o S1 => (∃ xs, lview S1 o = some xs) ∧ f o [] S1 k
theorem tyV_list (si : Sim K g H0 r S H) (h : Rel K H0 r d v) (e : ∃ xs, lview S d = some xs) : tyV K "list" v H := by
  obtain ⟨xs, e⟩ := e
  obtain ⟨p, ys, rfl, q1, q2⟩ := lview_rel si h e
  exact .inl ⟨rfl, ys, q1⟩
theorem se_m {name : Str} {id : String} {rr : V → List V → Hp → VK → Prop} {f : MW} (slot : Slot "list" name id) (hty : typeOf (.builtin id) = pure (.type "method_descriptor")) (hm : MtR X id rr) (gm : GoodM X.K g rr f) (ho : SE X g W o wo) (ha : SA X g W (e :: es) ws)
    (hbase : attributeBase o name X.env (eval o X.env) = eval o X.env := by rfl)
    (hfew : ((backTo cpos (starEach (e :: es) X.env)).all (fun x => !x.1) && (backToKw cpos (keywordEach [] X.env)).all (fun x => x.1.isSome)
      && decide ((e :: es).length + ([] : List Keyword).length + (if ([] : List Keyword).isEmpty then 0 else 1) < 30)) = true := by rfl)
    (hline : (apos.endLine == cpos.line) = true := by rfl) (hs : starEach (e :: es) X.env = (false, eval e X.env) :: starEach es X.env := by rfl) (hplain : (backTo cpos (starEach es X.env)).any (·.1) = false := by rfl) :
    SE X g W (.Call (.Attribute o name apos) (e :: es) [] cpos) (wM f wo ws) := by
  obtain ⟨to, po, go⟩ := ho
  obtain ⟨ta, pa, ga⟩ := ha
  refine ⟨_, pe_bm PySem.F.plainAttrs_list slot hty hm po pa hbase hfew hline hs hplain, fun H0 r S H s sv Q k xc si rs h ce cx => ?_⟩
  refine go H0 r S H s sv _ _ xc si rs h (fun d v H1 r1 S1 H1' f1 s1 rl h1 => ?_) cx
  refine ⟨tyV_list s1 rl h1.1, ?_⟩
  refine ga H1 r1 S1 H1' s sv _ _ xc s1 (rs.fut f1) h1.2 (fun ds vs H2 r2 S2 H2' f2 s2 rl2 h2 => ?_) (cx.fut f1 s1)
  exact gm H2 r2 S2 H2' d ds v vs k Q s2 (rl.fut f2) rl2 h2 (ce.fut (f1.tr s1 f2) s2)
theorem cel_lst {n : Nat} {xs : List D} (si : Sim K g H0 r S H) (h : Rel K H0 r (.cell n) v) (e : S[n]? = some (.lst xs)) :
    ∃ p ys, v = .ref p ∧ r[n]? = some p ∧ H0 p = none ∧ H p = some (.lst ys) ∧ Rels K H0 r xs ys := by
  unfold Rel at h
  obtain ⟨p, rfl, hr⟩ := h
  obtain ⟨h0, ys, h1, h2⟩ := si.cel n p _ hr e
  exact ⟨p, ys, rfl, hr, h0, h1, h2⟩
theorem Sim.wrLst {n : Nat} {p : Addr} {xs : List D} {ys : List V} {c : Cel} (si : Sim K g H0 r S H) (hr : r[n]? = some p) (e : S[n]? = some c) (h0 : H0 p = none) (h : Rels K H0 r xs ys) :
    Sim K g H0 r (S.set n (.lst xs)) (upd H p (.lst ys)) ∧ Fut H0 r H H0 r (upd H p (.lst ys)) := si.write hr e h0 fun H' e' => ⟨h0, ys, e', h⟩
def appF : D → List D → Sto → KD → Prop
  | .cell n, [d], S, k => ∃ xs, S[n]? = some (.lst xs) ∧ xs.length < sizeLine ∧ k .non (S.set n (.lst (xs ++ [d])))
  | _, _, _, _ => False
theorem good_app : GoodM K g rAppend appF := by
  intro H0 r S H d ds x vs k Q si h1 h2 h ce
  unfold appF at h
  split at h
  · obtain ⟨y, rfl, h3⟩ := rels1 h2
    obtain ⟨xs, e, hl, hk⟩ := h
    obtain ⟨p, ys, rfl, hr, h0, hp, hx⟩ := cel_lst si h1 e
    obtain ⟨s2, f2⟩ := si.wrLst hr e h0 (hx.append (.cons h3 .nil))
    exact ⟨p, ys, y, rfl, rfl, hp, by rw [hx.length]; exact hl, ce _ _ _ _ _ _ f2 s2 rel_non' hk⟩
  · exact h.elim
theorem se_app (ho : SE X g W o wo) (ha : SA X g W [e] ws)
    (hbase : attributeBase o "append" X.env (eval o X.env) = eval o X.env := by rfl)
    (hfew : ((backTo cpos (starEach [e] X.env)).all (fun x => !x.1) && (backToKw cpos (keywordEach [] X.env)).all (fun x => x.1.isSome)
      && decide (([e] : List Expr).length + ([] : List Keyword).length + (if ([] : List Keyword).isEmpty then 0 else 1) < 30)) = true := by rfl)
    (hline : (apos.endLine == cpos.line) = true := by rfl) (hs : starEach [e] X.env = (false, eval e X.env) :: starEach [] X.env := by rfl) (hplain : (backTo cpos (starEach [] X.env)).any (·.1) = false := by rfl) :
    SE X g W (.Call (.Attribute o "append" apos) [e] [] cpos) (wM appF wo ws) := se_m PySem.F.slot_list_append PySem.F.type_list_append mt_append good_app ho ha hbase hfew hline hs hplain
def popF : D → List D → Sto → KD → Prop
  | .cell n, [], S, k => ∃ xs y, S[n]? = some (.lst xs) ∧ xs[xs.length - 1]? = some y ∧ k y (S.set n (.lst xs.dropLast))
  | _, _, _, _ => False
def idxF : D → List D → Sto → KD → Prop
  | o, [y], S, k => ∃ xs j z, lview S o = some xs ∧ y.flat = true ∧ xs.all D.flat = true ∧ xs[j]? = some z ∧ eqF z y = true ∧ (∀ m z', m < j → xs[m]? = some z' → eqF z' y = false) ∧ k (.int (j : Nat)) S
  | _, _, _, _ => False
def rmF : D → List D → Sto → KD → Prop
  | .cell n, [.int i], S, k => ∃ ns : List Int, S[n]? = some (.lst (ns.map .int)) ∧ i ∈ ns ∧ k .non (S.set n (.lst ((ns.erase i).map .int)))
  | _, _, _, _ => False
def spW (K : PySem.W.Frag) (g : Gi) (np : Nat) (wf : WF) : Sp := fun vs H Q E => vs.length = np ∧ ∃ H0 r S ds k xk, Sim K g H0 r S H ∧ Rels K H0 r ds vs ∧ wf ds S k xk ∧ CtE K g H0 r H k Q ∧
  ∀ c H0' r' S' H', Fut H0 r H H0' r' H' → Sim K g H0' r' S' H' → xk c S' → E (.ref (g.cl c)) none H'
def wCall (wf : WF) (ws : WA) : WE := fun (xc : HG XE) s S k => ws xc s S fun ds S1 => wf ds S1 k fun c S2 => xc c s S2
theorem se_call {x : Str} {p : Pos} {f : Addr} {fd : FuncData} {ps : List Str} {np k : Nat} {wf : WF} (F : FnOk X.prog X.w X.K X.mg X.base (L2.CX X.prog X.w) k f fd ps (spW X.K g np wf)) (hl : ∀ ds S kk xk, wf ds S kk xk → ds.length = np)
    (hr : Room k X.A) (hg : Gl X x) (hm : X.mg x = some (.ref f)) (hk : PySem.W.keepIn X.K (.ref f) = true) (hb : Binds X.K fd ps []) (tk : Takes X W)
    (ha : SA X g W (e :: es) ws) (hdb : (x == ("__debug__" : Str)) = false := by decide) (he : starEach (e :: es) X.env = (false, eval e X.env) :: starEach es X.env := by rfl) (hpl : (backTo pos (starEach es X.env)).any (·.1) = false := by rfl) :
    SE X g W (.Call (.Name x p) (e :: es) [] pos) (wCall wf ws) := by
  obtain ⟨ta, pa, ga⟩ := ha
  refine ⟨_, pe_callS F hr hg hm hk hb (fun σ => passAt tk σ) pa hdb he hpl, fun H0 r S H s sv Q k xc si rs h ce cx => ?_⟩
  refine ga H0 r S H s sv _ _ xc si rs h (fun ds vs H1 r1 S1 H1' f1 s1 rl h1 => ?_) cx
  refine ⟨by rw [rl.length]; exact hl _ _ _ _ h1, H1, r1, S1, ds, _, _, s1, rl, h1, ce.fut f1 s1, fun c H2 r2 S2 H2' f2 s2 q => ?_⟩
  exact cx _ _ _ _ _ (f1.tr s1 f2) s2 q

abbrev WI := XE → Env → Sto → (List D → (Sto → Prop) → Sto → Prop) → Prop
structure ItOk (K : PySem.W.Frag) (g : Gi) (J : It) (ds : List D) (gd : Sto → Prop) (H0 : Hp) (r : List Addr) (H : Hp) : Prop where
  go : ∀ i H0' r' S' H', Fut H0 r H H0' r' H' → Sim K g H0' r' S' H' → gd S' → i < ds.length → J.go i H' ∧ ∀ x H'', J.yld i H' x H'' → ∃ H0'' d, Fut H0' r' H' H0'' r' H'' ∧ Sim K g H0'' r' S' H'' ∧ ds[i]? = some d ∧ Rel K H0'' r' d x
  stop : ∀ H0' r' S' H', Fut H0 r H H0' r' H' → Sim K g H0' r' S' H' → gd S' → J.stop ds.length H'
def GoodI (X : Cx) (g : Gi) (W : WX) (wi : TI) (w : WI) : Prop :=
  ∀ H0 r S H s sv R k xc, Sim X.K g H0 r S H → RelSt X.K H0 r s sv → w xc s S k →
    (∀ J ds gd H0' r' S' H', Fut H0 r H H0' r' H' → Sim X.K g H0' r' S' H' → ItOk X.K g J ds gd H0' r' H' → k ds gd S' → R J H') → CtX X.K g H0 r H s sv xc W → wi sv H R
def SI (X : Cx) (g : Gi) (W : WX) (tg iter : Expr) (w : WI) : Prop := ∃ wi, PI X tg iter wi ∧ GoodI X g W wi w
def iSeq (K : PySem.W.Frag) (tl : TE) : TI := fun σ H R => tl σ H fun x H1 => ∃ a, x = .ref a ∧ (((∃ xs, SqL K H1 a xs) ∧ R (Itl K a) H1) ∨ ((∃ xs, SqT K H1 a xs) ∧ R (Itt K a) H1))
theorem pi_seq {tg l : Expr} {tl : TE} (hl : PE X l tl) : PI X tg l (iSeq X.K tl) := by
  refine ⟨fun pins s σ H R I h => ?_⟩
  refine thn (hl.run pins s σ H _ I h) fun v s1 ⟨x, H1, I1, r1, q1⟩ => ?_
  obtain ⟨a, e, q⟩ := q1
  subst e
  cases r1
  rcases q with ⟨⟨xs, hq⟩, q⟩ | ⟨⟨xs, hq⟩, q⟩
  · obtain ⟨its, rv, p, hz⟩ := I1.list hq
    refine wpAny_pyIter_list p.isList ?_
    refine ⟨s1.heap.objs.size, [s1.heap.objs.size], _, _, H1, rfl, I1.kept (t' := s1.toks) fun b o e => Heap.get?_push_of_some _ e, turn_list a _, ⟨_, Heap.get?_push_size _ rfl, rfl, rfl⟩, fun b hb => ?_, q⟩
    have e : b = s1.heap.objs.size := by simpa using hb
    subst e
    exact I1.fpOk (Nat.le_refl _) (I1.hok.fresh (Nat.le_refl _))
  · obtain ⟨its, rv, p, hz⟩ := I1.tuple hq
    refine wpAny_pyIter_tuple (show s1.heap.IsTuple a its.toArray from p) ?_
    refine ⟨s1.heap.objs.size, [s1.heap.objs.size], _, _, H1, rfl, I1.kept (t' := s1.toks) fun b o e => Heap.get?_push_of_some _ e, turn_tuple a _, ⟨_, Heap.get?_push_size _ rfl, rfl, rfl⟩, fun b hb => ?_, q⟩
    have e : b = s1.heap.objs.size := by simpa using hb
    subst e
    exact I1.fpOk (Nat.le_refl _) (I1.hok.fresh (Nat.le_refl _))
def gdOf (S : Sto) : D → Sto → Prop
  | .cell n => fun S' => S'[n]? = S[n]?
  | _ => fun _ => True
def wSeqI (wa : WE) : WI := fun (xc : HG XE) s S k => wa xc s S fun x S1 => ∃ xs, sview S1 x = some xs ∧ k xs (gdOf S1 x) S1
theorem it_list {p : Addr} {ys : List V} (hl : ∀ H0' r' S' H', Fut H0 r H H0' r' H' → Sim K g H0' r' S' H' → gdOf S d S' → ∃ ys, SqL K H' p ys ∧ Rels K H0' r' ds ys) : ItOk K g (Itl K p) ds (gdOf S d) H0 r H := by
  refine ⟨fun i H0' r' S' H' f s gd hi => ?_, fun H0' r' S' H' f s gd => ?_⟩
  · obtain ⟨ys, h1, h2⟩ := hl H0' r' S' H' f s gd
    obtain ⟨v, e1, e2⟩ := h2.get (List.getElem?_eq_getElem hi)
    refine ⟨⟨ys, v, h1, e1⟩, fun x H'' hy => ?_⟩
    obtain ⟨rfl, hx⟩ := hy
    have := hx ys h1
    rw [e1] at this
    cases this
    exact ⟨H0', _, .refl, s, List.getElem?_eq_getElem hi, e2⟩
  · obtain ⟨ys, h1, h2⟩ := hl H0' r' S' H' f s gd
    exact ⟨ys, h1, by rw [h2.length]; exact Nat.le_refl _⟩
theorem it_tup {p : Addr} {ys : List V} (hl : ∀ H0' r' S' H', Fut H0 r H H0' r' H' → Sim K g H0' r' S' H' → gdOf S d S' → ∃ ys, SqT K H' p ys ∧ Rels K H0' r' ds ys) : ItOk K g (Itt K p) ds (gdOf S d) H0 r H := by
  refine ⟨fun i H0' r' S' H' f s gd hi => ?_, fun H0' r' S' H' f s gd => ?_⟩
  · obtain ⟨ys, h1, h2⟩ := hl H0' r' S' H' f s gd
    obtain ⟨v, e1, e2⟩ := h2.get (List.getElem?_eq_getElem hi)
    refine ⟨⟨ys, v, h1, e1⟩, fun x H'' hy => ?_⟩
    obtain ⟨rfl, hx⟩ := hy
    have := hx ys h1
    rw [e1] at this
    cases this
    exact ⟨H0', _, .refl, s, List.getElem?_eq_getElem hi, e2⟩
  · obtain ⟨ys, h1, h2⟩ := hl H0' r' S' H' f s gd
    exact ⟨ys, h1, by rw [h2.length]; exact Nat.le_refl _⟩
theorem si_seq {tg : Expr} (ha : SE X g W a wa) : SI X g W tg a (wSeqI wa) := by
  obtain ⟨ta, pa, ga⟩ := ha
  refine ⟨_, pi_seq pa, fun H0 r S H s sv R k xc si rs h ce cx => ?_⟩
  refine ga H0 r S H s sv _ _ xc si rs h (fun d v H1 r1 S1 H1' f1 s1 rl h1 => ?_) cx
  obtain ⟨xs, e, hk⟩ := h1
  cases d with
  | tup ys =>
    cases e
    obtain ⟨p, vs, rfl, q1, q2⟩ := tview_rel (d := .tup xs) s1 rl rfl
    refine ⟨p, rfl, .inr ⟨⟨vs, q1⟩, ce _ _ _ _ _ _ _ f1 s1 (it_tup (ys := vs) fun H0' r' S' H' f s _ => ?_) hk⟩⟩
    obtain ⟨p', vs', e', q1', q2'⟩ := tview_rel (d := .tup xs) s (rl.fut f) rfl
    cases e'
    exact ⟨vs', q1', q2'⟩
  | lst ys =>
    cases e
    obtain ⟨p, vs, rfl, q1, q2⟩ := lview_rel (d := .lst xs) s1 rl rfl
    refine ⟨p, rfl, .inl ⟨⟨vs, q1⟩, ce _ _ _ _ _ _ _ f1 s1 (it_list (ys := vs) fun H0' r' S' H' f s _ => ?_) hk⟩⟩
    obtain ⟨p', vs', e', q1', q2'⟩ := lview_rel (d := .lst xs) s (rl.fut f) rfl
    cases e'
    exact ⟨vs', q1', q2'⟩
  | scr ys =>
    cases e
    obtain ⟨p, vs, rfl, q1, q2⟩ := lview_rel (d := .scr xs) s1 rl rfl
    refine ⟨p, rfl, .inl ⟨⟨vs, q1⟩, ce _ _ _ _ _ _ _ f1 s1 (it_list (ys := vs) fun H0' r' S' H' f s _ => ?_) hk⟩⟩
    obtain ⟨p', vs', e', q1', q2'⟩ := lview_rel (d := .scr xs) s (rl.fut f) rfl
    cases e'
    exact ⟨vs', q1', q2'⟩
  | cell n =>
    obtain ⟨p, vs, rfl, q1, q2⟩ := lview_rel (d := .cell n) s1 rl e
    refine ⟨p, rfl, .inl ⟨⟨vs, q1⟩, ce _ _ _ _ _ _ _ f1 s1 (it_list (ys := vs) fun H0' r' S' H' f s gd => ?_) hk⟩⟩
    have e2 : lview S' (.cell n) = some xs := by
      have gd : S'[n]? = S1[n]? := gd
      show (match S'[n]? with | some (.lst xs) => some xs | _ => none) = some xs
      rw [gd]
      exact e
    obtain ⟨p', vs', e', q1', q2'⟩ := lview_rel (d := .cell n) s (rl.fut f) e2
    cases e'
    exact ⟨vs', q1', q2'⟩
  | _ => cases e
def rngD (lo : Int) (n : Nat) : List D := (List.range n).map fun (k : Nat) => D.int (lo + (k : Int))
theorem it_rng {lo : Int} {n : Nat} : ItOk K g (Itr lo n) (rngD lo n) (fun _ => True) H0 r H := by
  have hl : (rngD lo n).length = n := by unfold rngD; rw [List.length_map, List.length_range]
  refine ⟨fun i H0' r' S' H' f s gd hi => ?_, fun H0' r' S' H' f s gd => by rw [hl]; exact Nat.le_refl _⟩
  rw [hl] at hi
  refine ⟨hi, fun x H'' hy => ?_⟩
  obtain ⟨rfl, rfl⟩ := hy
  refine ⟨H0', .int (lo + i), .refl, s, ?_, rel_int'⟩
  unfold rngD
  rw [List.getElem?_map, List.getElem?_range hi]
  rfl
def kRng1 (k : List D → (Sto → Prop) → Sto → Prop) : List D → Sto → Prop := fun (x0 : HG (List D)) x1 => match x0, x1 with
  | [.int j], S => -(2 ^ 62) ≤ j ∧ j < 2 ^ 62 ∧ k (rngD 0 j.toNat) (fun _ => True) S
  | _, _ => False
def kRng2 (k : List D → (Sto → Prop) → Sto → Prop) : List D → Sto → Prop := fun (x0 : HG (List D)) x1 => match x0, x1 with
  | [.int i, .int j], S => (-(2 ^ 62) ≤ i ∧ i < 2 ^ 62 ∧ -(2 ^ 62) ≤ j ∧ j < 2 ^ 62) ∧ k (rngD i (j - i).toNat) (fun _ => True) S
  | _, _ => False
def wRng1 (ws : WA) : WI := fun (xc : HG XE) s S k => ws xc s S (kRng1 k)
def wRng2 (ws : WA) : WI := fun (xc : HG XE) s S k => ws xc s S (kRng2 k)
theorem si_rng1 {tg : Expr} {p : Pos} (hg : Gl X "range") (hm : X.mg "range" = none) (ha : SA X g W [a] ws) (hs : starEach [a] X.env = [(false, eval a X.env)] := by rfl) : SI X g W tg (.Call (.Name "range" p) [a] [] pos) (wRng1 ws) := by
  obtain ⟨ta, pa, ga⟩ := ha
  refine ⟨_, pi_range1 hg hm pa hs, fun H0 r S H s sv R k xc si rs h ce cx => ?_⟩
  refine ga H0 r S H s sv _ _ xc si rs h (fun ds vs H1 r1 S1 H1' f1 s1 rl h1 => ?_) cx
  unfold kRng1 at h1
  split at h1
  · obtain ⟨v, rfl, h2⟩ := rels1 rl
    rw [rel_int h2]
    exact ⟨_, rfl, h1.1, h1.2.1, ce _ _ _ _ _ _ _ f1 s1 it_rng h1.2.2⟩
  · exact h1.elim
def wipeD (s : Env) : List Nat → Env
  | [] => s
  | v :: vs => (wipeD s vs).set v none
theorem relSt_wipe {s : Env} {sv : L2.St} (h : RelSt K H0 r s sv) : ∀ vs : List Nat, RelSt K H0 r (wipeD s vs) (wipe sv vs)
  | [] => h
  | v :: vs => (relSt_wipe h vs).unset v
def noXC : XE := fun _ _ _ => False
def wYes : WT := fun (_ : HG XE) _ S k => k true S
def STs (X : Cx) (g : Gi) (W : WX) (e : List Expr) (w : WT) : Prop := ∃ te, PTs X e te ∧ GoodT X g W te w
theorem sts_nil : STs X g W [] wYes := ⟨_, pts_nil, fun _ _ _ _ _ _ _ _ _ si _ h ce _ => ce _ _ _ _ _ .refl si h⟩
def WFls : WX := fun _ _ _ _ => False
def lcW (i : Nat) (vs : List Nat) (wt : WT) (we : WE) (ds : List D) (gd : Sto → Prop) (s : Env) (S : Sto) (fin : List D → Sto → Prop) : Prop := ds.length < sizeLine ∧ ∃ P : Nat → List D → Sto → Prop, P 0 [] S ∧
  (∀ n x acc S2, ds[n]? = some x → acc.length ≤ n → P n acc S2 → gd S2 ∧ wt noXC ((wipeD s vs).set i (some x)) S2 fun b S3 => if b = true then we noXC ((wipeD s vs).set i (some x)) S3 fun d S4 => P (n + 1) (acc ++ [d]) S4 else P (n + 1) acc S3) ∧
  ∀ acc S2, acc.length ≤ ds.length → P ds.length acc S2 → gd S2 ∧ fin acc S2
def wLc (i : Nat) (vs : List Nat) (wi : WI) (wt : WT) (we : WE) : WE := fun (xc : HG XE) s S k => wi xc s S fun ds gd S1 => lcW i vs wt we ds gd s S1 fun acc S2 => k (.lst acc) S2
def wLcC (i : Nat) (vs : List Nat) (wi : WI) (wt : WT) (we : WE) : WE := fun (xc : HG XE) s S k => wi xc s S fun ds gd S1 => lcW i vs wt we ds gd s S1 fun acc S2 => k (.cell S2.length) (S2 ++ [.lst acc])
theorem wipe_set {sv : L2.St} {vs : List Nat} {i : Nat} (hi : i ∈ vs) (v : Option V) : wipe ((wipe sv vs).set i v) vs = wipe sv vs := by
  have hw : ∀ (ws : List Nat) (s : L2.St) (n : Nat), (wipe s ws)[n]? = if n ∈ ws ∧ n < s.length then some none else s[n]? := by
    intro ws
    induction ws with
    | nil => intro s n; simp [wipe]
    | cons w ws ih =>
      intro s n
      unfold wipe
      by_cases hn : w = n
      · subst hn
        by_cases hl : w < s.length
        · rw [List.getElem?_set_self (by rw [wipe_length]; exact hl)]
          simp [hl]
        · rw [List.getElem?_eq_none (by rw [List.length_set, wipe_length]; omega)]
          simp [hl]
      · rw [List.getElem?_set_ne hn, ih]
        have : n ≠ w := Ne.symm hn
        simp [this]
  apply List.ext_getElem?
  intro n
  rw [hw, hw]
  have hl : ((wipe sv vs).set i v).length = sv.length := by rw [List.length_set, wipe_length]
  rw [hl]
  by_cases hn : n ∈ vs ∧ n < sv.length
  · rw [if_pos hn, if_pos hn]
  · rw [if_neg hn, if_neg hn]
    by_cases hin : i = n
    · subst hin
      have : ¬ i < sv.length := fun z => hn ⟨hi, z⟩
      rw [List.getElem?_eq_none (by rw [List.length_set, wipe_length]; omega), List.getElem?_eq_none (by omega)]
    · rw [List.getElem?_set_ne hin, hw, if_neg hn]
theorem lc_good {wi : TI} {w : WI} {i : Nat} {vs : List Nat} {tt : TT} {te : TE} (hi : i ∈ vs) (gi : GoodI X g W wi w)
    (gt : GoodT X g WFls tt wt) (ge : GoodE X g WFls te we) : GoodE X g W (tLc wi (gName i) tt te vs) (wLc i vs w wt we) := by
  intro H0 r S H s sv Q k xc si rs h ce cx
  refine gi H0 r S H s sv _ _ xc si rs h (fun J ds gd H1 r1 S1 H1' f1 s1 it h1 => ?_) cx
  obtain ⟨hlen, P, h0, hstep, hend⟩ := h1
  intro p hp
  have np : p ∉ r1 := fun z => s1.there p z hp
  have h0p : H1 p = none := s1.ex.none hp
  have rs1 := rs.fut f1
  -- the state at a turn: a future of (H1, r1, H1'), the made list at p, which is neither frozen nor a cell
  refine ⟨fun n m Hn => m = ds.length - n ∧ n ≤ ds.length ∧ ∃ H0n rn Sn acc ys, Fut H1 r1 H1' H0n rn Hn ∧ Sim X.K g H0n rn Sn Hn ∧ H0n p = none ∧ p ∉ rn ∧ Hn p = some (.lst ys) ∧ Rels X.K H0n rn acc ys ∧ acc.length ≤ n ∧ P n acc Sn,
    ⟨ds.length, by simp, Nat.zero_le _, ?_⟩, ?_⟩
  · obtain ⟨s2, f2⟩ := s1.junk (o := .lst []) hp
    exact ⟨H1, r1, S1, [], [], f2, s2, h0p, np, upd_same, .nil, Nat.le_refl _, h0⟩
  · rintro n m Hn ⟨rfl, hn, H0n, rn, Sn, acc, ys, fn, sn, hp0, hpr, hpn, hacc, hal, hP⟩
    by_cases hlt : n < ds.length
    · obtain ⟨x, hx⟩ : ∃ x, ds[n]? = some x := ⟨ds[n], List.getElem?_eq_getElem hlt⟩
      obtain ⟨hgd, hbody⟩ := hstep n x acc Sn hx hal hP
      obtain ⟨hgo, hy⟩ := it.go n H0n rn Sn Hn fn sn hgd hlt
      refine .inr ⟨hgo, fun H' => ∃ H0n rn Sn acc ys, Fut H1 r1 H1' H0n rn H' ∧ Sim X.K g H0n rn Sn H' ∧ H0n p = none ∧ p ∉ rn ∧ H' p = some (.lst ys) ∧ Rels X.K H0n rn acc ys ∧ acc.length ≤ n + 1 ∧ P (n + 1) acc Sn,
        fun H' hq => ⟨ds.length - (n + 1), by omega, rfl, hlt, hq⟩, fun v H'' hyl => ?_⟩
      obtain ⟨H0y, d, fy, sy, hd, rly⟩ := hy v H'' hyl
      rw [hx] at hd
      cases hd
      have hpy : H'' p = some (.lst ys) := fy.keep p _ hpn hpr
      have hp0y : H0y p = none := by
        cases q : H0y p with
        | none => rfl
        | some o =>
          rcases fy.newF p o q hp0 with z | z
          · rw [hpn] at z; cases z
          · exact absurd z hpr
      have fny := fn.tr sn fy
      have accy := hacc.fut fy
      have rsy : RelSt X.K H0y rn ((wipeD s vs).set i (some x)) ((wipe sv vs).set i (some v)) := (relSt_wipe (rs1.fut fny) vs).set i rly
      refine ⟨wipe_set hi _, ?_⟩
      refine gt H0y rn Sn H'' _ _ _ _ noXC sy rsy hbody (fun b H2 r2 S2 H2' f2 s2 h2 => ?_) (fun _ _ _ _ _ _ _ z => z)
      have fn2 := fny.tr sy f2
      have hp2 : H2' p = some (.lst ys) := f2.keep p _ hpy hpr
      have hr2 : p ∉ r2 := fun z => by
        have := f2.newC p z hpr
        rw [hpy] at this; cases this
      have h02 : H2 p = none := by
        cases q : H2 p with
        | none => rfl
        | some o =>
          rcases f2.newF p o q hp0y with z | z
          · rw [hpy] at z; cases z
          · exact absurd z hpr
      cases b with
      | false =>
        rw [if_neg Bool.false_ne_true] at h2 ⊢
        exact ⟨H2, r2, S2, acc, ys, fn2, s2, h02, hr2, hp2, accy.fut f2, by omega, h2⟩
      | true =>
        rw [if_pos rfl] at h2 ⊢
        refine ge H2 r2 S2 H2' _ _ _ _ noXC s2 (rsy.fut f2) h2 (fun d v2 H3 r3 S3 H3' f3 s3 rl3 h3 => ?_) (fun _ _ _ _ _ _ _ z => z)
        have fn3 := fn2.tr s2 f3
        have hp3 : H3' p = some (.lst ys) := f3.keep p _ hp2 hr2
        have hr3 : p ∉ r3 := fun z => by
          have := f3.newC p z hr2
          rw [hp2] at this; cases this
        have h03 : H3 p = none := by
          cases q : H3 p with
          | none => rfl
          | some o =>
            rcases f3.newF p o q h02 with z | z
            · rw [hp2] at z; cases z
            · exact absurd z hr2
        have acc3 := (accy.fut f2).fut f3
        refine ⟨ys, hp3, by rw [acc3.length]; omega, ?_⟩
        -- p is written
        have s4 : Sim X.K g H3 r3 S3 (upd H3' p (.lst (ys ++ [v2]))) := by
          refine ⟨fun a o e => ?_, s3.len, s3.nd, fun a ha => ?_, fun n' a c e1 e2 => ?_⟩
          · have : a ≠ p := fun z => by rw [z, h03] at e; cases e
            rw [upd_ne this]; exact s3.ex a o e
          · have : a ≠ p := fun z => hr3 (z ▸ ha)
            rw [upd_ne this]; exact s3.there a ha
          · have : a ≠ p := fun z => hr3 (z ▸ List.mem_of_getElem? e1)
            exact (s3.cel n' a c e1 e2).mono (Ex.refl _) (List.prefix_refl _) (fun q => q) (upd_ne this)
        have f4 : Fut H1 r1 H1' H3 r3 (upd H3' p (.lst (ys ++ [v2]))) := by
          refine ⟨fn3.ext, fn3.pre, fun a o e na => ?_, fn3.newC, fn3.newF⟩
          have : a ≠ p := fun z => by rw [z, hp] at e; cases e
          rw [upd_ne this]
          exact fn3.keep a o e na
        exact ⟨H3, r3, S3, acc ++ [d], ys ++ [v2], f4, s4, h03, hr3, upd_same, acc3.append (.cons rl3 .nil), by rw [List.length_append, List.length_singleton]; omega, h3⟩
    · have e : n = ds.length := by omega
      subst e
      obtain ⟨hgd, hk⟩ := hend acc Sn hal hP
      refine .inl ⟨it.stop H0n rn Sn Hn fn sn hgd, ?_⟩
      -- the list is frozen now
      refine ce (.lst acc) (.ref p) (upd H0n p (.lst ys)) rn Sn Hn (f1.tr s1 ?_) ?_ ?_ hk
      · refine ⟨fn.ext.trans (Ex.new hp0), fn.pre, fn.keep, fn.newC, fun a u e en => ?_⟩
        by_cases ha : a = p
        · subst ha
          exact .inl hp
        · rw [upd_ne ha] at e
          exact fn.newF a u e en
      · refine ⟨fun a o e => ?_, sn.len, sn.nd, sn.there, fun n' a c e1 e2 => ?_⟩
        · by_cases ha : a = p
          · subst ha; rw [upd_same] at e; cases e; exact hpn
          · rw [upd_ne ha] at e; exact sn.ex a o e
        · have : a ≠ p := fun z => hpr (z ▸ List.mem_of_getElem? e1)
          exact (sn.cel n' a c e1 e2).mono (Ex.new hp0) (List.prefix_refl _) (fun q => by rw [upd_ne this]; exact q) rfl
      · unfold Rel
        exact ⟨p, ys, rfl, .inl upd_same, hacc.mono (Ex.new hp0) (List.prefix_refl _)⟩
end
end Ab

namespace Ab
open PySem PySem.Spec PyProof.Rows L2

section
variable {X : Cx} {g : Gi} {W : WX} {a b c e o : Expr} {es : List Expr} {pos cpos apos : Pos} {wa wb wc we wo : WE} {wt wu : WT} {ws : WA}
variable {K : PySem.W.Frag} {H0 H : Hp} {r : List Addr} {S : Sto} {d : D} {v : V} {ds : List D}

def canE (K : PySem.W.Frag) (g : Gi) (W : WX) (w : WE) : TE := fun sv H Q => ∃ H0 r S s k xc, Sim K g H0 r S H ∧ RelSt K H0 r s sv ∧ w xc s S k ∧ CtE K g H0 r H k Q ∧ CtX K g H0 r H s sv xc W
def canT (K : PySem.W.Frag) (g : Gi) (W : WX) (w : WT) : TT := fun sv H Q => ∃ H0 r S s k xc, Sim K g H0 r S H ∧ RelSt K H0 r s sv ∧ w xc s S k ∧
  (∀ b H0' r' S' H', Fut H0 r H H0' r' H' → Sim K g H0' r' S' H' → k b S' → Q b H') ∧ CtX K g H0 r H s sv xc W
theorem SE.pe (h : SE X g W e we) : PE X e (canE X.K g W we) := by
  obtain ⟨te, pe, ge⟩ := h
  exact ⟨fun pins s σ H Q I ⟨H0, r, S, sd, k, xc, si, rs, hw, ce, cx⟩ => pe.run pins s σ H Q I (ge H0 r S H sd σ Q k xc si rs hw ce cx)⟩
theorem STs.pt {ifs : List Expr} (h : STs X g W ifs wt) : PTs X ifs (canT X.K g W wt) := by
  obtain ⟨te, pe, ge⟩ := h
  exact ⟨fun pins s σ H Q I ⟨H0, r, S, sd, k, xc, si, rs, hw, ce, cx⟩ => pe.run pins s σ H Q I (ge H0 r S H sd σ Q k xc si rs hw ce cx)⟩
theorem canE_good : GoodE X g W (canE X.K g W we) we := fun H0 r S H s sv Q k xc si rs h ce cx => ⟨H0, r, S, s, k, xc, si, rs, h, ce, cx⟩
theorem canT_good : GoodT X g W (canT X.K g W wt) wt := fun H0 r S H s sv Q k xc si rs h ce cx => ⟨H0, r, S, s, k, xc, si, rs, h, ce, cx⟩

theorem se_lc {elt iter : Expr} {ifs : List Expr} {scope : Scope} {own : List (Str × Nat)} {i : Nat} {x : Str} {wi : WI} {p : Pos} (hc : X.calm = true) (hN : X.N.Nodup) (hi : SI X g W (.Name x p) iter wi) (ok : BlkOk X.N X.env.scope scope own) (hin : i ∈ own.map (·.2))
    (hg : ∀ (s : Shared) (H : Hp) (C : Addr) (cl : List (Str × Addr)) (fp : List Addr), PG (X.blk s H scope (compEnvC scope cl C X.env) fp) (.Name x p) (gName i))
    (ht : ∀ (s : Shared) (H : Hp) (C : Addr) (cl : List (Str × Addr)) (fp : List Addr), STs (X.blk s H scope (compEnvC scope cl C X.env) fp) g WFls ifs wt)
    (he : ∀ (s : Shared) (H : Hp) (C : Addr) (cl : List (Str × Addr)) (fp : List Addr), SE (X.blk s H scope (compEnvC scope cl C X.env) fp) g WFls elt we) (hs : ∀ x, foldedSetIterable iter X.env x = pure x := by intro _; rfl) :
    SE X g W (.ListComp elt [⟨.Name x p, iter, ifs, 0⟩] scope pos) (wLc i (own.map (·.2)) wi wt we) := by
  obtain ⟨ti, pi, gi⟩ := hi
  refine ⟨_, pe_lc (te := canE X.K g WFls we) (tt := canT X.K g WFls wt) hc hN pi ok hg (fun s H C cl fp => (ht s H C cl fp).pt) (fun s H C cl fp => (he s H C cl fp).pe) hs, fun H0 r S H s sv Q k xc si rs h ce cx => ?_⟩
  exact lc_good hin gi canT_good canE_good H0 r S H s sv Q k xc si rs h ce cx

def CtS (K : PySem.W.Frag) (g : Gi) (H0 : Hp) (r : List Addr) (H : Hp) (W : WX) (Dk : Kd) (Dv : Ends) : Prop :=
  (∀ s sv H0' r' S' H', Fut H0 r H H0' r' H' → Sim K g H0' r' S' H' → RelSt K H0' r' s sv → Dk.nx s S' → Dv.nx sv H') ∧
  CtE K g H0 r H Dk.rt Dv.rt ∧
  (∀ c s sv H0' r' S' H', Fut H0 r H H0' r' H' → Sim K g H0' r' S' H' → RelSt K H0' r' s sv → Dk.xc c s S' → W (.ref (g.cl c)) none sv H')
theorem CtS.fut {H0' : Hp} {r' : List Addr} {S' : Sto} {H' : Hp} {Dk : Kd} {Dv : Ends} (c : CtS K g H0 r H W Dk Dv) (f : Fut H0 r H H0' r' H') (si : Sim K g H0' r' S' H') : CtS K g H0' r' H' W Dk Dv :=
  ⟨fun s sv H1 r1 S1 H1' f1 s1 rs h => c.1 s sv H1 r1 S1 H1' (f.tr si f1) s1 rs h, c.2.1.fut f si, fun x s sv H1 r1 S1 H1' f1 s1 rs h => c.2.2 x s sv H1 r1 S1 H1' (f.tr si f1) s1 rs h⟩
theorem CtS.x {s : Env} {sv : L2.St} {Dk : Kd} {Dv : Ends} (c : CtS K g H0 r H W Dk Dv) (rs : RelSt K H0 r s sv) : CtX K g H0 r H s sv Dk.xc W :=
  fun x H1 r1 S1 H1' f1 s1 h => c.2.2 x s sv H1 r1 S1 H1' f1 s1 (rs.fut f1) h
theorem CtS.next {Dk : Kd} {Dv : Ends} {nx : Env → Sto → Prop} {nxv : L2.St → Hp → Prop} (c : CtS K g H0 r H W Dk Dv)
    (h : ∀ s sv H0' r' S' H', Fut H0 r H H0' r' H' → Sim K g H0' r' S' H' → RelSt K H0' r' s sv → nx s S' → nxv sv H') : CtS K g H0 r H W { Dk with nx := nx } { Dv with nx := nxv } := ⟨h, c.2.1, c.2.2⟩
def GoodS (X : Cx) (g : Gi) (W : WX) (t : TS) (w : WS) : Prop :=
  ∀ H0 r S H s sv (Dk : Kd) (Dv : Ends), Sim X.K g H0 r S H → RelSt X.K H0 r s sv → w Dk s S → CtS X.K g H0 r H W Dk Dv → t Dv sv H
def SS (X : Cx) (g : Gi) (W : WX) (st : Stmt) (w : WS) : Prop := ∃ t, PS X st t ∧ GoodS X g W t w
def SSs (X : Cx) (g : Gi) (W : WX) (st : List Stmt) (w : WS) : Prop := ∃ t, PSs X st t ∧ GoodS X g W t w
def wNx : WS := fun (D : HG Kd) s S => D.nx s S
def wSeq (a b : WS) : WS := fun (D : HG Kd) s S => a { D with nx := b D } s S
variable {st : Stmt} {rest body : List Stmt} {w w2 : WS}
theorem ss_nil : SSs X g W [] wNx := ⟨_, pss_nil, fun _ _ _ _ _ _ _ _ si rs h ct => ct.1 _ _ _ _ _ _ .refl si rs h⟩
theorem ss_cons (h1 : SS X g W st w) (h2 : SSs X g W rest w2) : SSs X g W (st :: rest) (wSeq w w2) := by
  obtain ⟨t, p, gg⟩ := h1
  obtain ⟨t2, p2, g2⟩ := h2
  refine ⟨_, pss_cons p p2, fun H0 r S H s sv Dk Dv si rs h ct => ?_⟩
  refine gg H0 r S H s sv _ _ si rs h (ct.next fun s1 sv1 H1 r1 S1 H1' f1 s1' rs1 h1 => ?_)
  exact g2 H1 r1 S1 H1' s1 sv1 Dk Dv s1' rs1 h1 (ct.fut f1 s1')
theorem ss_one (h1 : SS X g W st w) : SSs X g W [st] w := by
  obtain ⟨t, p, gg⟩ := h1
  exact ⟨_, pss_one p, gg⟩
def wNever : WS := fun (_ : HG Kd) _ _ => False
def wDrop (we : WE) : WS := fun (D : HG Kd) s S => we D.xc s S fun _ S1 => D.nx s S1
theorem ss_expr (he : SE X g W e we) (hs : swapsWith e none pos.line X.env = pure false := by rfl) : SS X g W (.Expr e pos) (wDrop we) := by
  obtain ⟨t, p, gg⟩ := he
  refine ⟨_, ps_expr p hs, fun H0 r S H s sv Dk Dv si rs h ct => ?_⟩
  exact gg H0 r S H s sv _ _ _ si rs h (fun d v H1 r1 S1 H1' f1 s1 rl h1 => ct.1 _ _ _ _ _ _ f1 s1 (rs.fut f1) h1) (ct.x rs)
def wRet (we : WE) : WS := fun (D : HG Kd) s S => we D.xc s S D.rt
theorem ss_ret (he : SE X g W e we) : SS X g W (.Return (some e) pos) (wRet we) := by
  obtain ⟨t, p, gg⟩ := he
  exact ⟨_, ps_ret p, fun H0 r S H s sv Dk Dv si rs h ct => gg H0 r S H s sv _ _ _ si rs h ct.2.1 (ct.x rs)⟩
def wRetN : WS := fun (D : HG Kd) _ S => D.rt .non S
def wIf (wt : WT) (w w2 : WS) : WS := fun (D : HG Kd) s S => wt D.xc s S fun b S1 => if b = true then w D s S1 else w2 D s S1
theorem ss_if {orelse : List Stmt} (hc : STt X g W c wt) (ha : SSs X g W body w) (hb : SSs X g W orelse w2) : SS X g W (.If c body orelse pos) (wIf wt w w2) := by
  obtain ⟨tc, pc, gc⟩ := hc
  obtain ⟨ta, pa, ga⟩ := ha
  obtain ⟨tb, pb, gb⟩ := hb
  refine ⟨_, ps_if pc pa pb, fun H0 r S H s sv Dk Dv si rs h ct => ?_⟩
  refine gc H0 r S H s sv _ _ _ si rs h (fun b H1 r1 S1 H1' f1 s1 h1 => ?_) (ct.x rs)
  cases b with
  | true =>
    rw [if_pos rfl] at h1 ⊢
    exact ga H1 r1 S1 H1' s sv Dk Dv s1 (rs.fut f1) h1 (ct.fut f1 s1)
  | false =>
    rw [if_neg Bool.false_ne_true] at h1 ⊢
    exact gb H1 r1 S1 H1' s sv Dk Dv s1 (rs.fut f1) h1 (ct.fut f1 s1)
def wSet (i : Nat) (we : WE) : WS := fun (D : HG Kd) s S => we D.xc s S fun d S1 => D.nx (s.set i (some d)) S1
theorem goodSet {i : Nat} {te : TE} (gg : GoodE X g W te we) : GoodS X g W (tAsg te (gName i)) (wSet i we) := by
  intro H0 r S H s sv Dk Dv si rs h ct
  exact gg H0 r S H s sv _ _ _ si rs h (fun d v H1 r1 S1 H1' f1 s1 rl h1 => ct.1 _ _ _ _ _ _ f1 s1 ((rs.fut f1).set i rl) h1) (ct.x rs)
theorem ss_set (i : Nat) {x : Str} {p : Pos} (hN : X.N.Nodup) (he : SE X g W e we) (hi : X.N[i]? = some x := by rfl) (hx : Loc X.env.scope x := by first | exact Or.inl rfl | exact Or.inr rfl) (hs : swapsWith e (some (.Name x p)) pos.line X.env = pure false := by rfl)
    (hf : X.fn x = true ∨ X.env.scope.names.lookup x = some .local := by first | exact .inl rfl | exact .inr rfl) : SS X g W (.Assign [.Name x p] e pos) (wSet i we) := by
  obtain ⟨t, pe, gg⟩ := he
  exact ⟨_, ps_set hN hi hx pe hs hf, goodSet gg⟩
theorem ss_setLc {j i : Nat} {y x : Str} {py p spos : Pos} {elt iter : Expr} {ifs : List Expr} {scope : Scope} {own : List (Str × Nat)} {wi : WI} (hc : X.calm = true) (hN : X.N.Nodup) (hy : X.N[j]? = some y) (hyl : X.env.scope.names.lookup y = some .local)
    (hsw : swapsWith (.ListComp elt [⟨.Name x p, iter, ifs, 0⟩] scope pos) (some (.Name y py)) spos.line X.env = pure true) (hi : SI X g W (.Name x p) iter wi) (ok : BlkOk X.N X.env.scope scope own) (hin : i ∈ own.map (·.2))
    (hg : ∀ (s : Shared) (H : Hp) (C : Addr) (cl : List (Str × Addr)) (fp : List Addr), PG (X.blk s H scope (compEnvC scope cl C X.env) fp) (.Name x p) (gName i))
    (ht : ∀ (s : Shared) (H : Hp) (C : Addr) (cl : List (Str × Addr)) (fp : List Addr), STs (X.blk s H scope (compEnvC scope cl C X.env) fp) g WFls ifs wt)
    (he : ∀ (s : Shared) (H : Hp) (C : Addr) (cl : List (Str × Addr)) (fp : List Addr), SE (X.blk s H scope (compEnvC scope cl C X.env) fp) g WFls elt we) (hs : ∀ x, foldedSetIterable iter X.env x = pure x := by intro _; rfl) :
    SS X g W (.Assign [.Name y py] (.ListComp elt [⟨.Name x p, iter, ifs, 0⟩] scope pos) spos) (wSet j (wLc i (own.map (·.2)) wi wt we)) := by
  obtain ⟨ti, pi, gi⟩ := hi
  refine ⟨_, ps_setLc (te := canE X.K g WFls we) (tt := canT X.K g WFls wt) hc hN hy hyl hsw pi ok hg (fun s H C cl fp => (ht s H C cl fp).pt) (fun s H C cl fp => (he s H C cl fp).pe) hs, goodSet fun H0 r S H s sv Q k xc si rs h ce cx => ?_⟩
  exact lc_good hin gi canT_good canE_good H0 r S H s sv Q k xc si rs h ce cx
def kSto (d : Ab.D) (nx : Sto → Prop) : Ab.D → Ab.D → Sto → Prop := fun (x0 : HG (Ab.D)) x1 x2 => match x0, x1, x2 with
  | .cell n, .int i, S => ∃ xs j, S[n]? = some (.lst xs) ∧ ixN xs.length i = some j ∧ nx (S.set n (.lst (xs.set j d)))
  | _, _, _ => False
def wSto (we wo wa : WE) : WS := fun (D : HG Kd) s S => we D.xc s S fun d S1 => wo D.xc s S1 fun o S2 => wa D.xc s S2 fun y S3 => kSto d (D.nx s) o y S3
def forW (i : Nat) (w : WS) (D : Kd) (ds : List Ab.D) (gd : Sto → Prop) (s : Env) (S : Sto) : Prop := ∃ P : Nat → Env → Sto → Prop, P 0 s S ∧
  (∀ n x s' S', ds[n]? = some x → P n s' S' → gd S' ∧ w { D with nx := P (n + 1) } (s'.set i (some x)) S') ∧ ∀ s' S', P ds.length s' S' → gd S' ∧ D.nx s' S'
def wFor (i : Nat) (wi : WI) (w : WS) : WS := fun (D : HG Kd) s S => wi D.xc s S fun ds gd S1 => forW i w D ds gd s S1
theorem ss_for (i : Nat) {x : Str} {p : Pos} {iter : Expr} {wi : WI} (hp : PassesOwn (model X.prog X.w) X.A X.env X.xe) (hc : X.calm = true) (hN : X.N.Nodup) (hi : SI X g W (.Name x p) iter wi) (hb : SSs X g W body w)
    (hx : X.N[i]? = some x := by rfl) (hl : Loc X.env.scope x := by first | exact Or.inl rfl | exact Or.inr rfl) (hs : ∀ x, foldedSetIterable iter X.env x = pure x := by intro _; rfl)
    (hf : X.fn x = true ∨ X.env.scope.names.lookup x = some .local := by first | exact .inl rfl | exact .inr rfl) : SS X g W (.For (.Name x p) iter body [] pos) (wFor i wi w) := by
  obtain ⟨ti, pi, gi⟩ := hi
  obtain ⟨tb, pb, gb⟩ := hb
  refine ⟨_, ps_for hp hc pi (pg_name hN hx hl hf) pb hs, fun H0 r S H s sv Dk Dv si rs h ct => ?_⟩
  refine gi H0 r S H s sv _ _ _ si rs h (fun J ds gd H1 r1 S1 H1' f1 s1 it h1 => ?_) (ct.x rs)
  obtain ⟨P, h0, hstep, hend⟩ := h1
  refine ⟨fun n m svn Hn => m = ds.length - n ∧ n ≤ ds.length ∧ ∃ H0n rn Sn sn, Fut H1 r1 H1' H0n rn Hn ∧ Sim X.K g H0n rn Sn Hn ∧ RelSt X.K H0n rn sn svn ∧ P n sn Sn, ⟨ds.length, by simp, Nat.zero_le _, H1, r1, S1, s, .refl, s1, rs.fut f1, h0⟩, ?_⟩
  rintro n m svn Hn ⟨rfl, hn, H0n, rn, Sn, sn, fn, simn, rsn, hP⟩
  have f1n := f1.tr s1 fn
  by_cases hlt : n < ds.length
  · obtain ⟨x, hx⟩ : ∃ x, ds[n]? = some x := ⟨ds[n], List.getElem?_eq_getElem hlt⟩
    obtain ⟨hgd, hbody⟩ := hstep n x sn Sn hx hP
    obtain ⟨hgo, hy⟩ := it.go n H0n rn Sn Hn fn simn hgd hlt
    refine .inr ⟨hgo, fun sv' H' => ∃ H0n rn Sn sn, Fut H1 r1 H1' H0n rn H' ∧ Sim X.K g H0n rn Sn H' ∧ RelSt X.K H0n rn sn sv' ∧ P (n + 1) sn Sn, fun sv' H' hq => ⟨ds.length - (n + 1), by omega, rfl, hlt, hq⟩, fun v H'' hyl => ?_⟩
    obtain ⟨H0y, d, fy, sy, hd, rly⟩ := hy v H'' hyl
    rw [hx] at hd
    cases hd
    have fny := fn.tr simn fy
    refine gb H0y rn Sn H'' _ _ { Dk with nx := P (n + 1) } { nx := _, rt := Dv.rt, bk := Dv.nx, ct := _ } sy ((rsn.fut fy).set i rly) hbody ⟨fun s' sv' H0' r' S' H' f' si' rs' hq => ?_, ((ct.fut f1 s1).fut fny sy).2.1, ((ct.fut f1 s1).fut fny sy).2.2⟩
    exact ⟨H0', r', S', s', fny.tr sy f', si', rs', hq⟩
  · have e : n = ds.length := by omega
    subst e
    obtain ⟨hgd, hk⟩ := hend sn Sn hP
    exact .inl ⟨it.stop H0n rn Sn Hn fn simn hgd, ct.1 _ _ _ _ _ _ f1n simn rsn hk⟩
def wWhile (wt : WT) (w : WS) : WS := fun (D : HG Kd) s S => ∃ P : Nat → Env → Sto → Prop, (∃ m, P m s S) ∧ ∀ m s' S', P m s' S' →
  wt D.xc s' S' fun b S1 => if b = true then w { D with nx := fun s2 S2 => ∃ m', m' < m ∧ P m' s2 S2 } s' S1 else D.nx s' S1
theorem ss_while (hp : PassesOwn (model X.prog X.w) X.A X.env X.xe) (hc : STt X g W c wt) (hb : SSs X g W body w) : SS X g W (.While c body [] pos) (wWhile wt w) := by
  obtain ⟨tc, pc, gc⟩ := hc
  obtain ⟨tb, pb, gb⟩ := hb
  refine ⟨_, ps_while hp pc pb, fun H0 r S H s sv Dk Dv si rs h ct => ?_⟩
  obtain ⟨P, ⟨m0, h0⟩, hstep⟩ := h
  refine ⟨fun m svn Hn => ∃ H0n rn Sn sn, Fut H0 r H H0n rn Hn ∧ Sim X.K g H0n rn Sn Hn ∧ RelSt X.K H0n rn sn svn ∧ P m sn Sn, ⟨m0, H0, r, S, s, .refl, si, rs, h0⟩, ?_⟩
  rintro m svn Hn ⟨H0n, rn, Sn, sn, fn, simn, rsn, hP⟩
  refine gc H0n rn Sn Hn sn svn _ _ _ simn rsn (hstep m sn Sn hP) (fun b H1 r1 S1 H1' f1 s1 h1 => ?_) ((ct.fut fn simn).x rsn)
  have fn1 := fn.tr simn f1
  cases b with
  | true =>
    rw [if_pos rfl] at h1 ⊢
    refine ⟨fun sv' H' => ∃ m', m' < m ∧ ∃ H0n rn Sn sn, Fut H0 r H H0n rn H' ∧ Sim X.K g H0n rn Sn H' ∧ RelSt X.K H0n rn sn sv' ∧ P m' sn Sn, fun sv' H' hq => hq, ?_⟩
    refine gb H1 r1 S1 H1' sn svn { Dk with nx := _ } { nx := _, rt := Dv.rt, bk := Dv.nx, ct := _ } s1 (rsn.fut f1) h1 ⟨fun s' sv' H0' r' S' H' f' si' rs' hq => ?_, (ct.fut fn1 s1).2.1, (ct.fut fn1 s1).2.2⟩
    obtain ⟨m', hm, hq⟩ := hq
    exact ⟨m', hm, H0', r', S', s', fn1.tr s1 f', si', rs', hq⟩
  | false =>
    rw [if_neg Bool.false_ne_true] at h1 ⊢
    exact ct.1 _ _ _ _ _ _ fn1 s1 (rsn.fut f1) h1
def wRaise (x : Str) : WS := fun (D : HG Kd) s S => D.xc x s S
theorem ss_raise {x m : Str} {j : Nat} {p p2 cp : Pos} {bmB : List Value} {B newId initId : String} (hc : X.calm = true) (tk : Takes X W) (F : ExcBaseFacts B newId initId bmB) (q : PySem.W.excIn X.K (g.cl x) bmB newId = true) (gC : X.mg x = some (.ref (g.cl x)))
    (kC : PySem.W.keepIn X.K (.ref (g.cl x)) = true) (rr : Raises X (.ref (g.cl x))) (hg : Gl X x) (hdb : (x == ("__debug__" : Str)) = false := by decide) : SS X g W (.Raise (some (.Call (.Name x p) [.Constant (.str m) j p2] [] cp)) none pos) (wRaise x) := by
  refine ⟨_, ps_raise hc tk (pmk_own F q gC kC rr hg hdb), fun H0 r S H s sv Dk Dv si rs h ct => ?_⟩
  exact ct.2.2 _ _ _ _ _ _ _ .refl si rs h

def wDef (np n : Nat) (w : WS) : WF := fun (ds : HG (List D)) S k xk => ds.length = np ∧ w ⟨fun _ S' => k .non S', k, fun c _ S' => xk c S'⟩ (ds.map some ++ List.replicate (n - ds.length) none) S
theorem relSt_start {N : List Str} (h : Rels K H0 r ds vs) : RelSt K H0 r (ds.map some ++ List.replicate (N.length - ds.length) none) (L2.start N vs) := by
  unfold L2.start
  refine ⟨by simp [h.length], fun i d e => ?_⟩
  by_cases hi : i < ds.length
  · rw [List.getElem?_append_left (by simpa using hi), List.getElem?_map] at e
    cases q : ds[i]? with
    | none => rw [q] at e; cases e
    | some d' =>
      rw [q] at e
      cases e
      obtain ⟨v, e1, e2⟩ := h.get q
      exact ⟨v, by rw [List.getElem?_append_left (by rw [List.length_map, h.length]; exact hi), List.getElem?_map, e1]; rfl, e2⟩
  · rw [List.getElem?_append_right (by simpa using hi), List.getElem?_replicate] at e
    split at e <;> cases e
theorem fn_ok {P : Program} {w0 : World} {mg : Str → Option Value} {base : Heap} {x qual : Str} {st : Stmt} {f : Addr} {fd : FuncData} {N ps : List Str} {k : Nat} {w : WS} (F : Fun K x qual st f fd) (Sc : FnScope N ps (defScope st))
    (hb : ∀ (cdv : Value) (A : Around) (outer : List PySem.Env) (s : Shared) (H : Hp) (E : XK), Room k (A.deeper (envOfC qual (defScope st) s.heap.objs.size f cdv)) →
      SSs (cxOf (L2.CX P w0) P w0 K mg base N qual (defScope st) f cdv A outer s H E) g (fun cls d _ H => E cls d H) (defBody st) w) :
    FnOk P w0 K mg base (L2.CX P w0) (k + 1) f fd ps (spW K g ps.length (wDef ps.length N.length w)) := by
  refine F.okX Sc (fun vs H Q E h => h.1) fun cdv A outer s H vs Q E hr h => ?_
  obtain ⟨hv, H0, r, S, ds, kk, xk, si, rl, hw, ce, cx⟩ := h
  obtain ⟨t, p, gg⟩ := hb cdv A outer s H E hr
  refine ⟨t, p, ?_⟩
  have hw := hw.2
  refine gg H0 r S H _ _ _ _ si (relSt_start rl) hw ⟨fun s' sv' H0' r' S' H' f' si' rs' h' => ce _ _ _ _ _ _ f' si' rel_non' h', ce, fun c s' sv' H0' r' S' H' f' si' rs' h' => cx _ _ _ _ _ f' si' h'⟩
end
end Ab

namespace Ab
open PySem PySem.Spec PyProof.Rows L2

section
variable {X : Cx} {g : Gi} {W : WX} {a b c e o : Expr} {es : List Expr} {pos cpos apos : Pos} {wa wb wc we wo : WE} {wt wu : WT} {ws : WA}
variable {K : PySem.W.Frag} {H0 H : Hp} {r : List Addr} {S : Sto} {d : D} {v : V} {ds : List D}

mutual
theorem Rel.back {H1 : Hp} {r' : List Addr} (p : r <+: r') : ∀ {d : D} {v u : V}, Rel K H0 r d v → Rel K H1 r' d u → Rel K H1 r d u
  | .non, _, _, _, h => by unfold Rel at h ⊢; exact h
  | .bl _, _, _, _, h => by unfold Rel at h ⊢; exact h
  | .int _, _, _, _, h => by unfold Rel at h ⊢; exact h
  | .str _, _, _, _, h => by unfold Rel at h ⊢; exact h
  | .tup ds, _, _, q, h => by
    unfold Rel at q h ⊢
    obtain ⟨a, xs, rfl, h1, h2⟩ := h
    obtain ⟨b, ys, rfl, q1, q2⟩ := q
    exact ⟨a, xs, rfl, h1, Rels.back p q2 h2⟩
  | .lst ds, _, _, q, h => by
    unfold Rel at q h ⊢
    obtain ⟨a, xs, rfl, h1, h2⟩ := h
    obtain ⟨b, ys, rfl, q1, q2⟩ := q
    exact ⟨a, xs, rfl, h1, Rels.back p q2 h2⟩
  | .scr ds, _, _, q, h => by
    unfold Rel at q h ⊢
    obtain ⟨a, xs, rfl, h1, h2⟩ := h
    obtain ⟨b, ys, rfl, q1, q2⟩ := q
    exact ⟨a, xs, rfl, h1, Rels.back p q2 h2⟩
  | .cell n, _, _, q, h => by
    unfold Rel at q h ⊢
    obtain ⟨a, rfl, h1⟩ := h
    obtain ⟨b, rfl, q1⟩ := q
    have := pre_get p q1
    rw [h1] at this
    cases this
    exact ⟨a, rfl, q1⟩
  | .exn ..,  _, _, _, h => by unfold Rel at h ⊢; exact h
theorem Rels.back {H1 : Hp} {r' : List Addr} (p : r <+: r') : ∀ {ds : List D} {vs us : List V}, Rels K H0 r ds vs → Rels K H1 r' ds us → Rels K H1 r ds us
  | [], _, _, _, h => by rw [h.unnil]; exact Rels.nil
  | d :: ds, _, _, q, h => by
    obtain ⟨y, ys, rfl, h1, h2⟩ := h.uncons
    obtain ⟨z, zs, rfl, q1, q2⟩ := q.uncons
    exact Rels.cons (Rel.back p q1 h1) (Rels.back p q2 h2)
end
theorem RelF.back {H1 : Hp} {r' : List Addr} (p : r <+: r') : ∀ {ds : List (Str × D)} {vs us : List (Str × V)}, RelF K H0 r ds vs → RelF K H1 r' ds us → RelF K H1 r ds us
  | [], _, _, _, h => h
  | (f, d) :: ds, _, _, q, h => by
    obtain ⟨y, ys, rfl, h1, h2⟩ := h
    obtain ⟨z, zs, rfl, q1, q2⟩ := q
    exact ⟨y, ys, rfl, Rel.back p q1 h1, RelF.back p q2 h2⟩
theorem RelK.back {κ : Type} {H1 : Hp} {r' : List Addr} (p : r <+: r') : ∀ {ds : List (κ × D)} {vs us : List (κ × V)}, RelK K H0 r ds vs → RelK K H1 r' ds us → RelK K H1 r ds us
  | [], _, _, _, h => h
  | (f, d) :: ds, _, _, q, h => by
    obtain ⟨y, ys, rfl, h1, h2⟩ := h
    obtain ⟨z, zs, rfl, q1, q2⟩ := q
    exact ⟨y, ys, rfl, Rel.back p q1 h1, RelK.back p q2 h2⟩
theorem CelOk.back {H1 H' : Hp} {r' : List Addr} {p p' : Addr} {c : Cel} (pr : r <+: r') (h : CelOk K g H0 r H p c) (h2 : CelOk K g H1 r' H' p' c) : CelOk K g H1 r H' p' c := by
  cases c with
  | lst ds =>
    obtain ⟨q, xs, h1, h3⟩ := h
    obtain ⟨q2, ys, h4, h5⟩ := h2
    exact ⟨q2, ys, h4, Rels.back pr h3 h5⟩
  | obj C fs =>
    obtain ⟨q, dx, xs, h1, h3⟩ := h
    obtain ⟨q2, dy, ys, h4, h5⟩ := h2
    exact ⟨q2, dy, ys, h4, RelF.back pr h3 h5⟩
  | dk kvs =>
    obtain ⟨q, xs, h1, h3⟩ := h
    obtain ⟨q2, ys, h4, h5⟩ := h2
    exact ⟨q2, ys, h4, RelK.back pr h3 h5⟩
  | dt kvs =>
    obtain ⟨q, xs, h1, h3⟩ := h
    obtain ⟨q2, ys, h4, h5⟩ := h2
    exact ⟨q2, ys, h4, RelK.back pr h3 h5⟩
  | dkf o xs kvs =>
    obtain ⟨q, h1, h3⟩ := h
    obtain ⟨q2, h4, h5⟩ := h2
    exact ⟨q2, h4, RelK.back pr h3 h5⟩
  | dtf o xs kvs =>
    obtain ⟨q, h1, h3⟩ := h
    obtain ⟨q2, h4, h5⟩ := h2
    exact ⟨q2, h4, RelK.back pr h3 h5⟩
  | tab P q => exact h2
  | dead => trivial
theorem take_get {α : Type} {l l' : List α} (h : l'.take l.length = l) {n : Nat} (hn : n < l.length) : l'[n]? = l[n]? := by
  rw [← h, List.getElem?_take_of_lt hn]
theorem pre_back {α : Type} {l l' : List α} (h : l <+: l') {n : Nat} (hn : n < l.length) : l'[n]? = l[n]? := by
  obtain ⟨t, rfl⟩ := h
  exact List.getElem?_append_left hn
theorem Sim.trim {H0' H' : Hp} {r' : List Addr} {S' : Sto} (si : Sim K g H0 r S H) (f : Fut H0 r H H0' r' H') (s : Sim K g H0' r' S' H') (hS : S'.take S.length = S) : Sim K g H0' r S H' ∧ Fut H0 r H H0' r H' := by
  refine ⟨⟨s.ex, si.len, si.nd, s.therePre f.pre, fun n a c e1 e2 => ?_⟩, ⟨f.ext, List.prefix_refl _, f.keep, fun a h1 h2 => absurd h1 h2, f.newF⟩⟩
  have hn : n < r.length := (List.getElem?_eq_some_iff.mp e1).1
  exact CelOk.back f.pre (si.cel n a c e1 e2) (s.cel n a c ((pre_back f.pre hn).trans e1) ((take_get hS (by rw [← si.len]; exact hn)).trans e2))
def wTrim (wf : WF) : WF := fun (ds : HG (List D)) S k xk => wf ds S (fun d S' => d.pure = true ∧ S'.take S.length = S ∧ k d S) (fun c S' => S'.take S.length = S ∧ xk c S)
def wTrimC (wf : WF) : WF := fun (ds : HG (List D)) S k xk => wf ds S (fun d S' => ∃ m xs, d = .cell m ∧ S.length ≤ m ∧ S'[m]? = some (.lst xs) ∧ pureAll xs = true ∧ S'.take S.length = S ∧ k (.cell S.length) (S ++ [.lst xs])) (fun c S' => S'.take S.length = S ∧ xk c S)
theorem fn_trim {P : Program} {w0 : World} {mg : Str → Option Value} {base : Heap} {CX : CXT} {k np : Nat} {f : Addr} {fd : FuncData} {ps : List Str} {wf : WF} (F : FnOk P w0 K mg base CX k f fd ps (spW K g np wf)) : FnOk P w0 K mg base CX k f fd ps (spW K g np (wTrim wf)) :=
  F.imp fun vs H Q E ⟨hv, H0, r, S, ds, kk, xk, si, rl, hw, ce, cx⟩ => ⟨hv, H0, r, S, ds, _, _, si, rl, hw, fun d v H0' r' S' H' f s rv ⟨hp, hS, hk⟩ =>
    let ⟨s2, f2⟩ := si.trim f s hS
    ce d v H0' r S H' f2 s2 (Rel.of_pure hp rv) hk, fun c H0' r' S' H' f s ⟨hS, hk⟩ =>
    let ⟨s2, f2⟩ := si.trim f s hS
    cx c H0' r S H' f2 s2 hk⟩
theorem law_cx {P : Program} {w0 : World} (H : Hp) (s : Shared) (e : Value) (s' : Shared) (h : L2.CX P w0 [] H s (fun _ _ _ => False) e s') : False := by
  obtain ⟨_, _, _, _, _, _, _, _, _, _, _, _, z⟩ := h
  exact z
end
end Ab

namespace Ab
open PySem PySem.Spec PyProof.Rows L2
def spLaw (K : PySem.W.Frag) : Sp := fun vs H Q _ => ∃ (p : Addr) (ns : List Int), vs = [.ref p] ∧ SqL K H p (ns.map V.int) ∧ ns.length ≤ 63 ∧ (∀ z ∈ ns, Builtin.Int.intBits z ≤ 1048576) ∧ ∀ H', Q (.bl true) H'
end Ab

namespace Ab
open PySem
theorem while_inv {wt : WT} {w : WS} {Dk : Kd} {s : Env} {S : Sto} (P : Nat → Env → Sto → Prop) (m0 : Nat) (h0 : P m0 s S)
    (hs : ∀ m s' S', P m s' S' → ∀ nx : Env → Sto → Prop, (∀ m' s2 S2, m' < m → P m' s2 S2 → nx s2 S2) → wt Dk.xc s' S' fun b S1 => if b = true then w { Dk with nx := nx } s' S1 else Dk.nx s' S1) : wWhile wt w Dk s S :=
  ⟨P, ⟨m0, h0⟩, fun m s' S' h => hs m s' S' h _ fun m' s2 S2 hm hp => ⟨m', hm, hp⟩⟩
theorem for_inv {i : Nat} {w : WS} {Dk : Kd} {ds : List D} {gd : Sto → Prop} {s : Env} {S : Sto} (P : Nat → Env → Sto → Prop) (h0 : P 0 s S)
    (hs : ∀ n x s' S', ds[n]? = some x → P n s' S' → gd S' ∧ ∀ nx : Env → Sto → Prop, (∀ s2 S2, P (n + 1) s2 S2 → nx s2 S2) → w { Dk with nx := nx } (s'.set i (some x)) S')
    (hd : ∀ s' S', P ds.length s' S' → gd S' ∧ Dk.nx s' S') : forW i w Dk ds gd s S :=
  ⟨P, h0, fun n x s' S' hx hp => ⟨(hs n x s' S' hx hp).1, (hs n x s' S' hx hp).2 _ fun _ _ h => h⟩, hd⟩
theorem lc_filter {i : Nat} {vs : List Nat} {wt : WT} {we : WE} {ds : List D} {gd : Sto → Prop} {s : Env} {S : Sto} {fin : List D → Sto → Prop} (p : D → Bool) (f : D → D) (hl : ds.length < sizeLine) (hg : gd S)
    (ht : ∀ x ∈ ds, ∀ k : Bool → Sto → Prop, k (p x) S → wt noXC ((wipeD s vs).set i (some x)) S k)
    (he : ∀ x ∈ ds, p x = true → ∀ k : KD, k (f x) S → we noXC ((wipeD s vs).set i (some x)) S k) (hf : fin ((ds.filter p).map f) S) : lcW i vs wt we ds gd s S fin := by
  refine ⟨hl, fun n acc S2 => S2 = S ∧ acc = ((ds.take n).filter p).map f, ⟨rfl, by simp⟩, ?_, ?_⟩
  · rintro n x acc S2 hx - ⟨rfl, rfl⟩
    have hm := List.mem_of_getElem? hx
    refine ⟨hg, ht x hm _ ?_⟩
    cases hp : p x with
    | true =>
      rw [if_pos rfl]
      refine he x hm hp _ ⟨rfl, ?_⟩
      simp [List.take_add_one, hx, List.filter_append, hp]
    | false =>
      rw [if_neg Bool.false_ne_true]
      refine ⟨rfl, ?_⟩
      simp [List.take_add_one, hx, List.filter_append, hp]
  · rintro acc S2 - ⟨rfl, rfl⟩
    rw [List.take_length]
    exact ⟨hg, hf⟩
theorem lc_map {i : Nat} {vs : List Nat} {we : WE} {ds : List D} {gd : Sto → Prop} {s : Env} {S : Sto} {fin : List D → Sto → Prop} (f : D → D) (hl : ds.length < sizeLine) (hg : gd S)
    (he : ∀ x ∈ ds, ∀ k : KD, k (f x) S → we noXC ((wipeD s vs).set i (some x)) S k) (hf : fin (ds.map f) S) : lcW i vs wYes we ds gd s S fin :=
  lc_filter (fun _ => true) f hl hg (fun _ _ _ h => h) (fun x hx _ => he x hx) (by
    have : ds.filter (fun _ => true) = ds := by simp
    rw [this]; exact hf)
end Ab

namespace Ab
open PySem
theorem seq_e {a b : WS} {Dk : Kd} {s : Env} {S : Sto} (h : a { Dk with nx := b Dk } s S) : wSeq a b Dk s S := h
theorem seq_i {a b : WS} {Dk : Kd} {s : Env} {S : Sto} (h : ∀ R : Env → Sto → Prop, (∀ s' S', b Dk s' S' → R s' S') → a { Dk with nx := R } s S) : wSeq a b Dk s S := h _ fun _ _ h => h
theorem seq_cut {a b : WS} {Dk : Kd} {s : Env} {S : Sto} (M : Env → Sto → Prop) (h1 : ∀ R : Env → Sto → Prop, (∀ s' S', M s' S' → R s' S') → a { Dk with nx := R } s S) (h2 : ∀ s' S', M s' S' → b Dk s' S') : wSeq a b Dk s S := h1 _ h2
section
variable {S : Sto} {k : KD} {a b : Int} {x y : Str} {p q : Bool} {xs ys : List D} {n : Nat} {d e : D}
theorem addW_ii : addW (.int a) (.int b) S k = k (.int (a + b)) S := id rfl
theorem addW_ss : addW (.str x) (.str y) S k = (x.length + y.length ≤ sizeLine ∧ k (.str (x ++ y)) S) := id rfl
theorem addW_tt : addW (.tup xs) (.tup ys) S k = (xs ≠ [] ∧ xs.length + ys.length ≤ sizeLine ∧ k (.tup (xs ++ ys)) S) := id rfl
theorem addW_ll : addW (.lst xs) (.lst ys) S k = (xs.length + ys.length ≤ sizeLine ∧ k (.lst (xs ++ ys)) S) := by
  show (∃ a b, some xs = some a ∧ some ys = some b ∧ a.length + b.length ≤ sizeLine ∧ k (.lst (a ++ b)) S) = _
  simp
theorem addW_cl : addW (.cell n) (.lst ys) S k = ∃ xs, rview S (.cell n) = some xs ∧ xs.length + ys.length ≤ sizeLine ∧ k (.lst (xs ++ ys)) S := by
  show (∃ a b, rview S (.cell n) = some a ∧ some ys = some b ∧ a.length + b.length ≤ sizeLine ∧ k (.lst (a ++ b)) S) = _
  simp
theorem addW_lc : addW (.lst xs) (.cell n) S k = ∃ ys, rview S (.cell n) = some ys ∧ xs.length + ys.length ≤ sizeLine ∧ k (.lst (xs ++ ys)) S := by
  show (∃ a b, some xs = some a ∧ rview S (.cell n) = some b ∧ a.length + b.length ≤ sizeLine ∧ k (.lst (a ++ b)) S) = _
  simp
theorem iiW_ii {C : Int → Int → Prop} {f : Int → Int → D} : iiW C f (.int a) (.int b) S k = (C a b ∧ k (f a b) S) := id rfl
theorem ii0_ii {f : Int → Int → D} : ii0 f (.int a) (.int b) S k = k (f a b) S := id rfl
theorem kNeg_i : kNeg k (.int a) S = k (.int (-a)) S := id rfl
theorem eqW_ii : eqW (.int a) (.int b) S k = k (.bl (decide (a = b))) S := id rfl
theorem eqW_bb : eqW (.bl p) (.bl q) S k = k (.bl (decide (p = q))) S := id rfl
theorem eqW_ss : eqW (.str x) (.str y) S k = k (.bl (decide (x = y))) S := id rfl
theorem eqW_nn : eqW .non .non S k = k (.bl true) S := id rfl
theorem eqW_ni : eqW .non (.int a) S k = k (.bl false) S := id rfl
theorem eqW_in : eqW (.int a) .non S k = k (.bl false) S := id rfl
theorem eqW_of {x y : D} (h1 : x.pure = true) (h2 : y.pure = true) (o1 : okEq 9 x = true) (o2 : okEq 9 y = true) (h : k (.bl (x.eqv y)) S) : eqW x y S k := by
  unfold eqW
  split
  all_goals first
    | exact ⟨_, _, .pure h1, .pure h2, o1, o2, h⟩
    | (have e : ∀ {u v : Bool}, u = v → k (.bl u) S → k (.bl v) S := fun e h => e ▸ h
       refine e ?_ h
       unfold D.eqv D.py PyData.eqv
       first | rfl | (rw [Bool.beq_eq_decide_eq]) | simp)
theorem kNot_b : kNot k (.bl p) S = k (.bl (!p)) S := id rfl
theorem kBl_b {k : Bool → Sto → Prop} : kBl k (.bl p) S = k p S := id rfl
theorem kOpt_s : kOpt (some d) S k = k d S := id rfl
theorem ixW_i : ixW d (.int a) S k = ∃ e, ixD S d a = some e ∧ k e S := by
  cases d <;> rfl
theorem ixD_t {i : Int} : ixD S (.tup xs) i = L2.atI xs i := id rfl
theorem ixD_l {i : Int} : ixD S (.lst xs) i = L2.atI xs i := id rfl
theorem ixD_r {i : Int} : ixD S (.scr xs) i = L2.atI xs i := id rfl
theorem ixD_c {i : Int} : ixD S (.cell n) i = (lview S (.cell n)).bind fun xs => L2.atI xs i := id rfl
theorem isNW_nn {g : Bool} : isNW g .non .non S k = k (.bl (!g)) S := id rfl
theorem isNW_i {g : Bool} : isNW g (.int a) .non S k = k (.bl g) S := id rfl
theorem isNW_t {g : Bool} : isNW g (.tup xs) .non S k = k (.bl g) S := id rfl
theorem isNW_l {g : Bool} : isNW g (.lst xs) .non S k = k (.bl g) S := id rfl
theorem kSoP_i {k : Option Int → Sto → Prop} : kSoP k (.int a) S = k (some a) S := id rfl
theorem slW_t {lo hi : Option Int} : slW (.tup xs) lo hi S k = (¬ (HT.sIx xs.length 0 lo = 0 ∧ HT.sIx xs.length xs.length hi = xs.length) ∧ k (.tup (cutD xs lo hi)) S) := id rfl
theorem slW_l {lo hi : Option Int} : slW (.lst xs) lo hi S k = k (.lst (cutD xs lo hi)) S := by
  show (∃ zs, some xs = some zs ∧ k (.lst (cutD zs lo hi)) S) = _
  simp
theorem slW_r {lo hi : Option Int} : slW (.scr xs) lo hi S k = k (.lst (cutD xs lo hi)) S := by
  show (∃ zs, some xs = some zs ∧ k (.lst (cutD zs lo hi)) S) = _
  simp
theorem slW_c {lo hi : Option Int} : slW (.cell n) lo hi S k = ∃ zs, lview S (.cell n) = some zs ∧ k (.lst (cutD zs lo hi)) S := id rfl
theorem frzW_c : frzW (.cell n) S k = frzC S[n]? n S k := id rfl
theorem frzW_i : frzW (.int a) S k = k (.int a) S := id rfl
theorem frzW_b : frzW (.bl p) S k = k (.bl p) S := id rfl
theorem frzW_n : frzW .non S k = k .non S := id rfl
theorem frzW_s : frzW (.str x) S k = k (.str x) S := id rfl
theorem frzW_t : frzW (.tup xs) S k = k (.tup xs) S := id rfl
theorem frzW_l : frzW (.lst xs) S k = k (.lst xs) S := id rfl
theorem frzC_s : frzC (some (.lst xs)) n S k = k (.lst xs) (S.set n .dead) := id rfl
theorem lenF_s : lenF [.str x] S k = (x.length ≤ sizeLine ∧ k (.int x.length) S) := id rfl
theorem lenF_l : lenF [.lst xs] S k = k (.int xs.length) S := by
  show (∃ zs, some xs = some zs ∧ k (.int zs.length) S) = _
  simp
theorem lenF_r : lenF [.scr xs] S k = k (.int xs.length) S := by
  show (∃ zs, some xs = some zs ∧ k (.int zs.length) S) = _
  simp
theorem lenF_t : lenF [.tup xs] S k = k (.int xs.length) S := by
  show (∃ zs, some xs = some zs ∧ k (.int zs.length) S) = _
  simp
theorem lenF_c : lenF [.cell n] S k = ∃ zs, lview S (.cell n) = some zs ∧ k (.int zs.length) S := id rfl
theorem absF_i : absF [.int a] S k = k (.int (if a < 0 then -a else a)) S := id rfl
theorem maxF_ii : maxF [.int a, .int b] S k = k (.int (if b > a then b else a)) S := id rfl
theorem minF_ii : minF [.int a, .int b] S k = k (.int (if b < a then b else a)) S := id rfl
theorem maxF_1 : maxF [d] S k = ∃ ns : List Int, isInts S d ns ∧ 0 < ns.length ∧ ∀ m, m ∈ ns → (∀ y, y ∈ ns → y ≤ m) → k (.int m) S := by
  cases d <;> rfl
theorem minF_1 : minF [d] S k = ∃ ns : List Int, isInts S d ns ∧ 0 < ns.length ∧ ∀ m, m ∈ ns → (∀ y, y ∈ ns → m ≤ y) → k (.int m) S := by
  cases d <;> rfl
theorem sumF_1 : sumF [d] S k = ∃ ns : List Int, isInts S d ns ∧ k (.int ns.sum) S := id rfl
theorem allF_1 : allF [d] S k = ∃ bs : List Bool, lview S d = some (bs.map .bl) ∧ k (.bl (bs.all id)) S := id rfl
theorem sortedF_1 : sortedF [d] S k = ∃ ns : List Int, isInts S d ns ∧ ∀ ms : List Int, ms.Perm ns → ms.Pairwise (· ≤ ·) → k (.lst (ms.map .int)) S := id rfl
theorem listF_1 : listF [d] S k = ∃ xs, sview S d = some xs ∧ k (.lst xs) S := id rfl
theorem listFC_1 : listFC [d] S k = ∃ xs, sview S d = some xs ∧ k (.cell S.length) (S ++ [.lst xs]) := id rfl
theorem tupleF_1 : tupleF [d] S k = ∃ xs, sview S d = some xs ∧ k (.tup xs) S := id rfl
theorem intF_i : intF [.int a] S k = k (.int a) S := id rfl
theorem intF_b : intF [.bl p] S k = k (.int (if p then 1 else 0)) S := id rfl
theorem appF_c : appF (.cell n) [d] S k = ∃ xs, S[n]? = some (.lst xs) ∧ xs.length < sizeLine ∧ k .non (S.set n (.lst (xs ++ [d]))) := id rfl
theorem popF_c : popF (.cell n) [] S k = ∃ xs y, S[n]? = some (.lst xs) ∧ xs[xs.length - 1]? = some y ∧ k y (S.set n (.lst xs.dropLast)) := id rfl
theorem kRng1_i {k : List D → (Sto → Prop) → Sto → Prop} : kRng1 k [.int a] S = (-(2 ^ 62) ≤ a ∧ a < 2 ^ 62 ∧ k (rngD 0 a.toNat) (fun _ => True) S) := id rfl
theorem kRng2_i {k : List D → (Sto → Prop) → Sto → Prop} : kRng2 k [.int a, .int b] S = ((-(2 ^ 62) ≤ a ∧ a < 2 ^ 62 ∧ -(2 ^ 62) ≤ b ∧ b < 2 ^ 62) ∧ k (rngD a (b - a).toNat) (fun _ => True) S) := id rfl
theorem lview_l : lview S (.lst xs) = some xs := id rfl
theorem lview_r : lview S (.scr xs) = some xs := id rfl
theorem lview_c (h : S[n]? = some (.lst xs)) : lview S (.cell n) = some xs := by
  show (match S[n]? with | some (.lst xs) => some xs | _ => none) = some xs
  rw [h]
theorem rview_c (h : S[n]? = some (.lst xs)) : rview S (.cell n) = some xs := by
  show (match S[n]? with | some (.lst xs) => some xs | _ => none) = some xs
  rw [h]
theorem sview_c : sview S (.cell n) = lview S (.cell n) := id rfl
theorem sview_l : sview S (.lst xs) = some xs := id rfl
theorem sview_r : sview S (.scr xs) = some xs := id rfl
theorem sview_t : sview S (.tup xs) = some xs := id rfl
theorem tview_t : tview (.tup xs) = some xs := id rfl
theorem gdOf_l : gdOf S (.lst xs) = fun _ => True := id rfl
theorem gdOf_r : gdOf S (.scr xs) = fun _ => True := id rfl
theorem gdOf_t : gdOf S (.tup xs) = fun _ => True := id rfl
theorem gdOf_c : gdOf S (.cell n) = fun S' => S'[n]? = S[n]? := id rfl
theorem isiD_i {t : Ty} : isiD S t (.int a) = some (decide (t = .int)) := id rfl
theorem isiD_b {t : Ty} : isiD S t (.bl p) = some (decide (t = .int) || decide (t = .bool)) := id rfl
theorem isiD_n {t : Ty} : isiD S t .non = some false := id rfl
theorem isiD_s {t : Ty} : isiD S t (.str x) = some (decide (t = .str)) := id rfl
theorem isiD_t {t : Ty} : isiD S t (.tup xs) = some (decide (t = .tuple)) := id rfl
theorem isiD_l {t : Ty} : isiD S t (.lst xs) = some (decide (t = .list)) := id rfl
end
theorem fmod_pos {a b : Int} (h : 0 < b) : a.fmod b = a % b := Int.fmod_eq_emod_of_nonneg a (by omega)
theorem fdiv_pos {a b : Int} (h : 0 < b) : a.fdiv b = a / b := Int.fdiv_eq_ediv_of_nonneg a (by omega)
theorem log2_mono {a b : Nat} (h : a ≤ b) : a.log2 ≤ b.log2 := by
  rcases Nat.eq_zero_or_pos a with h0 | h0
  · subst h0; exact Nat.zero_le _
  · refine (Nat.le_log2 (by omega)).mpr (Nat.le_trans ?_ h)
    exact Nat.log2_self_le (by omega)
theorem bits_le {a : Int} {n : Nat} (h : a.natAbs ≤ n) : Builtin.Int.intBits a ≤ n.log2 + 1 := by
  unfold Builtin.Int.intBits
  split
  · omega
  · have := log2_mono h
    omega
theorem mul_bits {a b : Int} (h : Builtin.Int.intBits a + Builtin.Int.intBits b ≤ 134217728) : IntMulOk a b := by
  unfold IntMulOk
  intro z
  rw [Bool.and_eq_true] at z
  have z2 := z.2
  unfold Builtin.Int.intTooBig at z2
  have z3 := of_decide_eq_true z2
  rw [bitsLine_eq] at z3
  omega
theorem mul_l {a b : Int} (h1 : -18446744073709551616 < a) (h2 : a < 18446744073709551616) : IntMulOk a b := .of_left (intBits_le_64 h1 h2)
theorem mul_r {a b : Int} (h1 : -18446744073709551616 < b) (h2 : b < 18446744073709551616) : IntMulOk a b := .of_right (intBits_le_64 h1 h2)
theorem div_bd {a b : Int} (h0 : b ≠ 0) (h : b.natAbs.log2 < 9000) : CDivX a b := ⟨h0, PyProof.noPylong_of_log2 h⟩
theorem div_bdn (n : Nat) {a b : Int} (h0 : b ≠ 0) (h : b.natAbs ≤ n) (hn : n.log2 < 9000) : CDivX a b := div_bd h0 (Nat.lt_of_le_of_lt (log2_mono h) hn)
theorem div_lit {a b : Int} (h0 : 0 < b) (h : b < 1000000000000000000000000000000000000000000000000000000000000000000) : CDivX a b ↔ True :=
  ⟨fun _ => trivial, fun _ => div_bdn 1000000000000000000000000000000000000000000000000000000000000000000 (by omega) (by omega) (by decide +kernel)⟩
theorem mul_litr {a b : Int} (h1 : -18446744073709551616 < b) (h2 : b < 18446744073709551616) : IntMulOk a b ↔ True := ⟨fun _ => trivial, fun _ => mul_r h1 h2⟩
theorem mul_litl {a b : Int} (h1 : -18446744073709551616 < a) (h2 : a < 18446744073709551616) : IntMulOk a b ↔ True := ⟨fun _ => trivial, fun _ => mul_l h1 h2⟩
section
variable {S : Sto} {k : KD}
theorem pw_of {i j r : Int} (h0 : 0 ≤ j) (h1 : j ≤ 1000000) (h2 : -1000000000000000000 ≤ i) (h3 : i ≤ 10000000000000000000) (h : i ^ j.toNat = r) : powW (.int i) (.int j) S k = k (.int r) S := by
  unfold powW
  rw [iiW_ii, h]
  exact propext ⟨fun h => h.2, fun h => ⟨⟨h0, h1, by omega⟩, h⟩⟩
theorem pw_10_6 : powW (.int 10) (.int 6) S k = k (.int 1000000) S := pw_of (by decide) (by decide) (by decide) (by decide) (by decide +kernel)
theorem pw_10_7 : powW (.int 10) (.int 7) S k = k (.int 10000000) S := pw_of (by decide) (by decide) (by decide) (by decide) (by decide +kernel)
theorem pw_10_8 : powW (.int 10) (.int 8) S k = k (.int 100000000) S := pw_of (by decide) (by decide) (by decide) (by decide) (by decide +kernel)
theorem pw_10_9 : powW (.int 10) (.int 9) S k = k (.int 1000000000) S := pw_of (by decide) (by decide) (by decide) (by decide) (by decide +kernel)
theorem pw_10_11 : powW (.int 10) (.int 11) S k = k (.int 100000000000) S := pw_of (by decide) (by decide) (by decide) (by decide) (by decide +kernel)
theorem pw_10_12 : powW (.int 10) (.int 12) S k = k (.int 1000000000000) S := pw_of (by decide) (by decide) (by decide) (by decide) (by decide +kernel)
theorem pw_10_14 : powW (.int 10) (.int 14) S k = k (.int 100000000000000) S := pw_of (by decide) (by decide) (by decide) (by decide) (by decide +kernel)
theorem pw_10_15 : powW (.int 10) (.int 15) S k = k (.int 1000000000000000) S := pw_of (by decide) (by decide) (by decide) (by decide) (by decide +kernel)
theorem pw_10_18 : powW (.int 10) (.int 18) S k = k (.int 1000000000000000000) S := pw_of (by decide) (by decide) (by decide) (by decide) (by decide +kernel)
theorem pw_10_20 : powW (.int 10) (.int 20) S k = k (.int 100000000000000000000) S := pw_of (by decide) (by decide) (by decide) (by decide) (by decide +kernel)
theorem pw_10_29 : powW (.int 10) (.int 29) S k = k (.int 100000000000000000000000000000) S := pw_of (by decide) (by decide) (by decide) (by decide) (by decide +kernel)
theorem pw_10_30 : powW (.int 10) (.int 30) S k = k (.int 1000000000000000000000000000000) S := pw_of (by decide) (by decide) (by decide) (by decide) (by decide +kernel)
theorem pw_10_50 : powW (.int 10) (.int 50) S k = k (.int 100000000000000000000000000000000000000000000000000) S := pw_of (by decide) (by decide) (by decide) (by decide) (by decide +kernel)
theorem pw_10_58 : powW (.int 10) (.int 58) S k = k (.int 10000000000000000000000000000000000000000000000000000000000) S := pw_of (by decide) (by decide) (by decide) (by decide) (by decide +kernel)
theorem pw_10_59 : powW (.int 10) (.int 59) S k = k (.int 100000000000000000000000000000000000000000000000000000000000) S := pw_of (by decide) (by decide) (by decide) (by decide) (by decide +kernel)
theorem pw_10_60 : powW (.int 10) (.int 60) S k = k (.int 1000000000000000000000000000000000000000000000000000000000000) S := pw_of (by decide) (by decide) (by decide) (by decide) (by decide +kernel)
theorem pw_m61_4 : powW (.int 2305843009213693951) (.int 4) S k = k (.int 28269553036454149224292902704178252817674109380037990394614044720680140801) S := pw_of (by decide) (by decide) (by decide) (by decide) (by decide +kernel)
end
def cellv (ns : List Int) (k : Int) : Int := if k < (ns.length : Int) then ns.getD k.toNat 0 else 0
theorem cellv_bits {ns : List Int} (h : ∀ z ∈ ns, Builtin.Int.intBits z ≤ 1048576) (k : Int) : Builtin.Int.intBits (cellv ns k) ≤ 1048576 := by
  unfold cellv
  split
  · rw [List.getD_eq_getElem?_getD]
    cases e : ns[k.toNat]? with
    | none => exact Nat.zero_le _
    | some z => exact h z (List.mem_of_getElem? e)
  · exact Nat.zero_le _
theorem at_ints {ns : List Int} {k : Int} (h0 : 0 ≤ k) (h1 : k < (ns.length : Int)) : L2.atI (ns.map D.int) k = some (.int (ns.getD k.toNat 0)) := by
  obtain ⟨j, rfl⟩ : ∃ j : Nat, k = (j : Int) := ⟨k.toNat, by omega⟩
  have hj : j < ns.length := by omega
  refine L2.atI_nat ?_
  rw [List.getElem?_map, List.getElem?_eq_getElem hj]
  simp [List.getD_eq_getElem?_getD, hj]
end Ab

namespace Ab
open PySem
def Sz (n : Nat) (a : Int) : Prop := a.natAbs < 2 ^ n
theorem Sz.mono {n m : Nat} {a : Int} (h : Sz n a) (l : n ≤ m) : Sz m a := Nat.lt_of_lt_of_le h (Nat.pow_le_pow_right (by decide) l)
theorem Sz.mul {n m : Nat} {a b : Int} (h : Sz n a) (l : Sz m b) : Sz (n + m) (a * b) := by
  unfold Sz at *
  rw [Int.natAbs_mul, Nat.pow_add]
  exact Nat.mul_lt_mul'' h l
theorem Sz.add {n : Nat} {a b : Int} (h : Sz n a) (l : Sz n b) : Sz (n + 1) (a + b) := by
  unfold Sz at *
  have := Int.natAbs_add_le a b
  rw [Nat.pow_succ]
  omega
theorem Sz.neg {n : Nat} {a : Int} (h : Sz n a) : Sz n (-a) := by unfold Sz at *; omega
theorem Sz.of_abs {n : Nat} {a b : Int} (h : Sz n a) (l : b.natAbs ≤ a.natAbs) : Sz n b := Nat.lt_of_le_of_lt l h
theorem Sz.log2 {n : Nat} {a : Int} (h : Sz n a) (hn : 0 < n) : a.natAbs.log2 < n := by
  rcases Nat.eq_zero_or_pos a.natAbs with e | e
  · rw [e]; exact hn
  · exact (Nat.log2_lt (by omega)).mpr h
theorem Sz.bits {n : Nat} {a : Int} (h : Sz n a) (hn : 0 < n) : Builtin.Int.intBits a ≤ n := by
  have := bits_le (Nat.le_refl a.natAbs)
  have := h.log2 hn
  omega
theorem Sz.mulOk {n m : Nat} {a b : Int} (h : Sz n a) (l : Sz m b) (hn : 0 < n) (hm : 0 < m) (hs : n + m ≤ 134217728) : IntMulOk a b := by
  have h1 := h.bits hn
  have h2 := l.bits hm
  exact mul_bits (by omega)
theorem Sz.divOk {n : Nat} {a b : Int} (h : Sz n b) (h0 : b ≠ 0) (hn : 0 < n) (hs : n ≤ 9000) : CDivX a b := by
  have := h.log2 hn
  exact div_bd h0 (by omega)
theorem Sz.of_bits {n : Nat} {a : Int} (h : Builtin.Int.intBits a ≤ n) : Sz n a := by
  unfold Builtin.Int.intBits at h
  unfold Sz
  split at h
  · simp_all; exact Nat.pow_pos (by decide)
  · rename_i h0
    have : a.natAbs ≠ 0 := by simpa using h0
    have := (Nat.log2_lt this).mp (by omega : a.natAbs.log2 < n)
    exact this
theorem sz_lit {n : Nat} {a : Int} (h : a.natAbs < 2 ^ n) : Sz n a := h
theorem sz_le {n : Nat} {a : Int} (m : Nat) (h : a.natAbs ≤ m) (hm : m < 2 ^ n) : Sz n a := Nat.lt_of_le_of_lt h hm
def pR (q : Rat) : D := .tup [.int q.num, .int (q.den : Int)]
theorem den_pos (q : Rat) : 0 < (q.den : Int) := by have := q.den_pos; omega
theorem gcd_posr {t b : Int} (hb : b ≠ 0) : 0 < Int.gcd t b := Int.gcd_pos_iff.mpr (.inr hb)
theorem part_num {t b : Int} (hb : 0 < b) : t.fdiv (Int.gcd t b) = (Rat.divInt t b).num := by
  have := @gcd_posr t b (by omega)
  rw [fdiv_pos (by omega), Rat.num_divInt, Int.sign_eq_one_of_pos hb, Int.one_mul, Int.gcd_comm]
theorem part_den {t b : Int} (hb : 0 < b) : b.fdiv (Int.gcd t b) = ((Rat.divInt t b).den : Int) := by
  have := @gcd_posr t b (by omega)
  rw [fdiv_pos (by omega), Rat.den_divInt, if_neg (by omega), Int.gcd_comm]
  rw [Int.natCast_ediv]
  congr 1
  omega
theorem num_le (t b : Int) : (Rat.divInt t b).num.natAbs ≤ t.natAbs := by
  rw [Rat.num_divInt]
  by_cases h : b = 0
  · simp [h]
  · rw [Int.natAbs_ediv_of_dvd]
    · refine Nat.le_trans (Nat.div_le_self _ _) ?_
      rw [Int.natAbs_mul, Int.natAbs_sign_of_ne_zero h]
      omega
    · exact Int.dvd_mul_of_dvd_right (Int.gcd_dvd_right _ _)
theorem den_le {t b : Int} (h : b ≠ 0) : (Rat.divInt t b).den ≤ b.natAbs := by
  rw [Rat.den_divInt, if_neg h]
  exact Nat.div_le_self _ _
def SzR (n : Nat) (q : Rat) : Prop := Sz n q.num ∧ Sz n (q.den : Int)
theorem SzR.mono {n m : Nat} {q : Rat} (h : SzR n q) (l : n ≤ m) : SzR m q := ⟨h.1.mono l, h.2.mono l⟩
theorem SzR.div {n : Nat} {t b : Int} (h0 : b ≠ 0) (h1 : Sz n t) (h2 : Sz n b) : SzR n (Rat.divInt t b) :=
  ⟨h1.of_abs (num_le t b), h2.of_abs (by rw [Int.natAbs_natCast]; exact den_le h0)⟩
theorem plus_eq (x y : Rat) : Rat.divInt (x.num * y.den + y.num * x.den) (x.den * y.den) = x + y := by
  have := Rat.divInt_add_divInt x.num y.num (d₁ := x.den) (d₂ := y.den) (by have := den_pos x; omega) (by have := den_pos y; omega)
  rw [Rat.num_divInt_den, Rat.num_divInt_den] at this
  rw [this]
theorem times_eq (x y : Rat) : Rat.divInt (x.num * y.num) (x.den * y.den) = x * y := by
  have := Rat.divInt_mul_divInt x.num y.num (d₁ := x.den) (d₂ := y.den)
  rw [Rat.num_divInt_den, Rat.num_divInt_den] at this
  rw [this]
theorem mul_den_ne (x y : Rat) : (x.den : Int) * y.den ≠ 0 := by
  have h1 := den_pos x
  have h2 := den_pos y
  exact Int.mul_ne_zero (by omega) (by omega)
theorem SzR.add {n m : Nat} {x y : Rat} (h1 : SzR n x) (h2 : SzR m y) : SzR (n + m + 1) (x + y) := by
  rw [← plus_eq]
  exact SzR.div (mul_den_ne x y) ((h1.1.mul h2.2).add (((h2.1.mul h1.2)).mono (by omega))) ((h1.2.mul h2.2).mono (by omega))
theorem SzR.mul {n m : Nat} {x y : Rat} (h1 : SzR n x) (h2 : SzR m y) : SzR (n + m) (x * y) := by
  rw [← times_eq]
  exact SzR.div (mul_den_ne x y) (h1.1.mul h2.1) (h1.2.mul h2.2)
theorem ratlt_iff (x y : Rat) : x.num * (y.den : Int) < y.num * (x.den : Int) ↔ x < y := (Rat.lt_iff x y).symm
theorem size_ok {n : Nat} (h : n ≤ 1000000) : n ≤ sizeLine ↔ True := ⟨fun _ => trivial, fun _ => Nat.le_trans h (by decide +kernel)⟩
theorem size_ok2 {n : Nat} (h : n ≤ 1000000) : n < sizeLine ↔ True := ⟨fun _ => trivial, fun _ => Nat.lt_of_le_of_lt h (by decide +kernel)⟩
section
variable {x0 x1 x2 x3 x4 x5 x6 : D} {r : List D} {S : Sto} {k : KD} {q : Rat} {t : Ty}
theorem atI_0 : L2.atI (x0 :: r) 0 = some x0 := @L2.atI_nat D (x0 :: r) 0 x0 rfl
theorem atI_1 : L2.atI (x0 :: x1 :: r) 1 = some x1 := @L2.atI_nat D (x0 :: x1 :: r) 1 x1 rfl
theorem atI_2 : L2.atI (x0 :: x1 :: x2 :: r) 2 = some x2 := @L2.atI_nat D (x0 :: x1 :: x2 :: r) 2 x2 rfl
theorem atI_3 : L2.atI (x0 :: x1 :: x2 :: x3 :: r) 3 = some x3 := @L2.atI_nat D (x0 :: x1 :: x2 :: x3 :: r) 3 x3 rfl
theorem atI_4 : L2.atI (x0 :: x1 :: x2 :: x3 :: x4 :: r) 4 = some x4 := @L2.atI_nat D (x0 :: x1 :: x2 :: x3 :: x4 :: r) 4 x4 rfl
theorem atI_5 : L2.atI (x0 :: x1 :: x2 :: x3 :: x4 :: x5 :: r) 5 = some x5 := @L2.atI_nat D (x0 :: x1 :: x2 :: x3 :: x4 :: x5 :: r) 5 x5 rfl
theorem atI_6 : L2.atI (x0 :: x1 :: x2 :: x3 :: x4 :: x5 :: x6 :: r) 6 = some x6 := @L2.atI_nat D (x0 :: x1 :: x2 :: x3 :: x4 :: x5 :: x6 :: r) 6 x6 rfl
theorem ix_pR0 : ixD S (pR q) 0 = some (.int q.num) := by
  show L2.atI [D.int q.num, D.int q.den] 0 = _
  exact atI_0
theorem ix_pR1 : ixD S (pR q) 1 = some (.int q.den) := by
  show L2.atI [D.int q.num, D.int q.den] 1 = _
  exact atI_1
theorem len_pR : lenF [pR q] S k = k (.int 2) S := by
  unfold pR; rw [lenF_t]; rfl
theorem isi_pR : isiD S t (pR q) = some (decide (t = .tuple)) := id rfl
end
mutual
/-- whole numbers, texts, None, and lists and tuples of them -/
def D.plain : D → Bool
  | .non => true
  | .int _ => true
  | .str _ => true
  | .tup xs => plainAll xs
  | .lst xs => plainAll xs
  | _ => false
def plainAll : List D → Bool
  | [] => true
  | x :: xs => x.plain && plainAll xs
end
theorem plainAll_iff : ∀ {xs : List D}, plainAll xs = true ↔ ∀ x ∈ xs, x.plain = true
  | [] => by simp [plainAll]
  | x :: xs => by
    unfold plainAll
    rw [Bool.and_eq_true, plainAll_iff (xs := xs)]
    simp
mutual
theorem plain_pure : ∀ x : D, x.plain = true → x.pure = true
  | .non, _ => by unfold D.pure; rfl
  | .int _, _ => by unfold D.pure; rfl
  | .str _, _ => by unfold D.pure; rfl
  | .tup xs, h => by unfold D.pure; unfold D.plain at h; exact plainAll_pure xs h
  | .lst xs, h => by unfold D.pure; unfold D.plain at h; exact plainAll_pure xs h
  | .bl _, h => by unfold D.plain at h; cases h
  | .scr _, h => by unfold D.plain at h; cases h
  | .cell _, h => by unfold D.plain at h; cases h
  | .exn .., h => by unfold D.plain at h; cases h
theorem plainAll_pure : ∀ xs : List D, plainAll xs = true → pureAll xs = true
  | [], _ => by unfold pureAll; rfl
  | x :: xs, h => by
    unfold plainAll at h
    rw [Bool.and_eq_true] at h
    unfold pureAll
    rw [plain_pure x h.1, plainAll_pure xs h.2]; rfl
end
mutual
theorem eqv_iff : ∀ x y : D, x.plain = true → y.plain = true → (PyData.eqv x.py y.py = true ↔ x = y)
  | .non, y, _, hy => by cases y <;> simp [D.py, PyData.eqv, D.plain] at hy ⊢
  | .int a, y, _, hy => by cases y <;> simp [D.py, PyData.eqv, D.plain] at hy ⊢
  | .str a, y, _, hy => by cases y <;> simp [D.py, PyData.eqv, D.plain] at hy ⊢
  | .tup xs, y, hx, hy => by
    cases y <;> simp [D.py, PyData.eqv, D.plain] at hx hy ⊢
    exact eqvAll_iff xs _ hx hy
  | .lst xs, y, hx, hy => by
    cases y <;> simp [D.py, PyData.eqv, D.plain] at hx hy ⊢
    exact eqvAll_iff xs _ hx hy
  | .bl _, _, h, _ => by unfold D.plain at h; cases h
  | .scr _, _, h, _ => by unfold D.plain at h; cases h
  | .cell _, _, h, _ => by unfold D.plain at h; cases h
  | .exn .., _, h, _ => by unfold D.plain at h; cases h
theorem eqvAll_iff : ∀ xs ys : List D, plainAll xs = true → plainAll ys = true → (PyData.eqvAll (pyAll xs) (pyAll ys) = true ↔ xs = ys)
  | [], [], _, _ => by simp [pyAll, PyData.eqvAll]
  | [], _ :: _, _, _ => by simp [pyAll, PyData.eqvAll]
  | _ :: _, [], _, _ => by simp [pyAll, PyData.eqvAll]
  | x :: xs, y :: ys, hx, hy => by
    unfold plainAll at hx hy
    rw [Bool.and_eq_true] at hx hy
    simp only [pyAll, PyData.eqvAll, Bool.and_eq_true, List.cons.injEq]
    rw [eqv_iff x y hx.1 hy.1, eqvAll_iff xs ys hx.2 hy.2]
end
theorem eqv_self {x : D} (h : x.plain = true) : x.eqv x = true := (eqv_iff x x h h).mpr rfl
theorem eqW_self {x : D} {S : Sto} {k : KD} (h1 : x.plain = true) (o1 : okEq 9 x = true) (h : k (.bl true) S) : eqW x x S k :=
  eqW_of (plain_pure x h1) (plain_pure x h1) o1 o1 (by rw [eqv_self h1]; exact h)
theorem neW_self {x : D} {S : Sto} {k : KD} (h1 : x.plain = true) (o1 : okEq 9 x = true) (h : k (.bl false) S) : neW x x S k := eqW_self h1 o1 h
theorem pR_plain (q : Rat) : (pR q).plain = true := by unfold pR D.plain plainAll D.plain plainAll D.plain plainAll; rfl
theorem pR_ok (q : Rat) : okEq 9 (pR q) = true := by rfl
end Ab

namespace Ab
open PySem
section
variable {S : Sto} {c d : Cel} {xs : List D}
theorem stl_get : (S ++ [c])[S.length]? = some c := by simp
theorem stl_set : (S ++ [c]).set S.length d = S ++ [d] := by simp
theorem stl_take : (S ++ [c]).take S.length = S := by simp
theorem lview_top : lview (S ++ [.lst xs]) (.cell S.length) = some xs := lview_c stl_get
theorem rview_top : rview (S ++ [.lst xs]) (.cell S.length) = some xs := rview_c stl_get
end
theorem lc_rel {i : Nat} {vs : List Nat} {we : WE} {ds : List D} {gd : Sto → Prop} {s : Env} {S : Sto} {fin : List D → Sto → Prop} (Q : Nat → D → D → Prop) (hl : ds.length < sizeLine) (hg : gd S)
    (he : ∀ n x, ds[n]? = some x → ∀ k : KD, (∀ y, Q n x y → k y S) → we noXC ((wipeD s vs).set i (some x)) S k)
    (hf : ∀ ys : List D, ys.length = ds.length → (∀ (n : Nat) (x y : D), ds[n]? = some x → ys[n]? = some y → Q n x y) → fin ys S) : lcW i vs wYes we ds gd s S fin := by
  refine ⟨hl, fun n acc S2 => S2 = S ∧ (n ≤ ds.length → acc.length = n) ∧ ∀ (m : Nat) (x y : D), ds[m]? = some x → acc[m]? = some y → Q m x y, ⟨rfl, by simp, by simp⟩, ?_, ?_⟩
  · rintro n x acc S2 hx hle ⟨rfl, h1, h2⟩
    refine ⟨hg, ?_⟩
    simp only [wYes, if_true]
    refine he n x hx _ fun y hy => ⟨rfl, ?_, ?_⟩
    · intro hn
      rw [List.length_append, h1 (by omega)]; rfl
    · intro m x' y' e1 e2
      have hn : n < ds.length := by
        rcases Nat.lt_or_ge n ds.length with h | h
        · exact h
        · rw [List.getElem?_eq_none h] at hx; cases hx
      have hal := h1 (by omega)
      by_cases hm : m < n
      · rw [List.getElem?_append_left (by omega)] at e2
        exact h2 m x' y' e1 e2
      · by_cases hmn : m = n
        · subst hmn
          rw [hx] at e1
          cases e1
          rw [List.getElem?_append_right (by omega), hal, Nat.sub_self] at e2
          cases e2
          exact hy
        · rw [List.getElem?_eq_none (by rw [List.length_append]; simp; omega)] at e2
          cases e2
  · rintro acc S2 - ⟨rfl, h1, h2⟩
    exact ⟨hg, hf acc (h1 (Nat.le_refl _)) h2⟩
theorem rngD_get {a : Int} {m n : Nat} {x : D} (h : (rngD a m)[n]? = some x) : n < m ∧ x = .int (a + n) := by
  unfold rngD at h
  rw [List.getElem?_map] at h
  have : n < m := by
    rcases Nat.lt_or_ge n m with l | l
    · exact l
    · rw [List.getElem?_eq_none (by simpa using l)] at h; cases h
  rw [List.getElem?_range this] at h
  cases h
  exact ⟨this, rfl⟩
theorem rngD_len {a : Int} {m : Nat} : (rngD a m).length = m := by unfold rngD; simp
theorem lift_map {α : Type} (f : α → D) (P : Nat → α → Prop) : ∀ (ys : List D), (∀ (n : Nat) (y : D), ys[n]? = some y → ∃ a, y = f a ∧ P n a) → ∃ as : List α, ys = as.map f ∧ ∀ (n : Nat) (a : α), as[n]? = some a → P n a
  | [], _ => ⟨[], rfl, by simp⟩
  | y :: ys, h => by
    obtain ⟨a, rfl, ha⟩ := h 0 y rfl
    obtain ⟨as, rfl, has⟩ := lift_map f (fun n => P (n + 1)) ys fun n y e => h (n + 1) y e
    refine ⟨a :: as, rfl, fun n b e => ?_⟩
    cases n with
    | zero => cases e; exact ha
    | succ n => exact has n b e
def vI (v : List Int) : List D := v.map .int
theorem vI_len {v : List Int} : (vI v).length = v.length := by unfold vI; simp
theorem vI_plain (v : List Int) : plainAll (vI v) = true := plainAll_iff.mpr fun x hx => by
  unfold vI at hx
  obtain ⟨z, _, rfl⟩ := List.mem_map.mp hx
  unfold D.plain; rfl
theorem vI_ok {n : Nat} (v : List Int) : okEq (n + 2) (.lst (vI v)) = true := by
  unfold okEq
  rw [List.all_eq_true]
  intro x hx
  unfold vI at hx
  obtain ⟨z, _, rfl⟩ := List.mem_map.mp hx
  rfl
theorem lst_plain {xs : List D} (h : plainAll xs = true) : (D.lst xs).plain = true := by unfold D.plain; exact h
theorem lst_pure {xs : List D} (h : pureAll xs = true) : (D.lst xs).pure = true := by unfold D.pure; exact h
theorem vI_inj {v w : List Int} (h : vI v = vI w) : v = w := by
  unfold vI at h
  exact (List.map_inj_right (fun a b e => by cases e; rfl)).mp h
def gI (v : List Int) (i : Int) : Int := v.getD i.toNat 0
theorem at_vI {v : List Int} {k : Int} (h0 : 0 ≤ k) (h1 : k < (v.length : Int)) : L2.atI (vI v) k = some (.int (gI v k)) := at_ints h0 h1
def bump (v : List Int) (i c : Int) : List Int := v.set i.toNat (gI v i + c)
def bumps {α : Type} (f c : α → Int) (v : List Int) (xs : List α) : List Int := xs.foldl (fun v x => bump v (f x) (c x)) v
theorem take_succ_of {α : Type} {xs : List α} {n : Nat} {x : α} (h : xs[n]? = some x) : xs.take (n + 1) = xs.take n ++ [x] := by
  rw [List.take_add_one, h]; rfl
def zeros (m : Nat) : List Int := List.replicate m 0
structure Dd where
  a : Int
  b : Int
  r : Int
  c : Int
def Dd.d (x : Dd) : D := .tup [.int x.a, .int x.b, .int x.r, .int x.c]
def Dd.Ok (m : Int) (x : Dd) : Prop := 0 ≤ x.a ∧ x.a < m ∧ 0 ≤ x.b ∧ x.b < m ∧ x.a ≠ x.b ∧ 0 ≤ x.r ∧ x.r < 3 ∧ 0 ≤ x.c ∧ x.c ≤ 1000000000000
def dueL (xs : List Dd) : List D := xs.map Dd.d
theorem dueL_len {xs : List Dd} : (dueL xs).length = xs.length := by unfold dueL; simp
section
variable {S : Sto} {x : Dd} {k : KD} {t : Ty}
theorem ix_due0 : ixD S x.d 0 = some (.int x.a) := by
  show L2.atI [D.int x.a, D.int x.b, D.int x.r, D.int x.c] 0 = _
  exact atI_0
theorem ix_due1 : ixD S x.d 1 = some (.int x.b) := by
  show L2.atI [D.int x.a, D.int x.b, D.int x.r, D.int x.c] 1 = _
  exact atI_1
theorem ix_due2 : ixD S x.d 2 = some (.int x.r) := by
  show L2.atI [D.int x.a, D.int x.b, D.int x.r, D.int x.c] 2 = _
  exact atI_2
theorem ix_due3 : ixD S x.d 3 = some (.int x.c) := by
  show L2.atI [D.int x.a, D.int x.b, D.int x.r, D.int x.c] 3 = _
  exact atI_3
theorem len_due : lenF [x.d] S k = k (.int 4) S := by
  unfold Dd.d; rw [lenF_t]; rfl
theorem isi_due : isiD S t x.d = some (decide (t = .tuple)) := id rfl
end
theorem emod_lo {a b : Int} (h : 0 < b) : 0 ≤ a % b := Int.emod_nonneg _ (by omega)
theorem emod_hi {a b : Int} (h : 0 < b) : a % b < b := Int.emod_lt_of_pos _ h
theorem Dd.Ok.mono {m n : Int} {x : Dd} (h : x.Ok m) (l : m ≤ n) : x.Ok n := by
  obtain ⟨h1, h2, h3, h4, h5⟩ := h
  exact ⟨h1, by omega, h3, by omega, h5⟩
section
variable {xs : List D} {c0 c1 c2 c3 c4 : Cel} {r : Sto}
theorem lview_0 : lview (.lst xs :: r) (.cell 0) = some xs := id rfl
theorem lview_1 : lview (c0 :: .lst xs :: r) (.cell 1) = some xs := id rfl
theorem lview_2 : lview (c0 :: c1 :: .lst xs :: r) (.cell 2) = some xs := id rfl
theorem lview_3 : lview (c0 :: c1 :: c2 :: .lst xs :: r) (.cell 3) = some xs := id rfl
theorem lview_4 : lview (c0 :: c1 :: c2 :: c3 :: .lst xs :: r) (.cell 4) = some xs := id rfl
theorem lview_5 : lview (c0 :: c1 :: c2 :: c3 :: c4 :: .lst xs :: r) (.cell 5) = some xs := id rfl
end
def owesI (m : Int) (sh : List Dd) : List Int := bumps Dd.a Dd.c (zeros m.toNat) sh
def claimsI (m : Int) (sh : List Dd) : List Int := bumps Dd.b Dd.c (zeros m.toNat) sh
def netsI (m : Int) (sh : List Dd) : List Int := bumps Dd.a (fun x => -x.c) (claimsI m sh) sh
section
variable {S : Sto} {n m : Nat} {xs ys : List D} {k : KD}
end
theorem vI_of {ys : List D} {v : List Int} (hl : ys.length = v.length) (h : ∀ (n : Nat) (y : D), ys[n]? = some y → y = .int (gI v n)) : ys = vI v := by
  refine List.ext_getElem? fun i => ?_
  by_cases hi : i < ys.length
  · have e := h i _ (List.getElem?_eq_getElem hi)
    rw [List.getElem?_eq_getElem hi, e]
    unfold vI gI
    rw [List.getElem?_map, List.getElem?_eq_getElem (by omega)]
    simp [List.getD_eq_getElem?_getD, show i < v.length by omega]
  · rw [List.getElem?_eq_none (by omega), List.getElem?_eq_none (by rw [vI_len]; omega)]
end Ab

namespace Ab
open PySem PySem.Spec PyProof.Rows L2
def canS (K : PySem.W.Frag) (g : Gi) (W : WX) (w : WS) : TS := fun Dv sv H => ∃ H0 r S s Dk, Sim K g H0 r S H ∧ RelSt K H0 r s sv ∧ w Dk s S ∧ CtS K g H0 r H W Dk Dv
section
variable {X : Cx} {g : Gi} {W : WX} {w : WS} {st : List Stmt}
theorem SSs.ps (h : SSs X g W st w) : PSs X st (canS X.K g W w) := by
  obtain ⟨t, p, gg⟩ := h
  exact ⟨fun pins s σ H D I ⟨H0, r, S, sd, Dk, si, rs, hw, ct⟩ => p.run pins s σ H D I (gg H0 r S H sd σ Dk D si rs hw ct)⟩
def wTry (i : Nat) (rl : List Str) (cat : Str → Bool) (w : WS) (ws : Addr → Str → WS) : WS := fun (D : HG Kd) s S =>
  w { nx := D.nx, rt := D.rt, xc := fun c s1 S1 => rl.contains c = true ∧ if cat c = true then ∀ a : Addr, ws a c { nx := fun s2 S2 => D.nx (s2.set i none) S2, rt := D.rt, xc := fun _ _ _ => False } (s1.set i (some (.exn a c))) S1 else D.xc c s1 S1 } s S
theorem RelSt.clear {K : PySem.W.Frag} {H0 : Hp} {r : List Addr} {s : Env} {sv : L2.St} (h : RelSt K H0 r s sv) (i : Nat) : RelSt K H0 r (s.set i none) (sv.set i none) := by
  refine ⟨by simp [h.1], fun j d e => ?_⟩
  by_cases hij : i = j
  · subst hij
    by_cases hl : i < s.length
    · rw [List.getElem?_set_self hl] at e; cases e
    · rw [List.getElem?_eq_none (by simp; omega)] at e; cases e
  · rw [List.getElem?_set_ne hij] at e ⊢
    exact h.2 j d e
def eSub (c y : Str) : Bool := decide (c = y) || decide (y = "QuitsError") || decide (y = "ValueError")
def wIsE (a : Addr) (c : Str) (b : Bool) (wa : WE) : WE := fun (xc : HG XE) s S k => wa xc s S fun d S1 => d = .exn a c ∧ k (.bl b) S1
end
def ratL (qs : List Rat) : List D := qs.map pR
theorem ratL_len {qs : List Rat} : (ratL qs).length = qs.length := by unfold ratL; simp
def sumR (qs : List Rat) : Rat := qs.foldl (· + ·) 0
def netB (v : List Int) (x : Dd) : List Int := bump (bump v x.a (-x.c)) x.b x.c
def houseP (m : Int) (v : List Int) (i : Nat) : List Dd := if gI v i < 0 then [⟨i, m, 0, -(gI v i)⟩] else if gI v i > 0 then [⟨m, i, 0, gI v i⟩] else []
def houseL (m : Int) (v : List Int) : Nat → List Dd
  | 0 => []
  | n + 1 => houseL m v n ++ houseP m v n
section
variable {S : Sto} {d : D} {xs : List D} {k : KD} {i : Int} {t : Ty}
end
def matL (m : List (List Int)) : List D := m.map fun v => .lst (vI v)
theorem matL_len {m : List (List Int)} : (matL m).length = m.length := by unfold matL; simp
theorem matL_plain (m : List (List Int)) : plainAll (matL m) = true := plainAll_iff.mpr fun x hx => by
  unfold matL at hx
  obtain ⟨z, _, rfl⟩ := List.mem_map.mp hx
  exact lst_plain (vI_plain z)
theorem matL_pure (m : List (List Int)) : pureAll (matL m) = true := plainAll_pure _ (matL_plain m)
theorem matL_ok {n : Nat} (m : List (List Int)) : okEq (n + 3) (.lst (matL m)) = true := by
  unfold okEq
  rw [List.all_eq_true]
  intro x hx
  unfold matL at hx
  obtain ⟨z, _, rfl⟩ := List.mem_map.mp hx
  exact vI_ok z
theorem matL_get {m : List (List Int)} {i : Nat} {x : D} (h : (matL m)[i]? = some x) : ∃ v, m[i]? = some v ∧ x = .lst (vI v) := by
  unfold matL at h
  rw [List.getElem?_map] at h
  cases e : m[i]? with
  | none => rw [e] at h; cases h
  | some z => rw [e] at h; cases h; exact ⟨z, rfl, rfl⟩
theorem matL_snoc {m : List (List Int)} {v : List Int} : matL m ++ [.lst (vI v)] = matL (m ++ [v]) := by unfold matL; simp
theorem at_matL {m : List (List Int)} {k : Int} (h0 : 0 ≤ k) (h1 : k < (m.length : Int)) : ∃ v, v ∈ m ∧ L2.atI (matL m) k = some (.lst (vI v)) := by
  obtain ⟨j, rfl⟩ : ∃ j : Nat, k = (j : Int) := ⟨k.toNat, by omega⟩
  have hj : j < m.length := by omega
  refine ⟨m[j], List.getElem_mem hj, L2.atI_nat ?_⟩
  unfold matL
  rw [List.getElem?_map, List.getElem?_eq_getElem hj]
  rfl
theorem vI_map {α : Type} {as : List α} {ys : List D} (g : α → Int) (hl : ys.length = as.length) (h : ∀ (n : Nat) (a : α) (y : D), as[n]? = some a → ys[n]? = some y → y = .int (g a)) : ys = vI (as.map g) := by
  refine List.ext_getElem? fun i => ?_
  unfold vI
  rw [List.getElem?_map, List.getElem?_map]
  by_cases hi : i < ys.length
  · have e := h i as[i] ys[i] (List.getElem?_eq_getElem (by omega)) (List.getElem?_eq_getElem hi)
    rw [List.getElem?_eq_getElem hi, List.getElem?_eq_getElem (by omega), e]
    rfl
  · rw [List.getElem?_eq_none (by omega), List.getElem?_eq_none (by omega)]
    rfl
theorem lift_ints {P : Int → Prop} (ys : List D) (h : ∀ y ∈ ys, ∃ z : Int, y = .int z ∧ P z) : ∃ v : List Int, ys = vI v ∧ ∀ z ∈ v, P z := by
  obtain ⟨as, e, ha⟩ := lift_map D.int (fun _ z => P z) ys fun n y e => h y (List.mem_of_getElem? e)
  refine ⟨as, e, fun x hx => ?_⟩
  obtain ⟨n, hn⟩ := List.mem_iff_getElem?.mp hx
  exact ha n x hn
theorem sum_nonneg {v : List Int} (h : ∀ z ∈ v, 0 ≤ z) : 0 ≤ v.sum := by
  induction v with
  | nil => decide
  | cons a v ih =>
    rw [List.sum_cons]
    have := h a (by simp)
    have := ih fun z hz => h z (by simp [hz])
    omega
theorem sum_le {b : Int} : ∀ {v : List Int}, (∀ z ∈ v, z ≤ b) → v.sum ≤ b * (v.length : Int)
  | [], _ => by simp
  | a :: v, h => by
    rw [List.sum_cons, List.length_cons]
    have h1 := h a (by simp)
    have h2 := sum_le (v := v) fun z hz => h z (by simp [hz])
    have : b * ((v.length + 1 : Nat) : Int) = b * (v.length : Int) + b := by
      rw [Int.natCast_add, Int.mul_add]; simp
    rw [this]
    omega
theorem gI_mem {v : List Int} {k : Nat} (h : k < v.length) : gI v k ∈ v := by
  unfold gI
  rw [List.getD_eq_getElem?_getD]
  simp [h]
end Ab

namespace Ab
open PySem
theorem gI_nat {v : List Int} {n : Nat} (h : n < v.length) : gI v n = v[n] := by
  unfold gI
  rw [List.getD_eq_getElem?_getD, Int.toNat_natCast]
  simp [h]
def qS (c w : Int) (b : List Int) : List Int := b.map fun x => c * x / w
def rS (c w : Int) (b : List Int) : List Int := b.map fun x => c * x % w
def ovS (c w : Int) (b : List Int) : Nat → Int
  | 0 => c - (qS c w b).sum
  | n + 1 => if 0 < ovS c w b n ∧ gI (rS c w b) n ≠ 0 then ovS c w b n - 1 else ovS c w b n
def liS (c w : Int) (b : List Int) : Nat → List Int
  | 0 => qS c w b
  | n + 1 => if 0 < ovS c w b n ∧ gI (rS c w b) n ≠ 0 then (liS c w b n).set n (gI (liS c w b n) n + 1) else liS c w b n
section
variable {c w : Int} {b : List Int}
end
def shareL (c : Int) (b : List Int) : List Int := if b.sum = 0 then b.map fun _ => 0 else liS c b.sum b b.length
def sumA (sh : List Dd) (j : Int) : Int := (sh.map fun x => if x.a = j then x.c else 0).sum
def sumB (sh : List Dd) (j : Int) : Int := (sh.map fun x => if x.b = j then x.c else 0).sum
def pickA (j : Int) : D → Bool
  | .tup (.int a :: _) => decide (a = j)
  | _ => false
def pickB (j : Int) : D → Bool
  | .tup (_ :: .int a :: _) => decide (a = j)
  | _ => false
def pickC : D → D
  | .tup (_ :: _ :: _ :: c :: _) => c
  | d => d
theorem cut_take {xs : List D} {h : Int} (h0 : 0 ≤ h) : cutD xs none (some h) = xs.take h.toNat := by
  unfold cutD HT.sIx
  dsimp only
  rw [if_neg (by omega), List.drop_zero, Nat.sub_zero]
  by_cases c : h.toNat ≤ xs.length
  · rw [Nat.min_eq_left c]
  · rw [Nat.min_eq_right (by omega), List.take_length, List.take_of_length_le (by omega)]
def gapsI (v p : List Int) : List Int := (List.range p.length).map fun (k : Nat) => if 0 - gI v k - gI p k > 0 then 0 - gI v k - gI p k else 0
end Ab

namespace Ab
open PySem
def ovG (f : Nat → Bool) (o : Int) : Nat → Int
  | 0 => o
  | n + 1 => if 0 < ovG f o n ∧ f n = true then ovG f o n - 1 else ovG f o n
def liG (f : Nat → Bool) (o : Int) (q : List Int) : Nat → List Int
  | 0 => q
  | n + 1 => if 0 < ovG f o n ∧ f n = true then (liG f o q n).set n (gI (liG f o q n) n + 1) else liG f o q n
section
variable {f : Nat → Bool} {o : Int} {q : List Int}
def cntG (f : Nat → Bool) : Nat → Nat
  | 0 => 0
  | n + 1 => cntG f n + if f n = true then 1 else 0
end
def levelR : Int → Int → List Int → Int
  | l, _, [] => l
  | l, r, x :: xs => if r < (x - l) * ((xs.length : Int) + 1) then l + r / ((xs.length : Int) + 1) else levelR x (r - (x - l) * ((xs.length : Int) + 1)) xs
def minS (l : Int) (xs : List Int) : Int := (xs.map fun x => if l < x then l else x).sum
def above (l : Int) (xs : List Int) : Nat := (xs.filter fun x => decide (l < x)).length
def rankI (b : List Int) : List Int := b.mergeSort fun x y => decide (x ≤ y)
def levelI (c : Int) (b : List Int) : Int := levelR 0 c (rankI b)
def aboveF (l : Int) (b : List Int) (k : Nat) : Bool := decide (l < gI b k)
def minL (l : Int) (b : List Int) : List Int := b.map fun x => if l < x then l else x
def levelL (c : Int) (b : List Int) : List Int := liG (aboveF (levelI c b) b) (c - minS (levelI c b) b) (minL (levelI c b) b) b.length
end Ab

namespace Ab
open PySem PySem.Spec PyProof.Rows L2
def FzR (S : Sto) (d a : D) (S' : Sto) : Prop := ∀ (K : PySem.W.Frag) (g : Gi) (H0 : Hp) (r : List Addr) (H : Hp) (v : V), Sim K g H0 r S H → Rel K H0 r d v →
  ∃ H0', Sim K g H0' r S' H ∧ Fut H0 r H H0' r H ∧ Rel K H0' r a v
def FzsR (S : Sto) (ds as : List D) (S' : Sto) : Prop := ∀ (K : PySem.W.Frag) (g : Gi) (H0 : Hp) (r : List Addr) (H : Hp) (vs : List V), Sim K g H0 r S H → Rels K H0 r ds vs →
  ∃ H0', Sim K g H0' r S' H ∧ Fut H0 r H H0' r H ∧ Rels K H0' r as vs
theorem FzsR.nil {S : Sto} : FzsR S [] [] S := fun _ _ H0 _ _ _ si rl => ⟨H0, si, .refl, rl⟩
theorem FzsR.cons {S S1 S2 : Sto} {d a : D} {ds as : List D} (h : FzR S d a S1) (h2 : FzsR S1 ds as S2) : FzsR S (d :: ds) (a :: as) S2 := by
  intro K g H0 r H vs si rl
  obtain ⟨y, ys, rfl, r1, r2⟩ := rl.uncons
  obtain ⟨H1, s1, f1, q1⟩ := h K g H0 r H y si r1
  obtain ⟨H2, s2, f2, q2⟩ := h2 K g H1 r H ys s1 (r2.fut f1)
  exact ⟨H2, s2, f1.tr s1 f2, Rels.cons (q1.fut f2) q2⟩
theorem FzR.cell {S S' : Sto} {n : Nat} {xs ys : List D} (e : S[n]? = some (.lst xs)) (h : FzsR S xs ys S') (e2 : S'[n]? = some (.lst xs)) : FzR S (.cell n) (.lst ys) (S'.set n .dead) := by
  intro K g H0 r H v si rl
  unfold Rel at rl
  obtain ⟨p, rfl, hr⟩ := rl
  obtain ⟨_, zs, hp, hz⟩ := si.cel n p _ hr e
  obtain ⟨H1, s1, f1, q1⟩ := h K g H0 r H zs si hz
  obtain ⟨ws, hp2, s2, f2, _⟩ := s1.freeze hr e2
  rw [hp] at hp2
  cases hp2
  refine ⟨_, s2, f1.tr s1 f2, ?_⟩
  unfold Rel
  exact ⟨p, zs, rfl, .inl upd_same, q1.fut f2⟩
theorem FzR.tup {S S' : Sto} {xs ys : List D} (h : FzsR S xs ys S') : FzR S (.tup xs) (.tup ys) S' := by
  intro K g H0 r H v si rl
  unfold Rel at rl
  obtain ⟨a, zs, rfl, h1, h2⟩ := rl
  obtain ⟨H1, s1, f1, q1⟩ := h K g H0 r H zs si h2
  refine ⟨H1, s1, f1, ?_⟩
  unfold Rel
  exact ⟨a, zs, rfl, f1.ext.sqt h1, q1⟩
theorem FzR.lst {S S' : Sto} {xs ys : List D} (h : FzsR S xs ys S') : FzR S (.lst xs) (.lst ys) S' := by
  intro K g H0 r H v si rl
  unfold Rel at rl
  obtain ⟨a, zs, rfl, h1, h2⟩ := rl
  obtain ⟨H1, s1, f1, q1⟩ := h K g H0 r H zs si h2
  refine ⟨H1, s1, f1, ?_⟩
  unfold Rel
  exact ⟨a, zs, rfl, f1.ext.rd h1, q1⟩
def frzDW (d : D) (S : Sto) (k : KD) : Prop := ∃ a S', FzR S d a S' ∧ k a S'
def wFrzD (w : WE) : WE := fun (xc : HG XE) s S k => w xc s S fun d S1 => frzDW d S1 k
section
variable {X : Cx} {g : Gi} {W : WX} {a b c e o : Expr} {pos : Pos} {wa wb wc we wo : WE}
end
def cellsD (n m : Nat) : List D := (List.range m).map fun i => .cell (n + i)
end Ab

namespace Ab
open PySem
theorem szlt {n : Nat} (h : n ≤ 1000000) : n < sizeLine := Nat.lt_of_le_of_lt h (by decide +kernel)
theorem szle {n : Nat} (h : n ≤ 1000000) : n ≤ sizeLine := Nat.le_trans h (by decide +kernel)
section
variable {S : Sto} {k : KD} {xs ys : List D} {n m : Nat}
end
end Ab

namespace Ab
open PySem PySem.Spec PyProof.Rows L2
section
variable {prog : Program} {w : World} {A : Around} {E : Value → Shared → Prop} {s : Shared}
end
def tLstRev (K : PySem.W.Frag) (te : TE) : TE := fun σ H Q => te σ H fun v H1 => ∃ (a : Addr) (xs : List V), v = .ref a ∧ SqL K H1 a xs ∧ ∀ q, H1 q = none → Q (.ref q) (upd H1 q (.lst xs.reverse))
section
variable {X : Cx}
end
section
variable {X : Cx} {g : Gi} {W : WX} {a b c e o : Expr} {es : List Expr} {pos cpos apos : Pos} {wa wb wc we wo : WE} {wt wu : WT} {ws : WA}
variable {K : PySem.W.Frag} {H0 H : Hp} {r : List Addr} {S : Sto} {d : D} {v : V} {ds : List D}
def kLstRev (k : KD) (d : D) (S : Sto) : Prop := ∃ xs, lview S d = some xs ∧ k (.lst xs.reverse) S
def kLstRevC (k : KD) (d : D) (S : Sto) : Prop := ∃ xs, lview S d = some xs ∧ k (.cell S.length) (S ++ [.lst xs.reverse])
def wLstRev (we : WE) : WE := fun (xc : HG XE) s S k => we xc s S (kLstRev k)
def wLstRevC (we : WE) : WE := fun (xc : HG XE) s S k => we xc s S (kLstRevC k)
def kLstRg (k : KD) : D → Sto → Prop
  | .int n, S => 0 ≤ n ∧ n ≤ 16777216 ∧ k (.lst (rngD 0 n.toNat)) S
  | _, _ => False
def kLstRgC (k : KD) : D → Sto → Prop
  | .int n, S => 0 ≤ n ∧ n ≤ 16777216 ∧ k (.cell S.length) (S ++ [.lst (rngD 0 n.toNat)])
  | _, _ => False
def wLstRg (we : WE) : WE := fun (xc : HG XE) s S k => we xc s S (kLstRg k)
def wLstRgC (we : WE) : WE := fun (xc : HG XE) s S k => we xc s S (kLstRgC k)
def dwnD (hi : Int) (n : Nat) : List D := (List.range n).map fun (k : Nat) => D.int (hi - (k : Int))
def kRng3 (k : List D → (Sto → Prop) → Sto → Prop) : List D → Sto → Prop
  | [.int i, .int j, .int c], S => (c = -1 ∧ -(2 ^ 62) ≤ i ∧ i < 2 ^ 62 ∧ -(2 ^ 62) ≤ j ∧ j < 2 ^ 62) ∧ k (dwnD i (i - j).toNat) (fun _ => True) S
  | _, _ => False
def wRng3 (ws : WA) : WI := fun (xc : HG XE) s S k => ws xc s S (kRng3 k)
def kRem (k : KD) (o : D) : D → Sto → Prop
  | .int z, S => ∃ (n : Nat) (ns : List Int), o = .cell n ∧ S[n]? = some (.lst (ns.map D.int)) ∧ z ∈ ns ∧ k .non (S.set n (.lst ((ns.erase z).map D.int)))
  | _, _ => False
def wRem (wo we : WE) : WE := fun (xc : HG XE) s S k => wo xc s S fun o S1 => (∃ xs, lview S1 o = some xs) ∧ we xc s S1 (kRem k o)
def popAtF : D → List D → Sto → KD → Prop
  | .cell n, [.int i], S, k => -(2 ^ 62) ≤ i ∧ i < 2 ^ 62 ∧ ∃ xs j y, S[n]? = some (.lst xs) ∧ ixN xs.length i = some j ∧ xs[j]? = some y ∧ k y (S.set n (.lst (xs.eraseIdx j)))
  | _, _, _, _ => False
def clrF : D → List D → Sto → KD → Prop
  | .cell n, [], S, k => ∃ xs, S[n]? = some (.lst xs) ∧ k .non (S.set n (.lst []))
  | _, _, _, _ => False
theorem kRng3_i {k : List D → (Sto → Prop) → Sto → Prop} {S : Sto} {a b c : Int} : kRng3 k [.int a, .int b, .int c] S = ((c = -1 ∧ -(2 ^ 62) ≤ a ∧ a < 2 ^ 62 ∧ -(2 ^ 62) ≤ b ∧ b < 2 ^ 62) ∧ k (dwnD a (a - b).toNat) (fun _ => True) S) := id rfl
theorem kLstRg_i {k : KD} {S : Sto} {n : Int} : kLstRg k (.int n) S = (0 ≤ n ∧ n ≤ 16777216 ∧ k (.lst (rngD 0 n.toNat)) S) := id rfl
theorem kLstRgC_i {k : KD} {S : Sto} {n : Int} : kLstRgC k (.int n) S = (0 ≤ n ∧ n ≤ 16777216 ∧ k (.cell S.length) (S ++ [.lst (rngD 0 n.toNat)])) := id rfl
theorem popAtF_i {k : KD} {S : Sto} {n : Nat} {i : Int} : popAtF (.cell n) [.int i] S k = (-(2 ^ 62) ≤ i ∧ i < 2 ^ 62 ∧ ∃ xs j y, S[n]? = some (.lst xs) ∧ ixN xs.length i = some j ∧ xs[j]? = some y ∧ k y (S.set n (.lst (xs.eraseIdx j)))) := id rfl
theorem clrF_i {k : KD} {S : Sto} {n : Nat} : clrF (.cell n) [] S k = ∃ xs, S[n]? = some (.lst xs) ∧ k .non (S.set n (.lst [])) := id rfl
end
end Ab

namespace Ab
open PySem PySem.Spec PyProof.Rows L2
theorem sld_ex {α : Type} (a : α) : ∃ b : α, b = a := ⟨a, rfl⟩
noncomputable def sld {α : Type} (a : α) : α := Classical.choose (sld_ex a)
theorem sld_eq {α : Type} (a : α) : sld a = a := Classical.choose_spec (sld_ex a)
noncomputable def vVar : (Nat) → (WE) := sld wVar
theorem vVar_s : vVar = wVar := sld_eq _
theorem vVar_q (i : Nat) (y0 : _) (s : _) (S : _) (k : _) : vVar i y0 s S k = (kOpt (slot s i) S k) := by rw [vVar_s]; rfl
noncomputable def vC : (D) → (WE) := sld wC
theorem vC_s : vC = wC := sld_eq _
theorem vC_q (d : D) (y0 : _) (y1 : _) (S : _) (k : _) : vC d y0 y1 S k = (k d S) := by rw [vC_s]; rfl
noncomputable def vOp : (OW) → (WE) → (WE) → (WE) := sld wOp
theorem vOp_s : vOp = wOp := sld_eq _
theorem vOp_q (f : OW) (wa wb : WE) (xc : _) (s : _) (S : _) (k : _) : vOp f wa wb xc s S k = (wa xc s S fun x S1 => wb xc s S1 fun y S2 => f x y S2 k) := by rw [vOp_s]; rfl
noncomputable def vNeg : (WE) → (WE) := sld wNeg
theorem vNeg_s : vNeg = wNeg := sld_eq _
theorem vNeg_q (wa : WE) (xc : _) (s : _) (S : _) (k : _) : vNeg wa xc s S k = (wa xc s S (kNeg k)) := by rw [vNeg_s]; rfl
noncomputable def vTest : (WE) → (WT) := sld wTest
theorem vTest_s : vTest = wTest := sld_eq _
theorem vTest_q (w : WE) (xc : _) (s : _) (S : _) (k : _) : vTest w xc s S k = (w xc s S (kBl k)) := by rw [vTest_s]; rfl
noncomputable def vChain : (OW) → (OW) → (WE) → (WE) → (WE) → (WE) := sld wChain
theorem vChain_s : vChain = wChain := sld_eq _
theorem vChain_q (f f' : OW) (wa wb wc : WE) (xc : _) (s : _) (S : _) (k : _) : vChain f f' wa wb wc xc s S k = (wa xc s S fun x S1 => wb xc s S1 fun y S2 => f x y S2 (kBl fun b S3 => if b = true then wc xc s S3 fun u S4 => f' y u S4 k else k (.bl false) S3)) := by rw [vChain_s]; rfl
noncomputable def vAnd : (WT) → (WT) → (WT) := sld wAnd
theorem vAnd_s : vAnd = wAnd := sld_eq _
theorem vAnd_q (wt wu : WT) (xc : _) (s : _) (S : _) (k : _) : vAnd wt wu xc s S k = (wt xc s S fun b S1 => if b = true then wu xc s S1 k else k false S1) := by rw [vAnd_s]; rfl
noncomputable def vOr : (WT) → (WT) → (WT) := sld wOr
theorem vOr_s : vOr = wOr := sld_eq _
theorem vOr_q (wt wu : WT) (xc : _) (s : _) (S : _) (k : _) : vOr wt wu xc s S k = (wt xc s S fun b S1 => if b = true then k true S1 else wu xc s S1 k) := by rw [vOr_s]; rfl
noncomputable def vNot : (WT) → (WT) := sld wNot
theorem vNot_s : vNot = wNot := sld_eq _
theorem vNot_q (wt : WT) (xc : _) (s : _) (S : _) (k : _) : vNot wt xc s S k = (wt xc s S fun b S1 => k (!b) S1) := by rw [vNot_s]; rfl
noncomputable def vAndV : (WE) → (WE) → (WE) := sld wAndV
theorem vAndV_s : vAndV = wAndV := sld_eq _
theorem vAndV_q (wa wb : WE) (xc : _) (s : _) (S : _) (k : _) : vAndV wa wb xc s S k = (wa xc s S (kBl fun b S1 => if b = true then wb xc s S1 k else k (.bl false) S1)) := by rw [vAndV_s]; rfl
noncomputable def vOrV : (WE) → (WE) → (WE) := sld wOrV
theorem vOrV_s : vOrV = wOrV := sld_eq _
theorem vOrV_q (wa wb : WE) (xc : _) (s : _) (S : _) (k : _) : vOrV wa wb xc s S k = (wa xc s S (kBl fun b S1 => if b = true then k (.bl true) S1 else wb xc s S1 k)) := by rw [vOrV_s]; rfl
noncomputable def vNotV : (WE) → (WE) := sld wNotV
theorem vNotV_s : vNotV = wNotV := sld_eq _
theorem vNotV_q (wa : WE) (xc : _) (s : _) (S : _) (k : _) : vNotV wa xc s S k = (wa xc s S (kNot k)) := by rw [vNotV_s]; rfl
noncomputable def vIfE : (WT) → (WE) → (WE) → (WE) := sld wIfE
theorem vIfE_s : vIfE = wIfE := sld_eq _
theorem vIfE_q (wt : WT) (wa wb : WE) (xc : _) (s : _) (S : _) (k : _) : vIfE wt wa wb xc s S k = (wt xc s S fun b S1 => if b = true then wa xc s S1 k else wb xc s S1 k) := by rw [vIfE_s]; rfl
noncomputable def vNoP : (WO) := sld wNoP
theorem vNoP_s : vNoP = wNoP := sld_eq _
theorem vNoP_q (y0 : _) (y1 : _) (S : _) (k : _) : vNoP  y0 y1 S k = (k none S) := by rw [vNoP_s]; rfl
noncomputable def vSoP : (WE) → (WO) := sld wSoP
theorem vSoP_s : vSoP = wSoP := sld_eq _
theorem vSoP_q (w : WE) (xc : _) (s : _) (S : _) (k : _) : vSoP w xc s S k = (w xc s S (kSoP k)) := by rw [vSoP_s]; rfl
noncomputable def vSl : (WE) → (WO) → (WO) → (WE) := sld wSl
theorem vSl_s : vSl = wSl := sld_eq _
theorem vSl_q (wa : WE) (wl wh : WO) (xc : _) (s : _) (S : _) (k : _) : vSl wa wl wh xc s S k = (wa xc s S fun x S1 => wl xc s S1 fun l S2 => wh xc s S2 fun u S3 => slW x l u S3 k) := by rw [vSl_s]; rfl
noncomputable def vNil : (WA) := sld wNil
theorem vNil_s : vNil = wNil := sld_eq _
theorem vNil_q (y0 : _) (y1 : _) (S : _) (k : _) : vNil  y0 y1 S k = (k [] S) := by rw [vNil_s]; rfl
noncomputable def vCons : (WE) → (WA) → (WA) := sld wCons
theorem vCons_s : vCons = wCons := sld_eq _
theorem vCons_q (wa : WE) (ws : WA) (xc : _) (s : _) (S : _) (k : _) : vCons wa ws xc s S k = (wa xc s S fun d S1 => ws xc s S1 fun ds S2 => k (d :: ds) S2) := by rw [vCons_s]; rfl
noncomputable def vTup : (WA) → (WE) := sld wTup
theorem vTup_s : vTup = wTup := sld_eq _
theorem vTup_q (ws : WA) (xc : _) (s : _) (S : _) (k : _) : vTup ws xc s S k = (ws xc s S fun ds S1 => ds.length ≤ sizeLine ∧ k (.tup ds) S1) := by rw [vTup_s]; rfl
noncomputable def vLst : (WA) → (WE) := sld wLst
theorem vLst_s : vLst = wLst := sld_eq _
theorem vLst_q (ws : WA) (xc : _) (s : _) (S : _) (k : _) : vLst ws xc s S k = (ws xc s S fun ds S1 => ds.length ≤ sizeLine ∧ k (.lst ds) S1) := by rw [vLst_s]; rfl
noncomputable def vLstC : (WA) → (WE) := sld wLstC
theorem vLstC_s : vLstC = wLstC := sld_eq _
theorem vLstC_q (ws : WA) (xc : _) (s : _) (S : _) (k : _) : vLstC ws xc s S k = (ws xc s S fun ds S1 => ds.length ≤ sizeLine ∧ k (.cell S1.length) (S1 ++ [.lst ds])) := by rw [vLstC_s]; rfl
noncomputable def vFrz : (WE) → (WE) := sld wFrz
theorem vFrz_s : vFrz = wFrz := sld_eq _
theorem vFrz_q (w : WE) (xc : _) (s : _) (S : _) (k : _) : vFrz w xc s S k = (w xc s S fun d S1 => frzW d S1 k) := by rw [vFrz_s]; rfl
noncomputable def vB : (CW) → (WA) → (WE) := sld wB
theorem vB_s : vB = wB := sld_eq _
theorem vB_q (f : CW) (ws : WA) (xc : _) (s : _) (S : _) (k : _) : vB f ws xc s S k = (ws xc s S fun ds S1 => f ds S1 k) := by rw [vB_s]; rfl
noncomputable def vIsi : (Ty) → (WE) → (WE) := sld wIsi
theorem vIsi_s : vIsi = wIsi := sld_eq _
theorem vIsi_q (n : Ty) (wa : WE) (xc : _) (s : _) (S : _) (k : _) : vIsi n wa xc s S k = (wa xc s S fun d S1 => ∃ b, isiD S1 n d = some b ∧ k (.bl b) S1) := by rw [vIsi_s]; rfl
noncomputable def vM : (MW) → (WE) → (WA) → (WE) := sld wM
theorem vM_s : vM = wM := sld_eq _
theorem vM_q (f : MW) (wo : WE) (ws : WA) (xc : _) (s : _) (S : _) (k : _) : vM f wo ws xc s S k = (wo xc s S fun o S1 => (∃ xs, lview S1 o = some xs) ∧ ws xc s S1 fun ds S2 => f o ds S2 k) := by rw [vM_s]; rfl
noncomputable def vM0 : (MW) → (WE) → (WE) := sld wM0
theorem vM0_s : vM0 = wM0 := sld_eq _
theorem vM0_q (f : MW) (wo : WE) (xc : _) (s : _) (S : _) (k : _) : vM0 f wo xc s S k = (wo xc s S fun o S1 => (∃ xs, lview S1 o = some xs) ∧ f o [] S1 k) := by rw [vM0_s]; rfl
noncomputable def vCall : (WF) → (WA) → (WE) := sld wCall
theorem vCall_s : vCall = wCall := sld_eq _
theorem vCall_q (wf : WF) (ws : WA) (xc : _) (s : _) (S : _) (k : _) : vCall wf ws xc s S k = (ws xc s S fun ds S1 => wf ds S1 k fun c S2 => xc c s S2) := by rw [vCall_s]; rfl
noncomputable def vSeqI : (WE) → (WI) := sld wSeqI
theorem vSeqI_s : vSeqI = wSeqI := sld_eq _
theorem vSeqI_q (wa : WE) (xc : _) (s : _) (S : _) (k : _) : vSeqI wa xc s S k = (wa xc s S fun x S1 => ∃ xs, sview S1 x = some xs ∧ k xs (gdOf S1 x) S1) := by rw [vSeqI_s]; rfl
noncomputable def vRng1 : (WA) → (WI) := sld wRng1
theorem vRng1_s : vRng1 = wRng1 := sld_eq _
theorem vRng1_q (ws : WA) (xc : _) (s : _) (S : _) (k : _) : vRng1 ws xc s S k = (ws xc s S (kRng1 k)) := by rw [vRng1_s]; rfl
noncomputable def vRng2 : (WA) → (WI) := sld wRng2
theorem vRng2_s : vRng2 = wRng2 := sld_eq _
theorem vRng2_q (ws : WA) (xc : _) (s : _) (S : _) (k : _) : vRng2 ws xc s S k = (ws xc s S (kRng2 k)) := by rw [vRng2_s]; rfl
noncomputable def vYes : (WT) := sld wYes
theorem vYes_s : vYes = wYes := sld_eq _
theorem vYes_q (y0 : _) (y1 : _) (S : _) (k : _) : vYes  y0 y1 S k = (k true S) := by rw [vYes_s]; rfl
noncomputable def vLc : (Nat) → (List Nat) → (WI) → (WT) → (WE) → (WE) := sld wLc
theorem vLc_s : vLc = wLc := sld_eq _
theorem vLc_q (i : Nat) (vs : List Nat) (wi : WI) (wt : WT) (we : WE) (xc : _) (s : _) (S : _) (k : _) : vLc i vs wi wt we xc s S k = (wi xc s S fun ds gd S1 => lcW i vs wt we ds gd s S1 fun acc S2 => k (.lst acc) S2) := by rw [vLc_s]; rfl
noncomputable def vLcC : (Nat) → (List Nat) → (WI) → (WT) → (WE) → (WE) := sld wLcC
theorem vLcC_s : vLcC = wLcC := sld_eq _
theorem vLcC_q (i : Nat) (vs : List Nat) (wi : WI) (wt : WT) (we : WE) (xc : _) (s : _) (S : _) (k : _) : vLcC i vs wi wt we xc s S k = (wi xc s S fun ds gd S1 => lcW i vs wt we ds gd s S1 fun acc S2 => k (.cell S2.length) (S2 ++ [.lst acc])) := by rw [vLcC_s]; rfl
noncomputable def vNx : (WS) := sld wNx
theorem vNx_s : vNx = wNx := sld_eq _
theorem vNx_q (D : _) (s : _) (S : _) : vNx  D s S = (D.nx s S) := by rw [vNx_s]; rfl
noncomputable def vSeq : (WS) → (WS) → (WS) := sld wSeq
theorem vSeq_s : vSeq = wSeq := sld_eq _
theorem vSeq_q (a b : WS) (D : _) (s : _) (S : _) : vSeq a b D s S = (a { D with nx := b D } s S) := by rw [vSeq_s]; rfl
noncomputable def vNever : (WS) := sld wNever
theorem vNever_s : vNever = wNever := sld_eq _
noncomputable def vDrop : (WE) → (WS) := sld wDrop
theorem vDrop_s : vDrop = wDrop := sld_eq _
theorem vDrop_q (we : WE) (D : _) (s : _) (S : _) : vDrop we D s S = (we D.xc s S fun _ S1 => D.nx s S1) := by rw [vDrop_s]; rfl
noncomputable def vRet : (WE) → (WS) := sld wRet
theorem vRet_s : vRet = wRet := sld_eq _
theorem vRet_q (we : WE) (D : _) (s : _) (S : _) : vRet we D s S = (we D.xc s S D.rt) := by rw [vRet_s]; rfl
noncomputable def vRetN : (WS) := sld wRetN
theorem vRetN_s : vRetN = wRetN := sld_eq _
theorem vRetN_q (D : _) (y1 : _) (S : _) : vRetN  D y1 S = (D.rt .non S) := by rw [vRetN_s]; rfl
noncomputable def vIf : (WT) → (WS) → (WS) → (WS) := sld wIf
theorem vIf_s : vIf = wIf := sld_eq _
theorem vIf_q (wt : WT) (w w2 : WS) (D : _) (s : _) (S : _) : vIf wt w w2 D s S = (wt D.xc s S fun b S1 => if b = true then w D s S1 else w2 D s S1) := by rw [vIf_s]; rfl
noncomputable def vSet : (Nat) → (WE) → (WS) := sld wSet
theorem vSet_s : vSet = wSet := sld_eq _
theorem vSet_q (i : Nat) (we : WE) (D : _) (s : _) (S : _) : vSet i we D s S = (we D.xc s S fun d S1 => D.nx (s.set i (some d)) S1) := by rw [vSet_s]; rfl
noncomputable def vSto : (WE) → (WE) → (WE) → (WS) := sld wSto
theorem vSto_s : vSto = wSto := sld_eq _
theorem vSto_q (we wo wa : WE) (D : _) (s : _) (S : _) : vSto we wo wa D s S = (we D.xc s S fun d S1 => wo D.xc s S1 fun o S2 => wa D.xc s S2 fun y S3 => kSto d (D.nx s) o y S3) := by rw [vSto_s]; rfl
noncomputable def vFor : (Nat) → (WI) → (WS) → (WS) := sld wFor
theorem vFor_s : vFor = wFor := sld_eq _
theorem vFor_q (i : Nat) (wi : WI) (w : WS) (D : _) (s : _) (S : _) : vFor i wi w D s S = (wi D.xc s S fun ds gd S1 => forW i w D ds gd s S1) := by rw [vFor_s]; rfl
noncomputable def vWhile : (WT) → (WS) → (WS) := sld wWhile
theorem vWhile_s : vWhile = wWhile := sld_eq _
noncomputable def vRaise : (Str) → (WS) := sld wRaise
theorem vRaise_s : vRaise = wRaise := sld_eq _
theorem vRaise_q (x : Str) (D : _) (s : _) (S : _) : vRaise x D s S = (D.xc x s S) := by rw [vRaise_s]; rfl
noncomputable def vDef : (Nat) → (Nat) → (WS) → (WF) := sld wDef
theorem vDef_s : vDef = wDef := sld_eq _
theorem vDef_q (np n : Nat) (w : WS) (ds : _) (S : _) (k : _) (xk : _) : vDef np n w ds S k xk = (ds.length = np ∧ w ⟨fun _ S' => k .non S', k, fun c _ S' => xk c S'⟩ (ds.map some ++ List.replicate (n - ds.length) none) S) := by rw [vDef_s]; rfl
noncomputable def vTrim : (WF) → (WF) := sld wTrim
theorem vTrim_s : vTrim = wTrim := sld_eq _
theorem vTrim_q (wf : WF) (ds : _) (S : _) (k : _) (xk : _) : vTrim wf ds S k xk = (wf ds S (fun d S' => d.pure = true ∧ S'.take S.length = S ∧ k d S) (fun c S' => S'.take S.length = S ∧ xk c S)) := by rw [vTrim_s]; rfl
noncomputable def vTrimC : (WF) → (WF) := sld wTrimC
theorem vTrimC_s : vTrimC = wTrimC := sld_eq _
theorem vTrimC_q (wf : WF) (ds : _) (S : _) (k : _) (xk : _) : vTrimC wf ds S k xk = (wf ds S (fun d S' => ∃ m xs, d = .cell m ∧ S.length ≤ m ∧ S'[m]? = some (.lst xs) ∧ pureAll xs = true ∧ S'.take S.length = S ∧ k (.cell S.length) (S ++ [.lst xs])) (fun c S' => S'.take S.length = S ∧ xk c S)) := by rw [vTrimC_s]; rfl
noncomputable def vTry : (Nat) → (List Str) → (Str → Bool) → (WS) → (Addr → Str → WS) → (WS) := sld wTry
theorem vTry_s : vTry = wTry := sld_eq _
theorem vTry_q (i : Nat) (rl : List Str) (cat : Str → Bool) (w : WS) (ws : Addr → Str → WS) (D : _) (s : _) (S : _) : vTry i rl cat w ws D s S = ( w { nx := D.nx, rt := D.rt, xc := fun c s1 S1 => rl.contains c = true ∧ if cat c = true then ∀ a : Addr, ws a c { nx := fun s2 S2 => D.nx (s2.set i none) S2, rt := D.rt, xc := fun _ _ _ => False } (s1.set i (some (.exn a c))) S1 else D.xc c s1 S1 } s S) := by rw [vTry_s]; rfl
noncomputable def vIsE : (Addr) → (Str) → (Bool) → (WE) → (WE) := sld wIsE
theorem vIsE_s : vIsE = wIsE := sld_eq _
theorem vIsE_q (a : Addr) (c : Str) (b : Bool) (wa : WE) (xc : _) (s : _) (S : _) (k : _) : vIsE a c b wa xc s S k = (wa xc s S fun d S1 => d = .exn a c ∧ k (.bl b) S1) := by rw [vIsE_s]; rfl
noncomputable def vFrzD : (WE) → (WE) := sld wFrzD
theorem vFrzD_s : vFrzD = wFrzD := sld_eq _
theorem vFrzD_q (w : WE) (xc : _) (s : _) (S : _) (k : _) : vFrzD w xc s S k = (w xc s S fun d S1 => frzDW d S1 k) := by rw [vFrzD_s]; rfl
noncomputable def vLstRev : (WE) → (WE) := sld wLstRev
theorem vLstRev_s : vLstRev = wLstRev := sld_eq _
theorem vLstRev_q (we : WE) (xc : _) (s : _) (S : _) (k : _) : vLstRev we xc s S k = (we xc s S (kLstRev k)) := by rw [vLstRev_s]; rfl
noncomputable def vLstRevC : (WE) → (WE) := sld wLstRevC
theorem vLstRevC_s : vLstRevC = wLstRevC := sld_eq _
theorem vLstRevC_q (we : WE) (xc : _) (s : _) (S : _) (k : _) : vLstRevC we xc s S k = (we xc s S (kLstRevC k)) := by rw [vLstRevC_s]; rfl
noncomputable def vLstRg : (WE) → (WE) := sld wLstRg
theorem vLstRg_s : vLstRg = wLstRg := sld_eq _
theorem vLstRg_q (we : WE) (xc : _) (s : _) (S : _) (k : _) : vLstRg we xc s S k = (we xc s S (kLstRg k)) := by rw [vLstRg_s]; rfl
noncomputable def vLstRgC : (WE) → (WE) := sld wLstRgC
theorem vLstRgC_s : vLstRgC = wLstRgC := sld_eq _
theorem vLstRgC_q (we : WE) (xc : _) (s : _) (S : _) (k : _) : vLstRgC we xc s S k = (we xc s S (kLstRgC k)) := by rw [vLstRgC_s]; rfl
noncomputable def vRng3 : (WA) → (WI) := sld wRng3
theorem vRng3_s : vRng3 = wRng3 := sld_eq _
theorem vRng3_q (ws : WA) (xc : _) (s : _) (S : _) (k : _) : vRng3 ws xc s S k = (ws xc s S (kRng3 k)) := by rw [vRng3_s]; rfl
noncomputable def vRem : (WE) → (WE) → (WE) := sld wRem
theorem vRem_s : vRem = wRem := sld_eq _
theorem vRem_q (wo we : WE) (xc : _) (s : _) (S : _) (k : _) : vRem wo we xc s S k = (wo xc s S fun o S1 => (∃ xs, lview S1 o = some xs) ∧ we xc s S1 (kRem k o)) := by rw [vRem_s]; rfl
theorem vDef_i {np n : Nat} {w : WS} {ds : List D} {S : Sto} {k : KD} {xk : XD} (h1 : ds.length = np) (h : w ⟨fun _ S' => k .non S', k, fun c _ S' => xk c S'⟩ (ds.map some ++ List.replicate (n - ds.length) none) S) : vDef np n w ds S k xk := by
  rw [vDef_q]; exact ⟨h1, h⟩
theorem vTrim_i {np n : Nat} {w : WS} {ds : List D} {S : Sto} {k : KD} {xk : XD} (h1 : ds.length = np) (h : w ⟨fun _ S' => D.pure .non = true ∧ S'.take S.length = S ∧ k .non S, fun d S' => d.pure = true ∧ S'.take S.length = S ∧ k d S, fun c _ S' => S'.take S.length = S ∧ xk c S⟩ (ds.map some ++ List.replicate (n - ds.length) none) S) : vTrim (vDef np n w) ds S k xk := by
  rw [vTrim_q]; exact vDef_i h1 h
theorem vTrimC_i {np n : Nat} {w : WS} {ds : List D} {S : Sto} {k : KD} {xk : XD} (h1 : ds.length = np) (h : w ⟨fun _ S' => ∃ m xs, D.non = .cell m ∧ S.length ≤ m ∧ S'[m]? = some (.lst xs) ∧ pureAll xs = true ∧ S'.take S.length = S ∧ k (.cell S.length) (S ++ [.lst xs]), fun d S' => ∃ m xs, d = .cell m ∧ S.length ≤ m ∧ S'[m]? = some (.lst xs) ∧ pureAll xs = true ∧ S'.take S.length = S ∧ k (.cell S.length) (S ++ [.lst xs]), fun c _ S' => S'.take S.length = S ∧ xk c S⟩ (ds.map some ++ List.replicate (n - ds.length) none) S) : vTrimC (vDef np n w) ds S k xk := by
  rw [vTrimC_q]; exact vDef_i h1 h
theorem vseq_e {a b : WS} {Dk : Kd} {s : Env} {S : Sto} (h : a { Dk with nx := b Dk } s S) : vSeq a b Dk s S := by
  rw [vSeq_q]; exact h
theorem vseq_i {a b : WS} {Dk : Kd} {s : Env} {S : Sto} (h : ∀ R : Env → Sto → Prop, (∀ s' S', b Dk s' S' → R s' S') → a { Dk with nx := R } s S) : vSeq a b Dk s S := vseq_e (h _ fun _ _ h => h)
theorem vseq_cut {a b : WS} {Dk : Kd} {s : Env} {S : Sto} (M : Env → Sto → Prop) (h1 : ∀ R : Env → Sto → Prop, (∀ s' S', M s' S' → R s' S') → a { Dk with nx := R } s S) (h2 : ∀ s' S', M s' S' → b Dk s' S') : vSeq a b Dk s S := vseq_e (h1 _ h2)
theorem vwhile_inv {wt : WT} {w : WS} {Dk : Kd} {s : Env} {S : Sto} (P : Nat → Env → Sto → Prop) (m0 : Nat) (h0 : P m0 s S)
    (hs : ∀ m s' S', P m s' S' → ∀ nx : Env → Sto → Prop, (∀ m' s2 S2, m' < m → P m' s2 S2 → nx s2 S2) → wt Dk.xc s' S' fun b S1 => if b = true then w { Dk with nx := nx } s' S1 else Dk.nx s' S1) : vWhile wt w Dk s S := by
  rw [vWhile_s]; exact while_inv P m0 h0 hs
theorem vlc_map {i : Nat} {vs : List Nat} {we : WE} {ds : List D} {gd : Sto → Prop} {s : Env} {S : Sto} {fin : List D → Sto → Prop} (f : D → D) (hl : ds.length < sizeLine) (hg : gd S)
    (he : ∀ x ∈ ds, ∀ k : KD, k (f x) S → we noXC ((wipeD s vs).set i (some x)) S k) (hf : fin (ds.map f) S) : lcW i vs vYes we ds gd s S fin := by
  rw [vYes_s]; exact lc_map f hl hg he hf
theorem vlc_rel {i : Nat} {vs : List Nat} {we : WE} {ds : List D} {gd : Sto → Prop} {s : Env} {S : Sto} {fin : List D → Sto → Prop} (Q : Nat → D → D → Prop) (hl : ds.length < sizeLine) (hg : gd S)
    (he : ∀ n x, ds[n]? = some x → ∀ k : KD, (∀ y, Q n x y → k y S) → we noXC ((wipeD s vs).set i (some x)) S k)
    (hf : ∀ ys : List D, ys.length = ds.length → (∀ (n : Nat) (x y : D), ds[n]? = some x → ys[n]? = some y → Q n x y) → fin ys S) : lcW i vs vYes we ds gd s S fin := by
  rw [vYes_s]; exact lc_rel Q hl hg he hf
theorem neW_q (x y : D) (S : Sto) (k : KD) : neW x y S k = eqW x y S (kNot k) := id rfl
theorem setq_0 {α : Type} (x y : α) (xs : List α) : (x :: xs).set 0 y = y :: xs := id rfl
theorem setq_s {α : Type} (x y : α) (n : Nat) (xs : List α) : (x :: xs).set (n + 1) y = x :: xs.set n y := id rfl
end Ab

namespace Ab
open PySem
theorem kLstRev_i {k : KD} {S : Sto} {d : D} : kLstRev k d S = ∃ xs, lview S d = some xs ∧ k (.lst xs.reverse) S := id rfl
theorem kLstRevC_i {k : KD} {S : Sto} {d : D} : kLstRevC k d S = ∃ xs, lview S d = some xs ∧ k (.cell S.length) (S ++ [.lst xs.reverse]) := id rfl
def rowC (rows : List (List Int)) : Sto := rows.map fun r => .lst (vI r)
def rkI (sh : List Dd) (j r : Int) : Int := (sh.map fun x => if x.a = j ∧ x.r = r then x.c else 0).sum
theorem rkI_nonneg {m : Int} {sh : List Dd} (h : ∀ x ∈ sh, x.Ok m) {j r : Int} : 0 ≤ rkI sh j r := by
  unfold rkI
  refine sum_nonneg fun z hz => ?_
  obtain ⟨x, hx, rfl⟩ := List.mem_map.mp hz
  have := h x hx
  unfold Dd.Ok at this
  split <;> omega
def rkRow (sh : List Dd) (j : Int) : List Int := [rkI sh j 0, rkI sh j 1, rkI sh j 2]
def rkM (m : Int) (sh : List Dd) : List (List Int) := (List.range m.toNat).map fun j => rkRow sh (j : Nat)
section
variable {α β : Type} {i : Nat} {vs : List Nat} {we : WE} {gd : Sto → Prop} {s : Env} {S : Sto} {fin : List D → Sto → Prop}
theorem vlc_list (f : α → D) (g : β → D) (bs : List β) (Q : Nat → β → α → Prop) (hl : bs.length ≤ 1000000) (hg : gd S)
    (he : ∀ (n : Nat) (b : β), bs[n]? = some b → ∀ k : KD, (∀ a, Q n b a → k (f a) S) → we noXC ((wipeD s vs).set i (some (g b))) S k)
    (hf : ∀ as : List α, as.length = bs.length → (∀ (n : Nat) (b : β) (a : α), bs[n]? = some b → as[n]? = some a → Q n b a) → fin (as.map f) S) : lcW i vs vYes we (bs.map g) gd s S fin := by
  refine vlc_rel (fun n _ y => ∃ a, y = f a ∧ ∀ b, bs[n]? = some b → Q n b a) (by rw [List.length_map]; exact szlt hl) hg (fun n x hx k hk => ?_) fun ys h1 h2 => ?_
  · rw [List.getElem?_map] at hx
    cases e : bs[n]? with
    | none => rw [e] at hx; cases hx
    | some b =>
      rw [e] at hx
      cases hx
      refine he n b e k fun a ha => hk _ ⟨a, rfl, fun b' hb' => ?_⟩
      rw [e] at hb'
      cases hb'
      exact ha
  · rw [List.length_map] at h1
    obtain ⟨as, rfl, ha⟩ := lift_map f (fun n a => ∀ b, bs[n]? = some b → Q n b a) ys fun n y hy => by
      have hn : n < ys.length := (List.getElem?_eq_some_iff.mp hy).1
      exact h2 n _ y (List.getElem?_eq_getElem (by rw [List.length_map]; omega)) hy
    exact hf as (by simpa using h1) fun n b a hb h => ha n a h b hb
variable {w : WS} {Dk : Kd}
end
def withA (sh : List Dd) (as : List Int) : List Dd := List.zipWith (fun x c => ⟨x.a, x.b, x.r, c⟩) sh as
theorem withA_len {sh : List Dd} {as : List Int} (h : as.length = sh.length) : (withA sh as).length = sh.length := by unfold withA; simp [h]
theorem withA_get {sh : List Dd} {as : List Int} {n : Nat} {x : Dd} (h : sh[n]? = some x) (hl : n < as.length) : (withA sh as)[n]? = some ⟨x.a, x.b, x.r, gI as n⟩ := by
  unfold withA
  rw [List.getElem?_zipWith, h, List.getElem?_eq_getElem hl, gI_nat hl]
theorem withA_ok {m : Int} {sh : List Dd} {as : List Int} (hs : ∀ x ∈ sh, x.Ok m) (ha : ∀ c ∈ as, 0 ≤ c ∧ c ≤ 1000000000000) : ∀ x ∈ withA sh as, x.Ok m := fun x hx => by
  obtain ⟨n, hn⟩ := List.mem_iff_getElem?.mp hx
  unfold withA at hn
  rw [List.getElem?_zipWith] at hn
  cases e : sh[n]? with
  | none => rw [e] at hn; cases hn
  | some z =>
    cases e2 : as[n]? with
    | none => rw [e, e2] at hn; cases hn
    | some c =>
      rw [e, e2] at hn
      cases hn
      have h1 := hs z (List.mem_of_getElem? e)
      have h2 := ha c (List.mem_of_getElem? e2)
      unfold Dd.Ok at *
      exact ⟨h1.1, h1.2.1, h1.2.2.1, h1.2.2.2.1, h1.2.2.2.2.1, h1.2.2.2.2.2.1, h1.2.2.2.2.2.2.1, h2.1, h2.2⟩
theorem list_eq {α : Type} {a b : List α} (hl : a.length = b.length) (h : ∀ (n : Nat) (x y : α), a[n]? = some x → b[n]? = some y → x = y) : a = b := by
  apply List.ext_getElem?
  intro n
  by_cases hn : n < a.length
  · rw [List.getElem?_eq_getElem hn, List.getElem?_eq_getElem (by omega)]
    rw [h n _ _ (List.getElem?_eq_getElem hn) (List.getElem?_eq_getElem (by omega))]
  · rw [List.getElem?_eq_none (by omega), List.getElem?_eq_none (by omega)]
section
variable {S : Sto} {a b c : Cel}
end
end Ab

namespace Ab
open PySem
theorem pR_int (a : Int) : pR (a : Rat) = .tup [.int a, .int 1] := by
  unfold pR
  rw [Rat.num_intCast, Rat.den_intCast]
  rfl
theorem pR_0 : pR 0 = .tup [.int 0, .int 1] := pR_int 0
theorem SzR.int {n : Nat} {a : Int} (h : Sz n a) (hn : 0 < n) : SzR n (a : Rat) := by
  refine ⟨by rw [Rat.num_intCast]; exact h, ?_⟩
  rw [Rat.den_intCast]
  exact Nat.one_lt_two_pow (by omega)
theorem SzR.zero {n : Nat} (hn : 0 < n) : SzR n 0 := SzR.int (a := 0) (by unfold Sz; exact Nat.two_pow_pos n) hn
theorem num_nonneg_iff {q : Rat} : 0 ≤ q ↔ 0 ≤ q.num := Rat.num_nonneg.symm
def minR (x : Rat) (a : Rat) : Rat := if a < x then a else x
def laidR : Rat → List Int → List Rat
  | _, [] => []
  | q, a :: as => minR q a :: laidR (q - minR q a) as
def gR (v : List Rat) (i : Int) : Rat := v.getD i.toNat 0
theorem gR_nat {v : List Rat} {n : Nat} (h : n < v.length) : gR v n = v[n] := by
  unfold gR
  rw [List.getD_eq_getElem?_getD]
  simp [h]
def laidA (qs : List Rat) (sh : List Dd) (j : Int) : List Rat := laidR (gR qs j) (rkRow sh j)
def payR (qs : List Rat) (sh : List Dd) (x : Dd) : Rat := if rkI sh x.a x.r = 0 then 0 else gR (laidA qs sh x.a) x.r * Rat.divInt x.c (rkI sh x.a x.r)
def paidL (qs : List Rat) (sh : List Dd) : List Rat := sh.map (payR qs sh)
def rkT (sh : List Dd) (j : Int) : Int := rkI sh j 0 + rkI sh j 1 + rkI sh j 2
theorem rkI_mem {m : Int} {sh : List Dd} (h : ∀ x ∈ sh, x.Ok m) {x : Dd} (hx : x ∈ sh) : x.c ≤ rkI sh x.a x.r := by
  induction sh with
  | nil => simp at hx
  | cons y sh ih =>
    have e : rkI (y :: sh) x.a x.r = (if y.a = x.a ∧ y.r = x.r then y.c else 0) + rkI sh x.a x.r := by
      unfold rkI; rw [List.map_cons, List.sum_cons]
    have h0 := @rkI_nonneg m sh (fun z hz => h z (by simp [hz])) x.a x.r
    have hy := h y (by simp)
    unfold Dd.Ok at hy
    rw [e]
    rcases List.mem_cons.mp hx with rfl | hx
    · rw [if_pos ⟨rfl, rfl⟩]; omega
    · have := ih (fun z hz => h z (by simp [hz])) hx
      split <;> omega
theorem divInt_eq (a b : Int) : Rat.divInt a b = (a : Rat) / (b : Rat) := Rat.divInt_eq_div a b
theorem num_eq (q : Rat) : (q.num : Rat) = q * (q.den : Int) := by
  have hd : ((q.den : Int) : Rat) ≠ 0 := by
    have := den_pos q
    exact_mod_cast (show (q.den : Int) ≠ 0 by omega)
  have h' : (q.num : Rat) / ((q.den : Int) : Rat) = q := by
    rw [← Rat.divInt_eq_div]
    exact Rat.num_divInt_den q
  grind
theorem den_ratpos (q : Rat) : (0 : Rat) < ((q.den : Int) : Rat) := by
  have := den_pos q
  exact_mod_cast this
def shareF (qs : List Rat) (sh : List Dd) (j r : Int) : Rat := if rkI sh j r = 0 then 0 else gR (laidA qs sh j) r / (rkI sh j r : Int)
structure Laid (qs : List Rat) (sh : List Dd) (j : Int) : Prop where
  lo : ∀ r, 0 ≤ r → r < 3 → 0 ≤ gR (laidA qs sh j) r ∧ gR (laidA qs sh j) r ≤ (rkI sh j r : Int)
  all : gR (laidA qs sh j) 0 + gR (laidA qs sh j) 1 + gR (laidA qs sh j) 2 = gR qs j
  ord : ∀ r t, 0 ≤ r → r < t → t < 3 → 0 < gR (laidA qs sh j) t → gR (laidA qs sh j) r = (rkI sh j r : Int)
end Ab
namespace Ab
open PySem
def matR (m : List (List Rat)) : List D := m.map fun v => .lst (ratL v)
end Ab

namespace Ab
open PySem
def gotP (qs : List Rat) (sh pre : List Dd) (j : Int) : Rat := (pre.map fun x => if x.b = j then payR qs sh x else 0).sum
def gotM (m : Nat) (qs : List Rat) (sh pre : List Dd) : List Rat := (List.range m).map fun j => gotP qs sh pre (j : Nat)
def frD (t : Int × Int) : D := .tup [.int t.1, .int t.2]
def frL (v : List (Int × Int)) : List D := v.map frD
theorem frL_len {v : List (Int × Int)} : (frL v).length = v.length := by unfold frL; simp
section
variable {S : Sto} {k : KD} {t : Int × Int}
theorem ix_fr0 : ixD S (frD t) 0 = some (.int t.1) := by
  show L2.atI [D.int t.1, D.int t.2] 0 = _
  exact atI_0
theorem ix_fr1 : ixD S (frD t) 1 = some (.int t.2) := by
  show L2.atI [D.int t.1, D.int t.2] 1 = _
  exact atI_1
theorem len_fr : lenF [frD t] S k = k (.int 2) S := by
  unfold frD; rw [lenF_t]; rfl
theorem isi_fr {t : Int × Int} {ty : Ty} : isiD S ty (frD t) = some (decide (ty = .tuple)) := rfl
end
def valF (t : Int × Int) : Rat := (t.1 : Rat) / (t.2 : Rat)
def clampR (q ahead most : Rat) : Rat := if (if q - ahead < 0 then 0 else q - ahead) < most then (if q - ahead < 0 then 0 else q - ahead) else most
theorem laid_clamp {qs : List Rat} {sh : List Dd} {m j r : Int} (hs : ∀ x ∈ sh, x.Ok m) (hq : 0 ≤ gR qs j) (h0 : 0 ≤ r) (h1 : r < 3) : gR (laidA qs sh j) r = clampR (gR qs j) (((rkRow sh j).take r.toNat).sum : Int) (rkI sh j r : Int) := by
  have a0 : (0 : Rat) ≤ (rkI sh j 0 : Int) := by exact_mod_cast rkI_nonneg hs
  have b0 : (0 : Rat) ≤ (rkI sh j 1 : Int) := by exact_mod_cast rkI_nonneg hs
  have c0 : (0 : Rat) ≤ (rkI sh j 2 : Int) := by exact_mod_cast rkI_nonneg hs
  have : r = 0 ∨ r = 1 ∨ r = 2 := by omega
  rcases this with rfl | rfl | rfl
  · show minR (gR qs j) (rkI sh j 0 : Int) = clampR (gR qs j) (((0 : Int)) : Rat) _
    have e0 : ((0 : Int) : Rat) = 0 := rfl
    rw [e0]
    unfold minR clampR
    grind
  · show minR (gR qs j - minR (gR qs j) (rkI sh j 0 : Int)) (rkI sh j 1 : Int) = clampR (gR qs j) (((rkI sh j 0 + 0 : Int)) : Rat) _
    rw [Int.add_zero]
    unfold minR clampR
    grind
  · show minR (gR qs j - minR (gR qs j) (rkI sh j 0 : Int) - minR (gR qs j - minR (gR qs j) (rkI sh j 0 : Int)) (rkI sh j 1 : Int)) (rkI sh j 2 : Int) = clampR (gR qs j) (((rkI sh j 0 + (rkI sh j 1 + 0) : Int)) : Rat) _
    rw [Int.add_zero, Rat.intCast_add]
    unfold minR clampR
    grind
end Ab

namespace Ab
open PySem
def optD : Option Int → D
  | none => .non
  | some z => .int z
def optL (v : List (Option Int)) : List D := v.map optD
def stopF (q : Rat) : Int → Int → List Int → Option Int
  | _, _, [] => none
  | ahead, r, a :: as => if q < ((ahead + a : Int) : Rat) then some r else stopF q (ahead + a) (r + 1) as
def stop3 (q : Rat) (row : List Int) : Option Int := stopF q 0 0 row
def stopsL (qs : List Rat) (sh : List Dd) : List (Option Int) := (List.range qs.length).map fun j => stop3 (gR qs (j : Nat)) (rkRow sh (j : Nat))
def standN (q : Rat) (row : List Int) : Nat → Option Int
  | 0 => none
  | n + 1 => if q < (((row.take (3 - n)).sum : Int) : Rat) then some (2 - (n : Int)) else standN q row n
end Ab

namespace Ab
open PySem
def intsL (m : Int) : List Int := (List.range m.toNat).map fun (k : Nat) => (k : Int)
theorem intsL_len {m : Int} : (intsL m).length = m.toNat := by unfold intsL; simp
theorem intsL_mem {m z : Int} : z ∈ intsL m ↔ 0 ≤ z ∧ z < m := by
  unfold intsL
  rw [List.mem_map]
  constructor
  · rintro ⟨k, hk, rfl⟩
    rw [List.mem_range] at hk
    omega
  · rintro ⟨h0, h1⟩
    exact ⟨z.toNat, by rw [List.mem_range]; omega, by omega⟩
theorem intsL_nodup {m : Int} : (intsL m).Nodup := by
  unfold intsL
  exact List.Pairwise.map _ (fun a b h e => h (Int.ofNat.inj e)) List.nodup_range
def PdP (b : Int) (R : List Int) (x : Dd) : Prop := 0 < x.c ∧ x.b = b ∧ x.a ∈ R
instance {b : Int} {R : List Int} {x : Dd} : Decidable (PdP b R x) := by unfold PdP; infer_instance
structure Peel (m : Int) (sh : List Dd) (L R : List Int) : Prop where
  perm : (L ++ R).Perm (intsL m)
  order : ∀ (i : Nat) (b : Int), L[i]? = some b → ∀ x ∈ sh, 0 < x.c → x.b = b → x.a ∈ L.take i
theorem Peel.start {m : Int} {sh : List Dd} : Peel m sh [] (intsL m) := ⟨List.Perm.refl _, fun i b h => by simp at h⟩
theorem Peel.nodup {m : Int} {sh : List Dd} {L R : List Int} (h : Peel m sh L R) : (L ++ R).Nodup := h.perm.nodup_iff.mpr intsL_nodup
theorem Peel.mem {m : Int} {sh : List Dd} {L R : List Int} (h : Peel m sh L R) {z : Int} : (z ∈ L ∨ z ∈ R) ↔ 0 ≤ z ∧ z < m := by
  rw [← intsL_mem, ← h.perm.mem_iff, List.mem_append]
theorem Peel.next {m : Int} {sh : List Dd} {L R : List Int} {b : Int} (h : Peel m sh L R) (hs : ∀ x ∈ sh, x.Ok m) (hb : b ∈ R) (hu : ∀ x ∈ sh, ¬ PdP b R x) : Peel m sh (L ++ [b]) (R.erase b) := by
  refine ⟨?_, fun i c hc x hx hp hxb => ?_⟩
  · refine List.Perm.trans ?_ h.perm
    rw [List.append_assoc]
    refine List.Perm.append_left _ ?_
    exact (List.perm_cons_erase hb).symm
  · by_cases hi : i < L.length
    · rw [List.getElem?_append_left hi] at hc
      rw [List.take_append_of_le_length (by omega)]
      exact h.order i c hc x hx hp hxb
    · have hi2 : i = L.length := by
        have := (List.getElem?_eq_some_iff.mp hc).1
        rw [List.length_append, List.length_singleton] at this
        omega
      subst hi2
      rw [List.getElem?_append_right (Nat.le_refl _), Nat.sub_self] at hc
      cases hc
      rw [List.take_left' rfl]
      have hxo := hs x hx
      unfold Dd.Ok at hxo
      rcases h.mem.mpr ⟨hxo.1, hxo.2.1⟩ with h1 | h1
      · exact h1
      · exact absurd ⟨hp, hxb, h1⟩ (hu x hx)
def Stuck (sh : List Dd) (R : List Int) : Prop := ∀ b ∈ R, ∃ x ∈ sh, PdP b R x
def nthD (sh : List Dd) (n : Int) : Dd := sh.getD n.toNat ⟨0, 0, 0, 0⟩
theorem nthD_some {sh : List Dd} {n : Nat} {x : Dd} (h : sh[n]? = some x) : nthD sh n = x := by
  unfold nthD
  rw [List.getD_eq_getElem?_getD, Int.toNat_natCast, h]
  rfl
structure IsRing (sh : List Dd) (rg : List Int) : Prop where
  ne : rg ≠ []
  rng : ∀ n ∈ rg, 0 ≤ n ∧ n < (sh.length : Int) ∧ 0 < (nthD sh n).c
  once : (rg.map fun n => (nthD sh n).a).Nodup
  round : ∀ k : Nat, k < rg.length → (nthD sh (gI rg k)).b = (nthD sh (gI rg ((k + 1) % rg.length : Nat))).a
structure Back (sh : List Dd) (came back : List Int) (mem : Int) : Prop where
  len : came.length = back.length
  nodup : came.Nodup
  rng : ∀ n ∈ back, 0 ≤ n ∧ n < (sh.length : Int) ∧ 0 < (nthD sh n).c
  pay : ∀ k : Nat, k < back.length → (nthD sh (gI back k)).b = gI came k ∧ (nthD sh (gI back k)).a = gI (came ++ [mem]) (k + 1 : Nat)
theorem gI_app {v : List Int} {z : Int} {k : Nat} (h : k < v.length) : gI (v ++ [z]) k = gI v k := by
  rw [gI_nat (by rw [List.length_append]; omega), gI_nat h, List.getElem_append_left h]
theorem gI_app_last {v : List Int} {z : Int} : gI (v ++ [z]) (v.length : Nat) = z := by
  rw [gI_nat (by rw [List.length_append]; simp), List.getElem_append_right (Nat.le_refl _)]
  simp
theorem Back.start {sh : List Dd} {m : Int} : Back sh [] [] m := ⟨rfl, List.nodup_nil, fun n h => by simp at h, fun k h => by simp at h⟩
theorem Back.next {sh : List Dd} {came back : List Int} {mem : Int} {i : Nat} {x : Dd} (h : Back sh came back mem) (hm : mem ∉ came) (hi : sh[i]? = some x) (hc : 0 < x.c) (hb : x.b = mem) : Back sh (came ++ [mem]) (back ++ [(i : Int)]) x.a := by
  have hx := nthD_some hi
  have hlt := (List.getElem?_eq_some_iff.mp hi).1
  refine ⟨by simp [h.len], ?_, fun n hn => ?_, fun k hk => ?_⟩
  · refine List.nodup_append.mpr ⟨h.nodup, by simp, fun a ha b hb' => ?_⟩
    rw [List.mem_singleton] at hb'
    subst hb'
    exact fun e => hm (e ▸ ha)
  · rcases List.mem_append.mp hn with hn | hn
    · exact h.rng n hn
    · rw [List.mem_singleton] at hn
      subst hn
      rw [hx]
      exact ⟨by omega, by omega, hc⟩
  · by_cases hk2 : k < back.length
    · have := h.pay k hk2
      rw [gI_app hk2, gI_app (by rw [h.len]; exact hk2), gI_app (by rw [List.length_append, h.len, List.length_singleton]; omega)]
      exact this
    · have hk3 : k = back.length := by rw [List.length_append, List.length_singleton] at hk; omega
      subst hk3
      rw [gI_app_last, hx, ← h.len, gI_app_last]
      refine ⟨hb, ?_⟩
      have := @gI_app_last (came ++ [mem]) x.a
      rw [List.length_append, List.length_singleton] at this
      exact this.symm
theorem gI_drop {v : List Int} {i k : Nat} (h : i + k < v.length) : gI (v.drop i) k = gI v (i + k : Nat) := by
  rw [gI_nat (by rw [List.length_drop]; omega), gI_nat h, List.getElem_drop]
theorem gI_rev {v : List Int} {k : Nat} (h : k < v.length) : gI v.reverse k = gI v (v.length - 1 - k : Nat) := by
  rw [gI_nat (by rw [List.length_reverse]; exact h), gI_nat (by omega), List.getElem_reverse]
theorem Back.ring {sh : List Dd} {came back : List Int} {mem : Int} {j : Nat} (h : Back sh came back mem) (hj : came[j]? = some mem) : IsRing sh (back.drop j).reverse := by
  have hjl := (List.getElem?_eq_some_iff.mp hj).1
  have hjb : j < back.length := by rw [← h.len]; exact hjl
  have hl : (back.drop j).reverse.length = back.length - j := by rw [List.length_reverse, List.length_drop]
  have hgj : gI came j = mem := by rw [gI_nat hjl]; exact (List.getElem?_eq_some_iff.mp hj).2
  -- the k-th of the ring
  have hk : ∀ k : Nat, k < back.length - j → gI (back.drop j).reverse k = gI back (back.length - 1 - k : Nat) := fun k hk => by
    rw [gI_rev (by rw [List.length_drop]; omega), List.length_drop, gI_drop (by omega)]
    congr 2
    omega
  -- its payer, its payee
  have hp : ∀ k : Nat, k < back.length - j → (nthD sh (gI (back.drop j).reverse k)).a = if k = 0 then mem else gI came (back.length - k : Nat) := fun k hk' => by
    rw [hk k hk', (h.pay _ (by omega)).2]
    by_cases e : k = 0
    · subst e
      rw [if_pos rfl, show back.length - 1 - 0 + 1 = came.length by rw [h.len]; omega, gI_app_last]
    · rw [if_neg e, show back.length - 1 - k + 1 = back.length - k by omega, gI_app (by rw [h.len]; omega)]
  refine ⟨fun e => ?_, fun n hn => h.rng n (List.mem_of_mem_drop (List.mem_reverse.mp hn)), ?_, fun k hk' => ?_⟩
  · rw [e] at hl
    simp at hl
    omega
  · refine List.pairwise_iff_getElem.mpr fun a b ha hb hab => ?_
    rw [List.length_map, hl] at ha hb
    have gg : ∀ k : Nat, k < back.length - j → ((back.drop j).reverse.map fun n => (nthD sh n).a)[k]? = some (if k = 0 then mem else gI came (back.length - k : Nat)) := fun k hk' => by
      rw [List.getElem?_map, List.getElem?_eq_getElem (by rw [hl]; exact hk'), ← hp k hk', gI_nat (by rw [hl]; exact hk')]
      rfl
    have nd := h.nodup
    have ga := gg a ha
    have gb := gg b hb
    rw [List.getElem?_eq_getElem (by rw [List.length_map, hl]; omega)] at ga gb
    have inj : ∀ p q : Nat, p < came.length → q < came.length → gI came p = gI came q → p = q := fun p q hp' hq' e => by
      rw [gI_nat hp', gI_nat hq'] at e
      exact (List.getElem_inj nd).mp e
    intro e
    rw [Option.some.inj ga, Option.some.inj gb, if_neg (show b ≠ 0 by omega)] at e
    by_cases ea : a = 0
    · rw [if_pos ea, ← hgj] at e
      have := inj _ _ hjl (by rw [h.len]; omega) e
      omega
    · rw [if_neg ea] at e
      have := inj _ _ (by rw [h.len]; omega) (by rw [h.len]; omega) e
      omega
  · rw [hl] at hk' ⊢
    rw [hk k hk', (h.pay _ (by omega)).1]
    by_cases e : k + 1 = back.length - j
    · rw [e, Nat.mod_self, hp 0 (by omega), if_pos rfl, ← hgj]
      congr 2
      omega
    · rw [Nat.mod_eq_of_lt (by omega), hp (k + 1) (by omega), if_neg (by omega)]
      congr 2
      omega
theorem nthD_withA {sh : List Dd} {as : List Int} {n : Int} (hl : as.length = sh.length) (h0 : 0 ≤ n) (h1 : n < (sh.length : Int)) : nthD (withA sh as) n = ⟨(nthD sh n).a, (nthD sh n).b, (nthD sh n).r, gI as n⟩ := by
  obtain ⟨j, rfl⟩ : ∃ j : Nat, n = (j : Int) := ⟨n.toNat, by omega⟩
  have hj : j < sh.length := by omega
  rw [nthD_some (withA_get (List.getElem?_eq_getElem hj) (by omega)), nthD_some (List.getElem?_eq_getElem hj)]
def pb (sh : List Dd) (R : List Int) (b : Int) : Bool := sh.any fun x => decide (PdP b R x)
def filN (sh : List Dd) (R0 : List Int) : Nat → List Int
  | 0 => R0
  | n + 1 => (filN sh R0 n).filter (pb sh (filN sh R0 n))
end Ab

namespace Ab
open PySem
def Dd.In (m : Int) (x : Dd) : Prop := 0 ≤ x.a ∧ x.a < m ∧ 0 ≤ x.b ∧ x.b < m ∧ x.a ≠ x.b ∧ 0 ≤ x.r ∧ x.r < 3 ∧ 0 ≤ x.c
theorem Dd.Ok.inn {m : Int} {x : Dd} (h : x.Ok m) : x.In m := by
  unfold Dd.Ok at h
  exact ⟨h.1, h.2.1, h.2.2.1, h.2.2.2.1, h.2.2.2.2.1, h.2.2.2.2.2.1, h.2.2.2.2.2.2.1, h.2.2.2.2.2.2.2.1⟩
def subR (c : Int) (l rg : List Int) : List Int := rg.foldl (fun l n => l.set n.toNat (gI l n - c)) l
theorem subR_len {c : Int} : ∀ {rg l : List Int}, (subR c l rg).length = l.length
  | [], _ => rfl
  | n :: ns, l => by
    show (subR c (l.set n.toNat (gI l n - c)) ns).length = l.length
    rw [subR_len, List.length_set]
theorem gI_setK {l : List Int} {i k : Nat} {v : Int} (hk : k < l.length) : gI (l.set i v) k = if i = k then v else gI l k := by
  unfold gI
  rw [Int.toNat_natCast, List.getD_eq_getElem?_getD, List.getD_eq_getElem?_getD, List.getElem?_set]
  split
  · rename_i e
    subst e
    rw [if_pos hk]
    rfl
  · rfl
theorem subR_get {c : Int} : ∀ {rg l : List Int}, rg.Nodup → (∀ n ∈ rg, 0 ≤ n ∧ n < (l.length : Int)) → ∀ k : Nat, k < l.length → gI (subR c l rg) k = if (k : Int) ∈ rg then gI l k - c else gI l k
  | [], l, _, _, k, hk => by simp [subR]
  | n :: ns, l, hn, hr, k, hk => by
    show gI (subR c (l.set n.toNat (gI l n - c)) ns) k = _
    have hn2 := List.nodup_cons.mp hn
    rw [subR_get hn2.2 (fun x hx => by rw [List.length_set]; exact hr x (List.mem_cons_of_mem _ hx)) k (by rw [List.length_set]; exact hk), gI_setK hk]
    have h0 := hr n (by simp)
    by_cases e : n.toNat = k
    · have e2 : n = (k : Int) := by omega
      subst e2
      rw [if_pos e, if_neg hn2.1, if_pos (by simp)]
    · rw [if_neg e]
      have e2 : (k : Int) ≠ n := by omega
      simp [e2]
theorem gI_at {l : List Int} {k : Nat} {z : Int} (h : l[k]? = some z) : gI l k = z := by
  unfold gI
  rw [Int.toNat_natCast, List.getD_eq_getElem?_getD, h]
  rfl
def pos (l : List Int) : Nat := l.countP fun z => decide (0 < z)
theorem pos_le : ∀ {l l' : List Int}, l'.length = l.length → (∀ (k : Nat) (x y : Int), l[k]? = some x → l'[k]? = some y → 0 < y → 0 < x) → pos l' ≤ pos l
  | [], [], _, _ => Nat.le_refl _
  | x :: xs, y :: ys, hl, h => by
    have ih := pos_le (l := xs) (l' := ys) (by simpa using hl) fun k a b ha hb => h (k + 1) a b (by simpa using ha) (by simpa using hb)
    have h0 := h 0 x y rfl rfl
    unfold pos at *
    rw [List.countP_cons, List.countP_cons]
    by_cases c : 0 < y
    · simp [c, h0 c, ih]
    · simp [c]
      omega
theorem pos_lt : ∀ {l l' : List Int}, l'.length = l.length → (∀ (k : Nat) (x y : Int), l[k]? = some x → l'[k]? = some y → 0 < y → 0 < x) → (∃ (k : Nat) (x y : Int), l[k]? = some x ∧ l'[k]? = some y ∧ 0 < x ∧ ¬ 0 < y) → pos l' < pos l
  | [], [], _, _, ⟨k, x, y, e, _⟩ => by simp at e
  | x :: xs, y :: ys, hl, h, ⟨k, a, b, e1, e2, e3, e4⟩ => by
    have hl2 : ys.length = xs.length := by simpa using hl
    have hh : ∀ (k : Nat) (x y : Int), xs[k]? = some x → ys[k]? = some y → 0 < y → 0 < x := fun k a b ha hb => h (k + 1) a b (by simpa using ha) (by simpa using hb)
    have h0 := h 0 x y rfl rfl
    cases k with
    | zero =>
      have ih := pos_le hl2 hh
      cases e1
      cases e2
      unfold pos at *
      rw [List.countP_cons, List.countP_cons]
      simp [e3, e4]
      omega
    | succ k =>
      have ih := pos_lt hl2 hh ⟨k, a, b, by simpa using e1, by simpa using e2, e3, e4⟩
      unfold pos at *
      rw [List.countP_cons, List.countP_cons]
      by_cases c : 0 < y
      · simp [c, h0 c, ih]
      · simp [c]
        omega
def runC (l : List Int) (cs : List (List Int × Int)) : List Int := cs.foldl (fun l p => subR p.2 l p.1) l
theorem runC_one {l : List Int} {cs : List (List Int × Int)} {p : List Int × Int} : runC l (cs ++ [p]) = subR p.2 (runC l cs) p.1 := by
  unfold runC
  rw [List.foldl_append]
  rfl
structure CutAt (sh : List Dd) (l : List Int) (p : List Int × Int) : Prop where
  ring : IsRing (withA sh l) p.1
  len : p.1.length ≤ 1000
  min : p.2 ∈ p.1.map (gI l)
  le : ∀ z ∈ p.1.map (gI l), p.2 ≤ z
def CutsOk (sh : List Dd) (l : List Int) (cs : List (List Int × Int)) : Prop := ∀ (i : Nat) (p : List Int × Int), cs[i]? = some p → CutAt sh (runC l (cs.take i)) p
theorem CutsOk.nil {sh : List Dd} {l : List Int} : CutsOk sh l [] := fun i p h => by simp at h
theorem CutsOk.one {sh : List Dd} {l : List Int} {cs : List (List Int × Int)} {p : List Int × Int} (h : CutsOk sh l cs) (hp : CutAt sh (runC l cs) p) : CutsOk sh l (cs ++ [p]) := fun i q hq => by
  by_cases hi : i < cs.length
  · rw [List.getElem?_append_left hi] at hq
    rw [List.take_append_of_le_length (by omega)]
    exact h i q hq
  · have hi2 : i = cs.length := by
      have := (List.getElem?_eq_some_iff.mp hq).1
      rw [List.length_append, List.length_singleton] at this
      omega
    subst hi2
    rw [List.getElem?_append_right (Nat.le_refl _), Nat.sub_self] at hq
    cases hq
    rw [List.take_left' rfl]
    exact hp
structure CutOk (l l' : List Int) (p : List Int × Int) : Prop where
  len : l'.length = l.length
  nn : ∀ z ∈ l', 0 ≤ z
  pos : pos l' < pos l
  coins : 0 < p.2
  get : ∀ k : Nat, k < l.length → gI l' k = if (k : Int) ∈ p.1 then gI l k - p.2 else gI l k
  nodup : p.1.Nodup
  rng : ∀ n ∈ p.1, 0 ≤ n ∧ n < (l.length : Int) ∧ p.2 ≤ gI l n
theorem CutAt.ok {sh : List Dd} {l : List Int} {p : List Int × Int} (h : CutAt sh l p) (hl : l.length = sh.length) (hn : ∀ z ∈ l, 0 ≤ z) : CutOk l (subR p.2 l p.1) p := by
  have nd : p.1.Nodup := List.Pairwise.of_map _ (fun a b h e => h (by rw [e])) h.ring.once
  have rg : ∀ n ∈ p.1, 0 ≤ n ∧ n < (l.length : Int) ∧ 0 < gI l n := fun n hn => by
    have := h.ring.rng n hn
    rw [withA_len hl] at this
    rw [nthD_withA hl this.1 this.2.1] at this
    exact ⟨this.1, by omega, this.2.2⟩
  have gt := subR_get (c := p.2) nd (fun n hn => ⟨(rg n hn).1, (rg n hn).2.1⟩)
  have cp : 0 < p.2 := by
    obtain ⟨n, hn, e⟩ := List.mem_map.mp h.min
    rw [← e]
    exact (rg n hn).2.2
  have nn : ∀ z ∈ subR p.2 l p.1, 0 ≤ z := fun z hz => by
    obtain ⟨k, hk⟩ := List.mem_iff_getElem?.mp hz
    have hkl := (List.getElem?_eq_some_iff.mp hk).1
    rw [subR_len] at hkl
    rw [← gI_at hk, gt k hkl]
    split
    · rename_i hm
      have := h.le _ (List.mem_map.mpr ⟨_, hm, rfl⟩)
      omega
    · rw [gI_nat hkl]
      exact hn _ (List.getElem_mem hkl)
  refine ⟨subR_len, nn, pos_lt subR_len (fun k x y hx hy c => ?_) ?_, cp, gt, nd, fun n hn => ⟨(rg n hn).1, (rg n hn).2.1, h.le _ (List.mem_map.mpr ⟨_, hn, rfl⟩)⟩⟩
  · have hkl := (List.getElem?_eq_some_iff.mp hx).1
    have := gt k hkl
    rw [gI_at hx, gI_at hy] at this
    split at this <;> omega
  · obtain ⟨n, hn, e⟩ := List.mem_map.mp h.min
    have hr := rg n hn
    have hkl : n.toNat < l.length := by omega
    have en : n = (n.toNat : Int) := by omega
    have g2 := gt n.toNat hkl
    rw [← en, if_pos hn, e] at g2
    refine ⟨n.toNat, l[n.toNat], (subR p.2 l p.1)[n.toNat]'(by rw [subR_len]; exact hkl), List.getElem?_eq_getElem hkl, List.getElem?_eq_getElem _, ?_, ?_⟩
    · rw [← gI_nat hkl, ← en]
      exact hr.2.2
    · rw [← gI_nat, ← en, g2]
      omega
theorem CutsOk.ok {sh : List Dd} {l : List Int} : ∀ {cs : List (List Int × Int)}, CutsOk sh l cs → l.length = sh.length → (∀ z ∈ l, 0 ≤ z) → ∀ i : Nat, (runC l (cs.take i)).length = sh.length ∧ ∀ z ∈ runC l (cs.take i), 0 ≤ z := fun {cs} h hl hn i => by
  induction i with
  | zero => exact ⟨hl, hn⟩
  | succ i ih =>
    cases e : cs[i]? with
    | none =>
      have : cs.length ≤ i := List.getElem?_eq_none_iff.mp e
      rw [List.take_of_length_le (by omega)]
      rwa [List.take_of_length_le this] at ih
    | some p =>
      have o := (h i p e).ok ih.1 ih.2
      rw [take_succ_of e, runC_one]
      exact ⟨by rw [subR_len]; exact ih.1, o.nn⟩
def cutsD (cs : List (List Int × Int)) : List D := cs.map fun p => .tup [.lst (vI p.1), .int p.2]
end Ab

namespace Ab
open PySem
def flow (j : Int) (x : Dd) : Int := (if x.b = j then x.c else 0) - (if x.a = j then x.c else 0)
def flows (sh : List Dd) (l : List Int) (j : Int) : Int := ((withA sh l).map (flow j)).sum
theorem IsRing.turn {sh : List Dd} {rg : List Int} (h : IsRing sh rg) : (rg.map fun n => (nthD sh n).b).Perm (rg.map fun n => (nthD sh n).a) := by
  cases rg with
  | nil => exact List.Perm.refl _
  | cons r rs =>
    have e : ((r :: rs).map fun n => (nthD sh n).b) = (rs.map fun n => (nthD sh n).a) ++ [(nthD sh r).a] := by
      refine List.ext_getElem (by simp) fun k h1 h2 => ?_
      rw [List.length_map] at h1
      have hr := h.round k h1
      rw [gI_nat h1] at hr
      rw [List.getElem_map, hr]
      have hm : (k + 1) % (r :: rs).length < (r :: rs).length := Nat.mod_lt _ (by simp)
      rw [gI_nat hm]
      rw [List.length_cons] at h1
      by_cases hk : k < rs.length
      · rw [List.getElem_append_left (by rw [List.length_map]; exact hk), List.getElem_map]
        have e : (k + 1) % (r :: rs).length = k + 1 := Nat.mod_eq_of_lt (by rw [List.length_cons]; omega)
        simp only [e, List.getElem_cons_succ]
      · have hk2 : k = rs.length := by omega
        subst hk2
        rw [List.getElem_append_right (by simp)]
        simp
    rw [e]
    exact List.perm_append_comm
end Ab

namespace Ab
open PySem PySem.Spec PyProof.Rows L2
def ConstT (K : PySem.W.Frag) (a : Addr) (xs : List Str) : Prop := ∃ (o : Obj) (its : Array Value) (n : Nat), K.lookup a = some o ∧ o.cls = .type "tuple" ∧ o.data = .seq its n ∧ its.size ≤ sizeLine ∧ Vals (xs.map V.str) its.toList
end Ab

namespace Ab
open PySem
def Fit (n : Nat) (v : List Int) : Prop := v.length = n ∧ ∀ k : Nat, k < n → 0 ≤ gI v k ∧ gI v k ≤ 100000000000000
theorem Fit.mem {n : Nat} {v : List Int} (h : Fit n v) : ∀ z ∈ v, 0 ≤ z ∧ z ≤ 100000000000000 := fun z hz => by
  obtain ⟨k, hk⟩ := List.mem_iff_getElem?.mp hz
  have hl := (List.getElem?_eq_some_iff.mp hk).1
  rw [← gI_at hk]
  exact h.2 k (by have := h.1; omega)
def minB (a b : List Int) : List Int := List.zipWith (fun x y => if y < x then y else x) a b
def subB (a b : List Int) : List Int := List.zipWith (fun x y => x - y) a b
def bndB (g s : List Int) : List Int := List.zipWith (fun x y => if x = 0 then y else 0) g s
def minI (a b : Int) : Int := if b < a then b else a
def rowR (g pl : List Int) (own : Int) (w : Str) (r st : List Int) : List Int × List Int :=
  if w = "pledge" then (minB r pl, minB r pl ++ [0])
  else if w = "share" then (minB r st, minB r st ++ [0])
  else if w = "own" then (shareL (minI own r.sum) r, (r.map fun _ => 0) ++ [minI own r.sum])
  else if w = "others" then (shareL (minI (bndB g st).sum r.sum) r, shareL (minI (bndB g st).sum r.sum) (bndB g st) ++ [0])
  else (shareL (minI (bndB g st).sum r.sum) r, levelL (minI (bndB g st).sum r.sum) (bndB g st) ++ [0])
structure LSt where
  rests : List Int
  stock : List Int
  rows : List (Str × List Int × List Int)
def stepR (g pl : List Int) (own : Int) (s : LSt) (w : Str) : LSt := ⟨subB s.rests (rowR g pl own w s.rests s.stock).1, if w = "pledge" then s.stock else subB s.stock (rowR g pl own w s.rests s.stock).2, s.rows ++ [(w, (rowR g pl own w s.rests s.stock).1, (rowR g pl own w s.rests s.stock).2)]⟩
def runR (g pl sh : List Int) (own : Int) (ws : List Str) : LSt := ws.foldl (stepR g pl own) ⟨g, sh, []⟩
structure RowOk (n : Nat) (r st : List Int) (p : List Int × List Int) (w : Str) : Prop where
  len1 : p.1.length = n
  len2 : p.2.length = n + 1
  le1 : ∀ k : Nat, k < n → 0 ≤ gI p.1 k ∧ gI p.1 k ≤ gI r k
  le2 : w ≠ "pledge" → ∀ k : Nat, k < n → 0 ≤ gI p.2 k ∧ gI p.2 k ≤ gI st k
structure LOk (n : Nat) (s : LSt) : Prop where
  rests : Fit n s.rests
  stock : Fit n s.stock
def rowsD (v : List (Str × List Int × List Int)) : List D := v.map fun x => .tup [.str x.1, .lst (vI x.2.1), .lst (vI x.2.2)]
def layersL : List Str := ["pledge", "share", "own", "others", "level"]
def strL (v : List Str) : List D := v.map D.str
end Ab

namespace Ab
open PySem
def owedI (sh : List Dd) (a b r : Int) : Int := (sh.map fun x => if x.a = a ∧ x.b = b ∧ x.r = r then x.c else 0).sum
def exI (l h r : Int) (x : Dd) : Int := (if x.a = l ∧ x.b = h ∧ x.r = r then x.c else 0) - (if x.a = h ∧ x.b = l ∧ x.r = r then x.c else 0)
def difI (sh : List Dd) (l h r : Int) : Int := owedI sh l h r - owedI sh h l r
def pairP (c l h r : Int) : List Dd := if 0 < c then [⟨l, h, r, c⟩] else if c < 0 then [⟨h, l, r, -c⟩] else []
abbrev D3 := Int → Int → Int → Int
def pairH (D : D3) (l r : Nat) : Nat → List Dd
  | 0 => []
  | n + 1 => pairH D l r n ++ pairP (D l ((l : Int) + 1 + (n : Int)) r) l ((l : Int) + 1 + (n : Int)) r
def pairLo (D : D3) (m r : Nat) : Nat → List Dd
  | 0 => []
  | l + 1 => pairLo D m r l ++ pairH D l r (m - (l + 1))
def pairR (D : D3) (m : Nat) : Nat → List Dd
  | 0 => []
  | r + 1 => pairR D m r ++ pairLo D m r m
def pairG (D : D3) (m : Nat) : List Dd := pairR D m 3
def rsum (t : Nat → Int) : Nat → Int
  | 0 => 0
  | n + 1 => rsum t n + t n
def sum3 (m : Nat) (t : D3) : Int := rsum (fun r => rsum (fun l => rsum (fun k => t l ((l : Int) + 1 + (k : Int)) r) (m - (l + 1))) m) 3
def gJ (j l h c : Int) : Int := (if h = j then c else 0) - (if l = j then c else 0)
end Ab

namespace Ab
open PySem
end Ab

namespace Ab
open PySem
def Wh (N : Int) (q : Rat) : Prop := ∃ z : Int, q * (N : Rat) = (z : Rat)
theorem Wh.int {N a : Int} : Wh N (a : Rat) := ⟨a * N, by rw [Rat.intCast_mul]⟩
theorem Wh.zero {N : Int} : Wh N 0 := ⟨0, by grind⟩
theorem Wh.add {N : Int} {p q : Rat} (hp : Wh N p) (hq : Wh N q) : Wh N (p + q) := by
  obtain ⟨x, hx⟩ := hp
  obtain ⟨y, hy⟩ := hq
  exact ⟨x + y, by rw [Rat.intCast_add, ← hx, ← hy]; grind⟩
theorem Wh.more {N M : Int} {q : Rat} (h : Wh N q) : Wh (N * M) q := by
  obtain ⟨x, hx⟩ := h
  exact ⟨x * M, by rw [Rat.intCast_mul, Rat.intCast_mul, ← hx]; grind⟩
theorem Wh.divInt {N a : Int} {q : Rat} (h : Wh N q) (ha : a ≠ 0) : Wh (N * a) (q / (a : Rat)) := by
  obtain ⟨x, hx⟩ := h
  refine ⟨x, ?_⟩
  have h0 : (a : Rat) ≠ 0 := by exact_mod_cast ha
  rw [← hx, Rat.intCast_mul]
  grind
theorem Wh.den {N : Int} {q : Rat} (h : Wh N q) : (q.den : Int) ∣ N := by
  obtain ⟨z, hz⟩ := h
  have e := num_eq q
  have h2 : ((q.num * N : Int) : Rat) = ((z * (q.den : Int) : Int) : Rat) := by
    rw [Rat.intCast_mul, Rat.intCast_mul, e, ← hz]
    grind
  have h3 : q.num * N = z * (q.den : Int) := by exact_mod_cast h2
  have h4 : (q.den : Int) ∣ q.num * N := ⟨z, by rw [h3]; exact Int.mul_comm _ _⟩
  have h5 : q.den ∣ q.num.natAbs * N.natAbs := by
    have := Int.natAbs_dvd_natAbs.mpr h4
    rwa [Int.natAbs_mul, Int.natAbs_natCast] at this
  have h6 : q.den ∣ N.natAbs := Nat.Coprime.dvd_of_dvd_mul_left (Nat.Coprime.symm q.reduced) h5
  exact Int.ofNat_dvd_left.mpr h6
theorem Wh.size {N : Int} {q : Rat} {k b : Nat} (h : Wh N q) (h0 : N ≠ 0) (hN : Sz k N) (hq : 0 ≤ q) {B : Int} (hB : q ≤ (B : Rat)) (hb : Sz b B) : SzR (k + b) q := by
  have hd := h.den
  have d1 : q.den ≤ N.natAbs := Nat.le_of_dvd (by omega) (Int.ofNat_dvd_left.mp hd)
  have s1 : Sz k (q.den : Int) := by
    unfold Sz at *
    rw [Int.natAbs_natCast]
    omega
  refine ⟨?_, s1.mono (by omega)⟩
  have e := num_eq q
  have n0 := num_nonneg_iff.mp hq
  have dp := den_ratpos q
  have h1 : ((q.num : Int) : Rat) ≤ ((B * (q.den : Int) : Int) : Rat) := by
    rw [Rat.intCast_mul, e]
    exact Rat.mul_le_mul_of_nonneg_right hB (Rat.le_of_lt dp)
  have h2 : q.num ≤ B * (q.den : Int) := by exact_mod_cast h1
  have h3 := hb.mul s1
  unfold Sz at *
  rw [Nat.add_comm k b]
  omega
end Ab

namespace Ab
open PySem
def inn (qs : List Rat) (sh : List Dd) (j r : Int) : Prop := 0 < gR (laidA qs sh j) r ∧ gR (laidA qs sh j) r < (rkI sh j r : Int)
open Classical in
noncomputable def actM (qs : List Rat) (sh : List Dd) (j : Int) : Int := if inn qs sh j 0 then rkI sh j 0 else if inn qs sh j 1 then rkI sh j 1 else if inn qs sh j 2 then rkI sh j 2 else 1
end Ab

namespace Ab
open PySem
theorem Wh.self {q : Rat} : Wh (q.den : Int) q := ⟨q.num, (num_eq q).symm⟩
def prodI (f : Nat → Int) : Nat → Int
  | 0 => 1
  | n + 1 => prodI f n * f n
theorem Wh.sum {N : Int} {α : Type} {f : α → Rat} : ∀ {xs : List α}, (∀ x ∈ xs, Wh N (f x)) → Wh N (xs.map f).sum
  | [], _ => by
    simpa using Wh.zero
  | x :: xs, h => by
    rw [List.map_cons, List.sum_cons]
    exact (h x (by simp)).add (Wh.sum fun y hy => h y (by simp [hy]))
end Ab

namespace Ab
open PySem PySem.Spec PyProof.Rows L2

section
variable {K : PySem.W.Frag} {g : Gi} {H0 H : Hp} {r r' : List Addr} {S : Sto} {d : D} {v : V}
def putD (f : Str) (d : D) : List (Str × D) → List (Str × D)
  | [] => [(f, d)]
  | (g, x) :: r => if g = f then (g, d) :: r else (g, x) :: putD f d r
end
section
variable {X : Cx} {g : Gi} {W : WX} {e o value : Expr} {es : List Expr} {pos cpos apos pos' p : Pos} {we wo wv : WE} {ws : WA}
def kFld (C f : Str) (k : KD) : D → Sto → Prop := fun (x0 : HG D) x1 => match x0, x1 with
  | .cell n, S => ∃ fs d, S[n]? = some (.obj C fs) ∧ fs.lookup f = some d ∧ k d S
  | _, _ => False
def wFld (C f : Str) (we : WE) : WE := fun (xc : HG XE) s S k => we xc s S (kFld C f k)
def kSetF (C f : Str) (d : D) (nx : Sto → Prop) : D → Sto → Prop := fun (x0 : HG D) x1 => match x0, x1 with
  | .cell n, S => ∃ fs, S[n]? = some (.obj C fs) ∧ fs.length < 1000 ∧ nx (S.set n (.obj C (putD f d fs)))
  | _, _ => False
def wSetF (C f : Str) (wv wo : WE) : WS := fun (D : HG Kd) s S => wv D.xc s S fun d S1 => wo D.xc s S1 fun y S2 => kSetF C f d (D.nx s) y S2
def isO (C m : Str) : D → Sto → Prop := fun (x0 : HG D) x1 => match x0, x1 with
  | .cell n, S => ∃ fs, S[n]? = some (.obj C fs) ∧ fs.lookup m = none
  | _, _ => False
def wMeth (C m : Str) (wf : WF) (wo : WE) (ws : WA) : WE := fun (xc : HG XE) s S k => wo xc s S fun o S1 => isO C m o S1 ∧ ws xc s S1 fun ds S2 => wf (o :: ds) S2 k fun c S3 => xc c s S3
def tMethE (C : Addr) (m : Str) (sp : Sp) (E : L2.St → XK) (ta : TE) (t : TA) : TE := fun σ H Q => ta σ H fun x H1 => ∃ a dx fs, x = .ref a ∧ H1 a = some (.ins C dx fs) ∧ fs.lookup m = none ∧ t σ H1 fun vs H2 => sp (x :: vs) H2 Q (E σ)
def methTree (X : Cx) (o : Expr) (m : Str) (pl : Sem Bool) (ap cp : Pos) (xs : List Expr) : Sem Value :=
  eval o X.env >>= fun ov => standAt ap.atName >>= fun _ => holding [ov] (getMethod ov m pl) >>= fun
    | (g, hd) => callWith cp g hd (backTo cp (starEach xs X.env)) (backToKw cp (keywordEach [] X.env))
def tMakeE (C : Addr) (sp : Sp) (E : L2.St → XK) (t : TA) : TE := fun σ H goal => t σ H fun vs H1 => ∀ ob dct, H1 ob = none → H1 dct = none → dct ≠ ob → sp (.ref ob :: vs) (upd (upd H1 dct (.own ob)) ob (.ins C dct [])) (fun v H2 => v = .non ∧ goal (.ref ob) H2) (E σ)
def wMake (C : Str) (wf : WF) (ws : WA) : WE := fun (xc : HG XE) s S k => ws xc s S fun ds S1 => wf (.cell S1.length :: ds) (S1 ++ [.obj C []]) (fun d S2 => d = .non ∧ k (.cell S1.length) S2) fun c S3 => xc c s S3
end

mutual
def D.clo (n : Nat) : D → Bool
  | .tup xs => cloAll n xs
  | .lst xs => cloAll n xs
  | .scr xs => cloAll n xs
  | .cell m => decide (m < n)
  | _ => true
def cloAll (n : Nat) : List D → Bool
  | [] => true
  | x :: xs => x.clo n && cloAll n xs
end
section
variable {K : PySem.W.Frag} {g : Gi} {H0 H : Hp} {r r' : List Addr} {S : Sto} {d : D} {v : V}
mutual
theorem Rel.clo (p : r <+: r') : ∀ {d : D} {v : V}, d.clo r.length = true → Rel K H0 r' d v → Rel K H0 r d v
  | .non, _, _, h => by unfold Rel at h ⊢; exact h
  | .bl _, _, _, h => by unfold Rel at h ⊢; exact h
  | .int _, _, _, h => by unfold Rel at h ⊢; exact h
  | .str _, _, _, h => by unfold Rel at h ⊢; exact h
  | .tup ds, _, c, h => by
    unfold Rel at h ⊢
    obtain ⟨a, xs, rfl, h1, h2⟩ := h
    exact ⟨a, xs, rfl, h1, Rels.clo p (by unfold D.clo at c; exact c) h2⟩
  | .lst ds, _, c, h => by
    unfold Rel at h ⊢
    obtain ⟨a, xs, rfl, h1, h2⟩ := h
    exact ⟨a, xs, rfl, h1, Rels.clo p (by unfold D.clo at c; exact c) h2⟩
  | .scr ds, _, c, h => by
    unfold Rel at h ⊢
    obtain ⟨a, xs, rfl, h1, h2⟩ := h
    exact ⟨a, xs, rfl, h1, Rels.clo p (by unfold D.clo at c; exact c) h2⟩
  | .cell n, _, c, h => by
    unfold Rel at h ⊢
    obtain ⟨a, rfl, h1⟩ := h
    refine ⟨a, rfl, ?_⟩
    have hn : n < r.length := by
      unfold D.clo at c
      exact of_decide_eq_true c
    rw [← pre_back p hn]
    exact h1
  | .exn ..,  _, _, h => by unfold Rel at h ⊢; exact h
theorem Rels.clo (p : r <+: r') : ∀ {ds : List D} {vs : List V}, cloAll r.length ds = true → Rels K H0 r' ds vs → Rels K H0 r ds vs
  | [], _, _, h => by rw [h.unnil]; exact Rels.nil
  | d :: ds, _, c, h => by
    unfold cloAll at c
    rw [Bool.and_eq_true] at c
    obtain ⟨y, ys, rfl, h1, h3⟩ := h.uncons
    exact Rels.cons (Rel.clo p c.1 h1) (Rels.clo p c.2 h3)
end
mutual
theorem clo_pure {n : Nat} : ∀ {d : D}, d.pure = true → d.clo n = true
  | .non, _ => by unfold D.clo; rfl
  | .bl _, _ => by unfold D.clo; rfl
  | .int _, _ => by unfold D.clo; rfl
  | .str _, _ => by unfold D.clo; rfl
  | .tup ds, h => by unfold D.clo; exact cloAll_pure (by unfold D.pure at h; exact h)
  | .lst ds, h => by unfold D.clo; exact cloAll_pure (by unfold D.pure at h; exact h)
  | .scr ds, h => by unfold D.clo; exact cloAll_pure (by unfold D.pure at h; exact h)
  | .cell n, h => by unfold D.pure at h; cases h
  | .exn .., h => by unfold D.pure at h; cases h
theorem cloAll_pure {n : Nat} : ∀ {ds : List D}, pureAll ds = true → cloAll n ds = true
  | [], _ => by unfold cloAll; rfl
  | d :: ds, h => by
    unfold pureAll at h
    rw [Bool.and_eq_true] at h
    unfold cloAll
    rw [clo_pure h.1, cloAll_pure h.2]
    rfl
end
def Cel.clo (n : Nat) : Cel → Bool
  | .lst xs => cloAll n xs
  | .obj _ fs => fs.all fun f => f.2.clo n
  | .dk kvs => kvs.all fun f => f.2.clo n
  | .dt kvs => kvs.all fun f => f.2.clo n
  | .dkf _ _ kvs => kvs.all fun f => f.2.clo n
  | .dtf _ _ kvs => kvs.all fun f => f.2.clo n
  | .tab _ _ => true
  | .dead => true
theorem RelF.clo (p : r <+: r') : ∀ {fs : List (Str × D)} {xs : List (Str × V)}, (fs.all fun f => f.2.clo r.length) = true → RelF K H0 r' fs xs → RelF K H0 r fs xs
  | [], _, _, h => h
  | (f, d) :: fs, _, c, h => by
    obtain ⟨y, ys, rfl, h1, h2⟩ := h
    rw [List.all_cons, Bool.and_eq_true] at c
    exact ⟨y, ys, rfl, h1.clo p c.1, RelF.clo p c.2 h2⟩
theorem RelK.clo {κ : Type} (p : r <+: r') : ∀ {fs : List (κ × D)} {xs : List (κ × V)}, (fs.all fun f => f.2.clo r.length) = true → RelK K H0 r' fs xs → RelK K H0 r fs xs
  | [], _, _, h => h
  | (f, d) :: fs, _, c, h => by
    obtain ⟨y, ys, rfl, h1, h2⟩ := h
    rw [List.all_cons, Bool.and_eq_true] at c
    exact ⟨y, ys, rfl, h1.clo p c.1, RelK.clo p c.2 h2⟩
theorem CelOk.clo {a : Addr} {c : Cel} (p : r <+: r') (hc : c.clo r.length = true) (h : CelOk K g H0 r' H a c) : CelOk K g H0 r H a c := by
  cases c with
  | lst ds =>
    obtain ⟨q, xs, h1, h2⟩ := h
    exact ⟨q, xs, h1, h2.clo p hc⟩
  | obj C fs =>
    obtain ⟨q, dx, xs, h1, h2⟩ := h
    exact ⟨q, dx, xs, h1, h2.clo p hc⟩
  | dk kvs =>
    obtain ⟨q, xs, h1, h2⟩ := h
    exact ⟨q, xs, h1, h2.clo p hc⟩
  | dt kvs =>
    obtain ⟨q, xs, h1, h2⟩ := h
    exact ⟨q, xs, h1, h2.clo p hc⟩
  | dkf o xs kvs =>
    obtain ⟨q, h1, h2⟩ := h
    exact ⟨q, h1, h2.clo p hc⟩
  | dtf o xs kvs =>
    obtain ⟨q, h1, h2⟩ := h
    exact ⟨q, h1, h2.clo p hc⟩
  | tab P q => exact h
  | dead => trivial
def Kept (S S' : Sto) : Prop := S.length ≤ S'.length ∧ ∀ (i : Nat) (c : Cel), i < S.length → S'[i]? = some c → S[i]? = some c ∨ c.clo S.length = true
end
def wTrimM (wf : WF) : WF := fun (ds : HG (List D)) S k xk => wf ds S (fun d S' => d.clo S.length = true ∧ Kept S S' ∧ k d (S'.take S.length)) (fun c S' => Kept S S' ∧ xk c (S'.take S.length))
end Ab

namespace Ab
open PySem
def ahI (sh : List Dd) (j r : Int) : Int := ((rkRow sh j).take r.toNat).sum
section
variable {m : Int} {sh pre : List Dd} {qs ps : List Rat} {x : Dd} {j r : Int}
theorem payR_clamp (hs : ∀ x ∈ sh, x.Ok m) (hx : x ∈ sh) (hq : 0 ≤ gR qs x.a) (h0 : rkI sh x.a x.r ≠ 0) : payR qs sh x = clampR (gR qs x.a) (ahI sh x.a x.r : Int) (rkI sh x.a x.r : Int) * (x.c : Int) / (rkI sh x.a x.r : Int) := by
  have ho := hs x hx
  unfold Dd.Ok at ho
  unfold payR
  rw [if_neg h0, laid_clamp hs hq (by omega) (by omega), divInt_eq]
  unfold ahI
  grind
theorem payR_nil (h0 : rkI sh x.a x.r = 0) : payR qs sh x = 0 := by
  unfold payR
  rw [if_pos h0]
theorem sum_congr {α : Type} {f g : α → Rat} : ∀ {xs : List α}, (∀ x ∈ xs, f x = g x) → (xs.map f).sum = (xs.map g).sum
  | [], _ => rfl
  | x :: xs, h => by
    rw [List.map_cons, List.map_cons, List.sum_cons, List.sum_cons, h x (by simp), sum_congr fun y hy => h y (by simp [hy])]
theorem sum_nn {α : Type} {f : α → Rat} : ∀ {xs : List α}, (∀ x ∈ xs, 0 ≤ f x) → 0 ≤ (xs.map f).sum
  | [], _ => Rat.le_refl
  | x :: xs, h => by
    rw [List.map_cons, List.sum_cons]
    have h1 := h x (by simp)
    have h2 := sum_nn (xs := xs) fun y hy => h y (by simp [hy])
    grind
theorem rkT_nonneg (hs : ∀ x ∈ sh, x.Ok m) : 0 ≤ rkT sh j := by
  have h0 := rkI_nonneg hs (j := j) (r := 0)
  have h1 := rkI_nonneg hs (j := j) (r := 1)
  have h2 := rkI_nonneg hs (j := j) (r := 2)
  unfold rkT
  omega
end
def nextR (m : Int) (qs : List Rat) (sh : List Dd) (ps : List Int) (k : Nat) : Rat := if ((gI ps k : Int) : Rat) + gotP qs sh sh k < ((gI (owesI m sh) k : Int) : Rat) then ((gI ps k : Int) : Rat) + gotP qs sh sh k else ((gI (owesI m sh) k : Int) : Rat)
def nextRL (m : Int) (qs : List Rat) (sh : List Dd) (ps : List Int) : List Rat := (List.range m.toNat).map (nextR m qs sh ps)
def posL (qs : List Rat) : List Rat := qs.map fun q => if q < 0 then 0 else q
theorem posL_self {qs : List Rat} (h : ∀ q ∈ qs, 0 ≤ q) : posL qs = qs := by
  unfold posL
  refine (List.map_congr_left fun q hq => ?_).trans (List.map_id _)
  rw [if_neg (Rat.not_lt.mpr (h q hq))]
  rfl
def FixR (m : Int) (qs : List Rat) (sh : List Dd) (ps : List Int) : Prop := ∀ j : Nat, (j : Int) < m → nextR m (posL qs) sh ps j = gR qs j
def recL (m : Int) (sh : List Dd) (ps : List Int) : Nat → List Rat
  | 0 => List.replicate m.toNat 0
  | k + 1 => (recL m sh ps k).set k (nextR m (recL m sh ps k) sh ps k)
section
variable {m : Int} {sh : List Dd} {ps : List Int}
def Fwd (sh : List Dd) : Prop := ∀ x ∈ sh, x.a < x.b
end
section
variable {m : Int} {sh pre : List Dd} {qs : List Rat} {x : Dd} {j : Int}
def ringL (m A r : Int) : List Dd := (List.range m.toNat).map fun (k : Nat) => ⟨k, ((k : Int) + 1) % m, r, A⟩
def rnd (m : Int) (sh : List Dd) (ps : List Int) : Nat → List Rat
  | 0 => (owesI m sh).map fun z => ((z : Int) : Rat)
  | n + 1 => nextRL m (rnd m sh ps n) sh ps
def AllWh (m N : Int) (qs : List Rat) : Prop := ∀ j : Int, 0 ≤ j → j < m → Wh N (gR qs j)
noncomputable def actP (m : Int) (qs : List Rat) (sh : List Dd) : Int := prodI (fun k => actM qs sh k) m.toNat
noncomputable def rndN (m : Int) (sh : List Dd) (ps : List Int) : Nat → Int
  | 0 => 1
  | n + 1 => rndN m sh ps n * actP m (rnd m sh ps n) sh
end
end Ab

namespace Ab
open PySem PySem.Spec PyProof.Rows L2 L2H

structure ExAt (g : Gi) (rl : List Str) (c : Str) (oe : Obj) : Prop where
  z : Zc (.ref (g.cl c)) none oe
  d : ∃ vs, oe.data = .fields vs
  i : rl.contains c = true
structure FnE (P : Program) (w0 : World) (K : PySem.W.Frag) (mg : Str → Option Value) (base : Heap) (g : Gi) (rl : List Str) (k : Nat) (f : Addr) (fd : FuncData) (ps : List Str) (wf : Addr → Str → WF) : Prop where
  run : ∀ (A : Around) (outer : List PySem.Env) (s : Shared) (H : Hp) (as : Args) (us : List Value) (vs : List V) (goal : VK) (E : XK) (a : Addr) (oe : Obj) (c : Str), ExAt g rl c oe → RoomH k A → PinOk outer H s (a, oe) → Env0 P w0 K mg base A outer s H → BindsTo s fd as (ps.zip us) → Vals vs us → spW K g ps.length (wf a c) vs H goal E →
    codeAny (model P w0) A (.call (.ref f) as) (CR (L2.CX P w0) outer P w0 H s goal E) s
theorem fnE_ok {rl : List Str} {P : Program} {w0 : World} {K : PySem.W.Frag} {g : Gi} {mg : Str → Option Value} {base : Heap} {x qual : Str} {st : Stmt} {f : Addr} {fd : FuncData} {N ps : List Str} {k : Nat} {w : Addr → Str → WS} (F : Fun K x qual st f fd) (Sc : FnScope N ps (defScope st))
    (body : ∀ (cdv : Value) (A : Around) (outer : List PySem.Env) (s : Shared) (H : Hp) (E : XK) (a : Addr) (oe : Obj) (c : Str), ExAt g rl c oe → RoomH k (A.deeper (envOfC qual (defScope st) s.heap.objs.size f cdv)) →
      SSs (cxH (L2.CX P w0) P w0 K mg base N qual (defScope st) f cdv A outer s H E (a, oe)) g (fun cls d _ H => E cls d H) (defBody st) (w a c)) :
    FnE P w0 K mg base g rl (k + 1) f fd ps (fun a c => wDef ps.length N.length (w a c)) := by
  constructor
  intro A outer s H as us vs goal E a oe c ex room pin env bnd rel spd
  obtain ⟨hv, H0, r, S, ds, kk, xk, si, rl, hw, ce, cx⟩ := spd
  obtain ⟨oc, od, kV, doc, pm, an, cdv, ct, osl, rfl, lk, cod⟩ := F.ex
  have kin : K.In s.heap := env.mod.kin.keeps fun b o e => (env.bs b o e).1
  have lim : s.heap.NoLimit := env.mod.nolimit.keeps fun b o e => (env.bs b o e).1
  have kinds : ∀ y ∈ ps.zip us, (defScope st).names.lookup y.1 = some .local ∨ ((defScope st).names.lookup y.1 = some .cell ∧ ((cellsFrom (s.heap.objs.size + 1) (defScope st).names []).lookup y.1).isSome = true) := by
    rintro ⟨n, v⟩ hy
    cases Sc.par n (List.of_mem_zip hy).1 with
    | inl q => exact .inl q
    | inr q => exact .inr ⟨q, PySem.W.cellsFrom_some _ _ _ (.inl q)⟩
  have dp : A.depth < recursionLimit := room.depth
  refine codeAny_call_function dp (kin _ _ lk) rfl Sc.co Sc.gen rfl (PySem.W.codeRec_of kin cod) (bnd _ _ _ _ ?_)
  refine wpAny_newFunctionEnv_cells Sc.kind kinds fun en hen s1 inc => ?_
  cases hen
  have low : s1.heap.NoLimit := lim.keeps inc.toInCall.keep
  refine ⟨low, codeAny_func ?_⟩
  obtain ⟨t, pss, good⟩ := body cdv A outer s H E a oe c ex (room.deeper _)
  have inv : Inv (cxH (L2.CX P w0) P w0 K mg base N qual (defScope st) f cdv A outer s H E (a, oe)) [] (L2.start N vs) H s1 := inv_startH Sc pin env hv rel inc
  have tt := good H0 r S H _ _ ⟨fun _ S' => kk .non S', kk, fun c _ S' => xk c S'⟩ { nx := fun _ H' => goal .non H', rt := goal } si (relSt_start rl) hw.2 ⟨fun s' sv' H0' r' S' H' f' si' rs' h' => ce _ _ _ _ _ _ f' si' rel_non' h', ce, fun c s' sv' H0' r' S' H' f' si' rs' h' => cx _ _ _ _ _ f' si' h'⟩
  have done := pss.run [] s1 (L2.start N vs) H _ inv tt
  have told : ∀ {σ' : L2.St} {H' : Hp} {v : V} {u : Value} {s' : Shared}, Inv (cxH (L2.CX P w0) P w0 K mg base N qual (defScope st) f cdv A outer s H E (a, oe)) [] σ' H' s' → RelV v u → goal v H' → CE outer P w0 H s goal u s' := fun J rv q => ⟨_, _, J.os, J.bare, J.base, J.hok, rv, q⟩
  refine wpAny_mono done (fun fl s' hs => ?_) fun _ _ z => z
  match fl, hs with
  | .ret u, ⟨v, σ', H', J, rv, q⟩ => exact told J rv q
  | .next, ⟨σ', H', J, q⟩ => exact told (v := V.non) (u := Value.none) J rfl q
  | .brk, ⟨_, _, _, q⟩ => exact q.elim
  | .cont, ⟨_, _, _, q⟩ => exact q.elim
section
variable {X : Cx} {g : Gi} {W : WX} {e : Expr} {es : List Expr} {pos p p2 : Pos} {wa : WE} {ws : WA}
def wCallE (wf : WF) (ws : WA) : WE := fun (_ : HG XE) s S k => ws noXC s S fun ds S1 => wf ds S1 k fun _ _ => False
def tCallE (sp : Sp) (t : TA) : TE := fun σ H goal => t σ H fun vs H1 => sp vs H1 goal fun _ _ _ => False
theorem call_isP {a D : Addr} {oe : Obj} (C : ExcC X.K D) (hz : Zc (.ref D) none oe) (hf : ∃ vs, oe.data = .fields vs) (hin : (a, oe) ∈ X.pn) : CallR X (.builtin "isinstance") (rIsE X.K D a) := by
  intro pins s0 env hp xs us goal inv rel hyp
  obtain ⟨cl, cv, b, rfl, only, kit, fin⟩ := hyp
  match rel with
  | .cons r1 (.cons r2 .nil) =>
    cases r1
    cases only _ r2
    have there := (inv.pin (a, oe) (List.mem_append_left _ hin)).1
    obtain ⟨fs, dat⟩ := hf
    have inst : PySem.W.InstAt s0.heap a oe D none := by
      cases oe
      cases hz.1
      cases hz.2
      cases dat
      exact ⟨there, rfl, rfl, trivial⟩
    refine PySem.W.kia_one (PySem.W.handS_kitx_exc C.hg C.hk C.hs C.hd C.ha C.hn C.ht C.hm) inv.kIn inst kit (fun z => nomatch z) fun tk => ?_
    exact ⟨.bl b, hp, inv.kept (t' := tk) fun _ _ z => z, rfl, fin⟩
theorem se_isP {rl : List Str} {a : Addr} {oe : Obj} {c y : Str} {b : Bool} {cv : V} {cvv : Value} (C : ExcC X.K (g.cl c)) (ex : ExAt g rl c oe) (hin : (a, oe) ∈ X.pn)
    (hk : PySem.W.kitOne X.K (.ref (g.cl c)) cvv = some b) (hcv : ∀ u, RelV cv u → u = cvv) (hg : Gl X "isinstance") (hm : X.mg "isinstance" = none) (ha : SE X g W e wa) (py : PE X (.Name y p2) (tC cv))
    (s1 : starEach [e, .Name y p2] X.env = (false, eval e X.env) :: starEach [.Name y p2] X.env := by rfl) (s2 : starEach [.Name y p2] X.env = (false, eval (.Name y p2) X.env) :: starEach [] X.env := by rfl) (s3 : (backTo pos (starEach [.Name y p2] X.env)).any (·.1) = false := by rfl) :
    SE X g W (.Call (.Name "isinstance" p) [e, .Name y p2] [] pos) (wIsE a c b wa) := by
  obtain ⟨ta, pa, ga⟩ := ha
  refine ⟨_, pe_callB (call_isP C ex.z ex.d hin) hg hm (by decide +kernel) (pa_cons pa (pa_cons py pa_nil s2) s1) (by decide) (by decide) s1 s3, fun H0 r S H s sv Q k xc si rs h ce cx => ?_⟩
  refine ga H0 r S H s sv _ _ xc si rs h (fun d v H1 r1 S1 H1' f1 s1 rl h1 => ?_) cx
  obtain ⟨e1, hk'⟩ := h1
  subst e1
  unfold Rel at rl
  subst rl
  exact ⟨_, _, _, rfl, hcv, hk, ce _ _ _ _ _ _ f1 s1 rel_bl' hk'⟩
end
def addCW : D → D → Sto → KD → Prop := fun x y S k => ∃ a b, rview S x = some a ∧ rview S y = some b ∧ a.length + b.length ≤ sizeLine ∧ k (.cell S.length) (S ++ [.lst (a ++ b)])
def sortR : List D → Sto → KD → Prop
  | [x], S, k => ∃ ns : List Int, isInts S x ns ∧ ∀ ms : List Int, ms.Perm ns → ms.Pairwise (fun a b => b ≤ a) → k (.lst (ms.map .int)) S
  | _, _, _ => False
theorem se_sortedR {X : Cx} {g : Gi} {W : WX} {e : Expr} {ws : WA} {j : Nat} {p pos kpos cpos : Pos} (hg : Gl X "sorted") (hm : X.mg "sorted" = none) (ha : SA X g W [e] ws)
    (h1 : backTo pos (starEach [e] X.env) = (false, eval e X.env) :: backTo pos (starEach [] X.env) := by rfl) (h2 : (backTo pos (starEach [e] X.env)).any (·.1) = false := by rfl)
    (h3 : (backToKw pos (keywordEach [⟨some "reverse", .Constant (.bool true) j cpos, kpos⟩] X.env)).all (·.1.isSome) = true := by rfl) (h4 : (backToKw pos (keywordEach [⟨some "reverse", .Constant (.bool true) j cpos, kpos⟩] X.env)).any (·.1.isNone) = false := by rfl) (h5 : (backToKw pos (keywordEach [⟨some "reverse", .Constant (.bool true) j cpos, kpos⟩] X.env)).filterMap (·.1) = [Str.ofString "reverse"] := by rfl) :
    SE X g W (.Call (.Name "sorted" p) [e] [⟨some "reverse", .Constant (.bool true) j cpos, kpos⟩] pos) (wB sortR ws) := by
  obtain ⟨ta, pa, ga⟩ := ha
  refine ⟨_, pe_callBK (cr_sortedRev (b := true)) hg hm (by decide +kernel) pa (pk_cons pe_bl pk_nil) (by decide) (by decide) h1 h2 h3 h4 h5, fun H0 r S H s sv Q k xc si rs h ce cx => ?_⟩
  refine ga H0 r S H s sv _ _ xc si rs h (fun ds vs H1 r1 S1 H1' f1 s1 rl q => ?_) cx
  show rSortedKw X.K true [.bl true] vs [.bl true] H1' Q
  unfold sortR at q
  split at q
  · obtain ⟨v, rfl, q1⟩ := rels1 rl
    obtain ⟨ns, e1, hk⟩ := q
    obtain ⟨l, ys, rfl, q3, q4⟩ := lview_rel s1 q1 e1
    rw [Rels.ints] at q4
    subst q4
    refine ⟨l, ns, rfl, rfl, q3, fun ms z pm ord hz => ?_⟩
    obtain ⟨s4, f4, rl4⟩ := s1.lst hz (Rels.ints.mpr rfl)
    exact ce _ _ _ _ _ _ (f1.tr s1 f4) s4 rl4 (hk ms pm ord)
  · exact q.elim
end Ab

namespace Ab
open PySem PySem.Spec PyProof.Rows L2
noncomputable def vFld : (Str) → (Str) → (WE) → (WE) := sld wFld
theorem vFld_s : vFld = wFld := sld_eq _
theorem vFld_q (C f : Str) (we : WE) (xc : _) (s : _) (S : _) (k : _) : vFld C f we xc s S k = (we xc s S (kFld C f k)) := by rw [vFld_s]; rfl
noncomputable def vSetF : (Str) → (Str) → (WE) → (WE) → (WS) := sld wSetF
theorem vSetF_s : vSetF = wSetF := sld_eq _
theorem vSetF_q (C f : Str) (wv wo : WE) (D : _) (s : _) (S : _) : vSetF C f wv wo D s S = (wv D.xc s S fun d S1 => wo D.xc s S1 fun y S2 => kSetF C f d (D.nx s) y S2) := by rw [vSetF_s]; rfl
noncomputable def vMeth : (Str) → (Str) → (WF) → (WE) → (WA) → (WE) := sld wMeth
theorem vMeth_s : vMeth = wMeth := sld_eq _
theorem vMeth_q (C m : Str) (wf : WF) (wo : WE) (ws : WA) (xc : _) (s : _) (S : _) (k : _) : vMeth C m wf wo ws xc s S k = (wo xc s S fun o S1 => isO C m o S1 ∧ ws xc s S1 fun ds S2 => wf (o :: ds) S2 k fun c S3 => xc c s S3) := by rw [vMeth_s]; rfl
noncomputable def vMake : (Str) → (WF) → (WA) → (WE) := sld wMake
theorem vMake_s : vMake = wMake := sld_eq _
theorem vMake_q (C : Str) (wf : WF) (ws : WA) (xc : _) (s : _) (S : _) (k : _) : vMake C wf ws xc s S k = (ws xc s S fun ds S1 => wf (.cell S1.length :: ds) (S1 ++ [.obj C []]) (fun d S2 => d = .non ∧ k (.cell S1.length) S2) fun c S3 => xc c s S3) := by rw [vMake_s]; rfl
noncomputable def vTrimM : (WF) → (WF) := sld wTrimM
theorem vTrimM_s : vTrimM = wTrimM := sld_eq _
theorem vTrimM_q (wf : WF) (ds : _) (S : _) (k : _) (xk : _) : vTrimM wf ds S k xk = (wf ds S (fun d S' => d.clo S.length = true ∧ Kept S S' ∧ k d (S'.take S.length)) (fun c S' => Kept S S' ∧ xk c (S'.take S.length))) := by rw [vTrimM_s]; rfl
noncomputable def vCallE : (WF) → (WA) → (WE) := sld wCallE
theorem vCallE_s : vCallE = wCallE := sld_eq _
theorem vCallE_q (wf : WF) (ws : WA) (y0 : _) (s : _) (S : _) (k : _) : vCallE wf ws y0 s S k = (ws noXC s S fun ds S1 => wf ds S1 k fun _ _ => False) := by rw [vCallE_s]; rfl
theorem kFld_c {C f : Str} {k : KD} {n : Nat} {S : Sto} : kFld C f k (.cell n) S = ∃ fs d, S[n]? = some (.obj C fs) ∧ fs.lookup f = some d ∧ k d S := id rfl
theorem kSetF_c {C f : Str} {d : D} {nx : Sto → Prop} {n : Nat} {S : Sto} : kSetF C f d nx (.cell n) S = ∃ fs, S[n]? = some (.obj C fs) ∧ fs.length < 1000 ∧ nx (S.set n (.obj C (putD f d fs))) := id rfl
theorem isO_c {C m : Str} {n : Nat} {S : Sto} : isO C m (.cell n) S = ∃ fs, S[n]? = some (.obj C fs) ∧ fs.lookup m = none := id rfl
theorem vTrimM_i {np n : Nat} {w : WS} {ds : List D} {S : Sto} {k : KD} {xk : XD} (h1 : ds.length = np) (h : w ⟨fun _ S' => D.clo S.length .non = true ∧ Kept S S' ∧ k .non (S'.take S.length), fun d S' => d.clo S.length = true ∧ Kept S S' ∧ k d (S'.take S.length), fun c _ S' => Kept S S' ∧ xk c (S'.take S.length)⟩ (ds.map some ++ List.replicate (n - ds.length) none) S) : vTrimM (vDef np n w) ds S k xk := by
  rw [vTrimM_q]; exact vDef_i h1 h
theorem Kept.self {S : Sto} : Kept S S := ⟨Nat.le_refl _, fun i c hi e => .inl e⟩
end Ab

namespace Ab
open PySem
structure Deal where
  a : Int
  b : Int
  w : Int
  u : Int
  c : Int
  d : Int
  r : Int
  s : Str
def dealD (x : Deal) : D := .tup [.int x.a, .int x.b, .int x.w, .int x.u, .int x.c, .int x.d, .int x.r, .str x.s]
def dealL (ks : List Deal) : List D := ks.map dealD
def bookF (m w n : Int) (q : Nat) : List (Str × D) := [("many", .int m), ("wares", .int w), ("now", .int n), ("kept", .cell q)]
theorem Kept.set {S : Sto} {q : Nat} {c : Cel} (hc : c.clo S.length = true) : Kept S (S.set q c) := by
  refine ⟨by rw [List.length_set]; exact Nat.le_refl _, fun i c' hi e => ?_⟩
  by_cases h : q = i
  · subst h
    rw [List.getElem?_set_self hi] at e
    cases e
    exact .inr hc
  · rw [List.getElem?_set_ne h] at e
    exact .inl e
theorem Kept.trans {S S' S'' : Sto} (a : Kept S S') (b : Kept S' S'') (h : ∀ (i : Nat) (c : Cel), i < S.length → S''[i]? = some c → S'[i]? = some c ∨ c.clo S.length = true) : Kept S S'' :=
  ⟨Nat.le_trans a.1 b.1, fun i c hi e => (h i c hi e).elim (fun q => a.2 i c hi q) .inr⟩
def memBad (m a b : Int) : Prop := ¬ (0 ≤ a ∧ a < m) ∨ ¬ (0 ≤ b ∧ b < m) ∨ a = b
def termBad (wn w u c d r : Int) : Prop := ¬ (0 ≤ w ∧ w < wn) ∨ ¬ (1 ≤ u ∧ u ≤ 1000000) ∨ ¬ (1 ≤ c ∧ c ≤ 1000000000) ∨ ¬ (0 ≤ d ∧ d ≤ 1000000) ∨ ¬ (0 ≤ r ∧ r ≤ 2)
instance {m a b : Int} : Decidable (memBad m a b) := by unfold memBad; exact inferInstance
instance {wn w u c d r : Int} : Decidable (termBad wn w u c d r) := by unfold termBad; exact inferInstance
def termD (x : Deal) : D := .tup [.int x.a, .int x.b, .int x.w, .int x.u, .int x.c, .int x.d, .int x.r]
def strikeE (m wn n : Int) (x : Deal) : Option Str := if memBad m x.a x.b then some "NoMember" else if termBad wn x.w x.u x.c x.d x.r then some "NoTerms" else if x.d < n then some "Closed" else none
theorem atI_7 {x0 x1 x2 x3 x4 x5 x6 x7 : D} {r : List D} : L2.atI (x0 :: x1 :: x2 :: x3 :: x4 :: x5 :: x6 :: x7 :: r) 7 = some x7 := @L2.atI_nat D (x0 :: x1 :: x2 :: x3 :: x4 :: x5 :: x6 :: x7 :: r) 7 x7 rfl
end Ab

namespace Ab
open PySem
def dealV (x : Deal) : List D := [.int x.a, .int x.b, .int x.w, .int x.u, .int x.c, .int x.d, .int x.r, .str x.s]
def StOk (x : Deal) : Prop := x.s = "standing" ∨ x.s = "settled" ∨ x.s = "broken"
theorem StOk.str {x : Deal} (h : StOk x) : PyData.strOk x.s = true := by
  rcases h with h | h | h <;> rw [h] <;> decide +kernel
def onDay (ks : List Deal) (d : Int) (j : Nat) : Bool := match ks[j]? with
  | some x => decide (x.d = d) && decide (x.s ≠ "broken")
  | none => false
def numsTo (ks : List Deal) (d : Int) (n : Nat) : List Nat := (List.range n).filter (onDay ks d)
def numsOn (ks : List Deal) (d : Int) : List Nat := numsTo ks d ks.length
def setSt (ks : List Deal) (j : Nat) (s : Str) : List Deal := match ks[j]? with
  | some x => ks.set j { x with s := s }
  | none => ks
def closeK (n : Int) (ks : List Deal) : List Deal := ks.map fun (x : Deal) => if x.d = n ∧ x.s = ("standing" : Str) then { x with s := "settled" } else x
def stepC (ks : List Deal) (j : Nat) : List Deal := match ks[j]? with
  | some x => if x.s = "standing" then setSt ks j "settled" else ks
  | none => ks
def closeN (ks : List Deal) (js : List Nat) : List Deal := js.foldl stepC ks
def natL (js : List Nat) : List D := js.map fun (j : Nat) => D.int (j : Int)
def stands (ks : List Deal) (j : Nat) : Bool := match ks[j]? with
  | some x => decide (x.s = "standing")
  | none => false
def rowD (x : Deal) : Cel := .lst (dealV x)
structure Bk (S : Sto) (b q r : Nat) (cs : List Nat) (m wn n : Int) (ks rs : List Deal) : Prop where
  ob : S[b]? = some (.obj "Book" (bookF m wn n q))
  kp : S[q]? = some (.lst (dealL ks))
  rw : S[r]? = some (.lst (cs.map .cell))
  nd : cs.Nodup
  len : cs.length = rs.length
  row : ∀ (i c : Nat) (x : Deal), cs[i]? = some c → rs[i]? = some x → S[c]? = some (.lst (dealV x))
  qr : q ≠ r
  qc : q ∉ cs
  rc : r ∉ cs
theorem nodup_ix {α : Type} {l : List α} (nd : l.Nodup) {i j : Nat} {x : α} (h1 : l[i]? = some x) (h2 : l[j]? = some x) : i = j := by
  obtain ⟨l1, g1⟩ := List.getElem?_eq_some_iff.mp h1
  obtain ⟨l2, g2⟩ := List.getElem?_eq_some_iff.mp h2
  have p := List.pairwise_iff_getElem.mp nd
  rcases Nat.lt_trichotomy i j with c | c | c
  · exact absurd (g1.trans g2.symm) (p i j l1 l2 c)
  · exact c
  · exact absurd (g2.trans g1.symm) (p j i l2 l1 c)
variable {S : Sto} {b q r : Nat} {cs : List Nat} {m wn n : Int} {ks rs : List Deal}
theorem Bk.br (h : Bk S b q r cs m wn n ks rs) : b ≠ r := fun e => by
  have := h.ob
  rw [e, h.rw] at this
  cases this
theorem Bk.bl (h : Bk S b q r cs m wn n ks rs) : b < S.length := (List.getElem?_eq_some_iff.mp h.ob).1
theorem Bk.ql (h : Bk S b q r cs m wn n ks rs) : q < S.length := (List.getElem?_eq_some_iff.mp h.kp).1
theorem Bk.rl (h : Bk S b q r cs m wn n ks rs) : r < S.length := (List.getElem?_eq_some_iff.mp h.rw).1
theorem Bk.at (h : Bk S b q r cs m wn n ks rs) {i : Nat} {x : Deal} (e : rs[i]? = some x) : ∃ c, cs[i]? = some c ∧ S[c]? = some (.lst (dealV x)) := by
  have hi := (List.getElem?_eq_some_iff.mp e).1
  rw [← h.len] at hi
  exact ⟨_, List.getElem?_eq_getElem hi, h.row _ _ _ (List.getElem?_eq_getElem hi) e⟩
theorem Bk.to (h : Bk S b q r cs m wn n ks rs) {i c : Nat} (e : cs[i]? = some c) : ∃ x, rs[i]? = some x ∧ S[c]? = some (.lst (dealV x)) := by
  have hi := (List.getElem?_eq_some_iff.mp e).1
  rw [h.len] at hi
  exact ⟨_, List.getElem?_eq_getElem hi, h.row _ _ _ e (List.getElem?_eq_getElem hi)⟩
theorem Bk.cl (h : Bk S b q r cs m wn n ks rs) {c : Nat} (e : c ∈ cs) : c < S.length := by
  obtain ⟨i, e⟩ := List.mem_iff_getElem?.mp e
  obtain ⟨x, _, e2⟩ := h.to e
  exact (List.getElem?_eq_some_iff.mp e2).1
theorem Bk.app (h : Bk S b q r cs m wn n ks rs) (T : Sto) : Bk (S ++ T) b q r cs m wn n ks rs where
  ob := by rw [List.getElem?_append_left h.bl]; exact h.ob
  kp := by rw [List.getElem?_append_left h.ql]; exact h.kp
  rw := by rw [List.getElem?_append_left h.rl]; exact h.rw
  nd := h.nd
  len := h.len
  row := fun i c x e1 e2 => by
    rw [List.getElem?_append_left (h.cl (List.mem_of_getElem? e1))]
    exact h.row i c x e1 e2
  qr := h.qr
  qc := h.qc
  rc := h.rc
def Bf (b q : Nat) (cs : List Nat) (S S' : Sto) : Prop := S'.length = S.length ∧ ∀ (i : Nat) (c : Cel), S'[i]? = some c → S[i]? = some c ∨ (c.clo S.length = true ∧ (i = b ∨ i = q ∨ i ∈ cs))
theorem Bf.refl {S : Sto} : Bf b q cs S S := ⟨rfl, fun _ _ h => .inl h⟩
theorem Bf.set {S S' : Sto} {j : Nat} {c : Cel} (h : Bf b q cs S S') (hc : c.clo S.length = true) (hj : j = b ∨ j = q ∨ j ∈ cs) : Bf b q cs S (S'.set j c) := by
  refine ⟨by rw [List.length_set]; exact h.1, fun i c' e => ?_⟩
  by_cases hq : j = i
  · subst hq
    by_cases hl : j < S'.length
    · rw [List.getElem?_set_self hl] at e
      cases e
      exact .inr ⟨hc, hj⟩
    · rw [List.getElem?_eq_none (by rw [List.length_set]; omega)] at e
      cases e
  · rw [List.getElem?_set_ne hq] at e
    exact h.2 i c' e
theorem Bf.trans {S S' S'' : Sto} (h : Bf b q cs S S') (h2 : Bf b q cs S' S'') : Bf b q cs S S'' := ⟨h2.1.trans h.1, fun i c e => by
  rcases h2.2 i c e with e | e
  · exact h.2 i c e
  · rw [h.1] at e
    exact .inr e⟩
theorem Bf.kept {S S' T : Sto} (h : Bf b q cs S S') : Kept S (S' ++ T) := by
  refine ⟨by rw [List.length_append, h.1]; omega, fun i c hi e => ?_⟩
  rw [List.getElem?_append_left (by rw [h.1]; exact hi)] at e
  exact (h.2 i c e).imp_right fun z => z.1
theorem Bf.take {S S' T : Sto} (h : Bf b q cs S S') : (S' ++ T).take S.length = S' := List.take_left' h.1
theorem Bf.at {S S' : Sto} {i : Nat} {c : Cel} (h : Bf b q cs S S') (e : S[i]? = some c) (hb : i ≠ b) (hq : i ≠ q) (hc : i ∉ cs) : S'[i]? = some c := by
  have hi := (List.getElem?_eq_some_iff.mp e).1
  rw [← h.1] at hi
  have e2 := List.getElem?_eq_getElem hi
  rcases h.2 i _ e2 with z | z
  · rw [e2, ← z, e]
  · rcases z.2 with z | z | z
    · exact absurd z hb
    · exact absurd z hq
    · exact absurd z hc
def termL (x : Deal) : List D := [.int x.a, .int x.b, .int x.w, .int x.u, .int x.c, .int x.d, .int x.r]
def termV (x : Deal) : List Int := [x.a, x.b, x.w, x.u, x.c, x.d, x.r]
def NoBrk (ks : List Deal) : Prop := ∀ x ∈ ks, x.s = "standing" ∨ x.s = "settled"
theorem NoBrk.ok {ks : List Deal} (h : NoBrk ks) : ∀ x ∈ ks, StOk x := fun x hx => (h x hx).imp_right .inl
theorem NoBrk.close {ks : List Deal} {n : Int} (h : NoBrk ks) : NoBrk (closeK n ks) := fun x hx => by
  unfold closeK at hx
  obtain ⟨y, hy, rfl⟩ := List.mem_map.mp hx
  split
  · exact .inr rfl
  · exact h y hy
def closeTo (n : Int) (ks : List Deal) (i : Nat) : List Deal := closeK n (ks.take i) ++ ks.drop i
def dueS : Option Str → Str
  | none => ""
  | some e => if e = "NoMember" then "member" else if e = "NoTerms" then "terms" else "closed"
end Ab

namespace Ab
open PySem
def standE (ks : List Deal) (i : Int) : Option Str := if 0 ≤ i then
    match ks[i.toNat]? with
    | none => some "NoDeal"
    | some x => if x.s = ("broken" : Str) then some "Gone" else if x.s = ("settled" : Str) then some "Settled" else none
  else some "NoDeal"
structure DealOk (m wn : Int) (x : Deal) : Prop where
  st : StOk x
  a : 0 ≤ x.a ∧ x.a < m
  b : 0 ≤ x.b ∧ x.b < m
  w : 0 ≤ x.w ∧ x.w < wn
  u : 1 ≤ x.u ∧ x.u ≤ 1000000
  c : 1 ≤ x.c ∧ x.c ≤ 1000000000
  d : 0 ≤ x.d ∧ x.d ≤ 1000000
  r : 0 ≤ x.r ∧ x.r ≤ 2
  ne : x.a ≠ x.b
theorem DealOk.of {m wn n : Int} {x : Deal} (hs : StOk x) (h : strikeE m wn n x = none) : DealOk m wn x ∧ n ≤ x.d := by
  unfold strikeE at h
  by_cases h1 : memBad m x.a x.b
  · rw [if_pos h1] at h; cases h
  rw [if_neg h1] at h
  by_cases h2 : termBad wn x.w x.u x.c x.d x.r
  · rw [if_pos h2] at h; cases h
  rw [if_neg h2] at h
  by_cases h3 : x.d < n
  · rw [if_pos h3] at h; cases h
  unfold memBad at h1
  unfold termBad at h2
  exact ⟨⟨hs, by omega, by omega, by omega, by omega, by omega, by omega, by omega, by omega⟩, by omega⟩
def AllOk (m wn : Int) (ks : List Deal) : Prop := ∀ x ∈ ks, DealOk m wn x
theorem AllOk.at {m wn : Int} {ks : List Deal} (h : AllOk m wn ks) {j : Nat} {x : Deal} (e : ks[j]? = some x) : DealOk m wn x := h x (List.mem_of_getElem? e)
theorem AllOk.set {m wn : Int} {ks : List Deal} (h : AllOk m wn ks) {j : Nat} {x : Deal} (hx : DealOk m wn x) : AllOk m wn (ks.set j x) := fun y hy => by
  rcases List.mem_or_eq_of_mem_set hy with z | z
  · exact h y z
  · rw [z]; exact hx
theorem DealOk.put {m wn : Int} {x : Deal} (h : DealOk m wn x) {s : Str} (hs : s = "standing" ∨ s = "settled" ∨ s = "broken") : DealOk m wn { x with s := s } := ⟨hs, h.a, h.b, h.w, h.u, h.c, h.d, h.r, h.ne⟩
theorem AllOk.close {m wn : Int} {ks : List Deal} (h : AllOk m wn ks) {n : Int} : AllOk m wn (closeK n ks) := fun y hy => by
  unfold closeK at hy
  obtain ⟨x, hx, rfl⟩ := List.mem_map.mp hy
  split
  · exact (h x hx).put (.inr (.inl rfl))
  · exact h x hx
theorem AllOk.setSt {m wn : Int} {ks : List Deal} (h : AllOk m wn ks) {j : Nat} {s : Str} (hs : s = "standing" ∨ s = "settled" ∨ s = "broken") : AllOk m wn (setSt ks j s) := by
  unfold Ab.setSt
  split
  · rename_i x ex
    exact h.set ((h.at ex).put hs)
  · exact h
def changeE (n : Int) (ks : List Deal) (i c d : Int) : Option Str := match standE ks i with
  | some e => some e
  | none => if ¬ (1 ≤ c ∧ c ≤ 1000000000) ∨ ¬ (0 ≤ d ∧ d ≤ 1000000) then some "NoTerms" else if d < n then some "Closed" else none
def dueC (e : Str) : Str := if e = "NoDeal" then "deal" else if e = "Gone" then "gone" else if e = "Settled" then "settled" else if e = "Standing" then "standing" else if e = "NoTerms" then "terms" else "closed"
def sheetD (x : Deal) : D := .tup [.int x.a, .int x.b, .int x.r, .int x.c]
def sheetL (ks : List Deal) (js : List Nat) : List D := js.map fun j => match ks[j]? with
  | some x => sheetD x
  | none => .non
variable {S : Sto} {b q r : Nat} {cs : List Nat} {m wn n : Int} {ks rs : List Deal}
theorem Bk.push (h : Bk S b q r cs m wn n ks rs) {c : Nat} {x : Deal} (e : S[c]? = some (.lst (dealV x))) (hc : c ∉ cs) (hq : c ≠ q) (hr : c ≠ r) : Bk (S.set r (.lst ((cs ++ [c]).map .cell))) b q r (cs ++ [c]) m wn n ks (rs ++ [x]) := by
  refine ⟨?_, ?_, List.getElem?_set_self h.rl, ?_, ?_, ?_, h.qr, ?_, ?_⟩
  · rw [List.getElem?_set_ne h.br.symm]; exact h.ob
  · rw [List.getElem?_set_ne h.qr.symm]; exact h.kp
  · exact List.nodup_append.mpr ⟨h.nd, by simp, fun y hy z hz e => hc (by rw [List.mem_singleton] at hz; rw [← hz, ← e]; exact hy)⟩
  · rw [List.length_append, List.length_append, h.len]; rfl
  · intro i c' y e1 e2
    by_cases hi : i < cs.length
    · rw [List.getElem?_append_left hi] at e1
      rw [List.getElem?_append_left (by rw [← h.len]; exact hi)] at e2
      rw [List.getElem?_set_ne (fun e => h.rc (by rw [e]; exact List.mem_of_getElem? e1))]
      exact h.row i c' y e1 e2
    · have hl := (List.getElem?_eq_some_iff.mp e1).1
      rw [List.length_append, List.length_singleton] at hl
      obtain rfl : i = cs.length := by omega
      rw [List.getElem?_concat_length] at e1
      rw [h.len, List.getElem?_concat_length] at e2
      cases e1
      cases e2
      rw [List.getElem?_set_ne (fun e => hr e.symm)]
      exact e
  · intro e
    rcases List.mem_append.mp e with e | e
    · exact h.qc e
    · rw [List.mem_singleton] at e
      exact hq e.symm
  · intro e
    rcases List.mem_append.mp e with e | e
    · exact h.rc e
    · rw [List.mem_singleton] at e
      exact hr e.symm
theorem vlc_mapl {β : Type} {i : Nat} {vs : List Nat} {we : WE} {gd : Sto → Prop} {s : Env} {S : Sto} {fin : List D → Sto → Prop} (f : β → D) (g : β → D) (bs : List β) (hl : bs.length ≤ 1000000) (hg : gd S)
    (he : ∀ b ∈ bs, ∀ k : KD, k (f b) S → we noXC ((wipeD s vs).set i (some (g b))) S k)
    (hf : fin (bs.map f) S) : lcW i vs vYes we (bs.map g) gd s S fin := by
  refine vlc_list (id : D → D) g bs (fun _ b a => a = f b) hl hg (fun n b hb k hk => he b (List.mem_of_getElem? hb) k (hk _ rfl)) fun as l h => ?_
  have e : as.map id = bs.map f := by
    rw [List.map_id]
    refine list_eq (by rw [l, List.length_map]) fun n x y e1 e2 => ?_
    rw [List.getElem?_map] at e2
    cases hb : bs[n]? with
    | none => rw [hb] at e2; cases e2
    | some b =>
      rw [hb] at e2
      cases e2
      exact h n b x hb e1
  rw [e]
  exact hf
end Ab

namespace Ab
open PySem
def settledE (ks : List Deal) (i : Int) : Option Str := if 0 ≤ i then
    match ks[i.toNat]? with
    | none => some "NoDeal"
    | some x => if x.s = ("broken" : Str) then some "Gone" else if x.s = ("standing" : Str) then some "Standing" else none
  else some "NoDeal"
def contr (x : Deal) (d : Int) : Deal := { a := x.b, b := x.a, w := x.w, u := x.u, c := x.c, d := d, r := x.r, s := "standing" }
def contrE (n : Int) (ks : List Deal) (i d : Int) : Option Str := match settledE ks i with
  | some e => some e
  | none => if ¬ (0 ≤ d ∧ d ≤ 1000000) then some "NoTerms" else if d < n then some "Closed" else none
def stTo (ks : List Deal) (n : Int) (i : Nat) : List Nat := (List.range i).filter fun j => onDay ks n j && stands ks j
end Ab

namespace Ab
open PySem PySem.Spec PyProof.Rows L2
def keyD : D → Option Key
  | .int i => some (.inl i)
  | .str s => some (.inr s)
  | _ => none
def kD : Key → D
  | .inl i => .int i
  | .inr s => .str s
def valD (kvs : List (Key × D)) (k : Key) : Option D := (kvs.find? fun kv => decide (kv.1 = k)).map (·.2)
def putKD (kvs : List (Key × D)) (k : Key) (d : D) : List (Key × D) :=
  if (kvs.any fun kv => decide (kv.1 = k)) = true then kvs.map (fun kv => if kv.1 = k then (kv.1, d) else kv) else kvs ++ [(k, d)]
def dview (S : Sto) : D → Option (List (Key × D))
  | .cell n => match S[n]? with
    | some (.dk kvs) => some kvs
    | some (.dkf _ _ kvs) => some kvs
    | _ => none
  | _ => none
section
variable {X : Cx} {g : Gi} {W : WX} {a b c e o i f : Expr} {pos apos cpos : Pos} {wa wb wc we wo wi wf : WE}
variable {K : PySem.W.Frag} {H0 H0' H H' : Hp} {r r' : List Addr} {S S' : Sto} {d x y : D} {v u : V}
def dgetW : OW := fun x y S k => ∃ kvs key d, dview S x = some kvs ∧ keyD y = some key ∧ valD kvs key = some d ∧ k d S
def dinW (neg : Bool) : OW := fun y x S k => ∃ kvs key, dview S x = some kvs ∧ keyD y = some key ∧ k (.bl (if neg then !(valD kvs key).isSome else (valD kvs key).isSome)) S
def rDin (neg : Bool) : R2 := fun y x H Q => ∃ a o, x = .ref a ∧ DGet H a y o ∧ Q (.bl (if neg then !o.isSome else o.isSome)) H
def wDGet2 (wo we wf : WE) : WE := fun (xc : HG XE) s S k => wo xc s S fun x S1 => (∃ kvs, dview S1 x = some kvs) ∧ we xc s S1 fun y S2 => wf xc s S2 fun z S3 => ∃ kvs key, dview S3 x = some kvs ∧ keyD y = some key ∧ k ((valD kvs key).getD z) S3
def wDNew : WE := fun (_ : HG XE) _ S k => k (.cell S.length) (S ++ [.dk []])
def kDPut (d : D) (nx : Sto → Prop) (x y : D) (S : Sto) : Prop := ∃ n kvs key, x = .cell n ∧ S[n]? = some (.dk kvs) ∧ keyD y = some key ∧ kvs.length < sizeLine ∧ nx (S.set n (.dk (putKD kvs key d)))
def wDPut (we wo wa : WE) : WS := fun (D : HG Kd) s S => we D.xc s S fun d S1 => wo D.xc s S1 fun o S2 => wa D.xc s S2 fun y S3 => kDPut d (D.nx s) o y S3
def wKeysL (j : Nat) : WI := fun (_ : HG XE) s S k => ∃ n o xs kvs, s[j]? = some (some (.cell n)) ∧ S[n]? = some (.dkf o xs kvs) ∧ k (kvs.map fun kv => kD kv.1) (fun S' => S'[n]? = some (.dkf o xs kvs)) S
def wLock (j : Nat) (w : WS) : WS := fun (D : HG Kd) s S => ∃ n kvs, s[j]? = some (some (.cell n)) ∧ S[n]? = some (.dk kvs) ∧ ∀ o xs,
  w { nx := fun s' S' => S'[n]? = some (.dkf o xs kvs) ∧ D.nx s' (S'.set n (.dk kvs)), rt := fun d S' => S'[n]? = some (.dkf o xs kvs) ∧ D.rt d (S'.set n (.dk kvs)), xc := D.xc } s (S.set n (.dkf o xs kvs))
abbrev WP := XE → Env → Sto → (List (Key × D) → Sto → Prop) → Prop
def wPnil : WP := fun (_ : HG XE) _ S k => k [] S
def wPcons (wk wv : WE) (wr : WP) : WP := fun (xc : HG XE) s S k => wk xc s S fun y S1 => wv xc s S1 fun d S2 => wr xc s S2 fun kvs S3 => ∃ key, keyD y = some key ∧ k ((key, d) :: kvs) S3
def GoodPs (X : Cx) (g : Gi) (W : WX) (trs : List (TE × TE)) (w : XE → Env → Sto → (List (Key × D) → Sto → Prop) → Prop) : Prop :=
  ∀ H0 r S H s sv (Q : List (V × V) → Hp → Prop) (k : List (Key × D) → Sto → Prop) xc, Sim X.K g H0 r S H → RelSt X.K H0 r s sv → w xc s S k →
    (∀ (kvs : List (Key × D)) (xs : List (Key × V)) H0' r' S' H', Fut H0 r H H0' r' H' → Sim X.K g H0' r' S' H' → RelK X.K H0' r' kvs xs → k kvs S' → Q (xs.map fun kv => (kV kv.1, kv.2)) H') → CtX X.K g H0 r H s sv xc W → tPairs trs sv H Q
def SPs (X : Cx) (g : Gi) (W : WX) (pos : Pos) (keys : List (Option Expr)) (vals : List Expr) (w : XE → Env → Sto → (List (Key × D) → Sto → Prop) → Prop) : Prop := ∃ trs, PPs X pos keys vals trs ∧ GoodPs X g W trs w
def mergeD (kvs more : List (Key × D)) : List (Key × D) := more.foldl (fun acc kv => putKD acc kv.1 kv.2) kvs
def wDisp (wp : WP) : WE := fun (xc : HG XE) s S k => wp xc s (S ++ [.dk []]) fun kvs S2 => S2[S.length]? = some (.dk []) ∧ kvs.length ≤ 15 ∧ k (.cell S.length) (S2.set S.length (.dk (mergeD [] kvs)))
end
end Ab

namespace Ab
open PySem PySem.Spec PyProof.Rows L2
def tupI (v : List Int) : D := .tup (v.map .int)
def pyT (v : List Int) : PyData := .tuple (v.map .int)
def leT : List Int → List Int → Bool := PySem.W.dataLe false pyT
def sortT (ts : List (List Int)) : List (List Int) := ts.mergeSort leT
def rSortT (K : PySem.W.Frag) : List V → Hp → VK → Prop := fun vs H Q => ∃ (a : Addr) (ys : List V) (ts : List (List Int)), vs = [V.ref a] ∧ SqL K H a ys ∧ ys.length = ts.length ∧ (∀ p ∈ ys.zip ts, Dp K H p.1 (pyT p.2)) ∧ (∀ t ∈ ts, t ≠ []) ∧
  ∀ (ps : List (V × List Int)) (p : Addr), (∀ q ∈ ps, q ∈ ys.zip ts) → ps.map Prod.snd = sortT ts → ps.length ≤ sizeLine → H p = none → Q (.ref p) (upd H p (.lst (ps.map Prod.fst)))
section
variable {X : Cx}
end
section
variable {X : Cx} {g : Gi} {W : WX} {e : Expr} {pos : Pos} {ws : WA} {K : PySem.W.Frag}
def sortTF : List D → Sto → KD → Prop
  | [x], S, k => ∃ ts : List (List Int), lview S x = some (ts.map tupI) ∧ (∀ t ∈ ts, t ≠ []) ∧ k (.lst ((sortT ts).map tupI)) S
  | _, _, _ => False
def sortTCF : List D → Sto → KD → Prop
  | [x], S, k => ∃ ts : List (List Int), lview S x = some (ts.map tupI) ∧ (∀ t ∈ ts, t ≠ []) ∧ k (.cell S.length) (S ++ [.lst ((sortT ts).map tupI)])
  | _, _, _ => False
end
end Ab

namespace Ab
open PySem PySem.Spec PyProof.Rows L2
noncomputable def vDGet2 : (WE) → (WE) → (WE) → (WE) := sld wDGet2
theorem vDGet2_s : vDGet2 = wDGet2 := sld_eq _
theorem vDGet2_q (wo we wf : WE) (xc : _) (s : _) (S : _) (k : _) : vDGet2 wo we wf xc s S k = (wo xc s S fun x S1 => (∃ kvs, dview S1 x = some kvs) ∧ we xc s S1 fun y S2 => wf xc s S2 fun z S3 => ∃ kvs key, dview S3 x = some kvs ∧ keyD y = some key ∧ k ((valD kvs key).getD z) S3) := by rw [vDGet2_s]; rfl
noncomputable def vDNew : (WE) := sld wDNew
theorem vDNew_s : vDNew = wDNew := sld_eq _
theorem vDNew_q (y0 : _) (y1 : _) (S : _) (k : _) : vDNew  y0 y1 S k = (k (.cell S.length) (S ++ [.dk []])) := by rw [vDNew_s]; rfl
noncomputable def vDPut : (WE) → (WE) → (WE) → (WS) := sld wDPut
theorem vDPut_s : vDPut = wDPut := sld_eq _
theorem vDPut_q (we wo wa : WE) (D : _) (s : _) (S : _) : vDPut we wo wa D s S = (we D.xc s S fun d S1 => wo D.xc s S1 fun o S2 => wa D.xc s S2 fun y S3 => kDPut d (D.nx s) o y S3) := by rw [vDPut_s]; rfl
noncomputable def vKeysL : (Nat) → (WI) := sld wKeysL
theorem vKeysL_s : vKeysL = wKeysL := sld_eq _
theorem vKeysL_q (j : Nat) (y0 : _) (s : _) (S : _) (k : _) : vKeysL j y0 s S k = (∃ n o xs kvs, s[j]? = some (some (.cell n)) ∧ S[n]? = some (.dkf o xs kvs) ∧ k (kvs.map fun kv => kD kv.1) (fun S' => S'[n]? = some (.dkf o xs kvs)) S) := by rw [vKeysL_s]; rfl
noncomputable def vLock : (Nat) → (WS) → (WS) := sld wLock
theorem vLock_s : vLock = wLock := sld_eq _
theorem vLock_q (j : Nat) (w : WS) (D : _) (s : _) (S : _) : vLock j w D s S = (∃ n kvs, s[j]? = some (some (.cell n)) ∧ S[n]? = some (.dk kvs) ∧ ∀ o xs, w { nx := fun s' S' => S'[n]? = some (.dkf o xs kvs) ∧ D.nx s' (S'.set n (.dk kvs)), rt := fun d S' => S'[n]? = some (.dkf o xs kvs) ∧ D.rt d (S'.set n (.dk kvs)), xc := D.xc } s (S.set n (.dkf o xs kvs))) := by rw [vLock_s]; rfl
noncomputable def vPnil : (WP) := sld wPnil
theorem vPnil_s : vPnil = wPnil := sld_eq _
theorem vPnil_q (y0 : _) (y1 : _) (S : _) (k : _) : vPnil  y0 y1 S k = (k [] S) := by rw [vPnil_s]; rfl
noncomputable def vPcons : (WE) → (WE) → (WP) → (WP) := sld wPcons
theorem vPcons_s : vPcons = wPcons := sld_eq _
theorem vPcons_q (wk wv : WE) (wr : WP) (xc : _) (s : _) (S : _) (k : _) : vPcons wk wv wr xc s S k = (wk xc s S fun y S1 => wv xc s S1 fun d S2 => wr xc s S2 fun kvs S3 => ∃ key, keyD y = some key ∧ k ((key, d) :: kvs) S3) := by rw [vPcons_s]; rfl
noncomputable def vDisp : (WP) → (WE) := sld wDisp
theorem vDisp_s : vDisp = wDisp := sld_eq _
theorem vDisp_q (wp : WP) (xc : _) (s : _) (S : _) (k : _) : vDisp wp xc s S k = (wp xc s (S ++ [.dk []]) fun kvs S2 => S2[S.length]? = some (.dk []) ∧ kvs.length ≤ 15 ∧ k (.cell S.length) (S2.set S.length (.dk (mergeD [] kvs)))) := by rw [vDisp_s]; rfl
end Ab

namespace Ab
open PySem L2
def chg (p : Deal → Bool) (s : Str) (x : Deal) : Deal := if p x = true then { x with s := s } else x
def chgTo (p : Deal → Bool) (s : Str) (ks : List Deal) (i : Nat) : List Deal := (ks.take i).map (chg p s) ++ ks.drop i
def selK (p : Deal → Bool) (ks : List Deal) (j : Nat) : Bool := match ks[j]? with
  | some x => p x
  | none => false
def selTo (p : Deal → Bool) (ks : List Deal) (i : Nat) : List Nat := (List.range i).filter (selK p ks)
theorem AllOk.chg {m wn : Int} {ks : List Deal} (h : AllOk m wn ks) {p : Deal → Bool} {s : Str} (hs : s = "standing" ∨ s = "settled" ∨ s = "broken") : AllOk m wn (ks.map (chg p s)) := fun y hy => by
  obtain ⟨x, hx, rfl⟩ := List.mem_map.mp hy
  unfold Ab.chg
  split
  · exact (h x hx).put hs
  · exact h x hx
def ofM (mem : Int) (x : Deal) : Bool := decide (x.s = ("standing" : Str)) && (decide (x.a = mem) || decide (x.b = mem))
end Ab

namespace Ab
open PySem
def live (x : Deal) : Bool := decide (x.s ≠ ("broken" : Str))
def stnd (x : Deal) : Bool := decide (x.s = ("standing" : Str))
def entA (x : Deal) (i : Nat) (mem : Int) : List (List Int) := if live x = true ∧ x.a = mem then [[x.d, (i : Int), 0 - x.c]] else []
def entB (x : Deal) (i : Nat) (mem : Int) : List (List Int) := if live x = true ∧ x.b = mem then [[x.d, (i : Int), x.c]] else []
def entAt (ks : List Deal) (mem : Int) (i : Nat) : List (List Int) := match ks[i]? with
  | some x => entA x i mem ++ entB x i mem
  | none => []
def entTo (ks : List Deal) (mem : Int) (n : Nat) : List (List Int) := (List.range n).flatMap (entAt ks mem)
def entries (ks : List Deal) (mem : Int) : List (List Int) := sortT (entTo ks mem ks.length)
def onD (d : Int) (e : List Int) : Int := if gI e 0 = d then gI e 2 else 0
def dueD (d m : Int) (x : Deal) : Int := if live x = true ∧ x.d = d then (if x.b = m then x.c else 0) - (if x.a = m then x.c else 0) else 0
theorem sum_add {α : Type} {f g : α → Int} : ∀ {l : List α}, (l.map fun x => f x + g x).sum = (l.map f).sum + (l.map g).sum
  | [] => rfl
  | x :: l => by
    rw [List.map_cons, List.map_cons, List.map_cons, List.sum_cons, List.sum_cons, List.sum_cons, sum_add (l := l)]
    omega
def posA (x : Deal) (mem : Int) : List (Int × Int) := if stnd x = true ∧ x.a = mem then [(x.w, x.u)] else []
def posB (x : Deal) (mem : Int) : List (Int × Int) := if stnd x = true ∧ x.b = mem then [(x.w, - x.u)] else []
def posE (ks : List Deal) (mem : Int) : List (Int × Int) := ks.flatMap fun x => posA x mem ++ posB x mem
def posV (ks : List Deal) (mem : Int) (wn : Nat) : List Int := bumps Prod.fst Prod.snd (List.replicate wn 0) (posE ks mem)
def unA (ks : List Deal) (w mem : Int) : Int := (((ks.filter fun x => decide (x.w = w) && stnd x).filter fun x => decide (x.a = mem)).map fun x => x.u).sum
def unB (ks : List Deal) (w mem : Int) : Int := (((ks.filter fun x => decide (x.w = w) && stnd x).filter fun x => decide (x.b = mem)).map fun x => x.u).sum
end Ab

namespace Ab
open PySem
def heldL (hs : List (Nat × List D)) : List D := hs.map fun p => .tup [.cell p.1, .lst p.2]
structure Hd (L : Nat) (S : Sto) (h b q r : Nat) (cs : List Nat) (hs : List (Nat × List D)) : Prop where
  hl : S[h]? = some (.lst (heldL hs))
  ats : ∀ p ∈ hs, S[p.1]? = some (.lst p.2)
  ok : ∀ p ∈ hs, plainAll p.2 = true ∧ okEq 9 (.lst p.2) = true ∧ p.2.length ≤ L
  nd : (hs.map Prod.fst).Nodup
  out : ∀ p ∈ hs, p.1 ∉ cs ∧ p.1 ≠ b ∧ p.1 ≠ q ∧ p.1 ≠ r ∧ p.1 ≠ h
  hc : h ∉ cs
  hb : h ≠ b
  hq : h ≠ q
  hr : h ≠ r
variable {L : Nat} {S S' : Sto} {h b q r : Nat} {cs : List Nat} {hs : List (Nat × List D)} {m wn n : Int} {ks rs : List Deal}
theorem Hd.hlt (x : Hd L S h b q r cs hs) : h < S.length := (List.getElem?_eq_some_iff.mp x.hl).1
theorem Hd.lt (x : Hd L S h b q r cs hs) {p : Nat × List D} (hp : p ∈ hs) : p.1 < S.length := (List.getElem?_eq_some_iff.mp (x.ats p hp)).1
theorem Hd.app (x : Hd L S h b q r cs hs) (T : Sto) : Hd L (S ++ T) h b q r cs hs :=
  ⟨by rw [List.getElem?_append_left x.hlt]; exact x.hl, fun p hp => by rw [List.getElem?_append_left (x.lt hp)]; exact x.ats p hp, x.ok, x.nd, x.out, x.hc, x.hb, x.hq, x.hr⟩
theorem Hd.row (x : Hd L S h b q r cs hs) {c : Nat} {d : Cel} (hc : ∀ p ∈ hs, p.1 ≠ c) (hh : h ≠ c) : Hd L (S.set r d) h b q r (cs ++ [c]) hs := by
  refine ⟨by rw [List.getElem?_set_ne (Ne.symm x.hr)]; exact x.hl, fun p hp => by rw [List.getElem?_set_ne (Ne.symm (x.out p hp).2.2.2.1)]; exact x.ats p hp, x.ok, x.nd, fun p hp => ⟨fun z => ?_, (x.out p hp).2⟩, fun z => ?_, x.hb, x.hq, x.hr⟩
  · rcases List.mem_append.mp z with z | z
    · exact (x.out p hp).1 z
    · exact hc p hp (List.mem_singleton.mp z)
  · rcases List.mem_append.mp z with z | z
    · exact x.hc z
    · exact hh (List.mem_singleton.mp z)
theorem Hd.push (x : Hd L S h b q r cs hs) {c : Nat} {xs : List D} (e : S[c]? = some (.lst xs)) (px : plainAll xs = true) (ox : okEq 9 (.lst xs) = true) (lx : xs.length ≤ L) (nc : ∀ p ∈ hs, p.1 ≠ c) (h1 : c ∉ cs) (h2 : c ≠ b) (h3 : c ≠ q) (h4 : c ≠ r) (h5 : c ≠ h) :
    Hd L (S.set h (.lst (heldL (hs ++ [(c, xs)])))) h b q r cs (hs ++ [(c, xs)]) := by
  refine ⟨List.getElem?_set_self x.hlt, fun p hp => ?_, fun p hp => ?_, ?_, fun p hp => ?_, x.hc, x.hb, x.hq, x.hr⟩
  · rcases List.mem_append.mp hp with hp | hp
    · rw [List.getElem?_set_ne (Ne.symm (x.out p hp).2.2.2.2)]
      exact x.ats p hp
    · rw [List.mem_singleton] at hp
      subst hp
      rw [List.getElem?_set_ne (Ne.symm h5)]
      exact e
  · rcases List.mem_append.mp hp with hp | hp
    · exact x.ok p hp
    · rw [List.mem_singleton] at hp
      subst hp
      exact ⟨px, ox, lx⟩
  · rw [List.map_append, List.map_singleton]
    refine List.nodup_append.mpr ⟨x.nd, by simp, fun y hy z hz e2 => ?_⟩
    obtain ⟨p, hp, rfl⟩ := List.mem_map.mp hy
    rw [List.mem_singleton] at hz
    exact nc p hp (e2.trans hz)
  · rcases List.mem_append.mp hp with hp | hp
    · exact x.out p hp
    · rw [List.mem_singleton] at hp
      subst hp
      exact ⟨h1, h2, h3, h4, h5⟩
theorem Bk.setH (x : Bk S b q r cs m wn n ks rs) {c : Cel} (hb : h ≠ b) (hq : h ≠ q) (hr : h ≠ r) (hc : h ∉ cs) : Bk (S.set h c) b q r cs m wn n ks rs where
  ob := by rw [List.getElem?_set_ne hb]; exact x.ob
  kp := by rw [List.getElem?_set_ne hq]; exact x.kp
  rw := by rw [List.getElem?_set_ne hr]; exact x.rw
  nd := x.nd
  len := x.len
  row := fun i c' y e1 e2 => by
    rw [List.getElem?_set_ne (fun e => hc (by rw [e]; exact List.mem_of_getElem? e1))]
    exact x.row i c' y e1 e2
  qr := x.qr
  qc := x.qc
  rc := x.rc
theorem Hd.new (x : Hd L S h b q r cs hs) (y : Bk S b q r cs m wn n ks rs) (T : Sto) {j : Nat} {xs : List D} (e : T[j]? = some (.lst xs)) (px : plainAll xs = true) (ox : okEq 9 (.lst xs) = true) (lx : xs.length ≤ L) :
    Hd L ((S ++ T).set h (.lst (heldL (hs ++ [(S.length + j, xs)])))) h b q r cs (hs ++ [(S.length + j, xs)]) := by
  refine (x.app T).push (by rw [List.getElem?_append_right (Nat.le_add_right _ _), Nat.add_sub_cancel_left]; exact e) px ox lx (fun p hp => ?_) (fun z => ?_) ?_ ?_ ?_ ?_
  · have := x.lt hp; omega
  · have := y.cl z; omega
  · have := y.bl; omega
  · have := y.ql; omega
  · have := y.rl; omega
  · have := x.hlt; omega
def addH (z : D) (hs : List (Nat × List D)) : List (Nat × List D) := hs.map fun p => (p.1, p.2 ++ [z])
def cellN : D → Nat
  | .cell n => n
  | _ => 0
def rowOf (S : Sto) (c : Nat) : Deal := match S[c]? with
  | some (.lst [.int a, .int b, .int w, .int u, .int c, .int d, .int r, .str s]) => ⟨a, b, w, u, c, d, r, s⟩
  | _ => ⟨0, 0, 0, 0, 0, 0, 0, ""⟩
theorem rowOf_at {S : Sto} {c : Nat} {x : Deal} (h : S[c]? = some (.lst (dealV x))) : rowOf S c = x := by
  unfold rowOf
  rw [h]
  rfl
theorem Bk.rows (x : Bk S b q r cs m wn n ks rs) : cs.map (rowOf S) = rs := list_eq (by rw [List.length_map, x.len]) fun i y z e1 e2 => by
  rw [List.getElem?_map] at e1
  cases ec : cs[i]? with
  | none => rw [ec] at e1; cases e1
  | some c =>
    rw [ec] at e1
    cases e1
    exact rowOf_at (x.row i c z ec e2)
def daySum (ks : List Deal) (days : Nat) (ms : List Int) : List Int := bumps (fun e => gI e 0) (fun e => gI e 2) (List.replicate days 0) (ms.flatMap (entries ks))
def rngI (m : Nat) : List Int := (List.range m).map fun (n : Nat) => (n : Int)
theorem Hd.mono (x : Hd L S h b q r cs hs) {L' : Nat} (l : L ≤ L') : Hd L' S h b q r cs hs := ⟨x.hl, x.ats, fun p hp => ⟨(x.ok p hp).1, (x.ok p hp).2.1, Nat.le_trans (x.ok p hp).2.2 l⟩, x.nd, x.out, x.hc, x.hb, x.hq, x.hr⟩
structure HdT (z : D) (L i : Nat) (S : Sto) (h b q r : Nat) (cs : List Nat) (hs : List (Nat × List D)) : Prop where
  hl : S[h]? = some (.lst (heldL hs))
  ats : ∀ (j : Nat) (p : Nat × List D), hs[j]? = some p → S[p.1]? = some (.lst (if j < i then p.2 ++ [z] else p.2))
theorem Hd.t0 (x : Hd L S h b q r cs hs) {z : D} : HdT z L 0 S h b q r cs hs := ⟨x.hl, fun j p e => by rw [if_neg (Nat.not_lt_zero _)]; exact x.ats p (List.mem_of_getElem? e)⟩
theorem HdT.s {z : D} {i : Nat} (y : HdT z L i S h b q r cs hs) (nd : (hs.map Prod.fst).Nodup) (no : ∀ p ∈ hs, p.1 ≠ h) {p : Nat × List D} (e : hs[i]? = some p) : S[p.1]? = some (.lst p.2) ∧ HdT z L (i + 1) (S.set p.1 (.lst (p.2 ++ [z]))) h b q r cs hs := by
  have e1 := y.ats i p e
  rw [if_neg (Nat.lt_irrefl _)] at e1
  refine ⟨e1, by rw [List.getElem?_set_ne (no p (List.mem_of_getElem? e))]; exact y.hl, fun j p' e' => ?_⟩
  by_cases c : j = i
  · subst c
    rw [e] at e'
    cases e'
    rw [if_pos (Nat.lt_succ_self _)]
    exact List.getElem?_set_self (List.getElem?_eq_some_iff.mp e1).1
  · have hne : p.1 ≠ p'.1 := fun z => c (nodup_ix nd (x := p'.1) (by rw [List.getElem?_map, e']; rfl) (by rw [List.getElem?_map, e, ← z]; rfl))
    rw [List.getElem?_set_ne hne, y.ats j p' e']
    congr 2
    by_cases c2 : j < i
    · rw [if_pos c2, if_pos (by omega)]
    · rw [if_neg c2, if_neg (by omega)]
theorem HdT.bk {z : D} {i : Nat} (k : Bk S b q r cs m wn n ks rs) (x : Hd L S' h b q r cs hs) {p : Nat × List D} (hp : p ∈ hs) {c : Cel} : Bk (S.set p.1 c) b q r cs m wn n ks rs := k.setH (x.out p hp).2.1 (x.out p hp).2.2.1 (x.out p hp).2.2.2.1 (x.out p hp).1
end Ab

namespace Ab
open PySem L2
inductive Deed where
  | strike (x : Deal) | change (i c d : Int) | brk (i : Int) | all (mem : Int) | contr (i d : Int) | close
def Deed.l : Deed → List D
  | .strike x => .str "strike" :: termL x
  | .change i c d => [.str "change", .int i, .int c, .int d]
  | .brk i => [.str "break", .int i]
  | .all m => [.str "all", .int m]
  | .contr i d => [.str "contrary", .int i, .int d]
  | .close => [.str "close"]
def Deed.ok : Deed → Prop
  | .strike x => x.s = "standing"
  | _ => True
def dueA (e : Str) : Str := if e = "NoMember" then "member" else if e = "NoTerms" then "terms" else if e = "NoDeal" then "deal" else if e = "Closed" then "closed" else if e = "Gone" then "gone" else if e = "Settled" then "settled" else "standing"
def doneE (m wn n : Int) (ks : List Deal) : Deed → Option Str
  | .strike x => strikeE m wn n x
  | .change i c d => changeE n ks i c d
  | .brk i => standE ks i
  | .all _ => none
  | .contr i d => contrE n ks i d
  | .close => none
def doneK (n : Int) (ks : List Deal) : Deed → List Deal
  | .strike x => ks ++ [x]
  | .change i c d => match ks[i.toNat]? with
    | some x => ks.set i.toNat { x with c := c, d := d }
    | none => ks
  | .brk i => setSt ks i.toNat "broken"
  | .all m => ks.map (chg (ofM m) "broken")
  | .contr i d => match ks[i.toNat]? with
    | some x => ks ++ [contr x d]
    | none => ks
  | .close => closeK n ks
def doneV (n : Int) (ks : List Deal) : Deed → D
  | .strike _ => .int ks.length
  | .change _ _ _ => .non
  | .brk _ => .non
  | .all m => .lst (natL (selTo (ofM m) ks ks.length))
  | .contr _ _ => .int ks.length
  | .close => .lst (natL ((numsOn ks n).filter (stands ks)))
def doneN (n : Int) : Deed → Int
  | .close => n + 1
  | _ => n
def resD (m wn n : Int) (ks : List Deal) (dd : Deed) : D := match doneE m wn n ks dd with
  | none => .tup [.str "told", doneV n ks dd]
  | some e => .tup [.str "refused", .str (dueA e)]
def nextK (m wn n : Int) (ks : List Deal) (dd : Deed) : List Deal := match doneE m wn n ks dd with
  | none => doneK n ks dd
  | some _ => ks
def nextN (m wn n : Int) (ks : List Deal) (dd : Deed) : Int := match doneE m wn n ks dd with
  | none => doneN n dd
  | some _ => n
def sevenE (e : Str) : Prop := e = "NoMember" ∨ e = "NoTerms" ∨ e = "NoDeal" ∨ e = "Closed" ∨ e = "Gone" ∨ e = "Settled" ∨ e = "Standing"
structure Sums (kvs : List (Key × D)) (es : List (List Int)) : Prop where
  keys : ∀ p ∈ kvs, ∃ d : Int, p.1 = .inl d
  some : ∀ e ∈ es, valD kvs (.inl (gI e 0)) ≠ none
  val : ∀ (d : Int) (v : D), valD kvs (.inl d) = Option.some v → v = .int ((es.map (onD d)).sum)
  none : ∀ d : Int, valD kvs (.inl d) = Option.none → (es.map (onD d)).sum = 0
theorem Sums.nil : Sums [] [] where
  keys := fun p hp => absurd hp (by simp)
  some := fun e he => absurd he (by simp)
  val := fun d v h => by
    have h : (Option.none : Option D) = Option.some v := h
    cases h
  none := fun d _ => rfl
theorem Sums.get {kvs : List (Key × D)} {es : List (List Int)} (s : Sums kvs es) (d : Int) : (valD kvs (.inl d)).getD (.int 0) = .int ((es.map (onD d)).sum) := by
  cases e : valD kvs (.inl d) with
  | none => rw [s.none d e]; rfl
  | some v => exact s.val d v e
def markN (ks : List Deal) (js : List Nat) (s : Str) : List Deal := js.foldl (fun ks j => setSt ks j s) ks
def onSt (n : Int) (x : Deal) : Bool := decide (x.d = n) && stnd x
end Ab

namespace Ab
def sm : Nat → (Nat → Int) → Int
  | 0, _ => 0
  | n + 1, f => sm n f + f n
theorem sm_congr : ∀ {n : Nat} {f g : Nat → Int}, (∀ i, i < n → f i = g i) → sm n f = sm n g
  | 0, _, _, _ => rfl
  | n + 1, f, g, h => by
    unfold sm
    rw [sm_congr (n := n) (f := f) (g := g) fun i hi => h i (by omega), h n (by omega)]
theorem sm_add : ∀ (n : Nat) (f g : Nat → Int), sm n (fun i => f i + g i) = sm n f + sm n g
  | 0, _, _ => rfl
  | n + 1, f, g => by simp only [sm]; rw [sm_add n f g]; omega
theorem sm_mul : ∀ (n : Nat) (x : Int) (f : Nat → Int), sm n (fun i => x * f i) = x * sm n f
  | 0, _, _ => by unfold sm; rw [Int.mul_zero]
  | n + 1, x, f => by unfold sm; rw [sm_mul n x f, Int.mul_add]
theorem sm_zero : ∀ {n : Nat} {f : Nat → Int}, (∀ i, i < n → f i = 0) → sm n f = 0
  | 0, _, _ => rfl
  | n + 1, f, h => by
    unfold sm
    rw [sm_zero (n := n) (f := f) fun i hi => h i (by omega), h n (by omega)]
    rfl
theorem sm_one : ∀ {n r : Nat} {f : Nat → Int}, r < n → (∀ i, i < n → i ≠ r → f i = 0) → sm n f = f r
  | 0, _, _, h, _ => by omega
  | n + 1, r, f, hr, h => by
    unfold sm
    by_cases e : r = n
    · subst e
      rw [sm_zero fun i hi => h i (by omega) (by omega), Int.zero_add]
    · rw [sm_one (n := n) (r := r) (by omega) fun i hi hn => h i (by omega) hn, h n (by omega) (by omega), Int.add_zero]
theorem sm_two : ∀ {n r : Nat} {f : Nat → Int}, r + 1 < n → (∀ i, i < n → i ≠ r → i ≠ r + 1 → f i = 0) → sm n f = f r + f (r + 1)
  | 0, _, _, h, _ => by omega
  | n + 1, r, f, hr, h => by
    unfold sm
    by_cases e : r + 1 = n
    · subst e
      rw [sm_one (r := r) (by omega) fun i hi hn => h i (by omega) hn (by omega)]
    · rw [sm_two (n := n) (r := r) (by omega) fun i hi hn hm => h i (by omega) hn hm, h n (by omega) (by omega) (by omega), Int.add_zero]
theorem sm_le : ∀ {n : Nat} {f g : Nat → Int}, (∀ i, i < n → f i ≤ g i) → sm n f ≤ sm n g
  | 0, _, _, _ => Int.le_refl _
  | n + 1, f, g, h => by
    unfold sm
    have := sm_le (n := n) (f := f) (g := g) fun i hi => h i (by omega)
    have := h n (by omega)
    omega
theorem sm_abs : ∀ (n : Nat) (f : Nat → Int), ((sm n f).natAbs : Int) ≤ sm n fun i => ((f i).natAbs : Int)
  | 0, _ => Int.le_refl _
  | n + 1, f => by
    simp only [sm]
    have := sm_abs n f
    omega
def skp (i a : Nat) : Nat := if a < i then a else a + 1
theorem skp_ne (i a : Nat) : skp i a ≠ i := by unfold skp; split <;> omega
theorem skp_lt {i a n : Nat} (h : a < n) : skp i a < n + 1 := by unfold skp; split <;> omega
def usk (i r : Nat) : Nat := if r < i then r else r - 1
theorem skp_eq {i r a : Nat} (h : r ≠ i) : skp i a = r ↔ a = usk i r := by unfold skp usk; split <;> split <;> omega
theorem sm_skp : ∀ (n i : Nat) (f : Nat → Int), i < n + 1 → sm n (fun a => f (skp i a)) + f i = sm (n + 1) f
  | 0, i, f, h => by
    have : i = 0 := by omega
    subst this; rfl
  | n + 1, i, f, h => by
    rw [sm, sm]
    by_cases e : i = n + 1
    · subst e
      have : skp (n + 1) n = n := by unfold skp; split <;> omega
      rw [this, sm]
      rw [sm_congr (f := fun a => f (skp (n + 1) a)) (g := f) fun a ha => by
        have : skp (n + 1) a = a := by unfold skp; split <;> omega
        show f (skp (n + 1) a) = f a
        rw [this]]
    · have q := sm_skp n i f (by omega)
      have : skp i n = n + 1 := by unfold skp; split <;> omega
      rw [this]
      omega
def sg : Nat → Int
  | 0 => 1
  | n + 1 => - sg n
theorem sg_abs : ∀ n, (sg n).natAbs = 1
  | 0 => rfl
  | n + 1 => by unfold sg; rw [Int.natAbs_neg]; exact sg_abs n
def mnr (i : Nat) (v : Nat → Nat → Int) : Nat → Nat → Int := fun a c => v (skp i a) (c + 1)
def det : Nat → (Nat → Nat → Int) → Int
  | 0, _ => 1
  | n + 1, v => sm (n + 1) fun i => sg i * v i 0 * det n (mnr i v)
theorem det_congr : ∀ {n : Nat} {v w : Nat → Nat → Int}, (∀ i c, i < n → c < n → v i c = w i c) → det n v = det n w
  | 0, _, _, _ => rfl
  | n + 1, v, w, h => by
    unfold det
    refine sm_congr fun i hi => ?_
    rw [h i 0 hi (by omega), det_congr (n := n) (v := mnr i v) (w := mnr i w) fun a c ha hc => h _ _ (skp_lt ha) (by omega)]
def upv (v : Nat → Nat → Int) (r : Nat) (u : Nat → Int) : Nat → Nat → Int := fun i => if i = r then u else v i
theorem upv_at (v : Nat → Nat → Int) (r : Nat) (u : Nat → Int) : upv v r u r = u := by unfold upv; rw [if_pos rfl]
theorem upv_ne {v : Nat → Nat → Int} {r i : Nat} {u : Nat → Int} (h : i ≠ r) : upv v r u i = v i := by unfold upv; rw [if_neg h]
theorem upv_self (v : Nat → Nat → Int) (r : Nat) : upv v r (v r) = v := by
  funext i
  by_cases h : i = r
  · subst h; rw [upv_at]
  · rw [upv_ne h]
theorem upv_comm {v : Nat → Nat → Int} {r s : Nat} {u w : Nat → Int} (h : r ≠ s) : upv (upv v r u) s w = upv (upv v s w) r u := by
  funext i
  by_cases h1 : i = s
  · subst h1; rw [upv_at, upv_ne (Ne.symm h), upv_at]
  · rw [upv_ne h1]
    by_cases h2 : i = r
    · subst h2; rw [upv_at, upv_at]
    · rw [upv_ne h2, upv_ne h2, upv_ne h1]
theorem mnr_same (v : Nat → Nat → Int) (r : Nat) (u : Nat → Int) : mnr r (upv v r u) = mnr r v := by
  funext a c
  unfold mnr
  rw [upv_ne (skp_ne r a)]
theorem mnr_upv {v : Nat → Nat → Int} {i r : Nat} (u : Nat → Int) (h : r ≠ i) : mnr i (upv v r u) = upv (mnr i v) (usk i r) (fun c => u (c + 1)) := by
  funext a c
  by_cases e : a = usk i r
  · have := (skp_eq h).mpr e
    unfold mnr
    rw [this, upv_at, e, upv_at]
  · rw [upv_ne e]
    unfold mnr
    rw [upv_ne fun q => e ((skp_eq h).mp q)]
theorem det_lin : ∀ {n : Nat} (v : Nat → Nat → Int) {r : Nat} (x y : Int) (u w : Nat → Int), r < n → det n (upv v r fun c => x * u c + y * w c) = x * det n (upv v r u) + y * det n (upv v r w)
  | 0, _, _, _, _, _, _, h => by omega
  | n + 1, v, r, x, y, u, w, hr => by
    unfold det
    rw [← sm_mul, ← sm_mul, ← sm_add]
    refine sm_congr fun i hi => ?_
    by_cases e : r = i
    · subst e
      simp only [upv_at, mnr_same]
      grind
    · rw [mnr_upv _ e, mnr_upv _ e, mnr_upv _ e, upv_ne (Ne.symm e), upv_ne (Ne.symm e), upv_ne (Ne.symm e)]
      have hu : usk i r < n := by unfold usk; split <;> omega
      rw [det_lin (mnr i v) x y (fun c => u (c + 1)) (fun c => w (c + 1)) hu]
      grind
theorem det_sum {n : Nat} (v : Nat → Nat → Int) {r : Nat} (hr : r < n) (Y : Nat → Int) (u : Nat → Nat → Int) : ∀ m, det n (upv v r fun c => sm m fun k => Y k * u k c) = sm m fun k => Y k * det n (upv v r (u k))
  | 0 => by
    have := det_lin v 0 0 (fun _ => 0) (fun _ => 0) hr
    simp only [Int.zero_mul, Int.add_zero] at this
    unfold sm
    exact this
  | m + 1 => by
    have := det_lin v 1 (Y m) (fun c => sm m fun k => Y k * u k c) (u m) hr
    simp only [Int.one_mul] at this
    unfold sm
    rw [this, det_sum v hr Y u m]
theorem det_adj : ∀ {n : Nat} {v : Nat → Nat → Int} {r : Nat}, r + 1 < n → v r = v (r + 1) → det n v = 0
  | 0, _, _, h, _ => by omega
  | n + 1, v, r, hr, h => by
    unfold det
    rw [sm_two hr fun i hi h1 h2 => ?_]
    · have e : mnr r v = mnr (r + 1) v := by
        funext a c
        unfold mnr skp
        by_cases q1 : a < r
        · rw [if_pos q1, if_pos (by omega)]
        · by_cases q2 : a = r
          · subst q2
            rw [if_neg (by omega), if_pos (by omega), h]
          · rw [if_neg q1, if_neg (by omega)]
      rw [e, h]
      show sg r * v (r + 1) 0 * det n (mnr (r + 1) v) + - sg r * v (r + 1) 0 * det n (mnr (r + 1) v) = 0
      grind
    · rw [det_adj (n := n) (v := mnr i v) (r := if i < r then r - 1 else r) (by split <;> omega) ?_, Int.mul_zero]
      funext c
      unfold mnr
      by_cases q : i < r
      · rw [if_pos q]
        have e1 : skp i (r - 1) = r := by unfold skp; split <;> omega
        have e2 : skp i (r - 1 + 1) = r + 1 := by unfold skp; split <;> omega
        rw [e1, e2, h]
      · rw [if_neg q]
        have e1 : skp i r = r := by unfold skp; split <;> omega
        have e2 : skp i (r + 1) = r + 1 := by unfold skp; split <;> omega
        rw [e1, e2, h]
theorem det_swap {n : Nat} {v : Nat → Nat → Int} {r : Nat} (hr : r + 1 < n) : det n (upv (upv v r (v (r + 1))) (r + 1) (v r)) = - det n v := by
  have D : ∀ a b : Nat → Int, det n (upv (upv v r (fun c => 1 * a c + 1 * b c)) (r + 1) (fun c => 1 * a c + 1 * b c)) = det n (upv (upv v r a) (r + 1) a) + det n (upv (upv v r a) (r + 1) b) + det n (upv (upv v r b) (r + 1) a) + det n (upv (upv v r b) (r + 1) b) := fun a b => by
    rw [det_lin _ 1 1 a b hr]
    have C : ∀ x y : Nat → Int, upv (upv v r x) (r + 1) y = upv (upv v (r + 1) y) r x := fun x y => upv_comm (by omega)
    rw [C _ a, C _ b, det_lin _ 1 1 a b (by omega : r < n), det_lin _ 1 1 a b (by omega : r < n), C, C, C, C]
    omega
  have Z : ∀ a : Nat → Int, det n (upv (upv v r a) (r + 1) a) = 0 := fun a => det_adj hr (by rw [upv_at, upv_ne (by omega), upv_at])
  have := D (v r) (v (r + 1))
  rw [Z, Z, Z, upv_self, upv_self] at this
  omega
theorem det_eq0 : ∀ (k : Nat) {n : Nat} {v : Nat → Nat → Int} {p : Nat}, p + k + 1 < n → v p = v (p + k + 1) → det n v = 0
  | 0, n, v, p, h, e => det_adj h e
  | k + 1, n, v, p, h, e => by
    have q := det_swap (v := v) (r := p + k + 1) h
    rw [det_eq0 k (p := p) (by omega) ?_] at q
    · omega
    · rw [upv_ne (by omega), upv_ne (by omega), upv_ne (by omega), upv_at, e]
      rfl
theorem det_rep {n : Nat} {v : Nat → Nat → Int} {p q : Nat} (hp : p < n) (hq : q < n) (h : p ≠ q) (e : v p = v q) : det n v = 0 := by
  rcases Nat.lt_or_gt_of_ne h with h | h
  · exact det_eq0 (q - p - 1) (p := p) (by omega) (by rw [e]; congr 1; omega)
  · exact det_eq0 (p - q - 1) (p := q) (by omega) (by rw [← e]; congr 1; omega)
theorem det_cramer {n : Nat} (v : Nat → Nat → Int) {r : Nat} (hr : r < n) (Y : Nat → Int) : det n (upv v r fun c => sm n fun k => Y k * v k c) = Y r * det n v := by
  rw [det_sum v hr Y v n, sm_one hr fun k hk hn => ?_, upv_self]
  rw [det_rep hr hk (Ne.symm hn) (by rw [upv_at, upv_ne hn]), Int.mul_zero]
theorem det_last : ∀ {n : Nat} {v : Nat → Nat → Int}, (∀ c, c < n + 1 → v n c = if c = n then 1 else 0) → det (n + 1) v = det n v
  | 0, v, h => by
    have := h 0 (by omega)
    rw [if_pos rfl] at this
    show 0 + sg 0 * v 0 0 * 1 = 1
    rw [this]; rfl
  | n + 1, v, h => by
    rw [det, sm, h 0 (by omega), if_neg (by omega), Int.mul_zero, Int.zero_mul, Int.add_zero, det]
    refine sm_congr fun i hi => ?_
    rw [det_last (n := n) (v := mnr i v) fun c hc => ?_]
    have e : skp i n = n + 1 := by unfold skp; split <;> omega
    unfold mnr
    rw [e, h (c + 1) (by omega)]
    by_cases q : c = n
    · rw [if_pos (by omega), if_pos q]
    · rw [if_neg (by omega), if_neg q]
def prN : Nat → (Nat → Int) → Int
  | 0, _ => 1
  | n + 1, f => f 0 * prN n fun i => f (i + 1)
theorem det_abs : ∀ {n : Nat} {v : Nat → Nat → Int} {B : Nat → Nat}, (∀ c, c < n → (sm n fun i => ((v i c).natAbs : Int)) ≤ B c) → ((det n v).natAbs : Int) ≤ prN n fun c => B c
  | 0, _, _, _ => by unfold det prN; decide
  | n + 1, v, B, h => by
    unfold det prN
    have P : 0 ≤ prN n fun c => (B (c + 1) : Int) := by
      have : ∀ (n : Nat) (B : Nat → Nat), 0 ≤ prN n fun c => (B c : Int) := fun n => by
        induction n with
        | zero => intro B; unfold prN; omega
        | succ n ih => intro B; unfold prN; exact Int.mul_nonneg (Int.natCast_nonneg _) (ih fun c => B (c + 1))
      exact this n fun c => B (c + 1)
    refine Int.le_trans (sm_abs _ _) ?_
    refine Int.le_trans (sm_le (g := fun i => (prN n fun c => (B (c + 1) : Int)) * ((v i 0).natAbs : Int)) fun i hi => ?_) ?_
    · show (((sg i * v i 0 * det n (mnr i v)).natAbs : Nat) : Int) ≤ (prN n fun c => (B (c + 1) : Int)) * ((v i 0).natAbs : Int)
      rw [Int.natAbs_mul, Int.natAbs_mul, sg_abs, Nat.one_mul, Int.natCast_mul, Int.mul_comm]
      refine Int.mul_le_mul_of_nonneg_right (det_abs (B := fun c => B (c + 1)) fun c hc => ?_) (by omega)
      have q := sm_skp n i (fun i => ((v i (c + 1)).natAbs : Int)) hi
      have q2 := h (c + 1) (by omega)
      have : sm n (fun a => ((mnr i v a c).natAbs : Int)) = sm n fun a => ((v (skp i a) (c + 1)).natAbs : Int) := rfl
      rw [this]
      have : 0 ≤ ((v i (c + 1)).natAbs : Int) := by omega
      omega
    · rw [sm_mul, Int.mul_comm]
      exact Int.mul_le_mul_of_nonneg_right (h 0 (by omega)) P
def sw (p q c : Nat) : Nat := if c = p then q else if c = q then p else c
theorem det_mul {n r : Nat} (v : Nat → Nat → Int) (x : Int) (u : Nat → Int) (h : r < n) : det n (upv v r fun c => x * u c) = x * det n (upv v r u) := by
  have := det_lin v x 0 u (fun _ => 0) h
  simp only [Int.zero_mul, Int.add_zero] at this
  exact this
theorem det_add {n r : Nat} (v : Nat → Nat → Int) (y : Int) (u w : Nat → Int) (h : r < n) : det n (upv v r fun c => u c + y * w c) = det n (upv v r u) + y * det n (upv v r w) := by
  have := det_lin v 1 y u w h
  simp only [Int.one_mul] at this
  exact this
structure Elim (n w t : Nat) (A G : Nat → Nat → Int) (d : Int) : Prop where
  hd : d ≠ 0
  ht : t ≤ n
  hw : n ≤ w
  eq : ∀ i, i < n → ∀ j, j < w → d * A i j = sm t (fun k => G k j * A i k) + if t ≤ i then G i j else 0
  dg : ∀ k, k < t → ∀ j, j < t → G k j = if k = j then d else 0
  dt : det t (fun j i => A i j) = d
theorem Elim.lowG {n w t : Nat} {A G : Nat → Nat → Int} {d : Int} (E : Elim n w t A G d) {k j : Nat} (hk : k < t) (hj : j < w) : G k j = det t (upv (fun j i => A i j) k fun i => A i j) := by
  have h1 := det_cramer (n := t) (fun j i => A i j) hk (fun k => G k j)
  have h2 : det t (upv (fun j i => A i j) k fun c => sm t fun k => G k j * A c k) = d * det t (upv (fun j i => A i j) k fun i => A i j) := by
    rw [← det_mul _ _ _ hk]
    refine det_congr fun i c hi hc => ?_
    by_cases e : i = k
    · subst e
      have := E.ht
      rw [upv_at, upv_at]
      have := E.eq c (by omega) j hj
      rw [if_neg (by omega)] at this
      omega
    · rw [upv_ne e, upv_ne e]
  rw [h2, E.dt] at h1
  have h3 : d * det t (upv (fun j i => A i j) k fun i => A i j) = d * G k j := by rw [h1, Int.mul_comm]
  exact (Int.eq_of_mul_eq_mul_left E.hd h3).symm
def ext (A : Nat → Nat → Int) (t r i : Nat) : Nat → Int := A (if i < t then i else r)
theorem Elim.highG {n w t : Nat} {A G : Nat → Nat → Int} {d : Int} (E : Elim n w t A G d) {k j : Nat} (hk : t ≤ k) (hn : k < n) (hj : j < w) : G k j = det (t + 1) (upv (fun j i => ext A t k i j) t fun i => ext A t k i j) := by
  let v : Nat → Nat → Int := fun j i => ext A t k i j
  have h2 : det (t + 1) (upv v t fun i => ext A t k i j) * d = det (t + 1) (upv v t fun i => sm t (fun m => G m j * v m i) + G k j * if i = t then 1 else 0) := by
    rw [Int.mul_comm, ← det_mul _ _ _ (Nat.lt_succ_self t)]
    refine det_congr fun i c hi hc => ?_
    by_cases e : i = t
    · subst e
      rw [upv_at, upv_at]
      show d * ext A i k c j = sm i (fun m => G m j * ext A i k c m) + _
      unfold ext
      by_cases h : c < i
      · have := E.eq c (by omega) j hj
        rw [if_neg (by omega)] at this
        rw [if_pos h, if_neg (by omega)]
        omega
      · have := E.eq k hn j hj
        rw [if_pos hk] at this
        rw [if_neg h, if_pos (by omega)]
        omega
    · rw [upv_ne e, upv_ne e]
  have h3 := det_add (n := t + 1) v (G k j) (fun i => sm t (fun m => G m j * v m i)) (fun i => if i = t then 1 else 0) (Nat.lt_succ_self t)
  rw [h3, det_sum v (Nat.lt_succ_self t) (fun m => G m j) v t, sm_zero (fun m hm => by
    rw [det_rep (p := m) (q := t) (by omega) (by omega) (by omega) (by rw [upv_at, upv_ne (by omega)]), Int.mul_zero]), Int.zero_add, det_last (n := t) (v := upv v t fun i => if i = t then 1 else 0) (fun c hc => by rw [upv_at])] at h2
  have h4 : det t (upv v t fun i => if i = t then 1 else 0) = d := by
    rw [← E.dt]
    refine det_congr fun i c hi hc => ?_
    rw [upv_ne (by omega)]
    show ext A t k c i = _
    unfold ext
    rw [if_pos hc]
  rw [h4] at h2
  exact (Int.eq_of_mul_eq_mul_right E.hd h2).symm
theorem Elim.none {n w t : Nat} {A G : Nat → Nat → Int} {d : Int} (E : Elim n w t A G d) (h : t < n) (hz : ∀ k, t ≤ k → k < n → G k t = 0) : det n (fun j i => A i j) = 0 := by
  have hw := E.hw
  have h1 := det_mul (n := n) (fun j i => A i j) d (fun i => A i t) h
  have h2 := det_sum (n := n) (fun j i => A i j) h (fun m => G m t) (fun m i => A i m) t
  rw [sm_zero (fun m hm => by
      rw [det_rep (p := m) (q := t) (by omega) (by omega) (by omega) (by rw [upv_at, upv_ne (by omega)]), Int.mul_zero])] at h2
  have e : upv (fun j i => A i j) t (fun i => A i t) = fun j i => A i j := upv_self (fun j i => A i j) t
  rw [e] at h1
  have h3 : det n (upv (fun j i => A i j) t fun c => d * A c t) = det n (upv (fun j i => A i j) t fun c => sm t fun k => G k t * A c k) := by
    refine det_congr fun i c hi hc => ?_
    by_cases q : i = t
    · subst q
      rw [upv_at, upv_at]
      have := E.eq c hc i (by omega)
      by_cases r : i ≤ c
      · rw [if_pos r, hz c r hc] at this
        omega
      · rw [if_neg r] at this
        omega
    · rw [upv_ne q, upv_ne q]
  rw [h3, h2] at h1
  rcases Int.mul_eq_zero.mp h1.symm with z | z
  · exact absurd z E.hd
  · exact z
end Ab

namespace Ab
open PySem PySem.Spec PyProof.Rows L2
section
variable {X : Cx} {g : Gi} {W : WX} {w : WS} {st : List Stmt}
def wTryO (rl : List Str) (cat : Str → Bool) (w : WS) (ws : WS) : WS := fun (D : HG Kd) s S =>
  w { nx := D.nx, rt := D.rt, xc := fun c s1 S1 => rl.contains c = true ∧ if cat c = true then ws { nx := D.nx, rt := D.rt, xc := fun _ _ _ => False } s1 S1 else D.xc c s1 S1 } s S
end
end Ab

namespace Ab
open PySem L2
def ent (M : List (List Int)) (k j : Nat) : Int := gI (M.getD k []) (j : Int)
def swapL (M : List (List Int)) (p q : Nat) : List (List Int) := (M.set p (M.getD q [])).set q (M.getD p [])
def freedL (row head : List Int) (t : Nat) (d : Int) : List Int := (List.range row.length).map fun (m : Nat) => (gI head t * gI row m - gI row t * gI head m).fdiv d
def sweptL (M : List (List Int)) (t : Nat) (d : Int) : List (List Int) := (List.range M.length).map fun k => if k = t then M.getD k [] else freedL (M.getD k []) (M.getD t []) t d
structure ElimL (n w t : Nat) (A0 A M : List (List Int)) (d : Int) : Prop where
  e : Elim n w t (ent A) (ent M) d
  la : A.length = n
  lm : M.length = n
  rm : ∀ r ∈ M, r.length = w
  ra : ∀ r ∈ A, r ∈ A0
  ar : ∀ r ∈ A0, r ∈ A
  dd : det n (fun j i => ent A i j) = det n (fun j i => ent A0 i j) ∨ det n (fun j i => ent A i j) = - det n (fun j i => ent A0 i j)
theorem sm_sub {t w j : Nat} {f : Nat → Int} (hf : ∀ i, 0 ≤ f i) (ht : t ≤ j) (hj : j < w) : sm t f + f j ≤ sm w f := by
  obtain ⟨m, rfl⟩ : ∃ m, w = m + 1 := ⟨w - 1, by omega⟩
  induction m generalizing t j with
  | zero =>
    have : t = 0 ∧ j = 0 := by omega
    obtain ⟨rfl, rfl⟩ := this
    exact Int.le_refl _
  | succ m ih =>
    rw [sm]
    by_cases e : j = m + 1
    · subst e
      have : sm t f ≤ sm (m + 1) f := by
        have : ∀ k, sm t f ≤ sm (t + k) f := fun k => by
          induction k with
          | zero => exact Int.le_refl _
          | succ k ihk => rw [← Nat.add_assoc, sm]; have := hf (t + k); omega
        have := this (m + 1 - t)
        rwa [show t + (m + 1 - t) = m + 1 by omega] at this
      omega
    · have := ih ht (by omega)
      have := hf (m + 1)
      omega
theorem sm_le_all {t w : Nat} {f : Nat → Int} (hf : ∀ i, 0 ≤ f i) (h : t ≤ w) : sm t f ≤ sm w f := by
  obtain ⟨k, rfl⟩ : ∃ k, w = t + k := ⟨w - t, by omega⟩
  induction k with
  | zero => exact Int.le_refl _
  | succ k ihk => rw [← Nat.add_assoc, sm]; have := hf (t + k); have := ihk (by omega); omega
theorem prN_const : ∀ (n B : Nat), prN n (fun _ => (B : Int)) = ((B ^ n : Nat) : Int)
  | 0, _ => rfl
  | n + 1, B => by
    unfold prN
    rw [prN_const n B, Nat.pow_succ, Int.natCast_mul, Int.mul_comm]
theorem Elim.size {n w t : Nat} {A G : Nat → Nat → Int} {d : Int} (E : Elim n w t A G d) {B : Nat} (hB : 1 ≤ B) (hA : ∀ i, i < n → (sm w fun j => ((A i j).natAbs : Int)) ≤ B) {k j : Nat} (hk : k < n) (hj : j < w) : d.natAbs ≤ B ^ n ∧ (G k j).natAbs ≤ B ^ n := by
  have ht := E.ht
  have hw := E.hw
  have nn : ∀ i j, 0 ≤ ((A i j).natAbs : Int) := fun i j => by omega
  have hd : d.natAbs ≤ B ^ n := by
    have := det_abs (n := t) (v := fun j i => A i j) (B := fun _ => B) fun c hc => Int.le_trans (sm_le_all (fun i => nn c i) (by omega)) (hA c (by omega))
    rw [prN_const, E.dt] at this
    have : d.natAbs ≤ B ^ t := by exact_mod_cast this
    exact Nat.le_trans this (Nat.pow_le_pow_right hB ht)
  refine ⟨hd, ?_⟩
  by_cases hjt : j < t
  · by_cases hkt : k < t
    · rw [E.dg k hkt j hjt]
      split
      · exact hd
      · exact Nat.zero_le _
    · have e := E.eq k hk j hj
      rw [if_pos (by omega)] at e
      rw [sm_one (r := j) hjt fun m hm hn => by rw [E.dg m hm j hjt, if_neg hn, Int.zero_mul], E.dg j hjt j hjt, if_pos rfl] at e
      have : G k j = 0 := by omega
      rw [this]
      exact Nat.zero_le _
  · have key : ∀ (m : Nat) (v : Nat → Nat → Int), m ≤ n → (∀ c, c < m → (sm m fun i => ((v i c).natAbs : Int)) ≤ B) → (det m v).natAbs ≤ B ^ n := fun m v hm hv => by
      have := det_abs (n := m) (v := v) (B := fun _ => B) hv
      rw [prN_const] at this
      have : (det m v).natAbs ≤ B ^ m := by exact_mod_cast this
      exact Nat.le_trans this (Nat.pow_le_pow_right hB hm)
    by_cases hkt : k < t
    · rw [E.lowG hkt hj]
      refine key t _ ht fun c hc => ?_
      have h1 : (sm t fun i => ((upv (fun j i => A i j) k (fun i => A i j) i c).natAbs : Int)) ≤ sm t (fun i => ((A c i).natAbs : Int)) + ((A c j).natAbs : Int) := by
        have : (sm t fun i => ((upv (fun j i => A i j) k (fun i => A i j) i c).natAbs : Int)) ≤ sm t (fun i => ((A c i).natAbs : Int) + if i = k then ((A c j).natAbs : Int) else 0) := sm_le fun i hi => by
          by_cases e : i = k
          · subst e
            rw [upv_at, if_pos rfl]
            have := nn c i
            omega
          · rw [upv_ne e, if_neg e]
            omega
        rw [sm_add, sm_one (r := k) hkt fun i hi hn => if_neg hn, if_pos rfl] at this
        exact this
      exact Int.le_trans h1 (Int.le_trans (sm_sub (f := fun i => ((A c i).natAbs : Int)) (fun i => nn c i) (by omega) hj) (hA c (by omega)))
    · rw [E.highG (by omega) hk hj]
      refine key (t + 1) _ (by omega) fun c hc => ?_
      rw [sm]
      have e0 : upv (fun j i => ext A t k i j) t (fun i => ext A t k i j) t c = ext A t k c j := by rw [upv_at]
      have h1 : (sm t fun i => ((upv (fun j i => ext A t k i j) t (fun i => ext A t k i j) i c).natAbs : Int)) = sm t fun i => ((ext A t k c i).natAbs : Int) := sm_congr fun i hi => by rw [upv_ne (by omega)]
      rw [h1, e0]
      unfold ext
      exact Int.le_trans (sm_sub (f := fun i => ((A (if c < t then c else k) i).natAbs : Int)) (fun i => nn _ i) (by omega) hj) (hA _ (by split <;> omega))
def dens (qs : List Rat) : Int := qs.foldl (fun a q => a * (q.den : Int)) 1
def Whole (qs : List Rat) (v : List Int) : Prop := v.length = qs.length ∧ ∃ m : Int, 0 < m ∧ m ≤ dens qs ∧ ∀ (i : Nat) (q : Rat), qs[i]? = some q → gI v i * q.den = q.num * m
end Ab

namespace Ab
open PySem PySem.Spec PyProof.Rows L2
noncomputable def vTryO : (List Str) → (Str → Bool) → (WS) → (WS) → (WS) := sld wTryO
theorem vTryO_s : vTryO = wTryO := sld_eq _
theorem vTryO_q (rl : List Str) (cat : Str → Bool) (w : WS) (ws : WS) (D : _) (s : _) (S : _) : vTryO rl cat w ws D s S = ( w { nx := D.nx, rt := D.rt, xc := fun c s1 S1 => rl.contains c = true ∧ if cat c = true then ws { nx := D.nx, rt := D.rt, xc := fun _ _ _ => False } s1 S1 else D.xc c s1 S1 } s S) := by rw [vTryO_s]; rfl
end Ab

namespace Ab
open PySem L2
def Wholes (rows : List (List Rat)) (right : List Rat) (A : List (List Int)) : Prop := A.length = rows.length ∧ ∀ (i : Nat) (r : List Rat) (q : Rat) (v : List Int), rows[i]? = some r → right[i]? = some q → A[i]? = some v → Whole (r ++ [q]) v
def smR : Nat → (Nat → Rat) → Rat
  | 0, _ => 0
  | n + 1, f => smR n f + f n
end Ab

namespace Ab.Cl
open PySem L2
section
variable {α : Type}
theorem sum_add {f g : α → Rat} : ∀ {xs : List α}, (xs.map fun x => f x + g x).sum = (xs.map f).sum + (xs.map g).sum
  | [] => by simp only [List.map_nil, List.sum_nil]; grind
  | x :: xs => by
    rw [List.map_cons, List.map_cons, List.map_cons, List.sum_cons, List.sum_cons, List.sum_cons, sum_add]
    grind
theorem sum_mul {c : Rat} {f : α → Rat} : ∀ {xs : List α}, (xs.map fun x => c * f x).sum = c * (xs.map f).sum
  | [] => by simp only [List.map_nil, List.sum_nil]; grind
  | x :: xs => by
    rw [List.map_cons, List.map_cons, List.sum_cons, List.sum_cons, sum_mul]
    grind
theorem sum_null {f : α → Rat} : ∀ {xs : List α}, (∀ x ∈ xs, f x = 0) → (xs.map f).sum = 0
  | [], _ => rfl
  | x :: xs, h => by
    rw [List.map_cons, List.sum_cons, h x (by simp), sum_null fun y hy => h y (by simp [hy])]
    grind
theorem sum_memle {f : α → Rat} : ∀ {xs : List α} {x : α}, (∀ y ∈ xs, 0 ≤ f y) → x ∈ xs → f x ≤ (xs.map f).sum
  | y :: xs, x, h, hx => by
    rw [List.map_cons, List.sum_cons]
    have h0 := h y (by simp)
    have h1 := sum_nn (xs := xs) (f := f) fun z hz => h z (by simp [hz])
    rcases List.mem_cons.mp hx with e | e
    · subst e; grind
    · have := sum_memle (xs := xs) (f := f) (fun z hz => h z (by simp [hz])) e
      grind
theorem sum_zero_all {f : α → Rat} {xs : List α} (h : ∀ y ∈ xs, 0 ≤ f y) (hz : (xs.map f).sum ≤ 0) : ∀ x ∈ xs, f x = 0 := fun x hx => by
  have := sum_memle h hx
  have := h x hx
  grind
theorem sumL_key {key : α → Int} {f : α → Rat} {xs : List α} : ∀ {L : List Int}, L.Nodup → (L.map fun p => (xs.map fun x => if key x = p then f x else 0).sum).sum = (xs.map fun x => if key x ∈ L then f x else 0).sum
  | [], _ => by
    rw [List.map_nil, sum_null (xs := xs) fun x _ => if_neg (by simp)]
    rfl
  | p :: L, h => by
    obtain ⟨h1, h2⟩ := List.nodup_cons.mp h
    rw [List.map_cons, List.sum_cons, sumL_key h2, ← sum_add]
    refine sum_congr fun x hx => ?_
    by_cases c : key x = p
    · rw [if_pos c, if_neg (by rw [c]; exact h1), if_pos (by rw [c]; simp)]
      grind
    · rw [if_neg c]
      by_cases c2 : key x ∈ L
      · rw [if_pos c2, if_pos (by simp [c2])]; grind
      · rw [if_neg c2, if_neg (by simp [c, c2])]; grind
end
def inF (sm : List Dd) (w : Int → Rat) (p : Int) : Rat := (sm.map fun x => if x.b = p then (x.c : Rat) * w x.a else 0).sum
def outF (sm : List Dd) (p : Int) : Rat := (sm.map fun x => if x.a = p then (x.c : Rat) else 0).sum
theorem c_pos {x : Dd} (h : 0 < x.c) : (0 : Rat) < (x.c : Rat) := by exact_mod_cast h
theorem flow {sm : List Dd} {L : List Int} {w : Int → Rat} (hL : L.Nodup) (hc : ∀ x ∈ sm, 0 < x.c) (w0 : ∀ p, 0 ≤ w p) (wz : ∀ p, p ∉ L → w p = 0) (hle : ∀ p ∈ L, outF sm p * w p ≤ inF sm w p) : ∀ x ∈ sm, 0 < w x.a → 0 < w x.b := by
  have t0 : ∀ x ∈ sm, 0 ≤ (x.c : Rat) * w x.a := fun x hx => Rat.mul_nonneg (Rat.le_of_lt (c_pos (hc x hx))) (w0 _)
  have e1 : (L.map fun p => outF sm p * w p).sum = (sm.map fun x => (x.c : Rat) * w x.a).sum := by
    have : (L.map fun p => outF sm p * w p) = L.map fun p => (sm.map fun x => if x.a = p then (x.c : Rat) * w x.a else 0).sum := by
      refine List.map_congr_left fun p hp => ?_
      unfold outF
      rw [Rat.mul_comm, ← sum_mul]
      refine sum_congr fun x hx => ?_
      split
      · rename_i e; rw [e]; grind
      · grind
    rw [this, sumL_key hL]
    refine sum_congr fun x hx => ?_
    split
    · rfl
    · rename_i e; rw [wz _ e]; grind
  have e2 : (L.map fun p => inF sm w p).sum = (sm.map fun x => if x.b ∈ L then (x.c : Rat) * w x.a else 0).sum := sumL_key hL
  have e3 : (sm.map fun x => (x.c : Rat) * w x.a).sum = (sm.map fun x => if x.b ∈ L then (x.c : Rat) * w x.a else 0).sum + (sm.map fun x => if x.b ∈ L then 0 else (x.c : Rat) * w x.a).sum := by
    rw [← sum_add]
    refine sum_congr fun x hx => ?_
    split <;> grind
  have n3 : 0 ≤ (sm.map fun x => if x.b ∈ L then 0 else (x.c : Rat) * w x.a).sum := sum_nn fun x hx => by
    split
    · exact Rat.le_refl
    · exact t0 x hx
  have d0 : ∀ p ∈ L, 0 ≤ inF sm w p - outF sm p * w p := fun p hp => by
    have := hle p hp
    grind
  have e4 : (L.map fun p => inF sm w p).sum = (L.map fun p => inF sm w p - outF sm p * w p).sum + (L.map fun p => outF sm p * w p).sum := by
    rw [← sum_add]
    refine sum_congr fun p hp => ?_
    grind
  have n4 := sum_nn d0
  have z4 := sum_zero_all d0 (by grind)
  have z3 := sum_zero_all (xs := sm) (f := fun x => if x.b ∈ L then 0 else (x.c : Rat) * w x.a) (fun x hx => by
    split
    · exact Rat.le_refl
    · exact t0 x hx) (by grind)
  intro x hx hw
  have cp := Rat.mul_pos (c_pos (hc x hx)) hw
  have hb : x.b ∈ L := Classical.byContradiction fun hn => by
    have := z3 x hx
    rw [if_neg hn] at this
    grind
  refine Classical.byContradiction fun hn => ?_
  have wb : w x.b = 0 := by
    have := w0 x.b
    grind
  have h1 := z4 x.b hb
  rw [wb] at h1
  have h2 : (if x.b = x.b then (x.c : Rat) * w x.a else 0) ≤ inF sm w x.b := sum_memle (xs := sm) (f := fun y => if y.b = x.b then (y.c : Rat) * w y.a else 0) (fun y hy => by
    split
    · exact t0 y hy
    · exact Rat.le_refl) hx
  rw [if_pos rfl] at h2
  grind
end Ab.Cl

namespace Ab.Cl
open PySem L2
def stQ (qs : List Rat) (sh : List Dd) (j : Int) : Option Int := stop3 (gR qs j) (rkRow sh j)
def someD (qs : List Rat) (sh : List Dd) : List Dd := sh.filter fun x => decide (0 < x.c) && decide (stQ qs sh x.a = some x.r)
def hdI (qs : List Rat) (sh : List Dd) (j : Int) : Int := match stQ qs sh j with
  | none => 0
  | some r => rkI sh j r
def tpI (qs : List Rat) (sh : List Dd) (j : Int) : Int := match stQ qs sh j with
  | none => 0
  | some r => ahI sh j r + rkI sh j r
theorem ahI_0 {sh : List Dd} {j : Int} : ahI sh j 0 = 0 := rfl
theorem ahI_1 {sh : List Dd} {j : Int} : ahI sh j 1 = rkI sh j 0 := by show rkI sh j 0 + 0 = _; omega
theorem ahI_2 {sh : List Dd} {j : Int} : ahI sh j 2 = rkI sh j 0 + rkI sh j 1 := by show rkI sh j 0 + (rkI sh j 1 + 0) = _; omega
theorem stop_cases (q : Rat) (a b c : Int) : (stop3 q [a, b, c] = some 0 ∧ q < (a : Rat)) ∨ (stop3 q [a, b, c] = some 1 ∧ (a : Rat) ≤ q ∧ q < ((a + b : Int) : Rat)) ∨ (stop3 q [a, b, c] = some 2 ∧ (a : Rat) ≤ q ∧ ((a + b : Int) : Rat) ≤ q ∧ q < ((a + b + c : Int) : Rat)) ∨
    (stop3 q [a, b, c] = none ∧ (a : Rat) ≤ q ∧ ((a + b : Int) : Rat) ≤ q ∧ ((a + b + c : Int) : Rat) ≤ q) := by
  unfold stop3
  simp only [stopF, Int.zero_add]
  by_cases c1 : q < (a : Rat)
  · rw [if_pos c1]; exact .inl ⟨rfl, c1⟩
  rw [if_neg c1]
  by_cases c2 : q < ((a + b : Int) : Rat)
  · rw [if_pos c2]; exact .inr (.inl ⟨rfl, Rat.not_lt.mp c1, c2⟩)
  rw [if_neg c2]
  by_cases c3 : q < ((a + b + c : Int) : Rat)
  · rw [if_pos c3]; exact .inr (.inr (.inl ⟨rfl, Rat.not_lt.mp c1, Rat.not_lt.mp c2, c3⟩))
  rw [if_neg c3]
  exact .inr (.inr (.inr ⟨rfl, Rat.not_lt.mp c1, Rat.not_lt.mp c2, Rat.not_lt.mp c3⟩))
section
variable {m : Int} {sh : List Dd} {qs ps : List Rat} {j r : Int}
theorem st_none (h : stQ qs sh j = none) : ((rkT sh j : Int) : Rat) ≤ gR qs j := by
  unfold stQ rkRow at h
  rcases stop_cases (gR qs j) (rkI sh j 0) (rkI sh j 1) (rkI sh j 2) with ⟨e, h1⟩ | ⟨e, h1, h2⟩ | ⟨e, h1, h2, h3⟩ | ⟨e, h1, h2, h3⟩ <;> rw [e] at h
  · cases h
  · cases h
  · cases h
  · exact h3
theorem rk_nn (hs : ∀ x ∈ sh, x.Ok m) : 0 ≤ rkI sh j 0 ∧ 0 ≤ rkI sh j 1 ∧ 0 ≤ rkI sh j 2 := ⟨rkI_nonneg hs, rkI_nonneg hs, rkI_nonneg hs⟩
theorem three (h0 : 0 ≤ r) (h1 : r < 3) : r = 0 ∨ r = 1 ∨ r = 2 := by omega
theorem ah_nn (hs : ∀ x ∈ sh, x.Ok m) (h0 : 0 ≤ r) (h1 : r < 3) : 0 ≤ ahI sh j r ∧ 0 ≤ rkI sh j r ∧ ahI sh j r + rkI sh j r ≤ rkT sh j := by
  obtain ⟨a, b, c⟩ := rk_nn hs (j := j)
  unfold rkT
  rcases three h0 h1 with rfl | rfl | rfl
  · rw [ahI_0]; omega
  · rw [ahI_1]; omega
  · rw [ahI_2]; omega
theorem some_c : ∀ x ∈ someD qs sh, 0 < x.c ∧ x ∈ sh ∧ stQ qs sh x.a = some x.r := fun x hx => by
  unfold someD at hx
  rw [List.mem_filter, Bool.and_eq_true, decide_eq_true_eq, decide_eq_true_eq] at hx
  exact ⟨hx.2.1, hx.1, hx.2.2⟩
end
end Ab.Cl

namespace Ab.Cl
open PySem L2
structure ClI (m : Int) (sh : List Dd) (ps : List Int) (qs : List Rat) (σ : Rat) : Prop where
  hl : (qs.length : Int) = m
  s0 : 0 ≤ σ
  s1 : σ ≤ 1
  q0 : ∀ j : Int, 0 ≤ j → j < m → 0 ≤ gR qs j ∧ gR qs j ≤ (rkT sh j : Rat)
  eq : ∀ j r : Int, 0 ≤ j → j < m → stQ qs sh j = some r → gR qs j = (1 - σ) * (gI ps j : Rat) + gotP qs sh sh j
  ge : ∀ j : Int, 0 ≤ j → j < m → stQ qs sh j = none → (rkT sh j : Rat) ≤ (1 - σ) * (gI ps j : Rat) + gotP qs sh sh j
section
variable {m : Int} {sh : List Dd} {ps : List Int} {qs : List Rat} {σ : Rat}
theorem ClI.nn (I : ClI m sh ps qs σ) : ∀ k : Int, 0 ≤ k → k < m → 0 ≤ gR qs k := fun k h0 h1 => (I.q0 k h0 h1).1
def pairs (n : Nat) : List (Int × Int) := (List.range n).flatMap fun (j : Nat) => [((j : Int), 0), ((j : Int), 1), ((j : Int), 2)]
noncomputable def openN (m : Int) (sh : List Dd) (qs : List Rat) : Nat := (pairs m.toNat).countP fun p => decide (0 < rkI sh p.1 p.2) && decide (gR qs p.1 < ((ahI sh p.1 p.2 + rkI sh p.1 p.2 : Int) : Rat))
theorem nodup_len {α : Type} [BEq α] [LawfulBEq α] : ∀ {l s : List α}, l.Nodup → (∀ x ∈ l, x ∈ s) → l.length ≤ s.length
  | [], _, _, _ => Nat.zero_le _
  | a :: l, s, h, hs => by
    obtain ⟨h1, h2⟩ := List.nodup_cons.mp h
    have ha := hs a (by simp)
    have := nodup_len (l := l) (s := s.erase a) h2 fun x hx => by
      have hne : x ≠ a := fun e => h1 (e ▸ hx)
      exact (List.mem_erase_of_ne hne).mpr (hs x (by simp [hx]))
    rw [List.length_erase_of_mem ha] at this
    have := List.length_pos_of_mem ha
    rw [List.length_cons]
    omega
def NoShut (m : Int) (sh : List Dd) (qs : List Rat) : Prop := ∀ M : Int → Prop, (∀ j, M j → 0 ≤ j ∧ j < m ∧ stQ qs sh j ≠ none) → (∀ x ∈ someD qs sh, M x.a → M x.b) → ∀ j, ¬ M j
structure GroupOk (m : Int) (sh : List Dd) (qs : List Rat) (g : List Int) : Prop where
  nd : g.Nodup
  rng : ∀ j ∈ g, 0 ≤ j ∧ j < m ∧ stQ qs sh j ≠ none
  cl : ∀ x ∈ someD qs sh, x.a ∈ g → x.b ∈ g
  mn : ∀ M : Int → Prop, (∀ j, M j → j ∈ g) → (∀ x ∈ someD qs sh, M x.a → M x.b) → ∀ i, M i → ∀ j ∈ g, M j
end
end Ab.Cl

namespace Ab.Cl
open PySem L2
def uL (L : List Int) (f : Nat → Rat) (p : Int) : Rat := if p ∈ L then f (L.idxOf p) else 0
def rowI (sm : List Dd) (L : List Int) (h : Int → Int) (p : Int) : List Int := L.map fun q => (if q = p then h p else 0) - (sm.map fun x => if x.b = p ∧ x.a = q then x.c else 0).sum
def sysR (sm : List Dd) (L : List Int) (h : Int → Int) : List (List Rat) := L.map fun p => (rowI sm L h p).map fun (z : Int) => (z : Rat)
def sideR (fed : List Int) : List Rat := fed.map fun (z : Int) => (z : Rat)
end Ab.Cl

namespace Ab
open PySem L2
theorem sm_end {t : Nat} {f g : Nat → Int} : ∀ {n : Nat}, t < n → (∀ k, k < t → f k = g k) → (∀ k, t < k → k < n → f k = 0) → sm n f = sm t g + f t
  | 0, h, _, _ => by omega
  | n + 1, h, h1, h2 => by
    rw [sm]
    by_cases e : t = n
    · subst e
      rw [sm_congr h1]
    · rw [sm_end (n := n) (by omega) h1 fun k a b => h2 k a (by omega), h2 n (by omega) (by omega), Int.add_zero]
theorem Elim.kernel {n w t : Nat} {A G : Nat → Nat → Int} {d : Int} (E : Elim n w t A G d) (h : t < n) (hz : ∀ k, t ≤ k → k < n → G k t = 0) : ∃ U : Nat → Int, (∃ k, k < n ∧ U k ≠ 0) ∧ ∀ i, i < n → sm n (fun k => U k * A i k) = 0 := by
  have hw := E.hw
  refine ⟨fun k => if k < t then G k t else if k = t then - d else 0, ⟨t, h, by
    show (if t < t then G t t else if t = t then - d else 0) ≠ 0
    rw [if_neg (by omega), if_pos rfl]
    have := E.hd
    omega⟩, fun i hi => ?_⟩
  have e := E.eq i hi t (by omega)
  rw [sm_end (t := t) (g := fun k => G k t * A i k) h (fun k hk => by
    show (if k < t then G k t else if k = t then - d else 0) * A i k = _
    rw [if_pos hk]) fun k a b => by
      show (if k < t then G k t else if k = t then - d else 0) * A i k = _
      rw [if_neg (by omega), if_neg (by omega), Int.zero_mul]]
  show _ + (if t < t then G t t else if t = t then - d else 0) * A i t = 0
  rw [if_neg (by omega), if_pos rfl]
  by_cases c : t ≤ i
  · rw [if_pos c, hz i c hi] at e
    grind
  · rw [if_neg c] at e
    grind
theorem ElimL.kernel {n w t : Nat} {A0 A M : List (List Int)} {d : Int} (E : ElimL n w t A0 A M d) (l0 : A0.length = n) (h : t < n) (hz : ∀ k, t ≤ k → k < n → ent M k t = 0) : ∃ U : Nat → Int, (∃ k, k < n ∧ U k ≠ 0) ∧ ∀ i, i < n → sm n (fun k => U k * ent A0 i k) = 0 := by
  obtain ⟨U, hU, hk⟩ := E.e.kernel h hz
  refine ⟨U, hU, fun i hi => ?_⟩
  have e3 := List.getElem?_eq_getElem (l := A0) (i := i) (by omega)
  obtain ⟨j, hj, ej⟩ := List.mem_iff_getElem.mp (E.ar _ (List.mem_of_getElem? e3))
  have hjn : j < n := by have := E.la; omega
  have := hk j hjn
  have hAj : ∀ c : Nat, ent A j c = ent A0 i c := fun c => by
    unfold ent
    rw [List.getD_eq_getElem?_getD, List.getElem?_eq_getElem hj, ej, List.getD_eq_getElem?_getD, e3]
  rw [← this]
  exact sm_congr fun k _ => by rw [hAj]
namespace Cl
section
variable {m : Int} {sh : List Dd} {ps : List Int} {qs : List Rat} {σ : Rat}
def shortL (m : Int) (sh : List Dd) (qs : List Rat) : List Int := ((List.range m.toNat).filter fun (k : Nat) => (stQ qs sh (k : Int)).isSome).map fun (k : Nat) => (k : Int)
def fedI (sm : List Dd) (first p : Int) : Int := (sm.map fun x => if x.a = first ∧ x.b = p then x.c else 0).sum
end
end Cl
end Ab

namespace Ab.Cl
open PySem L2
structure Reach (sm : List Dd) (f : Int) (g : List Int) : Prop where
  nd : g.Nodup
  hd : ∃ t, g = f :: t
  cl : ∀ x ∈ sm, x.a ∈ g → x.b ∈ g
  mn : ∀ M : Int → Prop, M f → (∀ x ∈ sm, M x.a → M x.b) → ∀ j ∈ g, M j
theorem Reach.self {sm : List Dd} {f : Int} {g : List Int} (h : Reach sm f g) : f ∈ g := by
  obtain ⟨t, e⟩ := h.hd
  rw [e]; simp
section
variable {m : Int} {sh : List Dd} {qs : List Rat}
theorem Reach.rng {f : Int} {g : List Int} (hs : ∀ x ∈ sh, x.Ok m) (h : Reach (someD qs sh) f g) (h0 : 0 ≤ f) (h1 : f < m) : ∀ j ∈ g, 0 ≤ j ∧ j < m := h.mn (fun j => 0 ≤ j ∧ j < m) ⟨h0, h1⟩ fun x hx _ => by
  have := hs x (some_c x hx).2.1
  unfold Dd.Ok at this
  exact ⟨this.2.2.1, this.2.2.2.1⟩
def ShutI (m : Int) (sh : List Dd) (qs : List Rat) (i : Nat) (best : List Int) : Prop :=
  (∀ f : Int, 0 ≤ f → f < (i : Int) → stQ qs sh f ≠ none → ∃ g, Reach (someD qs sh) f g ∧ ((∀ j ∈ g, stQ qs sh j ≠ none) → best ≠ [] ∧ best.length ≤ g.length)) ∧
    (best ≠ [] → ∃ f : Int, Reach (someD qs sh) f best ∧ (∀ j ∈ best, stQ qs sh j ≠ none) ∧ 0 ≤ f ∧ f < m)
theorem ShutI.start : ShutI m sh qs 0 [] := ⟨fun f h0 h1 => by omega, fun h => absurd rfl h⟩
theorem ShutI.keep {i : Nat} {best g : List Int} (h : ShutI m sh qs i best) (hg : Reach (someD qs sh) (i : Int) g) (hk : (∀ j ∈ g, stQ qs sh j ≠ none) → best ≠ [] ∧ best.length ≤ g.length) : ShutI m sh qs (i + 1) best := ⟨fun f h0 h1 hf => by
  by_cases e : f = (i : Int)
  · subst e; exact ⟨g, hg, hk⟩
  · exact h.1 f h0 (by omega) hf, h.2⟩
theorem ShutI.take {i : Nat} {best g : List Int} (h : ShutI m sh qs i best) (hi : (i : Int) < m) (hg : Reach (someD qs sh) (i : Int) g) (hsh : ∀ j ∈ g, stQ qs sh j ≠ none) (hk : best = [] ∨ g.length < best.length) : ShutI m sh qs (i + 1) g := by
  have gne : g ≠ [] := fun e => by
    have := hg.self
    rw [e] at this
    cases this
  refine ⟨fun f h0 h1 hf => ?_, fun _ => ⟨_, hg, hsh, by omega, hi⟩⟩
  by_cases e : f = (i : Int)
  · subst e; exact ⟨g, hg, fun _ => ⟨gne, Nat.le_refl _⟩⟩
  · obtain ⟨g', hg', hk'⟩ := h.1 f h0 (by omega) hf
    refine ⟨g', hg', fun hs' => ⟨gne, ?_⟩⟩
    obtain ⟨b1, b2⟩ := hk' hs'
    rcases hk with hk | hk
    · exact absurd hk b1
    · omega
theorem ShutI.none {best : List Int} (h : ShutI m sh qs m.toNat best) (e : best = []) : NoShut m sh qs := fun M hM hc j hj => by
  obtain ⟨h0, h1, h2⟩ := hM j hj
  obtain ⟨g, hg, hk⟩ := h.1 j h0 (by omega) h2
  exact (hk fun i hi => (hM i (hg.mn M hj hc i hi)).2.2).1 e
theorem ShutI.some {best : List Int} (hs : ∀ x ∈ sh, x.Ok m) (h : ShutI m sh qs m.toNat best) (e : best ≠ []) : GroupOk m sh qs best := by
  obtain ⟨f, hf, hsh, h0, h1⟩ := h.2 e
  have rg := hf.rng hs h0 h1
  refine ⟨hf.nd, fun j hj => ⟨(rg j hj).1, (rg j hj).2, hsh j hj⟩, hf.cl, fun M hM hc i hi j hj => ?_⟩
  have ib := hM i hi
  obtain ⟨g, hg, hk⟩ := h.1 i (rg i ib).1 (by have := (rg i ib).2; omega) (hsh i ib)
  have gM := hg.mn M hi hc
  have hle := (hk fun a ha => hsh a (hM a (gM a ha))).2
  refine gM j (Classical.byContradiction fun hn => ?_)
  have := nodup_len (l := j :: g) (s := best) (List.nodup_cons.mpr ⟨hn, hg.nd⟩) fun a ha => by
    rcases List.mem_cons.mp ha with q | q
    · rw [q]; exact hj
    · exact hM a (gM a q)
  rw [List.length_cons] at this
  omega
end
structure ReachI (m : Int) (sm : List Dd) (f : Int) (at_ : Nat) (g : List Int) : Prop where
  nd : g.Nodup
  hd : ∃ t, g = f :: t
  rng : ∀ j ∈ g, 0 ≤ j ∧ j < m
  cl : ∀ (i : Nat) (j : Int), i < at_ → g[i]? = some j → ∀ x ∈ sm, x.a = j → x.b ∈ g
  mn : ∀ M : Int → Prop, M f → (∀ x ∈ sm, M x.a → M x.b) → ∀ j ∈ g, M j
theorem ReachI.len {m : Int} {sm : List Dd} {f : Int} {a : Nat} {g : List Int} (h : ReachI m sm f a g) : g.length ≤ m.toNat := by
  have := nodup_len (s := (List.range m.toNat).map fun (k : Nat) => (k : Int)) h.nd fun j hj => by
    have := h.rng j hj
    exact List.mem_map.mpr ⟨j.toNat, List.mem_range.mpr (by omega), by omega⟩
  rwa [List.length_map, List.length_range] at this
theorem ReachI.fin {m : Int} {sm : List Dd} {f : Int} {a : Nat} {g : List Int} (h : ReachI m sm f a g) (ha : g.length ≤ a) : Reach sm f g := ⟨h.nd, h.hd, fun x hx hm => by
  obtain ⟨i, hi⟩ := List.mem_iff_getElem?.mp hm
  have := (List.getElem?_eq_some_iff.mp hi).1
  exact h.cl i _ (by omega) hi x hx rfl, h.mn⟩
end Ab.Cl

namespace Ab.Cl
open PySem L2
noncomputable def headsL (m : Int) (sh : List Dd) (qs : List Rat) : List Int := (List.range m.toNat).map fun (j : Nat) => hdI qs sh (j : Int)
noncomputable def topsL (m : Int) (sh : List Dd) (qs : List Rat) : List Int := (List.range m.toNat).map fun (j : Nat) => tpI qs sh (j : Int)
noncomputable def ratesL (n : Nat) (hd : Int → Int) (g : List Int) (fs : List Rat) (i : Nat) : List Rat := (List.range n).map fun (j : Nat) => if (j : Int) ∈ g.take i then (hd (j : Int) : Rat) * uL g (fun k => gR fs (k : Nat)) (j : Int) else 0
noncomputable def grownL (n : Nat) (qs gs : List Rat) (t : Rat) : List Rat := (List.range n).map fun (j : Nat) => gR qs (j : Nat) + gR gs (j : Nat) * t
def optRD : Option Rat → D
  | none => .non
  | some t => pR t
structure RoomOk (n : Nat) (tp : Nat → Int) (qs gs : List Rat) (o : Option Rat) : Prop where
  le : ∀ j : Nat, j < n → 0 < gR gs (j : Nat) → ∃ t, o = some t ∧ t ≤ ((tp j : Rat) - gR qs (j : Nat)) / gR gs (j : Nat)
  at_ : ∀ t, o = some t → ∃ j : Nat, j < n ∧ 0 < gR gs (j : Nat) ∧ t = ((tp j : Rat) - gR qs (j : Nat)) / gR gs (j : Nat)
theorem RoomOk.start {tp : Nat → Int} {qs gs : List Rat} : RoomOk 0 tp qs gs none := ⟨fun j h => by omega, fun t h => by cases h⟩
theorem RoomOk.keep {n : Nat} {tp : Nat → Int} {qs gs : List Rat} {t : Rat} (h : RoomOk n tp qs gs (some t)) (hn : ¬ ((tp n : Rat) - gR qs (n : Nat)) / gR gs (n : Nat) < t) : RoomOk (n + 1) tp qs gs (some t) := ⟨fun j hj hg => by
  by_cases e : j = n
  · subst e; exact ⟨t, rfl, Rat.not_lt.mp hn⟩
  · exact h.le j (by omega) hg, fun t ht => by
    obtain ⟨j, a, b⟩ := h.at_ t ht
    exact ⟨j, by omega, b⟩⟩
theorem RoomOk.take {n : Nat} {tp : Nat → Int} {qs gs : List Rat} {o : Option Rat} (h : RoomOk n tp qs gs o) (hg : 0 < gR gs (n : Nat)) (hk : ∀ t, o = some t → ((tp n : Rat) - gR qs (n : Nat)) / gR gs (n : Nat) ≤ t) : RoomOk (n + 1) tp qs gs (some (((tp n : Rat) - gR qs (n : Nat)) / gR gs (n : Nat))) := ⟨fun j hj hgj => by
  by_cases e : j = n
  · subst e; exact ⟨_, rfl, Rat.le_refl⟩
  · obtain ⟨t, e1, e2⟩ := h.le j (by omega) hgj
    exact ⟨_, rfl, Rat.le_trans (hk t e1) e2⟩, fun t ht => ⟨n, by omega, hg, (Option.some.inj ht).symm⟩⟩
end Ab.Cl

namespace Ab.Cl
open PySem L2
def inI (sm : List Dd) (p : Int) : Int := (sm.map fun x => if x.b = p then x.c else 0).sum
structure StepN (m : Int) (N N' : Int) (qs' : List Rat) (σ' : Rat) : Prop where
  pos : 0 < N'
  all : AllWh m N' qs'
  sg : Wh N' σ'
end Ab.Cl

namespace Ab.Cl
open PySem L2
structure GrowOk (m : Int) (sh : List Dd) (qs : List Rat) (B T P R : Nat) (d : Int) (V : Int → Int) (v : Int → Rat) (gs : List Rat) : Prop where
  d0 : d ≠ 0
  dB : d.natAbs ≤ P * B ^ m.toNat
  VB : ∀ j, (V j).natAbs ≤ P * B ^ m.toNat
  ve : ∀ j, v j = (V j : Rat) / (d : Rat)
  v0 : ∀ j, 0 ≤ v j
  gl : (gs.length : Int) = m
  ge : ∀ j : Int, 0 ≤ j → j < m → gR gs j = (hdI qs sh j : Rat) * v j
  gz : ∀ q ∈ gs, SzR (T * m.toNat + R + T + 2) q
end Ab.Cl

namespace Ab.Cl
open PySem L2
def allC (sh : List Dd) : Int := (sh.map Dd.c).sum
section
variable {m : Int} {sh : List Dd} {qs : List Rat} {ps : List Int}
structure Clrd (m : Int) (sh : List Dd) (ps : List Int) (qs : List Rat) : Prop where
  hl : (qs.length : Int) = m
  q0 : ∀ j : Int, 0 ≤ j → j < m → 0 ≤ gR qs j ∧ gR qs j ≤ (rkT sh j : Rat)
  eq : ∀ j r : Int, 0 ≤ j → j < m → stQ qs sh j = some r → gR qs j = (gI ps j : Rat) + gotP qs sh sh j
  ge : ∀ j : Int, 0 ≤ j → j < m → stQ qs sh j = none → (rkT sh j : Rat) ≤ (gI ps j : Rat) + gotP qs sh sh j
  ns : NoShut m sh qs
theorem ClI.done (I : ClI m sh ps qs 0) (h : NoShut m sh qs) : Clrd m sh ps qs := ⟨I.hl, I.q0, fun j r h0 h1 e => by rw [I.eq j r h0 h1 e]; grind, fun j h0 h1 e => by have := I.ge j h0 h1 e; grind, h⟩
end
end Ab.Cl

namespace Ab.Cl
open PySem L2
section
variable {m : Int} {sh : List Dd} {ps : List Int} {qs gs : List Rat} {σ : Rat} {B T P R : Nat} {d : Int} {V : Int → Int} {v : Int → Rat} {o : Option Rat} {t : Rat}
structure StepOk (m : Int) (sh : List Dd) (ps : List Int) (qs : List Rat) (σ : Rat) (N : Int) (qs' : List Rat) (σ' : Rat) (N' : Int) : Prop where
  inv : ClI m sh ps qs' σ'
  pos : 0 < N'
  all : AllWh m N' qs'
  sg : Wh N' σ'
  less : openN m sh qs' + (if σ' = 0 then 0 else 1) < openN m sh qs + (if σ = 0 then 0 else 1)
  up : ∀ j : Int, 0 ≤ j → j < m → gR qs j ≤ gR qs' j
end
end Ab.Cl

namespace Ab.Cl
open PySem L2
section
variable {m : Int} {sh : List Dd} {ps : List Int} {qs rs : List Rat}
theorem Clrd.le (hs : ∀ x ∈ sh, x.Ok m) (C : Clrd m sh ps qs) (j : Int) (h0 : 0 ≤ j) (h1 : j < m) : gR qs j ≤ (gI ps j : Rat) + gotP qs sh sh j := by
  cases e : stQ qs sh j with
  | none => exact Rat.le_trans (C.q0 j h0 h1).2 (C.ge j h0 h1 e)
  | some r => rw [← C.eq j r h0 h1 e]; exact Rat.le_refl
end
end Ab.Cl

namespace Ab.Cl
open PySem L2
def FB (m : Int) (sh : List Dd) (ps : List Int) : Prop := (sh.length ≤ 57 ∧ (∀ x ∈ sh, x.c ≤ 12) ∧ ∀ z ∈ ps, z ≤ 40) ∨ (sh.length ≤ 12 ∧ ∀ z ∈ ps, z ≤ 100000000000000) ∨ (m ≤ 6 ∧ sh.length ≤ 16 ∧ ∀ z ∈ ps, z ≤ 100000000000000)
theorem allC_le {b : Int} {sh : List Dd} (h : ∀ x ∈ sh, x.c ≤ b) : allC sh ≤ b * (sh.length : Int) := by
  unfold allC
  induction sh with
  | nil => simp
  | cons x xs ih =>
    rw [List.map_cons, List.sum_cons, List.length_cons]
    have h1 := h x (by simp)
    have h2 := ih fun y hy => h y (by simp [hy])
    have : b * (((xs.length + 1 : Nat)) : Int) = b * (xs.length : Int) + b := by
      rw [Int.natCast_add, Int.mul_add]; simp
    omega
theorem FB.params {m : Int} {sh : List Dd} {ps : List Int} (hs : ∀ x ∈ sh, x.Ok m) (m0 : 0 ≤ m) (m1 : m ≤ 9) (h : FB m sh ps) : ∃ B T K : Nat, 0 < T ∧ T ≤ 60 ∧ B < 2 ^ T ∧ 1 ≤ B ∧ 2 * allC sh ≤ B ∧ (∀ z ∈ ps, allC sh + z ≤ B) ∧ min sh.length 27 + 1 ≤ K ∧
    2 * (1 + (T * m.toNat + T + 1) * K) + T * m.toNat + 3 * T + 10 ≤ 13000 + 2 * (T * m.toNat + T + 1) ∧ 1 + (T * m.toNat + T + 1) * K ≤ 6124 := by
  have hc : ∀ x ∈ sh, x.c ≤ 1000000000000 := fun x hx => by
    have := hs x hx
    unfold Dd.Ok at this
    omega
  rcases h with ⟨l, c, p⟩ | ⟨l, p⟩ | ⟨m6, l, p⟩
  · have := allC_le c
    refine ⟨1400, 11, 28, by decide, by decide, by decide, by decide, by omega, fun z hz => ?_, by omega, by omega, by omega⟩
    have := p z hz
    omega
  · have := allC_le hc
    refine ⟨112000000000000, 47, 13, by decide, by decide, by decide, by decide, by omega, fun z hz => ?_, by omega, by omega, by omega⟩
    have := p z hz
    omega
  · have := allC_le hc
    refine ⟨116000000000000, 47, 17, by decide, by decide, by decide, by decide, by omega, fun z hz => ?_, by omega, by omega, by omega⟩
    have := p z hz
    omega
theorem FB.len {m : Int} {sh : List Dd} {ps : List Int} (h : FB m sh ps) : sh.length ≤ 57 := by
  rcases h with ⟨l, c, p⟩ | ⟨l, p⟩ | ⟨m6, l, p⟩ <;> omega
def turnD (sh : List Dd) : List Dd := sh.map fun x => ⟨x.b, x.a, x.r, x.c⟩
end Ab.Cl

namespace Ab.Cl
open PySem L2
section
variable {m : Int} {sh : List Dd} {ps : List Int} {qs : List Rat} {j r : Int}
def endR (qs : List Rat) (sh : List Dd) (ps : List Int) (j : Int) : Rat := (gI ps j : Rat) + gotP qs sh sh j - gR qs j
def endL (m : Int) (qs : List Rat) (sh : List Dd) (ps : List Int) : List Rat := (List.range m.toNat).map fun (k : Nat) => endR qs sh ps k
theorem Clrd.nn (C : Clrd m sh ps qs) : ∀ k : Int, 0 ≤ k → k < m → 0 ≤ gR qs k := fun k h0 h1 => (C.q0 k h0 h1).1
theorem rsum_int : ∀ {v : List Int}, ((v.sum : Int) : Rat) = (v.map fun z => ((z : Int) : Rat)).sum
  | [] => by simp
  | x :: xs => by rw [List.sum_cons, List.map_cons, List.sum_cons, Rat.intCast_add, rsum_int (v := xs)]
end
end Ab.Cl

namespace Ab.Cl
open PySem L2
section
variable {m : Int} {sh : List Dd} {ps : List Int} {qs q0 : List Rat} {j r : Int}
def itR (m : Int) (sh : List Dd) (ps : List Int) (q0 : List Rat) : Nat → List Rat
  | 0 => q0
  | n + 1 => nextRL m (itR m sh ps q0 n) sh ps
theorem Clrd.pos (C : Clrd m sh ps qs) : posL qs = qs := posL_self fun q hq => by
  obtain ⟨i, hi, rfl⟩ := List.mem_iff_getElem.mp hq
  have := C.q0 (i : Int) (by omega) (by have := C.hl; omega)
  rw [gR_nat hi] at this
  exact this.1
end
end Ab.Cl

namespace Ab.Cl
open PySem L2
def bL (g : List Bool) : List D := g.map D.bl
theorem cnt_all : ∀ {g : List Bool}, g.length ≤ g.count true → ∀ (j : Nat) (b : Bool), g[j]? = some b → b = true
  | [], _, j, b, e => by simp at e
  | a :: g, h, j, b, e => by
    have hc := List.count_le_length (a := true) (l := g)
    rw [List.count_cons, List.length_cons] at h
    cases a with
    | true =>
      cases j with
      | zero => simp at e; exact e
      | succ j => exact cnt_all (g := g) (by simp at h; omega) j b (by simpa using e)
    | false => simp at h; omega
section
variable {m : Int} {sh : List Dd} {qs : List Rat}
structure GI (m : Int) (sh : List Dd) (qs : List Rat) (g : List Bool) : Prop where
  gl : (g.length : Int) = m
  g0 : ∀ j : Nat, (j : Int) < m → stQ qs sh j = none → g[j]? = some true
def Closed (sh : List Dd) (qs : List Rat) (g : List Bool) : Prop := ∀ x ∈ someD qs sh, g[x.b.toNat]? = some true → g[x.a.toNat]? = some true
def g0L (m : Int) (qs : List Rat) (sh : List Dd) : List Bool := (List.range m.toNat).map fun (j : Nat) => (stQ qs sh j).isNone
structure TI (m : Int) (sh : List Dd) (qs : List Rat) (g : List Bool) (n : Nat) (g' : List Bool) : Prop where
  gi : GI m sh qs g'
  up : ∀ j : Nat, g[j]? = some true → g'[j]? = some true
  dn : ∀ x ∈ sh.take n, x ∈ someD qs sh → g[x.b.toNat]? = some true → g'[x.a.toNat]? = some true
  st : Closed sh qs g → g' = g
theorem TI.mark {n : Nat} {x : Dd} {g g' : List Bool} (T : TI m sh qs g n g') (hn : sh[n]? = some x) (hx : x ∈ someD qs sh) (ha : x.a.toNat < g'.length) (hb : g'[x.b.toNat]? = some true) : TI m sh qs g (n + 1) (g'.set x.a.toNat true) := by
  have keep : ∀ j : Nat, g'[j]? = some true → (g'.set x.a.toNat true)[j]? = some true := fun j e => by
    by_cases c : x.a.toNat = j
    · subst c
      rw [List.getElem?_set_self ha]
    · rw [List.getElem?_set_ne c]
      exact e
  refine ⟨⟨by rw [List.length_set]; exact T.gi.gl, fun j hj e => keep j (T.gi.g0 j hj e)⟩, fun j e => keep j (T.up j e), fun y hy hs hb => ?_, fun hc => ?_⟩
  · rw [take_succ_of hn, List.mem_append, List.mem_singleton] at hy
    rcases hy with hy | rfl
    · exact keep _ (T.dn y hy hs hb)
    · exact List.getElem?_set_self ha
  · have e := T.st hc
    subst e
    have h1 := hc x hx hb
    refine List.ext_getElem? fun j => ?_
    by_cases c : x.a.toNat = j
    · subst c
      rw [List.getElem?_set_self ha, h1]
    · rw [List.getElem?_set_ne c]
def TnI (m : Int) (sh : List Dd) (qs : List Rat) (i : Nat) (g : List Bool) : Prop := GI m sh qs g ∧ (Closed sh qs g ∨ i ≤ g.count true)
theorem TnI.all {g : List Bool} (hs : ∀ x ∈ sh, x.Ok m) (h : TnI m sh qs m.toNat g) (hN : NoShut m sh qs) : ∀ (j : Nat) (b : Bool), g[j]? = some b → b = true := by
  have hgl := h.1.gl
  rcases h.2 with c | c
  · intro j b e
    cases b with
    | true => rfl
    | false =>
      have hj := (List.getElem?_eq_some_iff.mp e).1
      refine absurd ⟨by omega, by omega, e⟩ (hN (fun k => 0 ≤ k ∧ k < m ∧ g[k.toNat]? = some false) (fun k ⟨k0, k1, k2⟩ => ⟨k0, k1, fun en => ?_⟩) (fun x hx ⟨a0, a1, a2⟩ => ?_) (j : Int))
      · have := h.1.g0 k.toNat (by omega) (by rw [show ((k.toNat : Nat) : Int) = k by omega]; exact en)
        rw [this] at k2
        cases k2
      · have ho := hs x (some_c x hx).2.1
        unfold Dd.Ok at ho
        refine ⟨by omega, by omega, ?_⟩
        have eb : g[x.b.toNat]? = some g[x.b.toNat] := List.getElem?_eq_getElem (by omega)
        cases e : g[x.b.toNat] with
        | true =>
          rw [e] at eb
          rw [c x hx eb] at a2
          cases a2
        | false => rw [e] at eb; exact eb
  · exact cnt_all (by omega)
theorem mem_some {x : Dd} : x ∈ someD qs sh ↔ x ∈ sh ∧ 0 < x.c ∧ stQ qs sh x.a = some x.r := by
  unfold someD
  rw [List.mem_filter]
  simp
inductive Road (sh : List Dd) (st : Int → Option Int) : Int → List Int → List Int → Prop
  | nil {j : Int} : st j = none → Road sh st j [] []
  | cons {n : Nat} {x : Dd} {rd cs : List Int} : sh[n]? = some x → 0 < x.c → st x.a = some x.r → Road sh st x.b rd cs → x.a ∉ cs → Road sh st x.a ((n : Int) :: rd) (x.a :: cs)
theorem Road.len {st : Int → Option Int} {j : Int} {rd cs : List Int} (h : Road sh st j rd cs) : rd.length = cs.length := by
  induction h with
  | nil => rfl
  | cons _ _ _ _ _ ih => simp [ih]
theorem Road.nd {st : Int → Option Int} {j : Int} {rd cs : List Int} (h : Road sh st j rd cs) : cs.Nodup := by
  induction h with
  | nil => exact List.nodup_nil
  | cons _ _ _ _ h2 ih => exact List.nodup_cons.mpr ⟨h2, ih⟩
theorem Road.mem {st : Int → Option Int} {j : Int} {rd cs : List Int} (hs : ∀ x ∈ sh, x.Ok m) (h : Road sh st j rd cs) : ∀ p ∈ cs, 0 ≤ p ∧ p < m := by
  induction h with
  | nil => intro p hp; cases hp
  | cons hn _ _ _ _ ih =>
    intro p hp
    rcases List.mem_cons.mp hp with rfl | hp
    · have := hs _ (List.mem_of_getElem? hn)
      unfold Dd.Ok at this
      omega
    · exact ih p hp
theorem Road.le {st : Int → Option Int} {j : Int} {rd cs : List Int} (hs : ∀ x ∈ sh, x.Ok m) (h : Road sh st j rd cs) : rd.length ≤ m.toNat := by
  rw [h.len]
  have := nodup_len (s := (List.range m.toNat).map fun (k : Nat) => (k : Int)) h.nd fun p hp => by
    have := h.mem hs p hp
    exact List.mem_map.mpr ⟨p.toNat, List.mem_range.mpr (by omega), by show ((p.toNat : Nat) : Int) = p; omega⟩
  simpa using this
structure RdI (m : Int) (sh : List Dd) (qs : List Rat) (g : List Bool) (M : List (List Int)) : Prop where
  ml : (M.length : Int) = m
  rd : ∀ j : Nat, g[j]? = some true → ∃ r cs, M[j]? = some r ∧ Road sh (stQ qs sh) j r cs ∧ ∀ p ∈ cs, g[p.toNat]? = some true
  no : ∀ (j : Nat) (r : List Int), M[j]? = some r → r.length ≤ m.toNat
theorem RdI.mark {n : Nat} {x : Dd} {g : List Bool} {M : List (List Int)} {r : List Int} (hs : ∀ x ∈ sh, x.Ok m) (gl : (g.length : Int) = m) (R : RdI m sh qs g M) (hn : sh[n]? = some x) (hx : x ∈ someD qs sh) (hb : g[x.b.toNat]? = some true) (ha : g[x.a.toNat]? = some false) (hr : M[x.b.toNat]? = some r) :
    r.length < m.toNat ∧ RdI m sh qs (g.set x.a.toNat true) (M.set x.a.toNat ((n : Int) :: r)) := by
  have ho := hs x (List.mem_of_getElem? hn)
  unfold Dd.Ok at ho
  obtain ⟨_, hc, hst⟩ := mem_some.mp hx
  have ml := R.ml
  obtain ⟨r', cs, e1, h1, h2⟩ := R.rd _ hb
  rw [hr] at e1
  cases e1
  rw [show ((x.b.toNat : Nat) : Int) = x.b by omega] at h1
  have hnot : x.a ∉ cs := fun h => by
    rw [h2 x.a h] at ha
    cases ha
  have hR : Road sh (stQ qs sh) x.a ((n : Int) :: r) (x.a :: cs) := .cons hn hc hst h1 hnot
  have hle := hR.le hs
  rw [List.length_cons] at hle
  have keep : ∀ j : Nat, g[j]? = some true → (g.set x.a.toNat true)[j]? = some true := fun j e => by
    by_cases c : x.a.toNat = j
    · subst c
      rw [List.getElem?_set_self (by omega)]
    · rw [List.getElem?_set_ne c]
      exact e
  refine ⟨by omega, by rw [List.length_set]; exact ml, fun j e => ?_, fun j r2 e => ?_⟩
  · by_cases c : x.a.toNat = j
    · subst c
      refine ⟨_, _, List.getElem?_set_self (by omega), by rw [show ((x.a.toNat : Nat) : Int) = x.a by omega]; exact hR, fun p hp => ?_⟩
      rcases List.mem_cons.mp hp with rfl | hp
      · exact List.getElem?_set_self (by omega)
      · exact keep _ (h2 p hp)
    · rw [List.getElem?_set_ne c] at e ⊢
      obtain ⟨r3, cs3, e3, h3, h4⟩ := R.rd j e
      exact ⟨r3, cs3, e3, h3, fun p hp => keep _ (h4 p hp)⟩
  · by_cases c : x.a.toNat = j
    · subst c
      rw [List.getElem?_set_self (by omega)] at e
      cases e
      rw [List.length_cons]
      omega
    · rw [List.getElem?_set_ne c] at e
      exact R.no j r2 e
end
end Ab.Cl

namespace Ab
open PySem PySem.Spec PyProof.Rows L2
section
variable {X : Cx} {g : Gi} {W : WX} {K : PySem.W.Frag}
def isBW (neg : Bool) : D → D → Sto → KD → Prop
  | .bl a, .bl b, S, k => k (.bl (if neg then !decide (a = b) else decide (a = b))) S
  | _, _, _, _ => False
theorem isBW_bb {neg a b : Bool} {S : Sto} {k : KD} : isBW neg (.bl a) (.bl b) S k = k (.bl (if neg then !decide (a = b) else decide (a = b))) S := id rfl
end
end Ab

namespace Ab.Cl
open PySem L2
section
variable {m : Int} {sh : List Dd} {qs : List Rat} {fr : Dd → Bool}
def freeQ (qs : List Rat) (sh : List Dd) (x : Dd) : Bool := (stQ qs sh x.a).isNone && (stQ qs sh x.b).isNone
def amtF (fr : Dd → Bool) (sh : List Dd) : List Int := sh.map fun x => if fr x then x.c else 0
def safeL (fr : Dd → Bool) (sh : List Dd) (left : List Int) : List Int := List.zipWith (fun x l => if fr x then l else x.c) sh left
end
end Ab.Cl

namespace Ab.Cl
open PySem L2
section
variable {m : Int} {sh : List Dd} {ps : List Int} {qs : List Rat} {left told : List Int} {j r : Int}
theorem st_full (hs : ∀ x ∈ sh, x.Ok m) (h : ((rkT sh j : Int) : Rat) ≤ gR qs j) : stQ qs sh j = none := by
  cases e : stQ qs sh j with
  | none => rfl
  | some r =>
    exfalso
    have n := rk_nn (j := j) hs
    have h1 : ((rkI sh j 0 : Int) : Rat) ≤ gR qs j := Rat.le_trans (Rat.intCast_le_intCast.mpr (by unfold rkT; omega)) h
    have h2 : ((rkI sh j 0 + rkI sh j 1 : Int) : Rat) ≤ gR qs j := Rat.le_trans (Rat.intCast_le_intCast.mpr (by unfold rkT; omega)) h
    have h3 : ((rkI sh j 0 + rkI sh j 1 + rkI sh j 2 : Int) : Rat) ≤ gR qs j := h
    unfold stQ rkRow at e
    rcases stop_cases (gR qs j) (rkI sh j 0) (rkI sh j 1) (rkI sh j 2) with ⟨e2, g1⟩ | ⟨e2, g1, g2⟩ | ⟨e2, g1, g2, g3⟩ | ⟨e2, g1, g2, g3⟩
    · exact absurd h1 (Rat.not_le.mpr g1)
    · exact absurd h2 (Rat.not_le.mpr g2)
    · exact absurd h3 (Rat.not_le.mpr g3)
    · rw [e2] at e; cases e
theorem rk_mem (hs : ∀ x ∈ sh, x.Ok m) {x : Dd} (hx : x ∈ sh) : x.c ≤ rkI sh x.a x.r := rkI_mem hs hx
theorem pay_full (hs : ∀ x ∈ sh, x.Ok m) {x : Dd} (hx : x ∈ sh) (h0 : 0 ≤ gR qs x.a) (h : gR qs x.a = (rkT sh x.a : Rat)) : payR qs sh x = (x.c : Rat) := by
  have ho := hs x hx
  unfold Dd.Ok at ho
  have hc := rk_mem hs hx
  by_cases e : rkI sh x.a x.r = 0
  · rw [payR_nil e, show x.c = 0 by omega]
    rfl
  · rw [payR_clamp hs hx h0 e]
    have hah := (ah_nn (j := x.a) (r := x.r) hs (by omega) (by omega)).2.2
    have h1 : ((ahI sh x.a x.r + rkI sh x.a x.r : Int) : Rat) ≤ gR qs x.a := by rw [h]; exact Rat.intCast_le_intCast.mpr hah
    rw [Rat.intCast_add] at h1
    have hm : ((rkI sh x.a x.r : Int) : Rat) ≠ 0 := by exact_mod_cast e
    have hm0 : (0 : Rat) < ((rkI sh x.a x.r : Int) : Rat) := by
      have : (0 : Int) < rkI sh x.a x.r := by
        have := rkI_nonneg (j := x.a) (r := x.r) hs
        omega
      exact_mod_cast this
    have : clampR (gR qs x.a) (ahI sh x.a x.r : Int) (rkI sh x.a x.r : Int) = ((rkI sh x.a x.r : Int) : Rat) := by
      unfold clampR
      grind
    rw [this]
    grind
theorem withA_sum {β : Type} [Add β] [Zero β] {f : Dd → β} : ∀ {sh : List Dd} {told : List Int}, told.length = sh.length → (∀ (i : Nat) (x : Dd), sh[i]? = some x → f ⟨x.a, x.b, x.r, gI told i⟩ = f x) → ((withA sh told).map f) = (sh.map f)
  | [], [], _, _ => rfl
  | x :: sh, t :: told, hl, h => by
    show f ⟨x.a, x.b, x.r, t⟩ :: (withA sh told).map f = f x :: sh.map f
    rw [withA_sum (f := f) (sh := sh) (told := told) (by simpa using hl) fun i y e => by
      have := h (i + 1) y (by simpa using e)
      simpa [gI] using this]
    have := h 0 x (by simp)
    simp [gI] at this
    rw [this]
def cutQ (m : Int) (qs : List Rat) (sh less : List Dd) : List Rat := (List.range m.toNat).map fun (k : Nat) => if (stQ qs sh k).isNone then ((rkT less k : Int) : Rat) else gR qs k
theorem cutQ_len {less : List Dd} : (cutQ m qs sh less).length = m.toNat := by unfold cutQ; simp
theorem cutQ_get {less : List Dd} (h0 : 0 ≤ j) (h1 : j < m) : gR (cutQ m qs sh less) j = if (stQ qs sh j).isNone then ((rkT less j : Int) : Rat) else gR qs j := by
  obtain ⟨k, rfl⟩ : ∃ k : Nat, j = (k : Int) := ⟨j.toNat, by omega⟩
  rw [gR_nat (by rw [cutQ_len]; omega)]
  unfold cutQ
  simp
end
end Ab.Cl

namespace Ab.Cl
open PySem L2
section
variable {m : Int} {sh : List Dd} {ps : List Int} {qs : List Rat} {told : List Int} {j r : Int}
structure CutT (m : Int) (sh : List Dd) (qs : List Rat) (told : List Int) : Prop where
  tl : told.length = sh.length
  rg : ∀ (i : Nat) (x : Dd), sh[i]? = some x → 0 ≤ gI told i ∧ gI told i ≤ x.c ∧ (freeQ qs sh x = false → gI told i = x.c)
  fl : ∀ j, flows sh told j = flows sh (sh.map Dd.c) j
theorem CutT.ok (hs : ∀ x ∈ sh, x.Ok m) (T : CutT m sh qs told) : ∀ x ∈ withA sh told, x.Ok m := withA_ok hs fun z hz => by
  obtain ⟨i, hi⟩ := List.mem_iff_getElem?.mp hz
  have hil := (List.getElem?_eq_some_iff.mp hi).1
  have tl := T.tl
  have hx : sh[i]? = some sh[i] := List.getElem?_eq_getElem (by omega)
  have h1 := T.rg i _ hx
  have h2 := hs _ (List.mem_of_getElem? hx)
  unfold Dd.Ok at h2
  rw [gI_nat hil, (List.getElem?_eq_some_iff.mp hi).2] at h1
  omega
theorem not_free_a {x : Dd} (h : stQ qs sh x.a = some r) : freeQ qs sh x = false := by unfold freeQ; rw [h]; rfl
theorem CutT.rk (T : CutT m sh qs told) (h : stQ qs sh j = some r) (r' : Int) : rkI (withA sh told) j r' = rkI sh j r' := by
  unfold rkI
  rw [withA_sum (f := fun x : Dd => if x.a = j ∧ x.r = r' then x.c else 0) T.tl fun i x hx => by
    by_cases c : x.a = j ∧ x.r = r'
    · have := (T.rg i x hx).2.2 (not_free_a (by rw [c.1]; exact h))
      simp only [c, and_self, if_true]
      exact this
    · simp only [c, if_false]]
theorem CutT.row (T : CutT m sh qs told) (h : stQ qs sh j = some r) : rkRow (withA sh told) j = rkRow sh j := by
  unfold rkRow
  rw [T.rk h, T.rk h, T.rk h]
theorem CutT.rkT (T : CutT m sh qs told) (h : stQ qs sh j = some r) : Ab.rkT (withA sh told) j = Ab.rkT sh j := by
  unfold Ab.rkT
  rw [T.rk h, T.rk h, T.rk h]
theorem CutT.qn (h0 : 0 ≤ j) (h1 : j < m) (h : stQ qs sh j = none) : gR (cutQ m qs sh (withA sh told)) j = ((Ab.rkT (withA sh told) j : Int) : Rat) := by
  rw [cutQ_get h0 h1, h]
  rfl
theorem CutT.qo (h0 : 0 ≤ j) (h1 : j < m) (h : stQ qs sh j = some r) : gR (cutQ m qs sh (withA sh told)) j = gR qs j := by
  rw [cutQ_get h0 h1, h]
  rfl
theorem CutT.st (hs : ∀ x ∈ sh, x.Ok m) (T : CutT m sh qs told) (h0 : 0 ≤ j) (h1 : j < m) : stQ (cutQ m qs sh (withA sh told)) (withA sh told) j = stQ qs sh j := by
  cases e : stQ qs sh j with
  | none =>
    refine st_full (T.ok hs) ?_
    rw [CutT.qn h0 h1 e]
    exact Rat.le_refl
  | some r =>
    unfold stQ
    rw [CutT.qo h0 h1 e, T.row e]
    exact e
theorem CutT.full (C : Clrd m sh ps qs) (h0 : 0 ≤ j) (h1 : j < m) (h : stQ qs sh j = none) : gR qs j = ((Ab.rkT sh j : Int) : Rat) := by
  have := (C.q0 j h0 h1).2
  have := st_none h
  grind
theorem CutT.pay (hs : ∀ x ∈ sh, x.Ok m) (C : Clrd m sh ps qs) (T : CutT m sh qs told) (i : Nat) (x : Dd) (hx : sh[i]? = some x) : payR (cutQ m qs sh (withA sh told)) (withA sh told) ⟨x.a, x.b, x.r, gI told i⟩ = payR qs sh x - ((x.c - gI told i : Int) : Rat) := by
  have hm := List.mem_of_getElem? hx
  have ho := hs x hm
  unfold Dd.Ok at ho
  cases e : stQ qs sh x.a with
  | some r =>
    rw [(T.rg i x hx).2.2 (not_free_a e), Int.sub_self]
    unfold payR laidA
    dsimp only
    rw [T.rk e, T.row e, CutT.qo (by omega) (by omega) e]
    simp
    grind
  | none =>
    have h1 := CutT.full C (by omega) (by omega) e
    have h2 := CutT.qn (m := m) (told := told) (by omega) (by omega) e
    have hx2 := withA_get hx (as := told) (by rw [T.tl]; exact (List.getElem?_eq_some_iff.mp hx).1)
    have hp := pay_full (T.ok hs) (List.mem_of_getElem? hx2) (by show 0 ≤ gR _ x.a; rw [h2]; exact_mod_cast rkT_nonneg (T.ok hs)) h2
    rw [hp, pay_full hs hm (C.q0 x.a (by omega) (by omega)).1 h1, Rat.intCast_sub]
    grind
theorem CutT.free (hs : ∀ x ∈ sh, x.Ok m) (T : CutT m sh qs told) {x : Dd} (hx : x ∈ sh) {c : Int} : freeQ (cutQ m qs sh (withA sh told)) (withA sh told) ⟨x.a, x.b, x.r, c⟩ = freeQ qs sh x := by
  have ho := hs x hx
  unfold Dd.Ok at ho
  unfold freeQ
  dsimp only
  rw [T.st hs (by omega) (by omega), T.st hs (by omega) (by omega)]
end
end Ab.Cl

namespace Ab.Cl
open PySem L2
structure RdC (S : Sto) (pm pr : Nat) (cs : List Nat) (g : List Bool) (M : List (List Int)) : Prop where
  mc : S[pm]? = some (.lst (cs.map D.cell))
  rc : S[pr]? = some (.lst (bL g))
  mr : pm ≠ pr
  cl : cs.length = M.length
  nd : cs.Nodup
  ce : ∀ (i p : Nat) (r : List Int), cs[i]? = some p → M[i]? = some r → S[p]? = some (.lst (vI r))
  ne : ∀ (i p : Nat), cs[i]? = some p → p ≠ pm ∧ p ≠ pr
theorem RdC.lt {S : Sto} {pm pr : Nat} {cs : List Nat} {g : List Bool} {M : List (List Int)} (h : RdC S pm pr cs g M) {i p : Nat} (e : cs[i]? = some p) : p < S.length := by
  have hi := (List.getElem?_eq_some_iff.mp e).1
  have := h.cl
  have eM : M[i]? = some M[i] := List.getElem?_eq_getElem (by omega)
  exact (List.getElem?_eq_some_iff.mp (h.ce i p _ e eM)).1
theorem RdC.mark {S : Sto} {pm pr : Nat} {cs : List Nat} {g : List Bool} {M : List (List Int)} {a : Nat} {r : List Int} (h : RdC S pm pr cs g M) (ha : a < cs.length) : RdC (((S ++ [Cel.lst (vI r)]).set pm (.lst ((cs.set a S.length).map D.cell))).set pr (.lst (bL (g.set a true)))) pm pr (cs.set a S.length) (g.set a true) (M.set a r) := by
  have l1 := (List.getElem?_eq_some_iff.mp h.mc).1
  have l2 := (List.getElem?_eq_some_iff.mp h.rc).1
  have hl : (S ++ [Cel.lst (vI r)]).length = S.length + 1 := by rw [List.length_append]; rfl
  have get : ∀ p, p ≠ pm → p ≠ pr → (((S ++ [Cel.lst (vI r)]).set pm (.lst ((cs.set a S.length).map D.cell))).set pr (.lst (bL (g.set a true))))[p]? = (S ++ [Cel.lst (vI r)])[p]? := fun p h1 h2 => by
    rw [List.getElem?_set_ne (Ne.symm h2), List.getElem?_set_ne (Ne.symm h1)]
  refine ⟨?_, ?_, h.mr, by rw [List.length_set, List.length_set]; exact h.cl, ?_, fun i p r' e1 e2 => ?_, fun i p e => ?_⟩
  · rw [List.getElem?_set_ne (Ne.symm h.mr), List.getElem?_set_self (by omega)]
  · rw [List.getElem?_set_self (by rw [List.length_set]; omega)]
  · refine List.pairwise_iff_getElem.mpr fun x y hx hy hxy e => ?_
    rw [List.length_set] at hx hy
    rw [List.getElem_set, List.getElem_set] at e
    have lt : ∀ k (hk : k < cs.length), cs[k] < S.length := fun k hk => h.lt (List.getElem?_eq_getElem hk)
    split at e
    · split at e
      · omega
      · have := lt y hy; omega
    · split at e
      · have := lt x hx; omega
      · have h1 : cs[x]? = some cs[x] := List.getElem?_eq_getElem hx
        have h2 : cs[y]? = some cs[x] := by rw [e]; exact List.getElem?_eq_getElem hy
        have := nodup_ix h.nd h1 h2
        omega
  · by_cases c : a = i
    · subst c
      have hm : a < M.length := by have := h.cl; omega
      rw [List.getElem?_set_self ha] at e1
      rw [List.getElem?_set_self hm] at e2
      cases e1
      cases e2
      rw [get _ (by omega) (by omega), List.getElem?_append_right (Nat.le_refl _), Nat.sub_self]
      rfl
    · rw [List.getElem?_set_ne c] at e1 e2
      have hn := h.ne i p e1
      rw [get _ hn.1 hn.2, List.getElem?_append_left (h.lt e1)]
      exact h.ce i p r' e1 e2
  · by_cases c : a = i
    · subst c
      rw [List.getElem?_set_self ha] at e
      cases e
      omega
    · rw [List.getElem?_set_ne c] at e
      exact h.ne i p e
end Ab.Cl

namespace Ab.Cl
open PySem L2
def Addy (w : Dd → Rat) : Prop := ∀ a b r c d, w ⟨a, b, r, c + d⟩ = w ⟨a, b, r, c⟩ + w ⟨a, b, r, d⟩
theorem Addy.zero {w : Dd → Rat} (h : Addy w) (a b r : Int) : w ⟨a, b, r, 0⟩ = 0 := by
  have := h a b r 0 0
  rw [Int.add_zero] at this
  grind
structure Alike (sh sh' : List Dd) : Prop where
  sm : ∀ w : Dd → Rat, Addy w → (sh'.map w).sum = (sh.map w).sum
  mem : ∀ x ∈ sh, 0 < x.c → ∃ c, 0 < c ∧ (⟨x.a, x.b, x.r, c⟩ : Dd) ∈ sh'
section
variable {m : Int} {sh sh' sh2 : List Dd} {ps : List Int} {qs : List Rat}
theorem Alike.refl : Alike sh sh := ⟨fun _ _ => rfl, fun x hx hc => ⟨x.c, hc, hx⟩⟩
theorem Alike.trans (h1 : Alike sh sh') (h2 : Alike sh' sh2) : Alike sh sh2 := ⟨fun w hw => (h2.sm w hw).trans (h1.sm w hw), fun x hx hc => by
  obtain ⟨c, c0, hm⟩ := h1.mem x hx hc
  obtain ⟨d, d0, hd⟩ := h2.mem _ hm c0
  exact ⟨d, d0, hd⟩⟩
theorem rsum_app {xs ys : List Dd} {w : Dd → Rat} : ((xs ++ ys).map w).sum = (xs.map w).sum + (ys.map w).sum := by rw [List.map_append, List.sum_append]
theorem rsum_rev {w : Dd → Rat} : ∀ {xs : List Dd}, (xs.reverse.map w).sum = (xs.map w).sum
  | [] => rfl
  | x :: xs => by
    rw [List.reverse_cons, rsum_app, rsum_rev (xs := xs), List.map_cons, List.map_cons, List.sum_cons, List.map_nil, List.sum_cons, List.sum_nil]
    grind
theorem Alike.turn {t : Nat} : Alike sh (sh.drop t ++ sh.take t).reverse := ⟨fun w _ => by
  rw [rsum_rev, rsum_app]
  have := rsum_app (xs := sh.take t) (ys := sh.drop t) (w := w)
  rw [List.take_append_drop] at this
  rw [this]
  grind, fun x hx hc => ⟨x.c, hc, by
  rw [List.mem_reverse, List.mem_append]
  rw [← List.take_append_drop t sh, List.mem_append] at hx
  exact hx.symm⟩⟩
theorem Alike.none {a b r : Int} : Alike sh (sh ++ [⟨a, b, r, 0⟩]) := ⟨fun w hw => by
  rw [rsum_app, List.map_cons, List.map_nil, List.sum_cons, List.sum_nil, hw.zero]
  grind, fun x hx hc => ⟨x.c, hc, List.mem_append.mpr (.inl hx)⟩⟩
theorem Alike.split {i : Nat} {x : Dd} {c d : Int} (hx : sh[i]? = some x) (c0 : 0 ≤ c) (d0 : 0 ≤ d) (e : c + d = x.c) : Alike sh (sh.take i ++ [⟨x.a, x.b, x.r, c⟩] ++ sh.drop (i + 1) ++ [⟨x.a, x.b, x.r, d⟩]) := by
  have hi := (List.getElem?_eq_some_iff.mp hx).1
  have hsh : sh = sh.take i ++ (x :: sh.drop (i + 1)) := by
    have := List.drop_eq_getElem_cons hi
    rw [(List.getElem?_eq_some_iff.mp hx).2] at this
    rw [← this, List.take_append_drop]
  refine ⟨fun w hw => ?_, fun y hy hc => ?_⟩
  · have h1 : w x = w ⟨x.a, x.b, x.r, c⟩ + w ⟨x.a, x.b, x.r, d⟩ := by rw [← hw, e]
    rw [rsum_app, rsum_app, rsum_app]
    have h2 : (sh.map w).sum = ((sh.take i).map w).sum + (w x + ((sh.drop (i + 1)).map w).sum) := by
      conv => lhs; rw [hsh]
      rw [rsum_app, List.map_cons, List.sum_cons]
    rw [h2, h1]
    simp only [List.map_cons, List.map_nil, List.sum_cons, List.sum_nil]
    grind
  · rw [hsh, List.mem_append, List.mem_cons] at hy
    rcases hy with hy | rfl | hy
    · exact ⟨y.c, hc, by simp [hy]⟩
    · by_cases h : 0 < c
      · exact ⟨c, h, by simp⟩
      · exact ⟨d, by omega, by simp⟩
    · exact ⟨y.c, hc, by simp [hy]⟩
theorem Alike.rk (h : Alike sh sh') (j r : Int) : rkI sh' j r = rkI sh j r := by
  have := h.sm (fun x => ((if x.a = j ∧ x.r = r then x.c else 0 : Int) : Rat)) fun a b r' c d => by
    dsimp only
    split
    · rw [Rat.intCast_add]
    · grind
  unfold rkI
  refine Rat.intCast_inj.mp ?_
  rw [rsum_int, rsum_int, List.map_map, List.map_map]
  exact this
theorem Alike.allC (h : Alike sh sh') : Cl.allC sh' = Cl.allC sh := by
  have := h.sm (fun x => ((x.c : Int) : Rat)) fun a b r' c d => by dsimp only; rw [Rat.intCast_add]
  unfold Cl.allC
  refine Rat.intCast_inj.mp ?_
  rw [rsum_int, rsum_int, List.map_map, List.map_map]
  exact this
theorem Alike.row (h : Alike sh sh') (j : Int) : rkRow sh' j = rkRow sh j := by unfold rkRow; rw [h.rk, h.rk, h.rk]
theorem Alike.rkT (h : Alike sh sh') (j : Int) : Ab.rkT sh' j = Ab.rkT sh j := by unfold Ab.rkT; rw [h.rk, h.rk, h.rk]
theorem Alike.st (h : Alike sh sh') (j : Int) : stQ qs sh' j = stQ qs sh j := by unfold stQ; rw [h.row]
theorem Alike.pay (h : Alike sh sh') (x : Dd) : payR qs sh' x = payR qs sh x := by
  unfold payR laidA
  rw [h.rk, h.row]
theorem Alike.openN (h : Alike sh sh') : Cl.openN m sh' qs = Cl.openN m sh qs := by
  unfold Cl.openN ahI
  congr 1
  funext p
  rw [h.rk, h.row]
end
end Ab.Cl

namespace Ab.Cl
open PySem L2
def scaleD (n : Int) (sh : List Dd) : List Dd := sh.map fun x => ⟨x.a, x.b, x.r, x.c * n⟩
def scaleQ (n : Int) (qs : List Rat) : List Rat := qs.map fun q => q * (n : Rat)
section
variable {m n : Int} {sh : List Dd} {ps : List Int} {qs : List Rat} {j r : Int}
end
end Ab.Cl

namespace Ab
end Ab

namespace Ab.Cl
end Ab.Cl

namespace Ab
open PySem L2
def addB (a b : List Int) : List Int := List.zipWith (fun x y => x + y) a b
def meansR (ps : List Int) (rows : List (Str × List Int × List Int)) : List Int := rows.foldl (fun m x => addB m x.2.1) ps
structure MOk (n : Nat) (ps g : List Int) (s : LSt) : Prop where
  ln : (meansR ps s.rows).length = n
  gt : ∀ k : Nat, k < n → gI (meansR ps s.rows) k + gI s.rests k = gI ps k + gI g k
  lo : ∀ k : Nat, k < n → gI ps k ≤ gI (meansR ps s.rows) k
  rl : ∀ x ∈ s.rows, x.2.1.length = n ∧ ∀ k : Nat, k < n → 0 ≤ gI x.2.1 k
namespace Cl
section
variable {m : Int} {sh : List Dd} {ps : List Int} {qs : List Rat} {j : Int}
end
end Cl
end Ab

namespace Ab
open PySem PySem.Spec PyProof.Rows L2
abbrev keyScope : Scope := { kind := .function, names := [("day", .local), ("losses", .free)], isGenerator := false, isCoroutine := false, more := [] }
abbrev keyParams (pp : Pos) : Arguments := { posonlyargs := [], args := [{ arg := "day", annotation := none, pos := pp }], vararg := none, kwonlyargs := [], kw_defaults := [], kwarg := none, defaults := [] }
abbrev keyBody (j kk : Nat) (p0 p1 p2 p3 p4 p5 p6 : Pos) : Expr := .Tuple [.BinOp (.Constant (.int 0) j p0) .Sub (.Subscript (.Name "losses" p1) (.Name "day" p2) p3) p4, .Name "day" p5] kk p6
theorem run_key {prog : Program} {w : World} {A : Around} {s : Shared} {f c' cl aL : Addr} {q : Str} {j kk : Nat} {pp p0 p1 p2 p3 p4 p5 p6 : Pos} {pm ctv : Value} {clos : List (Str × Addr)} {items : List Value} {ns : List Int} {d : Int} {t : Tok}
    (hroom : A.depth < recursionLimit) (hlim : s.heap.NoLimit) (ho : s.heap.get? f = some (PySem.W.kla_obj "<lambda>" q (keyParams pp) (keyBody j kk p0 p1 p2 p3 p4 p5 p6) keyScope clos pm c' ctv)) (hcd : s.heap.CodeRec (.ref c') q)
    (hcl : clos.lookup ("losses" : Str) = some cl) (hcell : s.heap.IsCell cl (some (.ref aL))) (hl : s.heap.IsList aL items.toArray) (hi : IntsAre items ns) (h0 : 0 ≤ d) (h1 : d < (ns.length : Int)) (h2 : d < 2 ^ 63) :
    wpAny (model prog w) A (call (.ref f) [.int d t]) (PySem.W.KeyPure (.tuple [.int (0 - gI ns d), .int d]) s) (fun _ _ => False) s := by
  refine wpAny_call (PySem.W.kla_callFunE hroom ho rfl rfl rfl rfl hcd ?_)
  rw [show bindArgs (PySem.W.kla_fn "<lambda>" q (keyParams pp) (keyBody j kk p0 p1 p2 p3 p4 p5 p6) keyScope clos pm (.ref c') ctv) ⟨[.int d t], []⟩ = pure [(("day" : Str), Value.int d t)] from rfl]
  refine wpAny_pure (wpAny_newFunctionEnv (show ∀ x ∈ keyScope.names, x.2 ≠ .cell by decide) (fun x hx => ?_) (fun h₁ hns hsb => ⟨hlim.fresh _ hsb, ?_⟩) rfl)
  · rw [List.mem_singleton] at hx
    subst hx
    rfl
  have kp : ∀ b o, s.heap.get? b = some o → h₁.get? b = some o := fun b o e => hsb.extBut b o (Nat.ne_of_lt (Heap.lt_size e)) (Heap.get?_push_of_some _ e)
  refine PySem.W.kla_codeExpr (wpAny_Tuple_spliced ?_)
  obtain ⟨env, hE⟩ : ∃ env, env = PySem.W.envX q keyScope s.heap.objs.size f (.ref c') clos := ⟨_, rfl⟩
  have eS : env.scope = keyScope := by rw [hE]
  have eL : env.locals = s.heap.objs.size := by rw [hE]
  have eC : env.cells = clos := by rw [hE]
  have kL : env.kindOf "day" = some .local := by rw [hE]; rfl
  have kF : env.kindOf "losses" = some .free := by rw [hE]; rfl
  have kE : env.scope.kind = .function := by rw [hE]
  show wpAny _ (A.deeper (PySem.W.envX q keyScope s.heap.objs.size f (.ref c') clos)) (spliced (backTo p6 (starEach [.BinOp (.Constant (.int 0) j p0) .Sub (.Subscript (.Name "losses" p1) (.Name "day" p2) p3) p4, .Name "day" p5] (PySem.W.envX q keyScope s.heap.objs.size f (.ref c') clos)))) _ _ _
  rw [← hE]
  have dayAt : ∀ (h' : Heap) (tk : Nat) (p : Pos) (Q : Value → Shared → Prop) (E : Value → Shared → Prop), (∀ b o, h₁.get? b = some o → h'.get? b = some o) → Q (.int d t) { s with heap := h', toks := tk } → wpAny (model prog w) (A.deeper env) (eval (.Name "day" p) env) Q E { s with heap := h', toks := tk } := fun h' tk p Q E hk hq =>
    wpAny_Name (wpAny_loadName_local kE kL (by rw [eL]; exact hns.keeps hk) rfl hq) (by decide)
  show wpAny _ _ (spliced ((false, eval (.BinOp (.Constant (.int 0) j p0) .Sub (.Subscript (.Name "losses" p1) (.Name "day" p2) p3) p4) env) :: backTo p6 (starEach [.Name "day" p5] env))) _ _ _
  refine Calls.spliced_cons (wpAny_BinOp (wpAny_Constant_int (Subscript_ ?_)))
  refine wpAny_Name (wpAny_loadName_free kE kF (by rw [eC]; exact hcl) (hcell.keeps kp) ?_ (by decide)) (by decide)
  refine dayAt _ _ _ _ _ (fun _ _ e => e) ?_
  refine item_list_intsR (let ⟨o, e, r⟩ := hl; ⟨o, kp _ _ e, r⟩) hi h0 h1 h2 (fun t' => ?_)
  refine sub_int ?_
  show wpAny _ _ (spliced ((false, eval (.Name "day" p5) env) :: backTo p6 (starEach [] env))) _ _ _
  refine Calls.spliced_cons (dayAt _ _ _ _ _ (fun _ _ e => e) ?_)
  refine Calls.spliced_nil ⟨szle (show 2 ≤ 1000000 by decide), ?_⟩
  refine ⟨_, _, rfl, fun b o e => Heap.get?_push_of_some _ (kp b o e), ?_⟩
  exact .tuple (Heap.get?_push_size _ rfl) rfl rfl (.cons (.int _ _) (.cons (.int _ _) .nil))
def kDat (key : Int → Int) (x : Int) : PyData := .tuple [.int (key x), .int x]
theorem kDat_alike {key : Int → Int} {bs : List Int} : PySem.W.AllAlike (bs.map (kDat key)) := by
  intro d hd d' hd'
  obtain ⟨b, _, rfl⟩ := List.mem_map.mp hd
  obtain ⟨b', _, rfl⟩ := List.mem_map.mp hd'
  unfold kDat
  simp [PySem.W.alike, PySem.W.alikeAll]
theorem kDat_sortable {key : Int → Int} {bs : List Int} : PySem.W.Sortable (bs.map (kDat key)) := .inl fun d hd => by
  obtain ⟨b, _, rfl⟩ := List.mem_map.mp hd
  exact ⟨_, _, rfl⟩
theorem kDat_depth {key : Int → Int} {x : Int} : (kDat key x).depth = 1 := by
  unfold kDat
  simp [PyData.depth, PyData.depthAll]
theorem each_rng {N : Int} {acc : Array Value} (h : ItemsOf (fun i v => ∃ t, v = .int (0 + i * 1) t) acc N.toNat) : PySem.W.EachIs (fun (v : Value) (x : Int) => (∃ t, v = .int x t) ∧ 0 ≤ x ∧ x < N) acc.toList (intsL N) := by
  refine PySem.W.EachIs.of_zip (by rw [Array.length_toList, h.1, intsL_len]) fun p hp => ?_
  obtain ⟨j, hj⟩ := List.mem_iff_getElem?.mp hp
  obtain ⟨e1, e2⟩ := List.getElem?_zip_eq_some.mp hj
  have hj2 := (List.getElem?_eq_some_iff.mp e2).1
  rw [intsL_len] at hj2
  unfold intsL at e2
  rw [List.getElem?_map, List.getElem?_range hj2] at e2
  have e3 : ((j : Nat) : Int) = p.2 := Option.some.inj e2
  obtain ⟨t, ht⟩ := h.2 j p.1 (by rw [← e1, Array.getElem?_toList])
  exact ⟨⟨t, by rw [ht, ← e3, Int.zero_add, Int.mul_one]⟩, by omega, by omega⟩
theorem sorted_rng {prog : Program} {w : World} {A : Around} {E : Value → Shared → Prop} {s : Shared} {r f : Addr} {N : Int} {t u v : Tok} {key : Int → Int} {Q : Value → Shared → Prop} (hh : A.in1.handled = none) (hu : A.units + 64 < cLine) (hr : IsRange s.heap r 0 N 1 t u v) (hN : RgOk 0 N)
    (turn : ∀ (h : Heap) (tk : Nat) (d : Int) (t : Tok), 0 ≤ d → d < N → (∀ b o, s.heap.get? b = some o → h.get? b = some o) → wpAny (model prog w) A.in1.in1 (call (.ref f) [.int d t]) (PySem.W.KeyPure (kDat key d) { s with heap := h, toks := tk }) (fun _ _ => False) { s with heap := h, toks := tk })
    (h : ∀ (h₁ h' : Heap) (tk : Nat) (out : List Value) (c : Nat), (∀ b o, s.heap.get? b = some o → h₁.get? b = some o) → (∀ b o, h₁.get? b = some o → h'.get? b = some o) → h'.get? h₁.objs.size = some (seqObj "list" (List.toArray out) c) → PySem.W.EachIs (fun (v : Value) (x : Int) => (∃ t, v = .int x t) ∧ 0 ≤ x ∧ x < N) out ((intsL N).mergeSort (PySem.W.dataLe false (kDat key))) → Q (.ref h₁.objs.size) { s with heap := h', toks := tk }) :
    wpAny (model prog w) A (call (.builtin "sorted") [.ref r] [(Str.ofString "key", .ref f)]) Q E s := by
  obtain ⟨b1, b2, b3, b4, b5⟩ := hN
  refine call_function_entry_kw kind_sorted plain_sorted entry_sorted (PyProof.Rows.ksk_s1 _ _) ?_
  unfold Builtin.«sorted»
  refine wpAny_bind (wpAny_pure ?_)
  refine wpAny_bind (collect_range hh hr (small_one b1 b2 b3 b4) (rangeSize_nat 0 N) b5 fun h₁ tk₁ acc hk hi => ?_)
  rw [Int.sub_zero] at hi b5
  have lacc : acc.toList.length ≤ sizeLine := by
    rw [Array.length_toList, hi.1, sizeLine_eq]
    omega
  refine wpAny_bind (wpAny_newList ?_ lacc)
  have hz : (intsL N).length ≤ sizeLine := by
    rw [intsL_len, sizeLine_eq]
    omega
  have eacc := each_rng hi
  refine wpAny_bind (wpAny_holding (PySem.W.list_sort_key_data (b := false) (vs := acc.toList) (bs := intsL N) (kDat key) (Heap.get?_push_size _ rfl) eacc kDat_alike kDat_sortable hz (fun x _ => ?_) (PyProof.Rows.ksk_l1 _ _) (PyProof.Rows.ksk_t1 _ _) (fun v x hR _ g tk kp => ?_) fun out c g tk kp hD _ eo => ?_))
  · rw [kDat_depth]
    show A.units + 1 + 1 + 1 < cLine
    omega
  · obtain ⟨⟨t, rfl⟩, x0, x1⟩ := hR
    exact turn g tk x t x0 x1 fun b o e => kp b o (Nat.ne_of_lt (Heap.lt_size (hk b o e))) (Heap.get?_push_of_some _ (hk b o e))
  · refine wpAny_pure ⟨_, rfl, ?_⟩
    exact h h₁ g tk out c hk (fun b o e => kp b o (Nat.ne_of_lt (Heap.lt_size e)) (Heap.get?_push_of_some _ e)) hD eo
def TabOk (H : Hp) (ps : Array Value) (q : Str) : Prop := TriplesOk ps.toList ∧ ∀ (pos : Pos) (cv : Value), codeAmong pos ps.toList = some cv → ∃ c, cv = .ref c ∧ H c = some (LamX.CodeO c q)
def LamH (H H1 : Hp) (P : Addr) (ps : Array Value) (q : Str) : Prop := H1 = H ∨ ∃ (c' : Addr) (more : Array Value), H c' = none ∧ H1 = upd (upd H P (.tbl (ps ++ more))) c' (LamX.CodeO c' q) ∧ TriplesOk (ps ++ more).toList ∧ ∀ (pos : Pos) (cv : Value), codeAmong pos (ps ++ more).toList = some cv → codeAmong pos ps.toList = some cv ∨ cv = .ref c'
theorem lam_mk {X : Cx} {pins : List (Addr × Obj)} {σ : L2.St} {H : Hp} {s : Shared} {c P : Addr} {q : Str} {ps : Array Value} {params : Arguments} {body : Expr} {scope : Scope} {pos : Pos} {E : Value → Shared → Prop} {Q : Value → Shared → Prop} (I : Inv X pins σ H s) (TB : LamX.TabB X.base X.mg c P)
    (hcode : X.env.code = .ref c) (hq : X.env.qual ++ "<lambda>" = q) (hP : H P = some (.tbl ps)) (T : TabOk H ps q) (hdef : defaultsOf params X.env = ([], [])) (hfree : ∀ y ∈ scope.names, y.2 = .free → ∃ c, X.env.cells.lookup y.1 = some c)
    (h : ∀ (f c' : Addr) (pm ctv : Value) (H1 : Hp) (s' : Shared), Inv X pins σ H1 s' → (∀ b o, b ≠ P → s.heap.get? b = some o → s'.heap.get? b = some o) → LamH H H1 P ps q → H1 c' = some (LamX.CodeO c' q) →
      s'.heap.get? f = some (PySem.W.kla_obj "<lambda>" q params body scope (cloFrom X.env.cells scope.names []) pm c' ctv) → Q (.ref f) s') :
    wpAny (model X.prog X.w) X.A (eval (.Lambda params body scope pos) X.env) Q E s := by
  obtain ⟨t1, t2⟩ := T
  have tabP := I.hok P _ hP
  have bmP := TB.bm.keeps I.bk
  have gl := I.mod.glob.keeps I.bk
  have cdP := TB.code.keeps I.bk
  refine PySem.W.kla_eval hdef ?_
  rw [hq]
  cases hc : codeAmong pos ps.toList with
  | some cv =>
    obtain ⟨c', rfl, hco⟩ := t2 pos cv hc
    refine PySem.W.kla_makeFunctionHit (mg := X.mg) (c := c) (P := P) (ps := ps) (closure_ok hfree) I.ok.glob gl hcode cdP tabP t1 hc bmP fun ctv h1 tk hx hsz => ?_
    have up : ∀ b o, s.heap.get? b = some o → (h1.push (PySem.W.kla_obj "<lambda>" q params body scope (cloFrom X.env.cells scope.names []) ((X.mg "__name__").getD .none) c' ctv)).get? b = some o := fun b o e => Heap.get?_push_of_some _ (hx b o e)
    exact h _ c' _ ctv H _ (I.kept (t' := tk) up) (fun b o _ => up b o) (.inl rfl) hco (Heap.get?_push_size _ rfl)
  | none =>
    refine PySem.W.kla_makeFunction (mg := X.mg) (c := c) (P := P) (ps := ps) (closure_ok hfree) I.ok.glob gl hcode cdP tabP t1 hc TB.gP bmP fun c' ctv h1 tk hx hge hlt hrec htb => ?_
    obtain ⟨c2, oc, vs, t, e2, hoc, hd, hv⟩ := hrec
    cases e2
    have nC : H c' = none := I.hok.fresh hge
    have nPc : P ≠ c' := ne_of_none hP nC
    have up : ∀ b o, b ≠ P → s.heap.get? b = some o → (h1.push (PySem.W.kla_obj "<lambda>" q params body scope (cloFrom X.env.cells scope.names []) ((X.mg "__name__").getD .none) c' ctv)).get? b = some o := fun b o hb e => Heap.get?_push_of_some _ (hx b o hb e)
    have I1 := LamX.inv_table (q := q) (t' := tk) (more := #[rawInt pos.line, rawInt pos.col, .ref c']) I hP up (Heap.get?_push_of_some _ htb) hge ⟨oc, vs, t, Heap.get?_push_of_some _ hoc, hd, hv⟩
    refine h _ c' _ ctv _ _ I1 up (.inr ⟨c', _, nC, rfl, ?_, fun p' cv hcv => ?_⟩) upd_same (Heap.get?_push_size _ rfl)
    · rw [show (ps ++ #[rawInt pos.line, rawInt pos.col, Value.ref c']).toList = ps.toList ++ [rawInt pos.line, rawInt pos.col, .ref c'] by simp]
      exact PySem.TriplesOk_snoc _ _ _ _ t1
    · rw [show (ps ++ #[rawInt pos.line, rawInt pos.col, Value.ref c']).toList = ps.toList ++ [rawInt pos.line, rawInt pos.col, .ref c'] by simp] at hcv
      exact LamX.among_app _ t1 hcv
def sortK (ns : List Int) (n : Int) : List Int := (intsL n).mergeSort (PySem.W.dataLe false (kDat fun x => 0 - gI ns x))
def tSortKey (K : PySem.W.Frag) (i : Nat) (P : Addr) (q : Str) (te : L2.St → Hp → (Int → Int → Hp → Prop) → Prop) : TE := fun σ H Q => te σ H fun a b H1 => a = 0 ∧ RgOk 0 b ∧ ∃ (aL : Addr) (ns : List Int) (ps : Array Value),
  σ[i]? = some (some (.ref aL)) ∧ SqL K H1 aL (ns.map V.int) ∧ b ≤ (ns.length : Int) ∧ H1 P = some (.tbl ps) ∧ TabOk H1 ps q ∧ ∀ (H2 : Hp) (p : Addr), LamH H1 H2 P ps q → H2 p = none → Q (.ref p) (upd H2 p (.lst ((sortK ns b).map V.int)))
theorem LamH.sql {K : PySem.W.Frag} {H H1 : Hp} {P a : Addr} {ps : Array Value} {q : Str} {xs : List V} (L : LamH H H1 P ps q) (hP : H P = some (.tbl ps)) (h : SqL K H a xs) : SqL K H1 a xs := by
  rcases L with rfl | ⟨c', more, n, rfl, _⟩
  · exact h
  have key : ∀ o, H a = some o → (∀ ps, o ≠ .tbl ps) → upd (upd H P (.tbl (ps ++ more))) c' (LamX.CodeO c' q) a = some o := fun o e hn => by
    rw [upd_ne (ne_of_none e n), upd_ne (fun z => hn ps (by rw [z, hP] at e; exact (Option.some.inj e).symm))]
    exact e
  rcases h with (h | ⟨o, h⟩) | h
  · exact .inl (.inl (key _ h fun ps z => by cases z))
  · exact .inl (.inr ⟨o, key _ h fun ps z => by cases z⟩)
  · exact .inr h
theorem each_vals {out : List Value} : ∀ {bs : List Int} {N : Int}, PySem.W.EachIs (fun (v : Value) (x : Int) => (∃ t, v = .int x t) ∧ 0 ≤ x ∧ x < N) out bs → Vals (bs.map V.int) out := fun {bs N} h => by
  induction h with
  | nil => exact .nil
  | cons h1 _ ih => exact .cons h1.1 ih
theorem pe_sortKey {X : Cx} {i k : Nat} {c P : Addr} {q : Str} {te : L2.St → Hp → (Int → Int → Hp → Prop) → Prop} {g0 : Expr} {as0 : List Expr} {ps0 p kpos lpos pos pp p0 p1 p2 p3 p4 p5 p6 : Pos} {j kk : Nat} (hc : X.calm = true) (hr : Room k X.A) (TB : LamX.TabB X.base X.mg c P) (hcode : X.env.code = .ref c)
    (hq : X.env.qual ++ "<lambda>" = q) (hg : Gl X "sorted") (hm : X.mg "sorted" = none) (he : PRg X (.Call g0 as0 [] ps0) te) (hN : X.N[i]? = some ("losses" : Str)) (hv : X.env.scope.names.lookup ("losses" : Str) = some .cell) :
    PE X (.Call (.Name "sorted" p) [.Call g0 as0 [] ps0] [⟨some "key", .Lambda (keyParams pp) (keyBody j kk p0 p1 p2 p3 p4 p5 p6) keyScope lpos, kpos⟩] pos) (tSortKey X.K i P q te) := by
  refine ⟨fun pins s σ H Q I h => ?_⟩
  refine wpAny_Call_Name_kw (ld_blt I hg hm boot_sorted ?_)
  refine PyProof.Rows.callWith_kw (show wpAny _ _ (spliced ((false, eval (.Call g0 as0 [] ps0) X.env) :: backTo pos (starEach [] X.env))) _ _ _ from Calls.spliced_cons (thn (he pins s σ H _ I h) fun x s1 ⟨r, a, b, t, u, v, H1, ex, hrg, I1, ea, hN1, aL, ns, ps, hσ, hs, hb, hP, hT, hQ⟩ => ?_))
  subst ex ea
  refine Calls.spliced_nil ?_
  have hhas : ∀ y ∈ keyScope.names, y.2 = .free → ∃ c, X.env.cells.lookup y.1 = some c := fun y hy e => by
    have : y = (("losses" : Str), NameKind.free) := by
      simp only [List.mem_cons, List.not_mem_nil, or_false] at hy
      rcases hy with rfl | rfl
      · cases e
      · rfl
    subst this
    exact I1.ok.has _ (.inl hv)
  show wpAny _ _ (evalAll ((do let v ← eval (.Lambda (keyParams pp) (keyBody j kk p0 p1 p2 p3 p4 p5 p6) keyScope lpos) X.env; standAt pos; pure v) :: (backToKw pos (keywordEach [] X.env)).map (·.2))) _ _ s1
  refine wpAny_evalAll_cons (wpAny_bind (lam_mk I1 TB hcode hq hP hT rfl hhas fun f c' pm ctv H2 s2 I2 up hL hco hf => wpAny_bind (wpAny_standAt (wpAny_pure ?_))))
  refine wpAny_evalAll_nil ?_
  show wpAny _ _ (call (.builtin "sorted") [.ref r] [(Str.ofString "key", .ref f)]) _ _ s2
  have hP2 := I1.hok P _ hP
  have nrP : r ≠ P := fun z => by
    rw [z] at hrg
    have e : some _ = some _ := hrg.symm.trans hP2
    cases e
  have hrg2 := up _ _ nrP hrg
  obtain ⟨m, hn, hl⟩ := I2.loc
  obtain ⟨w', rw', q'⟩ := hl i ("losses" : Str) (.ref aL) hN hσ (.inr (.inl hv))
  obtain rfl : w' = Value.ref aL := rw'
  obtain ⟨cl, hcl0, hcell⟩ : ∃ cl, X.env.cells.lookup ("losses" : Str) = some cl ∧ s2.heap.IsCell cl (some (.ref aL)) := by
    rcases q' with ⟨k', _⟩ | ⟨_, cl, e', z⟩
    · have k' : X.env.scope.names.lookup ("losses" : Str) = some .local := k'
      rw [hv] at k'
      cases k'
    · exact ⟨cl, e', z⟩
  obtain ⟨its, rv, pl, hz⟩ := I2.list (hL.sql hP hs)
  have hi := rv.ints
  have hcl : (cloFrom X.env.cells keyScope.names []).lookup ("losses" : Str) = some cl := by
    obtain ⟨c1, hc1⟩ := mem_lookup (cloFrom_has (cells := X.env.cells) (acc := []) (n := ("losses" : Str)) (show (("losses" : Str), NameKind.free) ∈ keyScope.names by simp))
    rcases cloFrom_mem (PySem.mem_of_lookup hc1) with hm1 | ⟨h1, h2⟩
    · cases hm1
    · rw [hc1, h2, hcl0]
      rfl
  refine sorted_rng (key := fun x => 0 - gI ns x) (show X.A.handled = none from hr.hd) hr.units hrg2 hN1 (fun h tk d t d0 d1 kp => ?_) fun h₁ h' tk out cc hk1 hk2 hD eo => ?_
  · obtain ⟨oc, vs, tq, hoc, hdc, hvc⟩ := (I2.hok c' _ hco).1
    obtain ⟨ol, hol, rl⟩ := pl.isList
    exact run_key (s := { s2 with heap := h, toks := tk }) (show X.A.depth < recursionLimit from hr.depth) (I2.nolimit.keeps kp) (kp _ _ hf) ⟨c', oc, vs, tq, rfl, kp _ _ hoc, hdc, hvc⟩ hcl (hcell.keeps kp) ⟨ol, kp _ _ hol, rl⟩ hi d0 (by omega) (by have := hN1.2.2.2.1; omega)
  · have I3 : Inv X pins σ H2 { s2 with heap := h₁, toks := tk } := I2.kept hk1
    have ev := each_vals eo
    have hlen : ((sortK ns b).map V.int).length ≤ sizeLine := by
      have h5 := hN1.2.2.2.2
      unfold sortK
      rw [List.length_map, List.length_mergeSort, intsL_len, sizeLine_eq]
      omega
    exact ⟨.ref h₁.objs.size, upd H2 h₁.objs.size (.lst ((sortK ns b).map V.int)), I3.laid (t' := tk) hk2 (Nat.le_refl _) (show ObjOk X.prog X.w _ _ _ (.lst ((sortK ns b).map V.int)) from ⟨hlen, out, cc, ev, hD⟩), rfl, hQ _ _ hL (I3.hok.fresh (Nat.le_refl _))⟩
def kSortK (i : Nat) (q : Str) (k : KD) (s : Env) : D → Sto → Prop
  | .int n, S => ∃ (j : Nat) (P0 : Addr) (d : D) (ns : List Int), S[j]? = some (.tab P0 q) ∧ slot s i = some d ∧ lview S d = some (ns.map .int) ∧ 0 ≤ n ∧ n ≤ (ns.length : Int) ∧ n ≤ 16777216 ∧ k (.lst ((sortK ns n).map .int)) S
  | _, _ => False
def wSortK (i : Nat) (q : Str) (we : WE) : WE := fun (xc : HG XE) s S k => we xc s S (kSortK i q k s)
theorem upd_comm {H : Hp} {a b : Addr} {x y : HO} (h : a ≠ b) : upd (upd H a x) b y = upd (upd H b y) a x := by
  funext z
  by_cases e1 : z = a
  · subst e1
    rw [upd_ne h, upd_same, upd_same]
  · by_cases e2 : z = b
    · subst e2
      rw [upd_same, upd_ne e1, upd_same]
    · rw [upd_ne e2, upd_ne e1, upd_ne e1, upd_ne e2]
theorem set_self {α : Type} {l : List α} {n : Nat} {x : α} (h : l[n]? = some x) : l.set n x = l := by
  refine List.ext_getElem? fun k => ?_
  by_cases e : n = k
  · subst e
    rw [List.getElem?_set_self (List.getElem?_eq_some_iff.mp h).1, h]
  · rw [List.getElem?_set_ne e]
theorem se_sortK {X : Cx} {g : Gi} {W : WX} {i k : Nat} {c P : Addr} {q : Str} {e : Expr} {we : WE} {pos2 p2 p kpos lpos pos pp p0 p1 p2' p3 p4 p5 p6 : Pos} {j kk : Nat} (hc : X.calm = true) (hr : Room k X.A) (TB : LamX.TabB X.base X.mg c P) (hcode : X.env.code = .ref c) (hgP : g.cl q = P)
    (hq : X.env.qual ++ "<lambda>" = q) (hg : Gl X "sorted") (hm : X.mg "sorted" = none) (hg2 : Gl X "range") (hm2 : X.mg "range" = none) (hN : X.N[i]? = some ("losses" : Str)) (hv : X.env.scope.names.lookup ("losses" : Str) = some .cell) (he : SE X g W e we)
    (hs : starEach [e] X.env = (false, eval e X.env) :: starEach [] X.env := by rfl) :
    SE X g W (.Call (.Name "sorted" p) [.Call (.Name "range" p2) [e] [] pos2] [⟨some "key", .Lambda (keyParams pp) (keyBody j kk p0 p1 p2' p3 p4 p5 p6) keyScope lpos, kpos⟩] pos) (wSortK i q we) := by
  obtain ⟨ta, pa, ga⟩ := he
  refine ⟨_, pe_sortKey hc hr TB hcode hq hg hm (prg_1 hg2 hm2 pa hs) hN hv, fun H0 r S H s sv Q k xc si rs h ce cx => ?_⟩
  refine ga H0 r S H s sv _ _ xc si rs h (fun d v H1 r1 S1 H1' f1 s1 rl h1 => ?_) cx
  unfold kSortK at h1
  split at h1
  · rename_i n
    obtain ⟨jj, P0, d', ns, hS, hsl, hlv, n0, n1, n2, hk⟩ := h1
    rw [rel_int rl]
    obtain ⟨v', hv', rl'⟩ := (rs.fut f1).2 i d' (slot_some hsl)
    obtain ⟨aL, xs, rfl, hsq, hrels⟩ := lview_rel s1 rl' hlv
    obtain rfl := Rels.ints.mp hrels
    have hjl : jj < r1.length := by rw [s1.len]; exact (List.getElem?_eq_some_iff.mp hS).1
    have hrj : r1[jj]? = some r1[jj] := List.getElem?_eq_getElem hjl
    obtain ⟨ea, hn0, ps, hps, hT1, hT2⟩ := s1.cel jj _ _ hrj hS
    rw [ea, hgP] at hrj hn0 hps
    refine ⟨n, rfl, rfl, .of_le (by omega) (by omega) (by omega) (by omega), aL, ns, ps, hv', hsq, n1, hps, ⟨hT1, fun pos cv hcv => ?_⟩, fun H2 p hL hp => ?_⟩
    · obtain ⟨c0, e1, e2⟩ := hT2 pos cv hcv
      exact ⟨c0, e1, s1.ex _ _ e2⟩
    · rcases hL with rfl | ⟨c', more, nC, rfl, hT3, hT4⟩
      · obtain ⟨s4, f4, rl4⟩ := s1.lst (ds := (sortK ns n).map .int) hp (Rels.ints.mpr rfl)
        exact ce _ _ _ _ _ _ (f1.tr s1 f4) s4 rl4 hk
      · have nP : P ≠ c' := ne_of_none hps nC
        rw [upd_comm nP] at hp ⊢
        obtain ⟨sa, fa⟩ := s1.frz (o := LamX.CodeO c' q) nC
        have h0 : upd H1 c' (LamX.CodeO c' q) P = none := by rw [upd_ne nP]; exact hn0
        obtain ⟨sb, fb⟩ := sa.write (o := .tbl (ps ++ more)) (c' := .tab P0 q) hrj hS h0 fun H' e' => ⟨hgP.symm, h0, ps ++ more, e', hT3, fun pos cv hcv => by
          rcases hT4 pos cv hcv with z | z
          · obtain ⟨c0, e1, e2⟩ := hT2 pos cv z
            exact ⟨c0, e1, by rw [upd_ne (ne_of_none (s1.ex _ _ e2) nC)]; exact e2⟩
          · exact ⟨c', z, upd_same⟩⟩
        rw [set_self hS] at sb
        obtain ⟨s4, f4, rl4⟩ := sb.lst (ds := (sortK ns n).map .int) hp (Rels.ints.mpr rfl)
        exact ce _ _ _ _ _ _ (f1.tr s1 (fa.tr sa (fb.tr sb f4))) s4 rl4 hk
  · exact h1.elim
theorem fn_okC {P : Program} {w0 : World} {K : PySem.W.Frag} {g : Gi} {mg : Str → Option Value} {base : Heap} {x qual : Str} {st : Stmt} {f : Addr} {fd : FuncData} {N ps : List Str} {k : Nat} {w : WS} (F : Fun K x qual st f fd) (Sc : FnScope N ps (defScope st))
    (hb : ∀ (cdv : Value), fd.code = cdv → ∀ (A : Around) (outer : List PySem.Env) (s : Shared) (H : Hp) (E : XK), Room k (A.deeper (envOfC qual (defScope st) s.heap.objs.size f cdv)) →
      SSs (cxOf (L2.CX P w0) P w0 K mg base N qual (defScope st) f cdv A outer s H E) g (fun cls d _ H => E cls d H) (defBody st) w) :
    FnOk P w0 K mg base (L2.CX P w0) (k + 1) f fd ps (spW K g ps.length (wDef ps.length N.length w)) := by
  obtain ⟨⟨oc, od, kV, doc, pm, an, cdv, ct, osl, rfl, lk, hcd⟩, kp⟩ := F
  refine fn_of lk hcd Sc (fun vs H Q E h => h.1) fun A outer s H vs Q E hr h => ?_
  obtain ⟨hv, H0, r, S, ds, kk, xk, si, rl, hw, ce, cx⟩ := h
  obtain ⟨t, p, gg⟩ := hb cdv rfl A outer s H E hr
  refine ⟨t, p, ?_⟩
  have hw := hw.2
  refine gg H0 r S H _ _ _ _ si (relSt_start rl) hw ⟨fun s' sv' H0' r' S' H' f' si' rs' h' => ce _ _ _ _ _ _ f' si' rel_non' h', ce, fun c s' sv' H0' r' S' H' f' si' rs' h' => cx _ _ _ _ _ f' si' h'⟩
theorem tab_code {K : PySem.W.Frag} {x : Str} {c P f : Addr} {oc : Value} {od : Option Addr} {osl : Array (Option Value)} {fd : FuncData} (ht : PySem.W.tabIn K x = some (c, P)) (a : PySem.W.nsIn K mainGlobals x = some (some (.ref f))) (l : K.lookup f = some ⟨oc, od, .func fd, osl⟩) : fd.code = .ref c := by
  unfold PySem.W.tabIn at ht
  rw [a] at ht
  dsimp only at ht
  rw [l] at ht
  dsimp only at ht
  split at ht
  · rename_i c' hc
    split at ht
    · split at ht
      · cases ht
        exact hc
      · cases ht
    · cases ht
  · cases ht
theorem law_walkT {l : PySem.W.OpenLaw} {k : Nat} {q : Program} {loose : List Str} {XP : (Str → Option Value) → Heap → Prop} {YP : World → Heap → Prop} {d : DefRec} {K : Params → PySem.W.Frag} {wf : WF} {qn : Str} {ts : List Addr}
    (hn : l.most = some 63) (hdf : d.params.defaults = []) (hr : Room k callerA) (hY : ∀ (w : World) (h : Heap), YP w h → (K w.params).In h) (hYT : ∀ (w : World) (h : Heap), YP w h → ∀ P ∈ ts, h.get? P = some (PySem.W.tabObj #[]))
    (F : ∀ (w : World) (mg : Str → Option Value) (fa : Addr) (h : Heap), (K w.params).In h → h.Ns mainGlobals mg → mg d.name = some (.ref fa) →
      ∃ (fd : FuncData) (g : Gi) (c P : Addr), PySem.W.codeHdIn (K w.params) c P = true ∧ P ∈ ts ∧ (K w.params).lookup P = none ∧ g.cl qn = P ∧ (∀ (s : Shared) (u : Value), BindsTo s fd ⟨[u], []⟩ [("script", u)]) ∧
        ∀ base : Heap, (K w.params).In base → base.Ns mainGlobals mg → LamX.TabB base mg c P → FnOk l.prog w (K w.params) mg base (L2.CX l.prog w) k fa fd ["script"] (spW (K w.params) g 1 wf))
    (h : ∀ ns : List Int, ns.length ≤ 63 → (∀ z ∈ ns, Builtin.Int.intBits z ≤ 1048576) → wf [.scr (ns.map .int)] [.tab 0 qn] (fun d _ => d = .bl true) fun _ _ => False) :
    PySem.W.WalkO q loose XP YP l.row.toRowW d [] (fun f vs => PySem.call f vs) := by
  refine Att.attach_callB hn hdf fun w s₀ s₁ mg mb fa o pm cd doc a vs ns G Y ho hd hcd hmg hobj hints hlen hbits hg => ?_
  have KX := hY w _ Y
  obtain ⟨fd, g, c, P, ht, hmP, hnP, hgP, hb, hF⟩ := F w mg fa _ KX G.T.g hmg
  have C := PySem.W.codeHd_of_K KX ht
  have hP := hYT w _ Y P hmP
  have one : ∀ {α : (Addr × Addr) → Prop}, α (c, P) → ∀ p ∈ [(c, P)], α p := fun h p hp => by
    rw [List.mem_singleton] at hp
    rw [hp]
    exact h
  refine LamX.law_callTs (cs := [(c, P)]) (CX := L2.CX l.prog w) (sp := fun vs H Q _ => ∃ (p : Addr) (ns : List Int), vs = [.ref p] ∧ SqL (K w.params) H p (ns.map V.int) ∧ ns.length ≤ 63 ∧ (∀ z ∈ ns, Builtin.Int.intBits z ≤ 1048576) ∧ H P = some (.tbl #[]) ∧ ∀ H', Q (.bl true) H')
    KX G.T.g G.T.b G.T.builtins G.T.nolimit hg (one hP) (one hnP) (one C) G.T.bmain hobj hints (Nat.le_trans hlen (by decide)) hr (fun base kb nb hTB => ?_) hb (fun H hH hS => ⟨a, ns, rfl, hS, hlen, hbits, hH _ (List.mem_singleton_self _), fun _ => rfl⟩) fun H e s' => law_cx H s₁ e s'
  refine (hF base kb nb (hTB _ (List.mem_singleton_self _))).imp fun vs H Q E ⟨p, ns, ev, hS, hl, hb, hT, qq⟩ => ?_
  subst ev
  have hpP : ∀ u, Rd H p u → (∀ ps, u ≠ .tbl ps) → (∀ o u' , u ≠ .frz o u') → p ≠ P := fun u hu h1 h2 z => by
    subst z
    rcases hu with hu | ⟨o, hu⟩
    · rw [hT] at hu; exact h1 _ (Option.some.inj hu).symm
    · rw [hT] at hu; cases hu
  let H0 : Hp := fun b => if b = P then none else H b
  have hex : Ex H0 H := fun b o e => by
    by_cases z : b = P
    · have e' : (if b = P then none else H b) = some o := e
      rw [if_pos z] at e'
      cases e'
    · have e' : (if b = P then none else H b) = some o := e
      rwa [if_neg z] at e'
  have hS0 : SqL (K w.params) H0 p (ns.map V.int) := by
    rcases hS with hS | hS
    · have hne := hpP _ hS (fun _ z => by cases z) (fun _ _ z => by cases z)
      have e0 : H0 p = H p := if_neg hne
      rcases hS with hS | ⟨o, hS⟩
      · exact .inl (.inl (by rw [e0]; exact hS))
      · exact .inl (.inr ⟨o, by rw [e0]; exact hS⟩)
    · exact .inr hS
  have n0 : H0 P = none := if_pos rfl
  refine ⟨rfl, H0, [P], [.tab 0 qn], _, _, _, ⟨hex, rfl, by simp, fun b hb => ?_, fun n b cc e1 e2 => ?_⟩, .cons ?_ .nil, h ns hl hb, fun d v H0' r' S' H' _ _ rl e => ?_, fun _ _ _ _ _ _ _ z => z.elim⟩
  · rw [List.mem_singleton] at hb
    rw [hb, hT]
    intro z
    cases z
  · match n, e1, e2 with
    | 0, e1, e2 =>
      cases e1
      cases e2
      exact ⟨hgP.symm, n0, #[], hT, True.intro, fun pos cv hc => by
        have z : codeAmong pos [] = some cv := hc
        simp [codeAmong] at z⟩
    | n + 1, e1, _ => simp at e1
  · unfold Rel
    exact ⟨p, _, rfl, hS0, Rels.ints.mpr rfl⟩
  · subst e
    rw [rel_bl rl]
    exact qq H'
end Ab

namespace Ab
open PySem PySem.Spec PyProof.Rows L2
noncomputable def vSortK : (Nat) → (Str) → (WE) → (WE) := sld wSortK
theorem vSortK_s : vSortK = wSortK := sld_eq _
theorem vSortK_q (i : Nat) (q : Str) (we : WE) (xc : _) (s : _) (S : _) (k : _) : vSortK i q we xc s S k = (we xc s S (kSortK i q k s)) := by rw [vSortK_s]; rfl
theorem kSortK_i {i : Nat} {q : Str} {k : KD} {s : Env} {n : Int} {S : Sto} : kSortK i q k s (.int n) S = ∃ (j : Nat) (P0 : Addr) (d : D) (ns : List Int), S[j]? = some (.tab P0 q) ∧ slot s i = some d ∧ lview S d = some (ns.map .int) ∧ 0 ≤ n ∧ n ≤ (ns.length : Int) ∧ n ≤ 16777216 ∧ k (.lst ((sortK ns n).map .int)) S := id rfl
end Ab

namespace Ab
open PySem PySem.Spec PyProof.Rows L2 L2H
section
variable {X : Cx} {pins : List (Addr × Obj)} {σ : L2.St} {H : Hp} {s : Shared}
abbrev fxe : Value → Shared → Prop := fun _ _ => False
theorem unsuiteK {a : Addr} {q : Addr × Obj} {pn' : List (Addr × Obj)} (I : Inv (X.suite a (q :: (X.pn ++ pins))) pn' σ H s) (ok : X.Ok) : Inv X (q :: pins) σ H s :=
  ⟨ok, I.os, I.bare, I.base, I.loc, I.cell, I.free, I.freeC, fun p hp => I.pin p (List.mem_append_left _ (by
    rcases List.mem_append.mp hp with h | h
    · exact List.mem_cons_of_mem _ (List.mem_append_left _ h)
    · rcases List.mem_cons.mp h with h | h
      · rw [h]; exact List.mem_cons_self
      · exact List.mem_cons_of_mem _ (List.mem_append_right _ h))), I.hok, I.len⟩
theorem toTryK {q : Addr × Obj} (I : Inv X (q :: pins) σ H s) (xe : Value → Shared → Prop) : Inv (X.tr (q :: (X.pn ++ pins)) xe) [] σ H s :=
  ⟨I.ok.toTry _ _, I.os, I.bare, I.base, I.loc, I.cell, I.free, I.freeC, fun p hp => I.pin p (by
    rw [List.append_nil] at hp
    rcases List.mem_cons.mp hp with h | h
    · rw [h]; exact List.mem_append_right _ List.mem_cons_self
    · rcases List.mem_append.mp h with h | h
      · exact List.mem_append_left _ h
      · exact List.mem_append_right _ (List.mem_cons_of_mem _ h)), I.hok, I.len⟩
theorem ofTryK {q : Addr × Obj} {pn' : List (Addr × Obj)} {xe : Value → Shared → Prop} (I : Inv (X.tr (q :: (X.pn ++ pins)) xe) pn' σ H s) (ok : X.Ok) : Inv X pins σ H s :=
  ⟨ok, I.os, I.bare, I.base, I.loc, I.cell, I.free, I.freeC, fun p hp => I.pin p (List.mem_append_left _ (List.mem_cons_of_mem _ hp)), I.hok, I.len⟩
theorem SP.ofTr {D : Ends} {f : Flow} {xe : Value → Shared → Prop} (h : SP (X.tr (X.pn ++ pins) xe) [] D f s) (ok : X.Ok) : SP X pins D f s := by
  cases f with
  | next => obtain ⟨σ', H', I, q⟩ := h; exact ⟨σ', H', I.ofTry ok, q⟩
  | brk => obtain ⟨σ', H', I, q⟩ := h; exact ⟨σ', H', I.ofTry ok, q⟩
  | cont => obtain ⟨σ', H', I, q⟩ := h; exact ⟨σ', H', I.ofTry ok, q⟩
  | ret u => obtain ⟨v, σ', H', I, r, q⟩ := h; exact ⟨v, σ', H', I.ofTry ok, r, q⟩
theorem SP.ofTrK {q : Addr × Obj} {D : Ends} {f : Flow} {xe : Value → Shared → Prop} (h : SP (X.tr (q :: (X.pn ++ pins)) xe) [] D f s) (ok : X.Ok) : SP X pins D f s := by
  cases f with
  | next => obtain ⟨σ', H', I, q⟩ := h; exact ⟨σ', H', ofTryK I ok, q⟩
  | brk => obtain ⟨σ', H', I, q⟩ := h; exact ⟨σ', H', ofTryK I ok, q⟩
  | cont => obtain ⟨σ', H', I, q⟩ := h; exact ⟨σ', H', ofTryK I ok, q⟩
  | ret u => obtain ⟨v, σ', H', I, r, q⟩ := h; exact ⟨v, σ', H', ofTryK I ok, r, q⟩
end
def wAsK (K : PySem.W.Frag) (c : Value) (i : Nat) (ts tK : Addr → Value → Option Addr → TS) (Wout : WX) (D : Ends) : WX := fun cls d σ H =>
  ∃ b, PySem.W.exmOne K cls c = some b ∧ (b = true → ∀ a, H a = none → ts a cls d { nx := fun σ' H' => tK a cls d D (σ'.set i none) H', rt := fun _ _ => False } (σ.set i (some (.ref a))) H) ∧
    (b = false → Wout cls d σ H)
section
variable {X : Cx} {x n : Str} {c : Value} {i : Nat} {body suite rest : List Stmt} {b₀ : Stmt} {np pos pos' : Pos} {tb : WX → TS} {t0 : TS} {ts tK : Addr → Value → Option Addr → TS} {Wout : WX}
theorem pss_tryK (hs : X.stack = X.env :: X.outer) (hf : X.env.frame = some X.env.locals) (hN : X.N.Nodup) (hi : X.N[i]? = some n) (hln : X.env.kindOf n = some .local) (hc : Names X x c) (tk : Takes X Wout)
    (hb : ∀ (W : WX) (pn : List (Addr × Obj)) (xe : Value → Shared → Prop), Takes (X.tr pn xe) W → PassesOwn (model X.prog X.w) X.A X.env xe → PSs (X.tr pn xe) body (tb W))
    (hsu : ∀ (a : Addr) (oe : Obj) (cls : Value) (d : Option Addr) (pn : List (Addr × Obj)), Zc cls d oe → (∃ vs, oe.data = .fields vs) → PSs (X.suite a ((a, oe) :: pn)) (b₀ :: suite) (ts a cls d))
    (h0 : ∀ pn : List (Addr × Obj), PSs (X.tr pn fxe) rest t0)
    (hK : ∀ (a : Addr) (oe : Obj) (cls : Value) (d : Option Addr) (pn : List (Addr × Obj)), Zc cls d oe → (∃ vs, oe.data = .fields vs) → PSs (X.tr ((a, oe) :: pn) fxe) rest (tK a cls d)) :
    PSs X (.Try body [.ExceptHandler (some (.Name x np)) (some n) (b₀ :: suite) pos'] [] [] pos :: rest) (fun D σ H => tb (wAsK X.K c i ts tK Wout D) { nx := fun σ' H' => t0 D σ' H', rt := D.rt } σ H) := by
  refine ⟨fun pins s σ H D I h => ?_⟩
  have ok := I.ok
  have hfr : X.A.frames = some (X.env :: X.outer) := by rw [ok.frames, hs]
  have hloc : Loc X.env.scope n := .inl hln
  -- what is wanted behind the whole statement
  let G : Flow → Shared → Prop := fun f s1 => match f with
    | .next => (∃ σ1 H1, Inv X pins σ1 H1 s1 ∧ t0 D σ1 H1) ∨ (∃ a oe cls d σ1 H1, Zc cls d oe ∧ (∃ vs, oe.data = .fields vs) ∧ Inv X ((a, oe) :: pins) σ1 H1 s1 ∧ tK a cls d D σ1 H1)
    | .ret u => ∃ v σ1 H1, Inv X pins σ1 H1 s1 ∧ RelV v u ∧ D.rt v H1
    | _ => False
  have go : wpAny (model X.prog X.w) X.A (exec (.Try body [.ExceptHandler (some (.Name x np)) (some n) (b₀ :: suite) pos'] [] [] pos) X.env) G X.xe s := by
    refine wpAny_Try_except ?_
    refine wpAny_mono ((hb (wAsK X.K c i ts tK Wout D) (X.pn ++ pins) (fun e s₁ => wpAny (model X.prog X.w) X.A (noteFrame e X.env) (fun _ s₂ => wpAny (model X.prog X.w) X.A (setFlight e none) (fun _ s₃ =>
      wpAny (model X.prog X.w) X.A (handleBy e X.env [.ExceptHandler (some (.Name x np)) (some n) (b₀ :: suite) pos']) G X.xe s₃) X.xe s₂) X.xe s₁) (fun u s' xx => ?_) PassesOwn.looking).run [] s σ H _ (I.toTry _) h) (fun f s1 hsp => ?_) (fun e s1 he => he)
    · obtain ⟨a, B, sI, pins', σ', H', cls, d, rfl, J', nb, up, sky, na, os, ag, b, hb1, hyes, hno⟩ := xx
      have J : Inv X pins σ' H' sI := J'.ofTry ok
      have sky' : Sky B (X.env :: X.outer) a (Zc cls d) X.env.locals s'.heap := by rw [← hs]; exact sky
      show wpAny (model X.prog X.w) X.A (noteFrame (.ref a) X.env) _ _ _
      refine Sky.land Zc.steady hfr hf sky' fun h3 fl3 up3 => ?_
      have J3 : Inv X pins σ' H' { s' with heap := h3 } := J.landed nb fl3.1 (up.trans up3) os ag
      obtain ⟨oe3, vs3, he3, hz3, hd3⟩ := fl3.there
      have notFr : ∀ {h : Heap} {o : Obj} {vs : Array Value}, h.FunFrames B (X.env :: X.outer) → h.get? a = some o → o.data = .fields vs → a ∉ frs (X.env :: X.outer) := fun {h o vs} ff e dd hm => by
        obtain ⟨_, o', e', hnf⟩ := ff.mem hm
        rw [e] at e'; cases e'
        exact hnf _ dd
      have nfr := notFr fl3.2.2.1 he3 hd3
      have nL : a ≠ X.env.locals := fun z => nfr (List.mem_filterMap.mpr ⟨X.env, List.mem_cons_self, by rw [hf, z]⟩)
      have nF : a ∉ X.fs := fun hm => by
        obtain ⟨e, he, q⟩ := List.mem_filterMap.mp hm
        exact nfr (List.mem_filterMap.mpr ⟨e, List.mem_cons_of_mem _ he, q⟩)
      have S3 := J3.suite he3 hd3 na nL nF
      refine wpAny_handleBy_cons (codeAny_handlers_test ?_) (by intro q; cases q)
      have LT : PySem.W.Looks (model X.prog X.w) h3 (typeOf (.ref a)) cls := fun A Q E s k q => wpAny_typeOf_ref (k _ _ he3) (by rw [hz3.1]; exact q)
      have LM := PySem.W.exm_one (M := model X.prog X.w) (J3.kIn) LT hb1
      have test : ∀ {Q : Value → Shared → Prop} {E : Value → Shared → Prop}, Q c { s' with heap := h3 } → wpAny (model X.prog X.w) (X.A.mark (some (.ref a))) (eval (.Name x np) X.env) Q E { s' with heap := h3 } := fun {Q E} q => by
        obtain ⟨hg, hdbg, hm | ⟨hm, hv, hnn⟩⟩ := hc
        · exact ld_glob (X := X.suite a ((a, oe3) :: (X.pn ++ pins))) S3 hg hm q hdbg
        · exact ld_blt (X := X.suite a ((a, oe3) :: (X.pn ++ pins))) S3 hg hm hv q hnn hdbg
      refine test (LM.here ?_)
      cases b with
      | true =>
        refine codeAny_handlers_suite_as ?_
        refine HandSPX.lands_againZ fl3 fun h4 fl4 up4 => ?_
        have J4 : Inv X pins σ' H' { s' with heap := h4 } := J.landed nb fl4.1 ((up.trans up3).trans up4) os ag
        obtain ⟨oe4, vs4, he4, hz4, hd4⟩ := fl4.there
        have S4 := J4.suite he4 hd4 na nL nF
        refine store_ok (X := X.suite a ((a, oe4) :: (X.pn ++ pins))) (v := .ref a) S4 hN hi hloc rfl (fun s5 S5 => ?_) (.inr hln)
        refine wpAny_mono ((hsu a oe4 cls d (X.pn ++ pins) hz4 ⟨_, hd4⟩).run [] s5 _ H' _ S5 (hyes rfl a na)) (fun f s6 hsp => ?_) (fun _ _ z => False.elim z)
        cases f with
        | next =>
          obtain ⟨σ6, H6, S6, q6⟩ := hsp
          refine gone_ok (unsuiteK S6 ok) hN hi hln fun s7 J7 => ?_
          exact .inr ⟨a, oe4, cls, d, _, _, hz4, ⟨_, hd4⟩, J7, q6⟩
        | brk => obtain ⟨σ6, H6, S6, q6⟩ := hsp; exact False.elim q6
        | cont => obtain ⟨σ6, H6, S6, q6⟩ := hsp; exact False.elim q6
        | ret u => obtain ⟨v6, σ6, H6, S6, r6, q6⟩ := hsp; exact False.elim q6
      | false =>
        show wpAny _ X.A (handleBy (.ref a) X.env []) _ _ _
        refine wpAny_handleBy_nil ?_
        obtain ⟨k1, k2, k3, oe, vs, T, oT, ts', he, hz, hd, h1, hr⟩ := id fl3
        unfold PySem.passOn
        refine wpAny_bind (wpAny_field he hd h1 ?_)
        rw [if_neg (show ¬ ((Value.ref T == Value.none) = true) from by simp)]
        have fin : wpAny (model X.prog X.w) X.A (setFlight (.ref a) X.env.frame) (fun _ s4 => wpAny (model X.prog X.w) X.A (throw (.ref a) : Sem Flow) G X.xe s4) X.xe { s' with heap := h3 } := by
          rw [hf]
          refine HandSPX.setFlight_upZ fl3 fun h4 hh4 up4 => wpAny_throw (tk _ _ ?_)
          exact ⟨a, B, sI, pins, σ', H', cls, d, rfl, J, nb, (up.trans up3).trans up4, .inr (.inr (by rw [hs]; exact hh4)), na, os, ag, hno rfl⟩
        first
          | exact wpAny_bind (wpAny_pure (wpAny_bind fin))
          | exact wpAny_bind fin
    · cases f with
      | next =>
        obtain ⟨σ', H', J', q⟩ := hsp
        exact wpAny_execs_nil (.inl ⟨σ', H', J'.ofTry ok, q⟩)
      | brk => obtain ⟨σ', H', J', q⟩ := hsp; exact False.elim q
      | cont => obtain ⟨σ', H', J', q⟩ := hsp; exact False.elim q
      | ret u =>
        obtain ⟨v, σ', H', J', r, q⟩ := hsp
        exact ⟨v, σ', H', J'.ofTry ok, r, q⟩
  refine wpAny_execs_cons (thn go fun f s1 q => ?_)
  cases f with
  | next =>
    rcases q with ⟨σ1, H1, J, q⟩ | ⟨a, oe, cls, d, σ1, H1, hz, hd, J, q⟩
    · exact wpAny_mono ((h0 (X.pn ++ pins)).run [] s1 σ1 H1 D (J.toTry _) q) (fun f s2 z => SP.ofTr z ok) fun _ _ z => False.elim z
    · exact wpAny_mono ((hK a oe cls d (X.pn ++ pins) hz hd).run [] s1 σ1 H1 D (toTryK J _) q) (fun f s2 z => SP.ofTrK z ok) fun _ _ z => False.elim z
  | ret u => exact q
  | brk => exact False.elim q
  | cont => exact False.elim q
end
def wTryK (i : Nat) (rl : List Str) (cat : Str → Bool) (w : WS) (ws : Addr → Str → WS) (w0 : WS) (wK : Addr → Str → WS) : WS := fun (D : HG Kd) s S =>
  w { nx := fun s1 S1 => w0 { nx := D.nx, rt := D.rt, xc := fun _ _ _ => False } s1 S1, rt := D.rt, xc := fun c s1 S1 => rl.contains c = true ∧ if cat c = true then ∀ a : Addr, ws a c { nx := fun s2 S2 => wK a c { nx := D.nx, rt := D.rt, xc := fun _ _ _ => False } (s2.set i none) S2, rt := fun _ _ => False, xc := fun _ _ _ => False } (s1.set i (some (.exn a c))) S1 else D.xc c s1 S1 } s S
section
variable {X : Cx} {g : Gi} {W : WX} {w : WS}
theorem ss_tryK {x n : Str} {cv : Value} {i : Nat} {rl : List Str} {cat : Str → Bool} {body suite rest : List Stmt} {b₀ : Stmt} {np pos pos' : Pos} {ws wK : Addr → Str → WS} {w0 : WS}
    (hs : X.stack = X.env :: X.outer) (hf : X.env.frame = some X.env.locals) (hN : X.N.Nodup) (hi : X.N[i]? = some n) (hln : X.env.kindOf n = some .local) (hc : Names X x cv) (tk : Takes X W)
    (hcat : ∀ c, rl.contains c = true → PySem.W.exmOne X.K (.ref (g.cl c)) cv = some (cat c))
    (hb : ∀ (W' : WX) (pn : List (Addr × Obj)) (xe : Value → Shared → Prop), Takes (X.tr pn xe) W' → PassesOwn (model X.prog X.w) X.A X.env xe → SSs (X.tr pn xe) g W' body w)
    (hsu : ∀ (a : Addr) (oe : Obj) (c : Str) (pn : List (Addr × Obj)), rl.contains c = true → Zc (.ref (g.cl c)) none oe → (∃ vs, oe.data = .fields vs) → SSs (X.suite a ((a, oe) :: pn)) g WFls (b₀ :: suite) (ws a c))
    (h0 : ∀ pn : List (Addr × Obj), SSs (X.tr pn fxe) g WFls rest w0)
    (hK : ∀ (a : Addr) (oe : Obj) (c : Str) (pn : List (Addr × Obj)), rl.contains c = true → Zc (.ref (g.cl c)) none oe → (∃ vs, oe.data = .fields vs) → SSs (X.tr ((a, oe) :: pn) fxe) g WFls rest (wK a c)) :
    SSs X g W (.Try body [.ExceptHandler (some (.Name x np)) (some n) (b₀ :: suite) pos'] [] [] pos :: rest) (wTryK i rl cat w ws w0 wK) := by
  refine ⟨_, pss_tryK (tb := fun W' => canS X.K g W' w) (ts := fun a cls d Dv sv H => ∃ c, cls = .ref (g.cl c) ∧ d = none ∧ rl.contains c = true ∧ canS X.K g WFls (ws a c) Dv sv H)
    (t0 := fun Dv sv H => canS X.K g WFls w0 Dv sv H) (tK := fun a cls d Dv sv H => ∃ c, cls = .ref (g.cl c) ∧ d = none ∧ rl.contains c = true ∧ canS X.K g WFls (wK a c) Dv sv H) hs hf hN hi hln hc tk
    (fun W' pn xe t p => (hb W' pn xe t p).ps) (fun a oe cls d pn hz hfl => ⟨fun pins s σ H D I ⟨c, e1, e2, hcl, q⟩ => ?_⟩) (fun pn => (h0 pn).ps) (fun a oe cls d pn hz hfl => ⟨fun pins s σ H D I ⟨c, e1, e2, hcl, q⟩ => ?_⟩), ?_⟩
  · subst e1 e2
    exact (hsu a oe c pn hcl hz hfl).ps.run pins s σ H D I q
  · subst e1 e2
    exact (hK a oe c pn hcl hz hfl).ps.run pins s σ H D I q
  · intro H0 r S H s sv Dk Dv si rs h ct
    refine ⟨H0, r, S, s, _, si, rs, h, fun s1 sv1 H1 r1 S1 H1' f1 s1' rs1 h1 => ?_, ct.2.1, fun c s1 sv1 H1 r1 S1 H1' f1 s1' rs1 hx => ?_⟩
    · exact ⟨H1, r1, S1, s1, _, s1', rs1, h1, (ct.fut f1 s1').1, (ct.fut f1 s1').2.1, fun _ _ _ _ _ _ _ _ _ _ z => z.elim⟩
    obtain ⟨hcl, hx⟩ := hx
    refine ⟨cat c, hcat c hcl, fun hy a ha => ⟨c, rfl, rfl, hcl, H1, r1, S1, _, _, s1', rs1.set i (d := .exn a c) (by unfold Rel; rfl), by rw [if_pos hy] at hx; exact hx a, ?_⟩, fun hn => ?_⟩
    · refine ⟨fun s2 sv2 H2 r2 S2 H2' f2 s2' rs2 h2 => ?_, fun _ _ _ _ _ _ _ _ _ z => z.elim, fun _ _ _ _ _ _ _ _ _ _ z => z.elim⟩
      have cf := ct.fut (f1.tr s1' f2) s2'
      exact ⟨c, rfl, rfl, hcl, H2, r2, S2, _, _, s2', rs2.clear i, h2, cf.1, cf.2.1, fun _ _ _ _ _ _ _ _ _ _ z => z.elim⟩
    · rw [hn, if_neg Bool.false_ne_true] at hx
      exact ct.2.2 c s1 sv1 H1 r1 S1 H1' f1 s1' rs1 hx
def wNevE : WE := fun (_ : HG XE) _ _ _ => False
theorem se_nev {e : Expr} : SE X g W e wNevE := ⟨fun _ _ _ => False, ⟨fun _ _ _ _ _ _ h => h.elim⟩, fun _ _ _ _ _ _ _ _ _ _ _ h _ _ => h.elim⟩
theorem pe_callP {rl : List Str} {a : Addr} {oe : Obj} {c : Str} {k : Nat} {f : Addr} {fd : FuncData} {ps : List Str} {wf : Addr → Str → WF} {x : Str} {e : Expr} {es : List Expr} {p pos : Pos} {t : TA} (fn : FnE X.prog X.w X.K X.mg X.base g rl k f fd ps wf) (ex : ExAt g rl c oe) (hin : (a, oe) ∈ X.pn) (room : RoomH k X.A) (gl : Gl X x) (gm : X.mg x = some (.ref f)) (kp : PySem.W.keepIn X.K (.ref f) = true) (bd : Binds X.K fd ps [])
    (args : PA X (e :: es) t) (nd : (x == ("__debug__" : Str)) = false := by decide) (h1 : starEach (e :: es) X.env = (false, eval e X.env) :: starEach es X.env := by rfl) (h2 : (backTo pos (starEach es X.env)).any (·.1) = false := by rfl) :
    PE X (.Call (.Name x p) (e :: es) [] pos) (tCallE (spW X.K g ps.length (wf a c)) t) := by
  constructor
  intro pins s0 env hp goal inv hyp
  refine wpAny_Call_Name_kw (ld_glob inv gl gm ?_ nd)
  have ran := args.run pos pins s0 env hp _ inv hyp
  refine PySem.W.callWith_K (h₀ := X.base) inv.ok.mod.kin kp (thn ran ?_) h1 h2
  rintro us s1 ⟨vs, hp1, inv1, rel, spd⟩
  refine ⟨inv1.kIn, ?_⟩
  have len : us.length = ps.length := by
    rw [← rel.length]
    exact spd.1
  have bnd := bd s1 us inv1.kIn (by rw [List.append_nil]; exact len)
  rw [List.append_nil] at bnd
  obtain ⟨q1, q2, q3, q4, q5⟩ := inv1.pin (a, oe) (List.mem_append.mpr (.inl hin))
  have pin : PinOk X.stack hp1 s1 (a, oe) := ⟨q1, q2, fun z => (List.mem_cons.mp (inv1.stkSub a z)).elim q3 q4, q5⟩
  have goes := fn.run _ X.stack s1 hp1 ⟨us, []⟩ us vs goal (fun _ _ _ => False) a oe c ex room pin inv1.env0 bnd rel spd
  refine wpAny_call (codeAny_mono goes fun res s2 hres => ?_)
  match res, hres with
  | .error _, z =>
    obtain ⟨_, _, _, _, _, _, _, _, _, _, _, _, q⟩ := z
    exact q.elim
  | .ok (.ret u), z => exact inv1.after z
  | .ok .next, z => exact z.elim
  | .ok .brk, z => exact z.elim
  | .ok .cont, z => exact z.elim
theorem se_callP {rl : List Str} {a : Addr} {oe : Obj} {c : Str} {k : Nat} {f : Addr} {fd : FuncData} {ps : List Str} {wf : Addr → Str → WF} {x : Str} {e : Expr} {es : List Expr} {p pos : Pos} {ws : WA} (fn : FnE X.prog X.w X.K X.mg X.base g rl k f fd ps wf) (hl : ∀ a c ds S kk xk, wf a c ds S kk xk → ds.length = ps.length) (ex : ExAt g rl c oe) (hin : (a, oe) ∈ X.pn) (room : RoomH k X.A) (gl : Gl X x) (gm : X.mg x = some (.ref f)) (kp : PySem.W.keepIn X.K (.ref f) = true) (bd : Binds X.K fd ps [])
    (ha : SA X g W (e :: es) ws) (nd : (x == ("__debug__" : Str)) = false := by decide) (h1 : starEach (e :: es) X.env = (false, eval e X.env) :: starEach es X.env := by rfl) (h2 : (backTo pos (starEach es X.env)).any (·.1) = false := by rfl) :
    SE X g W (.Call (.Name x p) (e :: es) [] pos) (wCallE (wf a c) ws) := by
  obtain ⟨ta, pa, ga⟩ := ha
  refine ⟨_, pe_callP fn ex hin room gl gm kp bd pa nd h1 h2, fun H0 r S H s sv Q k xc si rs h ce cx => ?_⟩
  refine ga H0 r S H s sv _ _ noXC si rs h (fun ds vs H1 r1 S1 H1' f1 s1 rl q => ?_) fun _ _ _ _ _ _ _ z => z.elim
  exact ⟨by rw [rl.length]; exact hl _ _ _ _ _ _ q, H1, r1, S1, ds, _, _, s1, rl, q, ce.fut f1 s1, fun _ _ _ _ _ _ _ z => z.elim⟩
theorem isNW_x {neg : Bool} {a : Addr} {c : Str} {S : Sto} {k : KD} : isNW neg (.exn a c) .non S k = k (.bl neg) S := id rfl
end
end Ab

namespace Ab
open PySem PySem.Spec PyProof.Rows L2
noncomputable def vAsK : (PySem.W.Frag) → (Value) → (Nat) → (Addr → Value → Option Addr → TS) → (Addr → Value → Option Addr → TS) → (WX) → (Ends) → (WX) := sld wAsK
noncomputable def vTryK : (Nat) → (List Str) → (Str → Bool) → (WS) → (Addr → Str → WS) → (WS) → (Addr → Str → WS) → (WS) := sld wTryK
theorem vTryK_s : vTryK = wTryK := sld_eq _
theorem vTryK_q (i : Nat) (rl : List Str) (cat : Str → Bool) (w : WS) (ws : Addr → Str → WS) (w0 : WS) (wK : Addr → Str → WS) (D : _) (s : _) (S : _) : vTryK i rl cat w ws w0 wK D s S = ( w { nx := fun s1 S1 => w0 { nx := D.nx, rt := D.rt, xc := fun _ _ _ => False } s1 S1, rt := D.rt, xc := fun c s1 S1 => rl.contains c = true ∧ if cat c = true then ∀ a : Addr, ws a c { nx := fun s2 S2 => wK a c { nx := D.nx, rt := D.rt, xc := fun _ _ _ => False } (s2.set i none) S2, rt := fun _ _ => False, xc := fun _ _ _ => False } (s1.set i (some (.exn a c))) S1 else D.xc c s1 S1 } s S) := by rw [vTryK_s]; rfl
noncomputable def vNevE : (WE) := sld wNevE
theorem vNevE_s : vNevE = wNevE := sld_eq _
theorem vNevE_q (y0 : _) (y1 : _) (y2 : _) (y3 : _) : vNevE  y0 y1 y2 y3 = (False) := by rw [vNevE_s]; rfl
end Ab

namespace Ab
open PySem PySem.Spec PyProof.Rows L2
section
variable {X : Cx} {g : Gi} {W : WX} {a b c e o : Expr} {pos apos cpos : Pos} {wa wb wo we : WE}
def slX : D → Option Int → Option Int → Sto → KD → Prop
  | .str z, lo, hi, S, k => z.length ≤ sizeLine ∧ k (.str (Txt.slice z lo hi)) S
  | _, _, _, _, _ => False
def wSlX (wa : WE) (wl wh : WO) : WE := fun (xc : HG XE) s S k => wa xc s S fun x S1 => wl xc s S1 fun l S2 => wh xc s S2 fun u S3 => slX x l u S3 k
theorem se_sliceX {lo hi : Option Expr} {wl wh : WO} {p2 : Pos} (ha : SE X g W a wa) (hl : SO X g W lo wl) (hh : SO X g W hi wh) : SE X g W (.Subscript a (.Slice lo hi none p2) pos) (wSlX wa wl wh) := by
  obtain ⟨ta, pa, ga⟩ := ha
  obtain ⟨tl, pl, gl⟩ := hl
  obtain ⟨th, ph, gh⟩ := hh
  refine ⟨_, pe_slice C8.sl_txt pa pl ph, fun H0 r S H s sv Q k xc si rs h ce cx => ?_⟩
  refine ga H0 r S H s sv _ _ xc si rs h (fun d v H1 r1 S1 H1' f1 s1 rl h1 => ?_) cx
  refine gl H1 r1 S1 H1' s sv _ _ xc s1 (rs.fut f1) h1 (fun l H2 r2 S2 H2' f2 s2 h2 => ?_) (cx.fut f1 s1)
  have f12 := f1.tr s1 f2
  refine gh H2 r2 S2 H2' s sv _ _ xc s2 (rs.fut f12) h2 (fun u H3 r3 S3 H3' f3 s3 h3 => ?_) (cx.fut f12 s2)
  have f13 := f12.tr s2 f3
  have rl3 := (rl.fut f2).fut f3
  unfold slX at h3
  split at h3
  · obtain ⟨nw, hk⟩ := h3
    exact ⟨_, rel_str rl3, nw, ce _ _ _ _ _ _ f13 s3 rel_str' hk⟩
  · exact h3.elim
theorem slX_s {z : Str} {lo hi : Option Int} {S : Sto} {k : KD} : slX (.str z) lo hi S k = (z.length ≤ sizeLine ∧ k (.str (Txt.slice z lo hi)) S) := id rfl
def upF : D → Sto → KD → Prop
  | .str z, S, k => z.length ≤ 5592405 ∧ k (.str (Txt.upper z)) S
  | _, _, _ => False
def wUp (wo : WE) : WE := fun (xc : HG XE) s S k => wo xc s S fun x S1 => upF x S1 k
theorem upF_s {z : Str} {S : Sto} {k : KD} : upF (.str z) S k = (z.length ≤ 5592405 ∧ k (.str (Txt.upper z)) S) := id rfl
def joF : D → D → Sto → KD → Prop
  | .str z, y, S, k => ∃ ys : List Str, sview S y = some (ys.map .str) ∧ (ys.map (·.length)).sum + ys.length * z.length ≤ 16777216 ∧ k (.str (Txt.join z ys)) S
  | _, _, _, _ => False
def wJo (wo wa : WE) : WE := fun (xc : HG XE) s S k => wo xc s S fun x S1 => (∃ z, x = .str z) ∧ wa xc s S1 fun y S2 => joF x y S2 k
theorem joF_s {z : Str} {y : D} {S : Sto} {k : KD} : joF (.str z) y S k = ∃ ys : List Str, sview S y = some (ys.map .str) ∧ (ys.map (·.length)).sum + ys.length * z.length ≤ 16777216 ∧ k (.str (Txt.join z ys)) S := id rfl
end
end Ab

namespace Ab
open PySem PySem.Spec PyProof.Rows L2
noncomputable def vSlX : (WE) → (WO) → (WO) → (WE) := sld wSlX
theorem vSlX_s : vSlX = wSlX := sld_eq _
theorem vSlX_q (wa : WE) (wl wh : WO) (xc : _) (s : _) (S : _) (k : _) : vSlX wa wl wh xc s S k = (wa xc s S fun x S1 => wl xc s S1 fun l S2 => wh xc s S2 fun u S3 => slX x l u S3 k) := by rw [vSlX_s]; rfl
noncomputable def vUp : (WE) → (WE) := sld wUp
theorem vUp_s : vUp = wUp := sld_eq _
theorem vUp_q (wo : WE) (xc : _) (s : _) (S : _) (k : _) : vUp wo xc s S k = (wo xc s S fun x S1 => upF x S1 k) := by rw [vUp_s]; rfl
noncomputable def vJo : (WE) → (WE) → (WE) := sld wJo
theorem vJo_s : vJo = wJo := sld_eq _
theorem vJo_q (wo wa : WE) (xc : _) (s : _) (S : _) (k : _) : vJo wo wa xc s S k = (wo xc s S fun x S1 => (∃ z, x = .str z) ∧ wa xc s S1 fun y S2 => joF x y S2 k) := by rw [vJo_s]; rfl
end Ab

namespace Lw
open PySem PySem.Spec PyProof.Rows L2 Ab
theorem seq_e {a b : WS} {Dk : Kd} {s : Ab.Env} {S : Sto} (h : a { Dk with nx := b Dk } s S) : vSeq a b Dk s S := vseq_e h
theorem seq_i {a b : WS} {Dk : Kd} {s : Ab.Env} {S : Sto} (h : ∀ R : Ab.Env → Sto → Prop, (∀ s' S', b Dk s' S' → R s' S') → a { Dk with nx := R } s S) : vSeq a b Dk s S := vseq_i h
theorem seq_cut {a b : WS} {Dk : Kd} {s : Ab.Env} {S : Sto} (M : Ab.Env → Sto → Prop) (h1 : ∀ R : Ab.Env → Sto → Prop, (∀ s' S', M s' S' → R s' S') → a { Dk with nx := R } s S) (h2 : ∀ s' S', M s' S' → b Dk s' S') : vSeq a b Dk s S := vseq_cut M h1 h2
theorem while_inv {wt : WT} {w : WS} {Dk : Kd} {s : Ab.Env} {S : Sto} (P : Nat → Ab.Env → Sto → Prop) (m0 : Nat) (h0 : P m0 s S)
    (hs : ∀ m s' S', P m s' S' → ∀ nx : Ab.Env → Sto → Prop, (∀ m' s2 S2, m' < m → P m' s2 S2 → nx s2 S2) → wt Dk.xc s' S' fun b S1 => if b = true then w { Dk with nx := nx } s' S1 else Dk.nx s' S1) : vWhile wt w Dk s S := vwhile_inv P m0 h0 hs
theorem lc_map {i : Nat} {vs : List Nat} {we : WE} {ds : List D} {gd : Sto → Prop} {s : Ab.Env} {S : Sto} {fin : List D → Sto → Prop} (f : D → D) (hl : ds.length < sizeLine) (hg : gd S)
    (he : ∀ x ∈ ds, ∀ k : KD, k (f x) S → we noXC ((wipeD s vs).set i (some x)) S k) (hf : fin (ds.map f) S) : lcW i vs vYes we ds gd s S fin := vlc_map f hl hg he hf
theorem lc_rel {i : Nat} {vs : List Nat} {we : WE} {ds : List D} {gd : Sto → Prop} {s : Ab.Env} {S : Sto} {fin : List D → Sto → Prop} (Q : Nat → D → D → Prop) (hl : ds.length < sizeLine) (hg : gd S)
    (he : ∀ n x, ds[n]? = some x → ∀ k : KD, (∀ y, Q n x y → k y S) → we noXC ((wipeD s vs).set i (some x)) S k)
    (hf : ∀ ys : List D, ys.length = ds.length → (∀ (n : Nat) (x y : D), ds[n]? = some x → ys[n]? = some y → Q n x y) → fin ys S) : lcW i vs vYes we ds gd s S fin := vlc_rel Q hl hg he hf
local macro_rules | `(tactic| walk_at "i") => `(tactic| first | refine vDef_i rfl ?_ | refine vTrim_i rfl ?_ | refine vTrimC_i rfl ?_ | refine vTrimM_i rfl ?_)
local macro_rules | `(tactic| walk_at "v") => `(tactic| simp only [vSlX_q, vUp_q, vJo_q, slX_s, upF_s, joF_s, vTryK_q, vNevE_q, isNW_x, vSortK_q, kSortK_i, vTryO_q, vDGet2_q, vDNew_q, vDPut_q, vKeysL_q, vLock_q, vPnil_q, vPcons_q, vDisp_q, vFld_q, vSetF_q, vMeth_q, vMake_q, vTrimM_q, vCallE_q, kFld_c, kSetF_c, isO_c, vVar_q, vC_q, vOp_q, vNeg_q, vTest_q, vChain_q, vAnd_q, vOr_q, vNot_q, vAndV_q, vOrV_q, vNotV_q, vIfE_q, vNoP_q, vSoP_q, vSl_q, vNil_q, vCons_q, vTup_q, vLst_q, vLstC_q, vFrz_q, vB_q, vIsi_q, vM_q, vM0_q, vCall_q, vSeqI_q, vRng1_q, vRng2_q, vYes_q, vLc_q, vLcC_q, vNx_q, vDrop_q, vRet_q, vRetN_q, vIf_q, vSet_q, vSto_q, vFor_q, vRaise_q, vDef_q, vTrim_q, vTrimC_q, vTry_q, vIsE_q, vFrzD_q, neW_q, slot, addW_ii, addW_ss, addW_tt, iiW_ii, ii0_ii, kNeg_i, eqW_ii, eqW_bb, eqW_ss, eqW_nn, eqW_ni, eqW_in, kNot_b, kBl_b, kOpt_s, isi_pR, ixD_t, ixD_l, ixD_r, ixD_c, isBW_bb, isNW_nn, isNW_i, isNW_t, isNW_l, kSoP_i, slW_t, slW_c, frzW_c, frzW_i, frzW_b, frzW_n, frzW_s, frzW_t, frzW_l, frzC_s, lview_0, lview_1, lview_2, lview_3, lview_4, lview_5, lenF_s, lenF_c, absF_i, maxF_ii, minF_ii, sumF_1, allF_1, sortedF_1, listF_1, listFC_1, tupleF_1, intF_i, intF_b, appF_c, popF_c, isi_due, isi_fr, Option.bind_some, wipeD, kRng1_i, kRng2_i, lview_l, lview_r, sview_c, sview_l, sview_r, sview_t, tview_t, gdOf_l, gdOf_r, gdOf_t, gdOf_c, isiD_i, isiD_b, isiD_n, isiD_s, isiD_t, isiD_l, List.map, List.length, List.replicate, List.append, List.cons_append, List.nil_append, Nat.reduceAdd, Nat.reduceSub, vLstRev_q, vLstRevC_q, vLstRg_q, vLstRgC_q, vRng3_q, vRem_q, kLstRev_i, kLstRevC_i, kRng3_i, kLstRg_i, kLstRgC_i, popAtF_i, clrF_i, setq_0, setq_s, List.getElem?_cons_zero, List.getElem?_cons_succ])
local macro_rules | `(tactic| walk_at "u") => `(tactic| simp only [addW_ll, addW_cl, addW_lc, ix_pR0, ix_pR1, len_pR, atI_0, atI_1, atI_2, atI_3, atI_4, atI_5, atI_6, atI_7, ixW_i, slW_l, slW_r, lenF_l, lenF_r, lenF_t, maxF_1, minF_1, stl_get, stl_set, stl_take, lview_top, rview_top, ix_due0, ix_fr0, ix_fr1, len_fr, frL_len, ratL_len, matL_len, ix_due1, ix_due2, ix_due3, len_due, vI_len, dueL_len, rngD_len, List.append_nil, Bool.not_eq_true', Bool.not_eq_true, decide_eq_true_eq, decide_eq_false_iff_not, Bool.and_eq_true, Bool.or_eq_true, Bool.not_true, Bool.not_false, if_true, if_false, true_and, and_true, ite_true, ite_false, reduceCtorEq, decide_true, decide_false, Bool.or_false, Bool.false_or, Bool.true_or, Bool.or_true, Int.cast_ofNat_Int, Int.natCast_zero, Int.natCast_one, fmod_pos, fdiv_pos, size_ok, size_ok2, div_lit, mul_litr, mul_litl, Int.reduceEq, Int.reduceNe, Nat.reduceEqDiff, Int.reduceToNat, Int.reduceAdd, Int.reduceMul, Int.reduceSub, Int.reduceNeg, Int.reduceLT, Int.reduceLE, ne_eq, not_false_eq_true, not_true_eq_false, Nat.reduceLeDiff, Bool.false_eq_true, exists_eq_left', exists_eq', Cel.lst.injEq, Option.some.injEq, exists_const, eq_self, List.length, Nat.reduceAdd, pw_10_6, pw_10_7, pw_10_8, pw_10_9, pw_10_11, pw_10_12, pw_10_14, pw_10_15, pw_10_18, pw_10_20, pw_10_29, pw_10_30, pw_10_50, pw_10_58, pw_10_59, pw_10_60, pw_m61_4])
local macro_rules | `(tactic| walk_at "w") => `(tactic| (try simp only [vSlX_q, vUp_q, vJo_q, slX_s, upF_s, joF_s, vTryK_q, vNevE_q, isNW_x, vSortK_q, kSortK_i, vTryO_q, vDGet2_q, vDNew_q, vDPut_q, vKeysL_q, vLock_q, vPnil_q, vPcons_q, vDisp_q, vFld_q, vSetF_q, vMeth_q, vMake_q, vTrimM_q, vCallE_q, kFld_c, kSetF_c, isO_c, vVar_q, vC_q, vOp_q, vNeg_q, vTest_q, vChain_q, vAnd_q, vOr_q, vNot_q, vAndV_q, vOrV_q, vNotV_q, vIfE_q, vNoP_q, vSoP_q, vSl_q, vNil_q, vCons_q, vTup_q, vLst_q, vLstC_q, vFrz_q, vB_q, vIsi_q, vM_q, vM0_q, vCall_q, vSeqI_q, vRng1_q, vRng2_q, vYes_q, vLc_q, vLcC_q, vNx_q, vDrop_q, vRet_q, vRetN_q, vIf_q, vSet_q, vSto_q, vFor_q, vRaise_q, vDef_q, vTrim_q, vTrimC_q, vTry_q, vIsE_q, vFrzD_q, neW_q, slot, addW_ii, addW_ss, addW_tt, iiW_ii, ii0_ii, kNeg_i, eqW_ii, eqW_bb, eqW_ss, eqW_nn, eqW_ni, eqW_in, kNot_b, kBl_b, kOpt_s, isi_pR, ixD_t, ixD_l, ixD_r, ixD_c, isBW_bb, isNW_nn, isNW_i, isNW_t, isNW_l, kSoP_i, slW_t, slW_c, frzW_c, frzW_i, frzW_b, frzW_n, frzW_s, frzW_t, frzW_l, frzC_s, lview_0, lview_1, lview_2, lview_3, lview_4, lview_5, lenF_s, lenF_c, absF_i, maxF_ii, minF_ii, sumF_1, allF_1, sortedF_1, listF_1, listFC_1, tupleF_1, intF_i, intF_b, appF_c, popF_c, isi_due, isi_fr, Option.bind_some, wipeD, kRng1_i, kRng2_i, lview_l, lview_r, sview_c, sview_l, sview_r, sview_t, tview_t, gdOf_l, gdOf_r, gdOf_t, gdOf_c, isiD_i, isiD_b, isiD_n, isiD_s, isiD_t, isiD_l, List.map, List.length, List.replicate, List.append, List.cons_append, List.nil_append, Nat.reduceAdd, Nat.reduceSub, vLstRev_q, vLstRevC_q, vLstRg_q, vLstRgC_q, vRng3_q, vRem_q, kLstRev_i, kLstRevC_i, kRng3_i, kLstRg_i, kLstRgC_i, popAtF_i, clrF_i, setq_0, setq_s, List.getElem?_cons_zero, List.getElem?_cons_succ, addW_ll, addW_cl, addW_lc, ix_pR0, ix_pR1, len_pR, atI_0, atI_1, atI_2, atI_3, atI_4, atI_5, atI_6, atI_7, ixW_i, slW_l, slW_r, lenF_l, lenF_r, lenF_t, maxF_1, minF_1, stl_get, stl_set, stl_take, lview_top, rview_top, ix_due0, ix_fr0, ix_fr1, len_fr, frL_len, ratL_len, matL_len, ix_due1, ix_due2, ix_due3, len_due, vI_len, dueL_len, rngD_len, List.append_nil, Bool.not_eq_true', Bool.not_eq_true, decide_eq_true_eq, decide_eq_false_iff_not, Bool.and_eq_true, Bool.or_eq_true, Bool.not_true, Bool.not_false, if_true, if_false, true_and, and_true, ite_true, ite_false, reduceCtorEq, decide_true, decide_false, Bool.or_false, Bool.false_or, Bool.true_or, Bool.or_true, Int.cast_ofNat_Int, Int.natCast_zero, Int.natCast_one, fmod_pos, fdiv_pos, size_ok, size_ok2, div_lit, mul_litr, mul_litl, Int.reduceEq, Int.reduceNe, Nat.reduceEqDiff, Int.reduceToNat, Int.reduceAdd, Int.reduceMul, Int.reduceSub, Int.reduceNeg, Int.reduceLT, Int.reduceLE, ne_eq, not_false_eq_true, not_true_eq_false, Nat.reduceLeDiff, Bool.false_eq_true, exists_eq_left', exists_eq', Cel.lst.injEq, Option.some.injEq, exists_const, eq_self, pw_10_6, pw_10_7, pw_10_8, pw_10_9, pw_10_11, pw_10_12, pw_10_14, pw_10_15, pw_10_18, pw_10_20, pw_10_29, pw_10_30, pw_10_50, pw_10_58, pw_10_59, pw_10_60, pw_m61_4]))
local macro_rules | `(tactic| walk_at "s") => `(tactic| (walk_at "w"; (try with_reducible refine seq_e ?_); walk_at "w"))

local macro_rules | `(tactic| walk_at "S") => `(tactic| (walk_at "w"; repeat ((with_reducible refine seq_e ?_); walk_at "w")))

def RL : List Str := ["NoPart", "NoRule"]
theorem rl_NoPart : RL.contains "NoPart" = true := by decide
theorem eS_NoPart_Bare : eSub "NoPart" "Bare" = false := by decide
theorem eS_NoPart_Closed : eSub "NoPart" "Closed" = false := by decide
theorem eS_NoPart_Gone : eSub "NoPart" "Gone" = false := by decide
theorem eS_NoPart_NoAnswer : eSub "NoPart" "NoAnswer" = false := by decide
theorem eS_NoPart_NoDeal : eSub "NoPart" "NoDeal" = false := by decide
theorem eS_NoPart_NoLayer : eSub "NoPart" "NoLayer" = false := by decide
theorem eS_NoPart_NoMember : eSub "NoPart" "NoMember" = false := by decide
theorem eS_NoPart_NoPart : eSub "NoPart" "NoPart" = true := by decide
theorem eS_NoPart_NoRule : eSub "NoPart" "NoRule" = false := by decide
theorem eS_NoPart_NoTerms : eSub "NoPart" "NoTerms" = false := by decide
theorem eS_NoPart_Out : eSub "NoPart" "Out" = false := by decide
theorem eS_NoPart_Poor : eSub "NoPart" "Poor" = false := by decide
theorem eS_NoPart_QuitsError : eSub "NoPart" "QuitsError" = true := by decide
theorem eS_NoPart_Ringed : eSub "NoPart" "Ringed" = false := by decide
theorem eS_NoPart_Settled : eSub "NoPart" "Settled" = false := by decide
theorem eS_NoPart_Standing : eSub "NoPart" "Standing" = false := by decide
theorem eS_NoPart_TooMuch : eSub "NoPart" "TooMuch" = false := by decide
theorem eS_NoPart_Unclosed : eSub "NoPart" "Unclosed" = false := by decide
theorem eS_NoPart_ValueError : eSub "NoPart" "ValueError" = true := by decide
theorem rl_NoRule : RL.contains "NoRule" = true := by decide
theorem eS_NoRule_Bare : eSub "NoRule" "Bare" = false := by decide
theorem eS_NoRule_Closed : eSub "NoRule" "Closed" = false := by decide
theorem eS_NoRule_Gone : eSub "NoRule" "Gone" = false := by decide
theorem eS_NoRule_NoAnswer : eSub "NoRule" "NoAnswer" = false := by decide
theorem eS_NoRule_NoDeal : eSub "NoRule" "NoDeal" = false := by decide
theorem eS_NoRule_NoLayer : eSub "NoRule" "NoLayer" = false := by decide
theorem eS_NoRule_NoMember : eSub "NoRule" "NoMember" = false := by decide
theorem eS_NoRule_NoPart : eSub "NoRule" "NoPart" = false := by decide
theorem eS_NoRule_NoRule : eSub "NoRule" "NoRule" = true := by decide
theorem eS_NoRule_NoTerms : eSub "NoRule" "NoTerms" = false := by decide
theorem eS_NoRule_Out : eSub "NoRule" "Out" = false := by decide
theorem eS_NoRule_Poor : eSub "NoRule" "Poor" = false := by decide
theorem eS_NoRule_QuitsError : eSub "NoRule" "QuitsError" = true := by decide
theorem eS_NoRule_Ringed : eSub "NoRule" "Ringed" = false := by decide
theorem eS_NoRule_Settled : eSub "NoRule" "Settled" = false := by decide
theorem eS_NoRule_Standing : eSub "NoRule" "Standing" = false := by decide
theorem eS_NoRule_TooMuch : eSub "NoRule" "TooMuch" = false := by decide
theorem eS_NoRule_Unclosed : eSub "NoRule" "Unclosed" = false := by decide
theorem eS_NoRule_ValueError : eSub "NoRule" "ValueError" = true := by decide
local macro_rules | `(tactic| walk_at "e") => `(tactic| simp only [rl_NoPart, eS_NoPart_Bare, eS_NoPart_Closed, eS_NoPart_Gone, eS_NoPart_NoAnswer, eS_NoPart_NoDeal, eS_NoPart_NoLayer, eS_NoPart_NoMember, eS_NoPart_NoPart, eS_NoPart_NoRule, eS_NoPart_NoTerms, eS_NoPart_Out, eS_NoPart_Poor, eS_NoPart_QuitsError, eS_NoPart_Ringed, eS_NoPart_Settled, eS_NoPart_Standing, eS_NoPart_TooMuch, eS_NoPart_Unclosed, eS_NoPart_ValueError, rl_NoRule, eS_NoRule_Bare, eS_NoRule_Closed, eS_NoRule_Gone, eS_NoRule_NoAnswer, eS_NoRule_NoDeal, eS_NoRule_NoLayer, eS_NoRule_NoMember, eS_NoRule_NoPart, eS_NoRule_NoRule, eS_NoRule_NoTerms, eS_NoRule_Out, eS_NoRule_Poor, eS_NoRule_QuitsError, eS_NoRule_Ringed, eS_NoRule_Settled, eS_NoRule_Standing, eS_NoRule_TooMuch, eS_NoRule_Unclosed, eS_NoRule_ValueError])
noncomputable def w__law_cell : WF := vDef 2 2 (vSeq (vIf (vTest (vOp ltW (vVar 1) (vB lenF (vCons (vVar 0) vNil)))) (vRet (vOp ixW (vVar 0) (vVar 1))) vNx)
  (vRet (vC (.int 0))))
noncomputable def w__law_draw : WF := vDef 4 4 (vRet (vOp modW (vOp modW (vOp addW (vOp addW (vOp mulW (vCall w__law_cell (vCons (vVar 0) (vCons (vVar 1) vNil))) (vC (.int 48271))) (vOp mulW (vOp mulW (vC (.int 7919)) (vVar 1)) (vVar 1))) (vC (.int 11))) (vVar 2)) (vVar 3)))
noncomputable def w__law_days : WF := vDef 2 2 (vSeq (vIf (vTest (vOp eqW (vCall w__law_draw (vCons (vVar 0) (vCons (vC (.int 0)) (vCons (vC (.int 10007)) (vCons (vC (.int 3)) vNil))))) (vC (.int 0)))) (vRet (vOp addW (vC (.int 1)) (vCall w__law_draw (vCons (vVar 0) (vCons (vC (.int 0)) (vCons (vC (.int 15013)) (vCons (vVar 1) vNil))))))) vNx)
  (vRet (vOp addW (vC (.int 1)) (vCall w__law_draw (vCons (vVar 0) (vCons (vC (.int 0)) (vCons (vC (.int 15013)) (vCons (vC (.int 6)) vNil))))))))
noncomputable def w__law_most : WF := vDef 1 1 (vSeq (vIf (vTest (vOp eqW (vCall w__law_draw (vCons (vVar 0) (vCons (vC (.int 1)) (vCons (vC (.int 20011)) (vCons (vC (.int 2)) vNil))))) (vC (.int 0)))) (vRet (vC (.int 3))) vNx)
  (vRet (vOp subW (vOp powW (vC (.int 10)) (vC (.int 12))) (vC (.int 1)))))
noncomputable def w__law_number : WF := vDef 3 4 (vSeq (vSet 3 (vOp addW (vOp addW (vOp mulW (vCall w__law_cell (vCons (vVar 0) (vCons (vOp modW (vVar 1) (vC (.int 60))) vNil))) (vC (.int 48271))) (vOp mulW (vOp mulW (vC (.int 7919)) (vVar 1)) (vVar 1))) (vC (.int 11))))
  (vSeq (vIf (vTest (vOp eqW (vOp modW (vOp modW (vVar 3) (vC (.int 40009))) (vC (.int 4))) (vC (.int 0)))) (vRet (vC (.int 0))) vNx)
  (vSeq (vIf (vTest (vOp eqW (vOp modW (vOp modW (vVar 3) (vC (.int 40009))) (vC (.int 4))) (vC (.int 1)))) (vRet (vOp subW (vOp modW (vOp modW (vVar 3) (vC (.int 15013))) (vC (.int 7))) (vC (.int 3)))) vNx)
  (vRet (vOp subW (vOp modW (vOp mulW (vVar 3) (vOp powW (vC (.int 2305843009213693951)) (vC (.int 4)))) (vOp addW (vOp mulW (vC (.int 2)) (vVar 2)) (vC (.int 1)))) (vVar 2))))))
noncomputable def w__law_moves : WF := vTrim (vDef 4 8 (vSeq (vSet 4 (vLstC vNil))
  (vSeq (vFor 5 (vRng1 (vCons (vVar 1) vNil))
  (vSeq (vSet 6 (vLc 7 [7] (vRng1 (vCons (vVar 2) vNil)) vYes (vCall w__law_number (vCons (vVar 0) (vCons (vOp addW (vOp addW (vC (.int 5)) (vOp mulW (vVar 2) (vVar 5))) (vVar 7)) (vCons (vVar 3) vNil))))))
  (vSeq (vIf (vAnd (vTest (vOp gtW (vVar 5) (vC (.int 0)))) (vTest (vOp eqW (vCall w__law_draw (vCons (vVar 0) (vCons (vOp addW (vC (.int 1)) (vVar 5)) (vCons (vC (.int 60013)) (vCons (vC (.int 5)) vNil))))) (vC (.int 0))))) (vSet 6 (vB listF (vCons (vOp ixW (vVar 4) (vCall w__law_draw (vCons (vVar 0) (vCons (vOp addW (vC (.int 1)) (vVar 5)) (vCons (vC (.int 70001)) (vCons (vVar 5) vNil)))))) vNil))) vNx)
  (vDrop (vM appF (vVar 4) (vCons (vVar 6) vNil))))))
  (vRet (vFrz (vVar 4))))))
noncomputable def w__law_position : WF := vDef 4 5 (vRet (vLc 4 [4] (vRng1 (vCons (vVar 2) vNil)) vYes (vCall w__law_number (vCons (vVar 0) (vCons (vOp addW (vVar 1) (vOp mulW (vC (.int 7)) (vVar 4))) (vCons (vVar 3) vNil))))))
noncomputable def w__law_divisor : WF := vDef 2 3 (vSeq (vWhile (vTest (vOp neW (vVar 1) (vC (.int 0))))
  (vSeq (vSet 2 (vOp modW (vVar 0) (vVar 1)))
  (vSeq (vSet 0 (vVar 1))
  (vSet 1 (vVar 2)))))
  (vRet (vVar 0)))
noncomputable def w__law_whole : WF := vDef 1 1 (vRet (vAndV (vIsi .int (vVar 0)) (vNotV (vIsi .bool (vVar 0)))))
noncomputable def w__law_is_part : WF := vDef 1 1 (vSeq (vIf (vOr (vNot (vTest (vIsi .tuple (vVar 0)))) (vTest (vOp neW (vB lenF (vCons (vVar 0) vNil)) (vC (.int 2))))) (vRet (vC (.bl false))) vNx)
  (vSeq (vIf (vOr (vNot (vTest (vCall w__law_whole (vCons (vOp ixW (vVar 0) (vC (.int 0))) vNil)))) (vOr (vNot (vTest (vCall w__law_whole (vCons (vOp ixW (vVar 0) (vC (.int 1))) vNil)))) (vTest (vOp ltW (vOp ixW (vVar 0) (vC (.int 1))) (vC (.int 1)))))) (vRet (vC (.bl false))) vNx)
  (vRet (vOp eqW (vCall w__law_divisor (vCons (vB absF (vCons (vOp ixW (vVar 0) (vC (.int 0))) vNil)) (vCons (vOp ixW (vVar 0) (vC (.int 1))) vNil))) (vC (.int 1))))))
noncomputable def w__law_meets : WF := vDef 3 3 (vSeq (vIf (vNot (vTest (vCall w__law_is_part (vCons (vVar 0) vNil)))) (vRet (vC (.bl false))) vNx)
  (vSeq (vIf (vTest (vOp ltW (vVar 1) (vC (.int 0)))) (vRet (vOp eqW (vVar 0) (vTup (vCons (vC (.int 0)) (vCons (vC (.int 1)) vNil))))) vNx)
  (vRet (vOp eqW (vOp mulW (vOp ixW (vVar 0) (vC (.int 0))) (vVar 2)) (vOp mulW (vVar 1) (vOp ixW (vVar 0) (vC (.int 1))))))))
noncomputable def w_loss_on : WF := vDef 2 3 (vRet (vOp subW (vC (.int 0)) (vB sumF (vCons (vLc 2 [2] (vRng1 (vCons (vB lenF (vCons (vVar 0) vNil)) vNil)) vYes (vOp mulW (vOp ixW (vVar 0) (vVar 2)) (vOp ixW (vVar 1) (vVar 2)))) vNil))))
noncomputable def w_losses_of : WF := vDef 2 3 (vRet (vLc 2 [2] (vSeqI (vVar 1)) vYes (vCall w_loss_on (vCons (vVar 0) (vCons (vVar 2) vNil)))))
noncomputable def w_worst_days : WF := vDef 3 5 (vSeq (vSet 3 (vCall w_losses_of (vCons (vVar 0) (vCons (vVar 1) vNil))))
  (vSeq (vSet 4 (vSortK 3 "worst_days.<locals>.<lambda>" (vB lenF (vCons (vVar 1) vNil))))
  (vRet (vSl (vVar 4) vNoP (vSoP (vVar 2))))))
noncomputable def w_divisor : WF := vDef 2 3 (vSeq (vSet 0 (vB absF (vCons (vVar 0) vNil)))
  (vSeq (vSet 1 (vB absF (vCons (vVar 1) vNil)))
  (vSeq (vWhile (vTest (vOp neW (vVar 1) (vC (.int 0))))
  (vSeq (vSet 2 (vOp modW (vVar 0) (vVar 1)))
  (vSeq (vSet 0 (vVar 1))
  (vSet 1 (vVar 2)))))
  (vRet (vVar 0)))))
noncomputable def w_part : WF := vDef 2 3 (vSeq (vIf (vTest (vOp eqW (vVar 1) (vC (.int 0)))) (vRaise "NoPart") vNx)
  (vSeq (vIf (vTest (vOp ltW (vVar 1) (vC (.int 0)))) (vSeq (vSet 0 (vNeg (vVar 0)))
  (vSet 1 (vNeg (vVar 1)))) vNx)
  (vSeq (vSet 2 (vCall w_divisor (vCons (vVar 0) (vCons (vVar 1) vNil))))
  (vRet (vTup (vCons (vOp fdivW (vVar 0) (vVar 2)) (vCons (vOp fdivW (vVar 1) (vVar 2)) vNil)))))))
noncomputable def w_under : WF := vDef 2 2 (vRet (vOp ltW (vOp mulW (vOp ixW (vVar 0) (vC (.int 0))) (vOp ixW (vVar 1) (vC (.int 1)))) (vOp mulW (vOp ixW (vVar 1) (vC (.int 0))) (vOp ixW (vVar 0) (vC (.int 1))))))
noncomputable def w_need_of : WF := vDef 3 9 (vSeq (vSet 3 (vOp ixW (vVar 0) (vC (.int 0))))
  (vSeq (vSet 4 (vOp ixW (vVar 0) (vC (.int 1))))
  (vSeq (vIf (vAnd (vTest (vOp neW (vVar 3) (vC (.str "worst")))) (vTest (vOp neW (vVar 3) (vC (.str "mean"))))) (vRaise "NoRule") vNx)
  (vSeq (vIf (vOr (vTest (vOp ltW (vVar 4) (vC (.int 1)))) (vTest (vOp gtW (vVar 4) (vB lenF (vCons (vVar 2) vNil))))) (vRaise "NoRule") vNx)
  (vSeq (vSet 5 (vCall w_losses_of (vCons (vVar 1) (vCons (vVar 2) vNil))))
  (vSeq (vSet 6 (vCall w_worst_days (vCons (vVar 1) (vCons (vVar 2) (vCons (vVar 4) vNil)))))
  (vSeq (vSet 7 (vCall w_part (vCons (vOp ixW (vVar 5) (vOp ixW (vVar 6) (vOp subW (vVar 4) (vC (.int 1))))) (vCons (vC (.int 1)) vNil))))
  (vSeq (vIf (vTest (vOp eqW (vVar 3) (vC (.str "mean")))) (vSet 7 (vCall w_part (vCons (vB sumF (vCons (vLc 8 [8] (vSeqI (vVar 6)) vYes (vOp ixW (vVar 5) (vVar 8))) vNil)) (vCons (vVar 4) vNil)))) vNx)
  (vSeq (vIf (vTest (vCall w_under (vCons (vVar 7) (vCons (vTup (vCons (vC (.int 0)) (vCons (vC (.int 1)) vNil))) vNil)))) (vRet (vTup (vCons (vC (.int 0)) (vCons (vC (.int 1)) vNil)))) vNx)
  (vRet (vVar 7)))))))))))
noncomputable def w__law_of_another (a1 : Addr) (c1 : Str) : WF := vDef 1 1 (vSeq (vIf (vOr (vTest (vIsE a1 c1 (eSub c1 "Bare") (vVar 0))) (vOr (vTest (vIsE a1 c1 (eSub c1 "Closed") (vVar 0))) (vOr (vTest (vIsE a1 c1 (eSub c1 "Gone") (vVar 0))) (vTest (vIsE a1 c1 (eSub c1 "NoDeal") (vVar 0)))))) (vRet (vC (.bl true))) vNx)
  (vSeq (vIf (vOr (vTest (vIsE a1 c1 (eSub c1 "NoLayer") (vVar 0))) (vOr (vTest (vIsE a1 c1 (eSub c1 "NoMember") (vVar 0))) (vTest (vIsE a1 c1 (eSub c1 "NoPart") (vVar 0))))) (vRet (vC (.bl true))) vNx)
  (vSeq (vIf (vOr (vTest (vIsE a1 c1 (eSub c1 "NoAnswer") (vVar 0))) (vOr (vTest (vIsE a1 c1 (eSub c1 "NoTerms") (vVar 0))) (vOr (vTest (vIsE a1 c1 (eSub c1 "Out") (vVar 0))) (vTest (vIsE a1 c1 (eSub c1 "Poor") (vVar 0)))))) (vRet (vC (.bl true))) vNx)
  (vSeq (vIf (vOr (vTest (vIsE a1 c1 (eSub c1 "Ringed") (vVar 0))) (vOr (vTest (vIsE a1 c1 (eSub c1 "Settled") (vVar 0))) (vTest (vIsE a1 c1 (eSub c1 "Standing") (vVar 0))))) (vRet (vC (.bl true))) vNx)
  (vRet (vOrV (vIsE a1 c1 (eSub c1 "TooMuch") (vVar 0)) (vIsE a1 c1 (eSub c1 "Unclosed") (vVar 0))))))))
noncomputable def w__law_refused : WF := vDef 3 5 (vSeq (vSet 3 (vC .non))
  (vTryK 4 RL (fun c => eSub c "QuitsError")
  (vDrop (vCall w_need_of (vCons (vVar 0) (vCons (vVar 1) (vCons (vVar 2) vNil)))))
  (fun a1 c1 => (vSet 3 (vVar 4)))
  (vSeq (vIf (vOr (vTest (vOp (isNW false) (vVar 3) (vC .non))) (vOr (vNot (vTest vNevE)) (vNot (vTest vNevE)))) (vRet (vC (.bl false))) vNx)
  (vRet (vNotV vNevE)))
  (fun a1 c1 => (vSeq (vIf (vOr (vTest (vOp (isNW false) (vVar 3) (vC .non))) (vOr (vNot (vTest (vIsE a1 c1 (eSub c1 "NoRule") (vVar 3)))) (vNot (vTest (vIsE a1 c1 (eSub c1 "ValueError") (vVar 3)))))) (vRet (vC (.bl false))) vNx)
  (vRet (vNotV (vCallE (w__law_of_another a1 c1) (vCons (vVar 3) vNil))))))))
noncomputable def w__law_loss : WF := vDef 2 4 (vSeq (vSet 2 (vC (.int 0)))
  (vSeq (vFor 3 (vRng1 (vCons (vB lenF (vCons (vVar 0) vNil)) vNil))
  (vSet 2 (vOp subW (vVar 2) (vOp mulW (vOp ixW (vVar 0) (vVar 3)) (vOp ixW (vVar 1) (vVar 3))))))
  (vRet (vVar 2))))
noncomputable def w__law_other_word : WF := vDef 2 7 (vSeq (vSet 2 (vCall w__law_draw (vCons (vVar 0) (vCons (vC (.int 4)) (vCons (vC (.int 20011)) (vCons (vOp addW (vB lenF (vCons (vVar 1) vNil)) (vC (.int 1))) vNil))))))
  (vSeq (vSet 3 (vCall w__law_draw (vCons (vVar 0) (vCons (vC (.int 4)) (vCons (vC (.int 30011)) (vCons (vC (.int 2)) vNil))))))
  (vSeq (vSet 4 (vOp ixW (vC (.str "abcdefghijklmnopqrstuvwxyzMWT ")) (vCall w__law_draw (vCons (vVar 0) (vCons (vC (.int 4)) (vCons (vC (.int 40009)) (vCons (vC (.int 30)) vNil)))))))
  (vSeq (vSet 5 (vCall w__law_draw (vCons (vVar 0) (vCons (vC (.int 4)) (vCons (vC (.int 50021)) (vCons (vC (.int 3)) vNil))))))
  (vSeq (vIf (vTest (vOp eqW (vVar 5) (vC (.int 0)))) (vSeq (vSet 4 (vC (.str "")))
  (vSet 3 (vOp addW (vC (.int 1)) (vOp modW (vVar 2) (vC (.int 3)))))) vNx)
  (vSeq (vSet 6 (vOp addW (vOp addW (vSlX (vVar 1) vNoP (vSoP (vVar 2))) (vVar 4)) (vSlX (vVar 1) (vSoP (vOp addW (vVar 2) (vVar 3))) vNoP)))
  (vSeq (vIf (vOr (vTest (vOp eqW (vVar 6) (vC (.str "worst")))) (vTest (vOp eqW (vVar 6) (vC (.str "mean"))))) (vRet (vC (.str "best"))) vNx)
  (vRet (vVar 6)))))))))
noncomputable def w__law_great : WF := vDef 3 4 (vSeq (vSet 3 (vOp addW (vOp addW (vOp mulW (vCall w__law_cell (vCons (vVar 0) (vCons (vVar 1) vNil))) (vC (.int 48271))) (vOp mulW (vOp mulW (vC (.int 7919)) (vVar 1)) (vVar 1))) (vC (.int 11))))
  (vRet (vOp modW (vOp mulW (vVar 3) (vOp powW (vC (.int 2305843009213693951)) (vC (.int 4)))) (vOp addW (vVar 2) (vC (.int 1))))))
noncomputable def w__law_no_rule : WF := vDef 4 5 (vSeq (vSet 4 (vCall w__law_draw (vCons (vVar 0) (vCons (vC (.int 4)) (vCons (vC (.int 10007)) (vCons (vC (.int 8)) vNil))))))
  (vSeq (vIf (vTest (vOp eqW (vVar 4) (vC (.int 0)))) (vRet (vTup (vCons (vVar 1) (vCons (vC (.int 0)) vNil)))) vNx)
  (vSeq (vIf (vTest (vOp eqW (vVar 4) (vC (.int 1)))) (vRet (vTup (vCons (vVar 1) (vCons (vOp addW (vVar 3) (vC (.int 1))) vNil)))) vNx)
  (vSeq (vIf (vTest (vOp eqW (vVar 4) (vC (.int 2)))) (vRet (vTup (vCons (vVar 1) (vCons (vOp subW (vOp subW (vC (.int 0)) (vC (.int 1))) (vCall w__law_draw (vCons (vVar 0) (vCons (vC (.int 4)) (vCons (vC (.int 15013)) (vCons (vVar 3) vNil)))))) vNil)))) vNx)
  (vSeq (vIf (vTest (vOp eqW (vVar 4) (vC (.int 3)))) (vRet (vTup (vCons (vVar 1) (vCons (vOp addW (vOp addW (vVar 3) (vC (.int 1))) (vCall w__law_great (vCons (vVar 0) (vCons (vC (.int 4)) (vCons (vOp powW (vC (.int 10)) (vC (.int 59))) vNil))))) vNil)))) vNx)
  (vRet (vTup (vCons (vCall w__law_other_word (vCons (vVar 0) (vCons (vVar 1) vNil))) (vCons (vVar 2) vNil)))))))))
noncomputable def w_law : WF := vDef 1 12 (vSeq (vSet 1 (vOp addW (vC (.int 1)) (vCall w__law_draw (vCons (vVar 0) (vCons (vC (.int 2)) (vCons (vC (.int 10007)) (vCons (vC (.int 4)) vNil)))))))
  (vSeq (vSet 2 (vCall w__law_days (vCons (vVar 0) (vCons (vC (.int 30)) vNil))))
  (vSeq (vSet 3 (vCall w__law_most (vCons (vVar 0) vNil)))
  (vSeq (vSet 4 (vCall w__law_moves (vCons (vVar 0) (vCons (vVar 2) (vCons (vVar 1) (vCons (vVar 3) vNil))))))
  (vSeq (vSet 5 (vCall w__law_position (vCons (vVar 0) (vCons (vC (.int 130)) (vCons (vVar 1) (vCons (vVar 3) vNil))))))
  (vSeq (vSet 6 (vOp addW (vC (.int 1)) (vCall w__law_draw (vCons (vVar 0) (vCons (vC (.int 3)) (vCons (vC (.int 10007)) (vCons (vVar 2) vNil)))))))
  (vSeq (vSet 7 (vB sortR (vCons (vLc 11 [11] (vSeqI (vVar 4)) vYes (vCall w__law_loss (vCons (vVar 5) (vCons (vVar 11) vNil)))) vNil)))
  (vSeq (vSet 8 (vLc 11 [11] (vSeqI (vVar 4)) vYes (vB listF (vCons (vVar 11) vNil))))
  (vSeq (vSet 9 (vB listF (vCons (vVar 5) vNil)))
  (vSeq (vIf (vNot (vTest (vCall w__law_meets (vCons (vCall w_need_of (vCons (vTup (vCons (vC (.str "worst")) (vCons (vVar 6) vNil))) (vCons (vVar 9) (vCons (vVar 8) vNil)))) (vCons (vOp ixW (vVar 7) (vOp subW (vVar 6) (vC (.int 1)))) (vCons (vC (.int 1)) vNil)))))) (vRet (vC (.bl false))) vNx)
  (vSeq (vIf (vNot (vTest (vCall w__law_meets (vCons (vCall w_need_of (vCons (vTup (vCons (vC (.str "mean")) (vCons (vVar 6) vNil))) (vCons (vVar 9) (vCons (vVar 8) vNil)))) (vCons (vB sumF (vCons (vSl (vVar 7) vNoP (vSoP (vVar 6))) vNil)) (vCons (vVar 6) vNil)))))) (vRet (vC (.bl false))) vNx)
  (vSeq (vSet 10 (vOp ixW (vLst (vCons (vC (.str "worst")) (vCons (vC (.str "mean")) vNil))) (vCall w__law_draw (vCons (vVar 0) (vCons (vC (.int 3)) (vCons (vC (.int 15013)) (vCons (vC (.int 2)) vNil)))))))
  (vSeq (vIf (vNot (vTest (vCall w__law_refused (vCons (vCall w__law_no_rule (vCons (vVar 0) (vCons (vVar 10) (vCons (vVar 6) (vCons (vVar 2) vNil))))) (vCons (vVar 9) (vCons (vVar 8) vNil)))))) (vRet (vC (.bl false))) vNx)
  (vSeq (vIf (vOr (vTest (vOp neW (vVar 8) (vVar 4))) (vTest (vOp neW (vVar 9) (vVar 5)))) (vRet (vC (.bl false))) vNx)
  (vSeq (vIf (vNot (vTest (vCall w__law_meets (vCons (vCall w_need_of (vCons (vTup (vCons (vC (.str "mean")) (vCons (vVar 6) vNil))) (vCons (vVar 9) (vCons (vVar 8) vNil)))) (vCons (vB sumF (vCons (vSl (vVar 7) vNoP (vSoP (vVar 6))) vNil)) (vCons (vVar 6) vNil)))))) (vRet (vC (.bl false))) vNx)
  (vRet (vCall w__law_meets (vCons (vCall w_need_of (vCons (vTup (vCons (vC (.str "worst")) (vCons (vVar 6) vNil))) (vCons (vVar 9) (vCons (vVar 8) vNil)))) (vCons (vOp ixW (vVar 7) (vOp subW (vVar 6) (vC (.int 1)))) (vCons (vC (.int 1)) vNil))))))))))))))))))))


theorem gcd_step (x y : Int) (hx : 0 ≤ x) (hy : 0 < y) : Int.gcd y (x % y) = Int.gcd x y := by
  rw [← Int.gcd_add_mul_left_right y (x % y) (x / y), Int.emod_add_mul_ediv, Int.gcd_comm]
theorem cell_sp (ns : List Int) (i : Int) (S : Sto) (k : KD) (xk : XD) (hi : 0 ≤ i) (hl : ns.length ≤ 63) (h : k (.int (cellv ns i)) S) : w__law_cell [.scr (ns.map .int), .int i] S k xk := by
  walk_at "i"
  walk_at "s"
  rw [List.length_map]
  unfold cellv at h
  split
  · rename_i h1
    rw [if_pos h1] at h
    exact ⟨_, at_ints hi h1, h⟩
  · rename_i h1
    rw [if_neg h1] at h
    exact h
local macro_rules | `(tactic| walk_at "c") => `(tactic| repeat ((with_reducible refine cell_sp _ _ _ _ _ ?_ ?_ ?_; decide; assumption) ; walk_at "w"))

theorem draw4_sp (ns : List Int) (i p m : Int) (S : Sto) (k : KD) (xk : XD) (hl : ns.length ≤ 63) (h0 : 0 ≤ i) (h1 : i ≤ 1000000) (hp : 0 < p) (hm : 0 < m) (h : ∀ z : Int, 0 ≤ z → z < m → k (.int z) S) : w__law_draw [.scr (ns.map .int), .int i, .int p, .int m] S k xk := by
  walk_at "i"
  walk_at "w"
  refine cell_sp _ _ _ _ _ h0 hl ?_
  walk_at "w"
  refine ⟨mul_r (by omega) (by omega), by omega, by omega, ?_⟩
  simp only [fmod_pos hp, fmod_pos hm]
  exact h _ (emod_lo hm) (emod_hi hm)

theorem number3_sp (ns : List Int) (i m : Int) (S : Sto) (k : KD) (xk : XD) (hl : ns.length ≤ 63) (hb : ∀ z ∈ ns, Builtin.Int.intBits z ≤ 1048576) (h0 : 0 ≤ i) (h1 : i ≤ 1000000) (m0 : 3 ≤ m) (m1 : m ≤ 1000000000000) (h : ∀ z : Int, -1000000000000 ≤ z → z ≤ 1000000000000 → k (.int z) S) : w__law_number [.scr (ns.map .int), .int i, .int m] S k xk := by
  walk_at "i"
  walk_at "s"
  refine cell_sp _ _ _ _ _ (emod_lo (by decide)) hl ?_
  walk_at "w"
  refine ⟨mul_r (by omega) (by omega), ?_⟩
  have sc : Sz 1048576 (cellv ns (i % 60)) := Sz.of_bits (cellv_bits hb _)
  have s1 : Sz 1048592 (cellv ns (i % 60) * 48271) := Sz.mul (m := 16) sc (sz_le 48271 (by decide) (by decide))
  have s2 : Sz 33 (7919 * i) := Sz.mul (n := 13) (m := 20) (sz_le 7919 (by decide) (by decide)) (sz_le 1000000 (by omega) (by decide))
  have s3 : Sz 53 (7919 * i * i) := Sz.mul (m := 20) s2 (sz_le 1000000 (by omega) (by decide))
  have s4 : Sz 1048593 (cellv ns (i % 60) * 48271 + 7919 * i * i) := s1.add (s3.mono (by decide))
  have s5 : Sz 1048594 (cellv ns (i % 60) * 48271 + 7919 * i * i + 11) := s4.add (Sz.mono (n := 4) (sz_lit (by decide)) (by decide))
  generalize cellv ns (i % 60) * 48271 + 7919 * i * i + 11 = mixed at s5
  walk_at "s"
  generalize mixed % 40009 % 4 = way
  split
  · exact h _ (by decide) (by decide)
  walk_at "s"
  split
  · have h1 := @emod_lo (mixed % 15013) 7 (by decide)
    have h2 := @emod_hi (mixed % 15013) 7 (by decide)
    exact h _ (by omega) (by omega)
  walk_at "w"
  have mp : 0 < 2 * m + 1 := by omega
  refine ⟨s5.mulOk (m := 244) (sz_lit (by decide +kernel)) (by decide) (by decide) (by decide), by omega, ?_⟩
  simp only [fmod_pos mp]
  generalize mixed * 28269553036454149224292902704178252817674109380037990394614044720680140801 = big
  have g1 := @emod_lo big (2 * m + 1) mp
  have g2 := @emod_hi big (2 * m + 1) mp
  exact h _ (by omega) (by omega)

def BdV (w : Nat) (v : List Int) : Prop := v.length = w ∧ ∀ z ∈ v, -1000000000000 ≤ z ∧ z ≤ 1000000000000
theorem BdV.get {w : Nat} {v : List Int} (h : BdV w v) {k : Int} : -1000000000000 ≤ gI v k ∧ gI v k ≤ 1000000000000 := by
  unfold gI
  rw [List.getD_eq_getElem?_getD]
  cases e : v[k.toNat]? with
  | none => exact ⟨by decide, by decide⟩
  | some z => exact h.2 z (List.mem_of_getElem? e)
theorem days_sp (ns : List Int) (m : Int) (S : Sto) (k : KD) (xk : XD) (hl : ns.length ≤ 63) (hm : 6 ≤ m) (h : ∀ z : Int, 1 ≤ z → z ≤ m → k (.int z) S) : w__law_days [.scr (ns.map .int), .int m] S k xk := by
  walk_at "i"
  walk_at "s"
  refine draw4_sp _ _ _ _ _ _ _ hl (by decide) (by decide) (by decide) (by decide) fun z _ _ => ?_
  walk_at "w"
  split
  · refine draw4_sp _ _ _ _ _ _ _ hl (by decide) (by decide) (by decide) (by omega) fun z z0 z1 => ?_
    walk_at "w"
    exact h _ (by omega) (by omega)
  · refine draw4_sp _ _ _ _ _ _ _ hl (by decide) (by decide) (by decide) (by decide) fun z z0 z1 => ?_
    walk_at "w"
    exact h _ (by omega) (by omega)
theorem most_sp (ns : List Int) (S : Sto) (k : KD) (xk : XD) (hl : ns.length ≤ 63) (h : ∀ z : Int, 3 ≤ z → z ≤ 1000000000000 → k (.int z) S) : w__law_most [.scr (ns.map .int)] S k xk := by
  walk_at "i"
  walk_at "s"
  refine draw4_sp _ _ _ _ _ _ _ hl (by decide) (by decide) (by decide) (by decide) fun z _ _ => ?_
  walk_at "w"
  split
  · exact h _ (by decide) (by decide)
  · exact h _ (by decide) (by decide)
theorem position_sp (ns : List Int) (i w m : Int) (S : Sto) (k : KD) (xk : XD) (hl : ns.length ≤ 63) (hb : ∀ z ∈ ns, Builtin.Int.intBits z ≤ 1048576) (h0 : 0 ≤ i) (h1 : i ≤ 1000) (w0 : 0 ≤ w) (w1 : w ≤ 100) (m0 : 3 ≤ m) (m1 : m ≤ 1000000000000) (h : ∀ v : List Int, BdV w.toNat v → k (.lst (vI v)) S) : w__law_position [.scr (ns.map .int), .int i, .int w, .int m] S k xk := by
  walk_at "i"
  walk_at "w"
  refine ⟨by omega, by omega, ?_⟩
  refine lc_rel (fun _ _ y => ∃ z : Int, y = .int z ∧ (-1000000000000 ≤ z ∧ z ≤ 1000000000000)) (by rw [rngD_len]; exact Nat.lt_of_le_of_lt (m := 1000) (by omega) (by decide +kernel)) trivial (fun n x hx k' hk => ?_) fun ys hl' hy => ?_
  · obtain ⟨hn, rfl⟩ := rngD_get hx
    walk_at "w"
    exact number3_sp _ _ _ _ _ _ hl hb (by omega) (by omega) m0 m1 fun z z0 z1 => hk _ ⟨z, rfl, z0, z1⟩
  · rw [rngD_len] at hl'
    obtain ⟨v, rfl, hv⟩ := lift_ints (P := fun z => -1000000000000 ≤ z ∧ z ≤ 1000000000000) ys fun y hy' => by
      obtain ⟨n, hn⟩ := List.mem_iff_getElem?.mp hy'
      have := (List.getElem?_eq_some_iff.mp hn).1
      exact hy n _ y (List.getElem?_eq_getElem (by rw [rngD_len]; omega)) hn
    rw [vI_len] at hl'
    exact h v ⟨hl', hv⟩
theorem moves_sp (ns : List Int) (d w m : Int) (S : Sto) (k : KD) (xk : XD) (hl : ns.length ≤ 63) (hb : ∀ z ∈ ns, Builtin.Int.intBits z ≤ 1048576) (d0 : 0 ≤ d) (d1 : d ≤ 100) (w0 : 0 ≤ w) (w1 : w ≤ 100) (m0 : 3 ≤ m) (m1 : m ≤ 1000000000000) (h : ∀ M : List (List Int), M.length = d.toNat → (∀ v ∈ M, BdV w.toNat v) → k (.lst (matL M)) S) : w__law_moves [.scr (ns.map .int), .int d, .int w, .int m] S k xk := by
  walk_at "i"
  walk_at "s"
  refine seq_cut (fun s' S' => ∃ (o1 o2 : Option D) (M : List (List Int)), s' = [some (.scr (ns.map .int)), some (.int d), some (.int w), some (.int m), some (.cell S.length), o1, o2, none] ∧ S' = S ++ [.lst (matL M)] ∧ M.length = d.toNat ∧ ∀ v ∈ M, BdV w.toNat v) (fun R hR => ?_) ?_
  · walk_at "w"
    refine ⟨by omega, by omega, ?_⟩
    refine for_inv (fun n s' S' => ∃ (o1 o2 : Option D) (M : List (List Int)), s' = [some (.scr (ns.map .int)), some (.int d), some (.int w), some (.int m), some (.cell S.length), o1, o2, none] ∧ S' = S ++ [.lst (matL M)] ∧ M.length = n ∧ ∀ v ∈ M, BdV w.toNat v) ⟨none, none, [], rfl, rfl, rfl, by simp⟩ (fun n x s' S' hx ⟨o1, o2, M, e1, e2, e3, e4⟩ => ⟨trivial, fun nx hnx => ?_⟩) fun s' S' ⟨o1, o2, M, e1, e2, e3, e4⟩ => ⟨trivial, hR _ _ ⟨o1, o2, M, e1, e2, by rw [e3, rngD_len], e4⟩⟩
    obtain ⟨hn, rfl⟩ := rngD_get hx
    have q0 : (0 : Int) + (n : Int) = (n : Int) := by omega
    rw [q0]
    subst e1 e2
    have wn : 0 ≤ w * n ∧ w * n ≤ 100 * 100 := ⟨Int.mul_nonneg w0 (by omega), Int.mul_le_mul w1 (by omega) (by omega) (by omega)⟩
    walk_at "s"
    refine ⟨by omega, by omega, ?_⟩
    refine lc_rel (fun _ _ y => ∃ z : Int, y = .int z ∧ (-1000000000000 ≤ z ∧ z ≤ 1000000000000)) (by rw [rngD_len]; exact Nat.lt_of_le_of_lt (m := 1000) (by omega) (by decide +kernel)) trivial (fun j x hx k' hk => ?_) fun ys hl' hy => ?_
    · obtain ⟨hj, rfl⟩ := rngD_get hx
      walk_at "w"
      refine ⟨mul_l (by omega) (by omega), ?_⟩
      exact number3_sp _ _ _ _ _ _ hl hb (by omega) (by omega) m0 m1 fun z z0 z1 => hk _ ⟨z, rfl, z0, z1⟩
    rw [rngD_len] at hl'
    obtain ⟨v, rfl, hv⟩ := lift_ints (P := fun z => -1000000000000 ≤ z ∧ z ≤ 1000000000000) ys fun y hy' => by
      obtain ⟨n, hn⟩ := List.mem_iff_getElem?.mp hy'
      have := (List.getElem?_eq_some_iff.mp hn).1
      exact hy n _ y (List.getElem?_eq_getElem (by rw [rngD_len]; omega)) hn
    rw [vI_len] at hl'
    have bv : BdV w.toNat v := ⟨hl', hv⟩
    refine seq_cut (fun s' S' => ∃ v : List Int, s' = [some (.scr (ns.map .int)), some (.int d), some (.int w), some (.int m), some (.cell S.length), some (.int n), some (.lst (vI v)), none] ∧ S' = S ++ [.lst (matL M)] ∧ BdV w.toNat v) (fun R hR => ?_) ?_
    · walk_at "w"
      split
      · rename_i c
        refine draw4_sp _ _ _ _ _ _ _ hl (by omega) (by omega) (by decide) (by decide) fun z _ _ => ?_
        walk_at "w"
        split
        · refine draw4_sp _ _ _ _ _ _ _ hl (by omega) (by omega) (by decide) (by omega) fun z z0 z1 => ?_
          obtain ⟨u, hu, au⟩ := at_matL (m := M) z0 (by omega)
          walk_at "w"
          refine ⟨_, au, ?_⟩
          walk_at "w"
          exact hR _ _ ⟨u, rfl, rfl, e4 u hu⟩
        · exact hR _ _ ⟨v, rfl, rfl, bv⟩
      · exact hR _ _ ⟨v, rfl, rfl, bv⟩
    rintro _ _ ⟨u, rfl, rfl, bu⟩
    walk_at "w"
    refine ⟨szlt (by omega), ?_⟩
    rw [matL_snoc]
    refine hnx _ _ ⟨_, _, M ++ [u], rfl, rfl, by simp [e3], fun x hx => ?_⟩
    rcases List.mem_append.mp hx with hx | hx
    · exact e4 x hx
    · rw [List.mem_singleton.mp hx]; exact bu
  rintro _ _ ⟨o1, o2, M, rfl, rfl, l1, l2⟩
  walk_at "w"
  exact ⟨lst_pure (matL_pure _), h M l1 l2⟩
def prodI (p v : List Int) : List Int := (List.range p.length).map fun (k : Nat) => gI p k * gI v k
def lossI (p v : List Int) : Int := 0 - (prodI p v).sum
theorem prodI_len {p v : List Int} : (prodI p v).length = p.length := by unfold prodI; simp
theorem prodI_get {p v : List Int} {n : Nat} (h : n < p.length) : gI (prodI p v) n = gI p n * gI v n := by
  unfold prodI gI
  rw [List.getD_eq_getElem?_getD, List.getElem?_map]
  simp [h]
theorem losson_sp (w : Nat) (p v : List Int) (S : Sto) (k : KD) (xk : XD) (hw : w ≤ 100) (hp : BdV w p) (hv : BdV w v) (h : k (.int (lossI p v)) S) : w_loss_on [.lst (vI p), .lst (vI v)] S k xk := by
  walk_at "i"
  have e1 := hp.1
  have e2 := hv.1
  walk_at "w"
  refine ⟨by omega, by omega, ?_⟩
  refine lc_rel (fun n _ y => y = .int (gI (prodI p v) n)) (by rw [rngD_len]; exact Nat.lt_of_le_of_lt (m := 1000) (by omega) (by decide +kernel)) trivial (fun n x hx k' hk => ?_) fun ys hl' hy => ?_
  · obtain ⟨hn, rfl⟩ := rngD_get hx
    have q0 : (0 : Int) + (n : Int) = (n : Int) := by omega
    rw [q0]
    walk_at "w"
    refine ⟨_, at_vI (by omega) (by omega), _, at_vI (by omega) (by omega), ?_⟩
    walk_at "w"
    have b1 := hp.get (k := (n : Int))
    have b2 := hv.get (k := (n : Int))
    refine ⟨mul_l (by omega) (by omega), hk _ ?_⟩
    rw [prodI_get (by omega)]
  rw [rngD_len] at hl'
  obtain rfl : ys = vI (prodI p v) := vI_of (by rw [hl', prodI_len]; omega) fun n y hn => by
    refine hy n _ y (List.getElem?_eq_getElem ?_) hn
    rw [rngD_len, ← hl']
    exact (List.getElem?_eq_some_iff.mp hn).1
  walk_at "w"
  refine ⟨prodI p v, rfl, ?_⟩
  walk_at "w"
  exact h
theorem lloss_sp (w : Nat) (p v : List Int) (S : Sto) (k : KD) (xk : XD) (hw : w ≤ 100) (hp : BdV w p) (hv : BdV w v) (h : k (.int (lossI p v)) S) : w__law_loss [.lst (vI p), .lst (vI v)] S k xk := by
  walk_at "i"
  have e1 := hp.1
  have e2 := hv.1
  walk_at "s"
  refine seq_cut (fun s' S' => ∃ o : Option D, s' = [some (.lst (vI p)), some (.lst (vI v)), some (.int (lossI p v)), o] ∧ S' = S) (fun R hR => ?_) ?_
  · walk_at "w"
    refine ⟨by omega, by omega, ?_⟩
    refine for_inv (fun n s' S' => ∃ o : Option D, s' = [some (.lst (vI p)), some (.lst (vI v)), some (.int (0 - ((prodI p v).take n).sum)), o] ∧ S' = S) ⟨none, rfl, rfl⟩ (fun n x s' S' hx ⟨o, e3, e4⟩ => ⟨trivial, fun nx hnx => ?_⟩) fun s' S' ⟨o, e3, e4⟩ => ⟨trivial, hR _ _ ⟨o, ?_, e4⟩⟩
    · obtain ⟨hn, rfl⟩ := rngD_get hx
      have q0 : (0 : Int) + (n : Int) = (n : Int) := by omega
      rw [q0]
      subst e3 e4
      walk_at "w"
      refine ⟨_, at_vI (by omega) (by omega), _, at_vI (by omega) (by omega), ?_⟩
      walk_at "w"
      have b1 := hp.get (k := (n : Int))
      have b2 := hv.get (k := (n : Int))
      refine ⟨mul_l (by omega) (by omega), ?_⟩
      have et : 0 - ((prodI p v).take n).sum - gI p n * gI v n = 0 - ((prodI p v).take (n + 1)).sum := by
        have hn' : n < (prodI p v).length := by rw [prodI_len]; omega
        have eg : (prodI p v)[n]? = some (gI p n * gI v n) := by
          have := prodI_get (p := p) (v := v) (n := n) (by omega)
          rw [← this]
          unfold gI
          rw [List.getD_eq_getElem?_getD]
          simp [hn']
        rw [take_succ_of eg, List.sum_append]
        simp
        omega
      rw [et]
      exact hnx _ _ ⟨_, rfl, rfl⟩
    · rw [e3]
      unfold lossI
      rw [List.take_of_length_le (by rw [rngD_len, prodI_len]; omega)]
  rintro _ _ ⟨o, rfl, rfl⟩
  walk_at "w"
  exact h
theorem losses_sp (w : Nat) (p : List Int) (M : List (List Int)) (S : Sto) (k : KD) (xk : XD) (hw : w ≤ 100) (hp : BdV w p) (hl : M.length ≤ 100) (hv : ∀ v ∈ M, BdV w v) (h : k (.lst (vI (M.map (lossI p)))) S) : w_losses_of [.lst (vI p), .lst (matL M)] S k xk := by
  walk_at "i"
  walk_at "w"
  refine lc_rel (fun _ x y => ∀ v : List Int, x = .lst (vI v) → y = .int (lossI p v)) (by rw [matL_len]; exact Nat.lt_of_le_of_lt (m := 1000) (by omega) (by decide +kernel)) trivial (fun n x hx k' hk => ?_) fun ys hl' hy => ?_
  · obtain ⟨v, hm, rfl⟩ := matL_get hx
    walk_at "w"
    refine losson_sp w _ _ _ _ _ hw hp (hv v (List.mem_of_getElem? hm)) (hk _ fun u hu => ?_)
    simp only [D.lst.injEq] at hu
    rw [vI_inj hu]
  rw [matL_len] at hl'
  obtain rfl := vI_map (as := M) (lossI p) hl' fun n v y e1 e2 => hy n (.lst (vI v)) y (by unfold matL; rw [List.getElem?_map, e1]; rfl) e2 v rfl
  exact h

theorem sortK_perm {ns : List Int} {n : Int} : (sortK ns n).Perm (intsL n) := List.mergeSort_perm _ _
theorem sortK_len {ns : List Int} {n : Int} : (sortK ns n).length = n.toNat := by rw [sortK_perm.length_eq, intsL_len]
theorem sortK_mem {ns : List Int} {n z : Int} : z ∈ sortK ns n ↔ 0 ≤ z ∧ z < n := by rw [sortK_perm.mem_iff, intsL_mem]
def befI (ns : List Int) (x y : Int) : Bool := decide (gI ns x > gI ns y ∨ (gI ns x = gI ns y ∧ x < y))
theorem sortK_sorted {ns : List Int} {n : Int} : (sortK ns n).Pairwise fun x y => gI ns x > gI ns y ∨ (gI ns x = gI ns y ∧ x ≤ y) := by
  have e : PySem.W.dataLe false (kDat fun x => 0 - gI ns x) = fun p q : Int => decide (0 - gI ns p < 0 - gI ns q ∨ (0 - gI ns p = 0 - gI ns q ∧ p ≤ q)) := PySem.W.dataLe_ii (fun x => 0 - gI ns x) (fun x : Int => x)
  have := List.pairwise_mergeSort (le := PySem.W.dataLe false (kDat fun x => 0 - gI ns x)) (by rw [e]; intro a b c h1 h2; simp only [decide_eq_true_eq] at *; omega) (by rw [e]; intro a b; simp only [Bool.or_eq_true, decide_eq_true_eq]; omega) (intsL n)
  refine this.imp fun {x y} h => ?_
  rw [e] at h
  simp only [decide_eq_true_eq] at h
  omega
theorem worst_sp (w : Nat) (p : List Int) (M : List (List Int)) (n : Int) (j : Nat) (P0 : Addr) (S : Sto) (k : KD) (xk : XD) (hw : w ≤ 100) (hp : BdV w p) (hl : M.length ≤ 100) (hv : ∀ v ∈ M, BdV w v) (hT : S[j]? = some (.tab P0 "worst_days.<locals>.<lambda>")) (n0 : 0 ≤ n) (h : k (.lst (vI ((sortK (M.map (lossI p)) (M.length : Int)).take n.toNat))) S) : w_worst_days [.lst (vI p), .lst (matL M), .int n] S k xk := by
  walk_at "i"
  walk_at "s"
  refine losses_sp w p M _ _ _ hw hp hl hv ?_
  walk_at "s"
  refine ⟨j, P0, _, M.map (lossI p), hT, rfl, rfl, by omega, by rw [List.length_map]; omega, by omega, ?_⟩
  walk_at "w"
  rw [cut_take n0, show ((sortK (M.map (lossI p)) (M.length : Int)).map D.int).take n.toNat = vI ((sortK (M.map (lossI p)) (M.length : Int)).take n.toNat) by unfold vI; rw [List.map_take]]
  exact h

theorem div_sp (a b : Int) (S : Sto) (k : KD) (xk : XD) (h : k (.int (Int.gcd a b)) S) : w_divisor [.int a, .int b] S k xk := by
  walk_at "i"
  walk_at "s"
  walk_at "s"
  refine seq_i fun R hR => ?_
  refine while_inv (fun m s' S' => ∃ x y z, s' = [some (.int x), some (.int y), z] ∧ S' = S ∧ 0 ≤ x ∧ 0 ≤ y ∧ m = y.toNat ∧ Int.gcd x y = Int.gcd a b) _ ⟨_, _, _, rfl, rfl, ?_, ?_, rfl, ?_⟩ ?_
  · split <;> omega
  · split <;> omega
  · split <;> split <;> simp
  · rintro m s' S' ⟨x, y, z, rfl, rfl, hx, hy, rfl, hg⟩ nx hn
    walk_at "w"
    split
    · rename_i h0
      have h1 : 0 < y := by omega
      walk_at "s"
      refine ⟨h0, ?_⟩
      walk_at "S"
      have h2 := Int.emod_lt_of_pos x h1
      have h3 := Int.emod_nonneg x h0
      rw [fmod_pos h1]
      exact hn _ _ _ (by omega) ⟨y, x % y, _, rfl, rfl, by omega, h3, rfl, by rw [gcd_step x y hx h1]; exact hg⟩
    · rename_i h0
      refine hR _ _ ?_
      have h1 : y = 0 := by omega
      subst h1
      walk_at "w"
      rw [← hg] at h
      have : ((Int.gcd x 0 : Nat) : Int) = x := by rw [Int.gcd_zero_right]; omega
      rw [this] at h
      exact h

theorem part_sp (t b : Int) (S : Sto) (k : KD) (xk : XD) (hb : b ≠ 0) (hs : Sz 9000 b) (h : k (pR (Rat.divInt t b)) S) : w_part [.int t, .int b] S k xk := by
  walk_at "i"
  walk_at "s"
  rw [if_neg hb]
  refine seq_cut (fun s' S' => ∃ t' b' : Int, s' = [some (.int t'), some (.int b'), none] ∧ S' = S ∧ 0 < b' ∧ Sz 9000 b' ∧ Rat.divInt t' b' = Rat.divInt t b) (fun R hR => ?_) ?_
  · walk_at "w"
    split
    · walk_at "s"
      exact hR _ _ ⟨_, _, rfl, rfl, by omega, hs.neg, Rat.neg_divInt_neg _ _⟩
    · exact hR _ _ ⟨_, _, rfl, rfl, by omega, hs, rfl⟩
  rintro _ _ ⟨t', b', rfl, rfl, h0, h1, h2⟩
  have hp := @gcd_posr t' b' (by omega)
  have hg : CDivX t' (Int.gcd t' b') ∧ CDivX b' (Int.gcd t' b') := by
    have : Sz 9000 (Int.gcd t' b' : Int) := h1.of_abs (by rw [Int.natAbs_natCast]; exact Int.gcd_le_natAbs_right _ (by omega))
    exact ⟨this.divOk (by omega) (by decide) (by decide), this.divOk (by omega) (by decide) (by decide)⟩
  walk_at "s"
  refine div_sp _ _ _ _ _ ?_
  walk_at "w"
  refine ⟨hg.1, hg.2, ?_⟩
  rw [part_num h0, part_den h0, h2]
  exact h
theorem under_sp (x y : Rat) (n m : Nat) (S : Sto) (k : KD) (xk : XD) (hn : 0 < n) (hm : 0 < m) (hx : SzR n x) (hy : SzR m y) (hs : n + m ≤ 134217728) (h : k (.bl (decide (x < y))) S) : w_under [pR x, pR y] S k xk := by
  walk_at "i"
  walk_at "w"
  walk_at "c"
  refine ⟨hx.1.mulOk hy.2 hn hm hs, ?_⟩
  walk_at "c"
  refine ⟨hy.1.mulOk hx.2 hm hn (by omega), ?_⟩
  show k (.bl (decide (x.num * (y.den : Int) < y.num * (x.den : Int)))) S
  rw [show decide (x.num * (y.den : Int) < y.num * (x.den : Int)) = decide (x < y) from by rw [decide_eq_decide]; exact ratlt_iff x y]
  exact h

def topK (ls : List Int) (n : Int) : List Int := (sortK ls (ls.length : Int)).take n.toNat
def needV (word : Str) (ls : List Int) (n : Int) : Rat := if word = "mean" then Rat.divInt (((topK ls n).map (gI ls)).sum) n else ((gI ls (gI (topK ls n) (n - 1)) : Int) : Rat)
def needR (word : Str) (ls : List Int) (n : Int) : Rat := if needV word ls n < 0 then 0 else needV word ls n
theorem topK_len {ls : List Int} {n : Int} (n0 : 0 ≤ n) (n1 : n ≤ (ls.length : Int)) : ((topK ls n).length : Int) = n := by
  unfold topK
  rw [List.length_take, sortK_len]
  omega
theorem topK_mem {ls : List Int} {n x : Int} (h : x ∈ topK ls n) : 0 ≤ x ∧ x < (ls.length : Int) := sortK_mem.mp (List.mem_of_mem_take h)
theorem lossI_bd {w : Nat} {p v : List Int} (hw : w ≤ 100) (hp : BdV w p) (hv : BdV w v) : -100000000000000000000000000 ≤ lossI p v ∧ lossI p v ≤ 100000000000000000000000000 := by
  have hq : ∀ z ∈ prodI p v, -1000000000000000000000000 ≤ z ∧ z ≤ 1000000000000000000000000 := fun z hz => by
    unfold prodI at hz
    obtain ⟨k, _, rfl⟩ := List.mem_map.mp hz
    have a := hp.get (k := (k : Int))
    have b := hv.get (k := (k : Int))
    generalize gI p (k : Int) = x at a
    generalize gI v (k : Int) = y at b
    have h1 : (x * y).natAbs ≤ 1000000000000 * 1000000000000 := by
      rw [Int.natAbs_mul]
      exact Nat.mul_le_mul (by omega) (by omega)
    omega
  have h1 := sum_le (b := 1000000000000000000000000) (v := prodI p v) fun z hz => (hq z hz).2
  have h2 := sum_le (b := 1000000000000000000000000) (v := (prodI p v).map fun z => -z) fun z hz => by
    obtain ⟨y, hy, rfl⟩ := List.mem_map.mp hz
    have := (hq y hy).1
    omega
  have h3 : ((prodI p v).map fun z => -z).sum = -(prodI p v).sum := by
    generalize prodI p v = l
    induction l with
    | nil => rfl
    | cons a l ih => simp only [List.map_cons, List.sum_cons, ih]; omega
  rw [List.length_map, prodI_len, hp.1] at h2
  rw [prodI_len, hp.1] at h1
  unfold lossI
  omega
theorem needof_sp (w : Nat) (word : Str) (n : Int) (p : List Int) (M : List (List Int)) (j : Nat) (P0 : Addr) (S : Sto) (k : KD) (xk : XD) (hw : w ≤ 100) (hp : BdV w p) (hl : M.length ≤ 100) (hv : ∀ v ∈ M, BdV w v) (hT : S[j]? = some (.tab P0 "worst_days.<locals>.<lambda>")) (h : (word = "worst" ∨ word = "mean") → 1 ≤ n → n ≤ (M.length : Int) → k (pR (needR word (M.map (lossI p)) n)) S) (hx : ¬ ((word = "worst" ∨ word = "mean") ∧ 1 ≤ n ∧ n ≤ (M.length : Int)) → xk "NoRule" S) : w_need_of [.tup [.str word, .int n], .lst (vI p), .lst (matL M)] S k xk := by
  walk_at "i"
  walk_at "s"
  refine seq_e ?_
  walk_at "w"
  refine seq_cut (fun s' S' => S = S' ∧ (word = "worst" ∨ word = "mean") ∧ s' = [some (.tup [.str word, .int n]), some (.lst (vI p)), some (.lst (matL M)), some (.str word), some (.int n), none, none, none, none]) (fun R hR => ?_) ?_
  · walk_at "w"
    by_cases c1 : word = "worst"
    · rw [if_neg (fun z => z c1)]
      exact hR _ _ ⟨rfl, .inl c1, rfl⟩
    · rw [if_pos c1]
      by_cases c2 : word = "mean"
      · rw [if_neg (fun z => z c2)]
        exact hR _ _ ⟨rfl, .inr c2, rfl⟩
      · rw [if_pos c2]
        exact hx fun z => z.1.elim c1 c2
  rintro _ _ ⟨rfl, hword, rfl⟩
  have h := h hword
  refine seq_cut (fun s' S' => S = S' ∧ (1 ≤ n ∧ n ≤ (M.length : Int)) ∧ s' = [some (.tup [.str word, .int n]), some (.lst (vI p)), some (.lst (matL M)), some (.str word), some (.int n), none, none, none, none]) (fun R hR => ?_) ?_
  · walk_at "w"
    by_cases c1 : n < 1
    · rw [if_pos c1]
      exact hx fun z => by omega
    · rw [if_neg c1]
      by_cases c2 : (M.length : Int) < n
      · rw [if_pos c2]
        exact hx fun z => by omega
      · rw [if_neg c2]
        exact hR _ _ ⟨rfl, ⟨by omega, by omega⟩, rfl⟩
  rintro _ _ ⟨rfl, ⟨n1, n2⟩, rfl⟩
  have h := h n1 n2
  walk_at "s"
  refine losses_sp w p M _ _ _ hw hp hl hv ?_
  walk_at "s"
  refine worst_sp w p M n j P0 _ _ _ hw hp hl hv hT (by omega) ?_
  have hbd : ∀ k : Int, -100000000000000000000000000 ≤ gI (M.map (lossI p)) k ∧ gI (M.map (lossI p)) k ≤ 100000000000000000000000000 := fun k => by
    unfold gI
    rw [List.getD_eq_getElem?_getD]
    cases e : (M.map (lossI p))[k.toNat]? with
    | none => exact ⟨by decide, by decide⟩
    | some z =>
      rw [List.getElem?_map] at e
      cases e2 : M[k.toNat]? with
      | none => rw [e2] at e; cases e
      | some v =>
        rw [e2] at e
        cases e
        exact lossI_bd hw hp (hv v (List.mem_of_getElem? e2))
  have ll : (M.map (lossI p)).length = M.length := List.length_map _
  have eT : (sortK (M.map (lossI p)) (M.length : Int)).take n.toNat = topK (M.map (lossI p)) n := by unfold topK; rw [ll]
  rw [eT]
  generalize M.map (lossI p) = ls at h hbd ll
  have lT := topK_len (ls := ls) (n := n) (by omega) (by omega)
  have hTm := fun x (hx : x ∈ topK ls n) => topK_mem hx
  have ht1 := hTm _ (gI_mem (v := topK ls n) (k := (n - 1).toNat) (by omega))
  rw [show (((n - 1).toNat : Nat) : Int) = n - 1 by omega] at ht1
  have at1 := at_vI (v := topK ls n) (k := n - 1) (by omega) (by omega)
  have hv1 := hbd (gI (topK ls n) (n - 1))
  unfold needR needV at h
  generalize topK ls n = T at *
  have d1 : ∀ z : Int, Rat.divInt z 1 = (z : Rat) := fun z => by rw [divInt_eq]; have : ((1 : Int) : Rat) = 1 := rfl; grind
  walk_at "s"
  refine ⟨_, at1, ?_⟩
  walk_at "w"
  refine ⟨_, at_vI (by omega) (by omega), ?_⟩
  refine part_sp _ _ _ _ _ (by decide) (sz_le 1 (by decide) (by decide +kernel)) ?_
  rw [d1]
  have sm : ∀ i, i ≤ T.length → -(100000000000000000000000000 * (i : Int)) ≤ ((T.take i).map (gI ls)).sum ∧ ((T.take i).map (gI ls)).sum ≤ 100000000000000000000000000 * (i : Int) := fun i => by
    induction i with
    | zero => intro _; simp
    | succ i ih =>
      intro hi
      have ih := ih (by omega)
      rw [take_succ_of (List.getElem?_eq_getElem (show i < T.length by omega)), List.map_append, List.sum_append]
      have := hbd T[i]
      simp only [List.map_cons, List.map_nil, List.sum_cons, List.sum_nil]
      omega
  have sm := sm T.length (Nat.le_refl _)
  rw [List.take_length] at sm
  refine seq_cut (fun s' S' => S = S' ∧ ∃ o0 o1 o2 o3 o4 o5 o6 o8, s' = [o0, o1, o2, o3, o4, o5, o6, some (pR (if word = "mean" then Rat.divInt ((T.map (gI ls)).sum) n else ((gI ls (gI T (n - 1)) : Int) : Rat))), o8]) (fun R hR => ?_) ?_
  · walk_at "w"
    by_cases c : word = "mean"
    · rw [if_pos c] at hR ⊢
      walk_at "w"
      refine vlc_mapl (fun z : Int => D.int (gI ls z)) D.int T (by omega) trivial (fun z hz k' hk => ?_) ?_
      · have := hTm z hz
        walk_at "w"
        refine ⟨_, at_vI (by omega) (by omega), ?_⟩
        exact hk
      walk_at "w"
      refine ⟨T.map (gI ls), by unfold isInts; rw [List.map_map]; rfl, ?_⟩
      refine part_sp _ _ _ _ _ (by omega) (sz_le 100 (by omega) (by decide +kernel)) ?_
      exact hR _ _ ⟨rfl, _, _, _, _, _, _, _, _, rfl⟩
    · rw [if_neg c] at hR ⊢
      exact hR _ _ ⟨rfl, _, _, _, _, _, _, _, _, rfl⟩
  rintro _ _ ⟨rfl, o0, o1, o2, o3, o4, o5, o6, o8, rfl⟩
  have sV : SzR 200 (if word = "mean" then Rat.divInt ((T.map (gI ls)).sum) n else ((gI ls (gI T (n - 1)) : Int) : Rat)) := by
    split
    · exact SzR.div (by omega) (sz_le 10000000000000000000000000000 (by omega) (by decide +kernel)) (sz_le 100 (by omega) (by decide +kernel))
    · exact SzR.int (sz_le 100000000000000000000000000 (by omega) (by decide +kernel)) (by decide)
  generalize (if word = "mean" then Rat.divInt ((T.map (gI ls)).sum) n else ((gI ls (gI T (n - 1)) : Int) : Rat)) = V at h sV
  walk_at "s"
  rw [← pR_0]
  refine under_sp _ _ 200 200 _ _ _ (by decide) (by decide) sV (SzR.zero (by decide)) (by decide) ?_
  walk_at "w"
  by_cases c : V < 0
  · rw [if_pos c] at h ⊢
    walk_at "w"
    exact h
  · rw [if_neg c] at h ⊢
    walk_at "w"
    exact h

def kth (ls : List Int) (n : Int) : Int := gI ls (gI (topK ls n) (n - 1))
theorem sum_shift {f : Int → Int} {c : Int} (l : List Int) : (l.map fun x => f x - c).sum = (l.map f).sum - c * (l.length : Int) := by
  induction l with
  | nil => simp
  | cons x l ih =>
    have e : c * (((l.length + 1 : Nat)) : Int) = c * (l.length : Int) + c := by rw [Int.natCast_add, Int.mul_add]; simp
    rw [List.map_cons, List.map_cons, List.sum_cons, List.sum_cons, ih, List.length_cons, e]
    omega
theorem ints_gI (ls : List Int) : (intsL (ls.length : Int)).map (gI ls) = ls := by
  unfold intsL
  refine List.ext_getElem (by simp) fun i h1 h2 => ?_
  simp only [List.getElem_map, List.getElem_range]
  unfold gI
  rw [List.getD_eq_getElem?_getD]
  have : ((Int.ofNat i)).toNat = i := rfl
  first
  | rw [this, List.getElem?_eq_getElem h2]; rfl
  | rw [show ((i : Int)).toNat = i by omega, List.getElem?_eq_getElem h2]; rfl
  | rw [show ((0 : Int) + (i : Int)).toNat = i by omega, List.getElem?_eq_getElem h2]; rfl
theorem sortK_vals (ls : List Int) : ((sortK ls (ls.length : Int)).map (gI ls)).Perm ls ∧ ((sortK ls (ls.length : Int)).map (gI ls)).Pairwise fun a b => b ≤ a := by
  refine ⟨?_, ?_⟩
  · have h := (sortK_perm (ns := ls) (n := (ls.length : Int))).map (gI ls)
    rwa [ints_gI] at h
  · exact List.Pairwise.map _ (fun x y h => by omega) sortK_sorted
theorem sorted_top {ls ms : List Int} (h1 : ms.Perm ls) (h2 : ms.Pairwise fun a b => b ≤ a) : (sortK ls (ls.length : Int)).map (gI ls) = ms := by
  obtain ⟨p, q⟩ := sortK_vals ls
  exact List.Perm.eq_of_pairwise (le := fun x y => y ≤ x) (fun a b _ _ h h' => Int.le_antisymm h' h) q h2 (p.trans h1.symm)
theorem top_take {ls ms : List Int} {n : Int} (h1 : ms.Perm ls) (h2 : ms.Pairwise fun a b => b ≤ a) : (topK ls n).map (gI ls) = ms.take n.toNat := by
  unfold topK
  rw [List.map_take, sorted_top h1 h2]
def dueN (word : Str) (ms : List Int) (n : Int) : Int × Int := if word = "worst" then (max 0 (gI ms (n - 1)), 1) else (max 0 (ms.take n.toNat).sum, n)
theorem kth_ms {ls ms : List Int} {n : Int} (h1 : ms.Perm ls) (h2 : ms.Pairwise fun a b => b ≤ a) (n1 : 1 ≤ n) (n2 : n ≤ (ls.length : Int)) : gI ls (gI (topK ls n) (n - 1)) = gI ms (n - 1) := by
  have ht := top_take (n := n) h1 h2
  have lT := topK_len (ls := ls) (n := n) (by omega) n2
  have e1 : ((topK ls n).map (gI ls))[(n - 1).toNat]? = some (gI ls (gI (topK ls n) (n - 1))) := by
    rw [List.getElem?_map]
    have : (topK ls n)[(n - 1).toNat]? = some (gI (topK ls n) (n - 1)) := by
      unfold gI
      rw [List.getD_eq_getElem?_getD, List.getElem?_eq_getElem (by omega)]
      rfl
    rw [this]
    rfl
  rw [ht, List.getElem?_take, if_pos (by omega)] at e1
  have e2 : gI ms (n - 1) = gI ls (gI (topK ls n) (n - 1)) := by
    show ms.getD (n - 1).toNat 0 = _
    rw [List.getD_eq_getElem?_getD, e1]
    rfl
  exact e2.symm
theorem sum_le_mul {f : Int → Int} {c : Int} {l : List Int} (h : ∀ x ∈ l, f x ≤ c) : (l.map f).sum ≤ c * (l.length : Int) := by
  have := sum_le (b := c) (v := l.map f) fun z hz => by
    obtain ⟨x, hx, rfl⟩ := List.mem_map.mp hz
    exact h x hx
  rwa [List.length_map] at this
theorem sum_ge_mul {f : Int → Int} {c : Int} {l : List Int} (h : ∀ x ∈ l, c ≤ f x) : c * (l.length : Int) ≤ (l.map f).sum := by
  have h1 := sum_shift (f := f) (c := c) l
  have h2 : 0 ≤ (l.map fun x => f x - c).sum := sum_nonneg fun z hz => by
    obtain ⟨x, hx, rfl⟩ := List.mem_map.mp hz
    have := h x hx
    omega
  omega
theorem loss_bds {w : Nat} {p : List Int} {M : List (List Int)} (hw : w ≤ 100) (hp : BdV w p) (hv : ∀ v ∈ M, BdV w v) : ∀ k : Int, -100000000000000000000000000 ≤ gI (M.map (lossI p)) k ∧ gI (M.map (lossI p)) k ≤ 100000000000000000000000000 := fun k => by
  unfold gI
  rw [List.getD_eq_getElem?_getD]
  cases e : (M.map (lossI p))[k.toNat]? with
  | none => exact ⟨by decide, by decide⟩
  | some z =>
    rw [List.getElem?_map] at e
    cases e2 : M[k.toNat]? with
    | none => rw [e2] at e; cases e
    | some v =>
      rw [e2] at e
      cases e
      exact lossI_bd hw hp (hv v (List.mem_of_getElem? e2))
theorem needR_size {w : Nat} {p : List Int} {M : List (List Int)} {n : Int} {word : Str} (hw : w ≤ 100) (hp : BdV w p) (hv : ∀ v ∈ M, BdV w v) (hl : M.length ≤ 100) (n1 : 1 ≤ n) (n2 : n ≤ (M.length : Int)) : SzR 500 (needR word (M.map (lossI p)) n) := by
  have hbd := loss_bds hw hp hv
  have ll : (M.map (lossI p)).length = M.length := List.length_map _
  generalize M.map (lossI p) = ls at hbd ll
  have lT := topK_len (ls := ls) (n := n) (by omega) (by omega)
  have sV : SzR 500 (needV word ls n) := by
    unfold needV
    split
    · have h1 := sum_le_mul (f := gI ls) (c := 100000000000000000000000000) (l := topK ls n) fun x _ => (hbd x).2
      have h2 := sum_ge_mul (f := gI ls) (c := -100000000000000000000000000) (l := topK ls n) fun x _ => (hbd x).1
      exact SzR.div (by omega) (sz_le 10000000000000000000000000000 (by omega) (by decide +kernel)) (sz_le 100 (by omega) (by decide +kernel))
    · have := hbd (gI (topK ls n) (n - 1))
      exact SzR.int (sz_le 100000000000000000000000000 (by omega) (by decide +kernel)) (by decide)
  unfold needR
  split
  · exact SzR.zero (by decide)
  · exact sV

theorem fdiv_sp (a b : Int) (S : Sto) (k : KD) (xk : XD) (ha : 0 ≤ a) (hb : 0 ≤ b) (h : k (.int (Int.gcd a b)) S) : w__law_divisor [.int a, .int b] S k xk := by
  walk_at "i"
  refine seq_i fun R hR => ?_
  refine while_inv (fun m s' S' => ∃ x y z, s' = [some (.int x), some (.int y), z] ∧ S' = S ∧ 0 ≤ x ∧ 0 ≤ y ∧ m = y.toNat ∧ Int.gcd x y = Int.gcd a b) _ ⟨a, b, _, rfl, rfl, ha, hb, rfl, rfl⟩ ?_
  rintro m s' S' ⟨x, y, z, rfl, rfl, hx, hy, rfl, hg⟩ nx hn
  walk_at "w"
  split
  · rename_i h0
    have h1 : 0 < y := by omega
    walk_at "s"
    refine ⟨h0, ?_⟩
    walk_at "S"
    have h2 := Int.emod_lt_of_pos x h1
    have h3 := Int.emod_nonneg x h0
    rw [fmod_pos h1]
    exact hn _ _ _ (by omega) ⟨y, x % y, _, rfl, rfl, by omega, h3, rfl, by rw [gcd_step x y hx h1]; exact hg⟩
  · rename_i h0
    refine hR _ _ ?_
    have h1 : y = 0 := by omega
    subst h1
    walk_at "w"
    rw [← hg] at h
    have : ((Int.gcd x 0 : Nat) : Int) = x := by rw [Int.gcd_zero_right]; omega
    rw [this] at h
    exact h

theorem fgreat_sp (ns : List Int) (i m : Int) (S : Sto) (k : KD) (xk : XD) (hl : ns.length ≤ 63) (hb : ∀ z ∈ ns, Builtin.Int.intBits z ≤ 1048576) (h0 : 0 ≤ i) (h1 : i ≤ 1000000) (m0 : 0 ≤ m) (h : ∀ z : Int, 0 ≤ z → z ≤ m → k (.int z) S) : w__law_great [.scr (ns.map .int), .int i, .int m] S k xk := by
  walk_at "i"
  walk_at "s"
  refine cell_sp _ _ _ _ _ h0 hl ?_
  walk_at "w"
  refine ⟨mul_r (by omega) (by omega), ?_⟩
  have sc : Sz 1048576 (cellv ns i) := Sz.of_bits (cellv_bits hb _)
  have s1 : Sz 1048592 (cellv ns i * 48271) := Sz.mul (m := 16) sc (sz_le 48271 (by decide) (by decide))
  have s2 : Sz 33 (7919 * i) := Sz.mul (n := 13) (m := 20) (sz_le 7919 (by decide) (by decide)) (sz_le 1000000 (by omega) (by decide))
  have s3 : Sz 53 (7919 * i * i) := Sz.mul (m := 20) s2 (sz_le 1000000 (by omega) (by decide))
  have s4 : Sz 1048593 (cellv ns i * 48271 + 7919 * i * i) := s1.add (s3.mono (by decide))
  have s5 : Sz 1048594 (cellv ns i * 48271 + 7919 * i * i + 11) := s4.add (Sz.mono (n := 4) (sz_lit (by decide)) (by decide))
  generalize cellv ns i * 48271 + 7919 * i * i + 11 = mixed at s5
  walk_at "s"
  have mp : 0 < m + 1 := by omega
  refine ⟨s5.mulOk (m := 244) (sz_lit (by decide +kernel)) (by decide) (by decide) (by decide), by omega, ?_⟩
  simp only [fmod_pos mp]
  generalize mixed * 28269553036454149224292902704178252817674109380037990394614044720680140801 = big
  have g1 := @emod_lo big (m + 1) mp
  have g2 := @emod_hi big (m + 1) mp
  exact h _ (by omega) (by omega)


theorem gI_memJ {v : List Int} {j : Int} (h0 : 0 ≤ j) (h1 : j < (v.length : Int)) : gI v j ∈ v := by
  obtain ⟨n, rfl⟩ : ∃ n : Nat, j = (n : Int) := ⟨j.toNat, by omega⟩
  exact gI_mem (by omega)
theorem lwhole_sp (n : Int) (S : Sto) (k : KD) (xk : XD) (h : k (.bl true) S) : w__law_whole [.int n] S k xk := by
  walk_at "i"
  walk_at "w"
  exact h
theorem lispart_sp (q : Rat) (S : Sto) (k : KD) (xk : XD) (h : k (.bl true) S) : w__law_is_part [pR q] S k xk := by
  walk_at "i"
  have hd := den_pos q
  have hg : Int.gcd (if q.num < 0 then -q.num else q.num) q.den = 1 := by
    have e : Int.gcd (if q.num < 0 then -q.num else q.num) q.den = Int.gcd q.num q.den := by split <;> simp
    rw [e]
    have := q.reduced
    unfold Int.gcd
    simpa using this
  walk_at "s"
  walk_at "s"
  refine lwhole_sp _ _ _ _ ?_
  walk_at "w"
  refine lwhole_sp _ _ _ _ ?_
  walk_at "w"
  rw [if_neg (by omega)]
  walk_at "w"
  refine fdiv_sp _ _ _ _ _ (by split <;> omega) (by omega) ?_
  rw [hg]
  walk_at "w"
  exact h
theorem lmeets_sp (q : Rat) (due n : Int) (S : Sto) (k : KD) (xk : XD) (n1 : 1 ≤ n) (sq : SzR 600 q) (sd : Sz 600 due) (sn : Sz 600 n) (hq : q = if Rat.divInt due n < 0 then 0 else Rat.divInt due n) (h : k (.bl true) S) : w__law_meets [pR q, .int due, .int n] S k xk := by
  walk_at "i"
  walk_at "s"
  refine lispart_sp _ _ _ _ ?_
  walk_at "w"
  walk_at "s"
  have dq := den_pos q
  have hp : (0 : Rat) < ((n : Int) : Rat) := by exact_mod_cast (show 0 < n by omega)
  have hn : ((n : Int) : Rat) ≠ 0 := by exact_mod_cast (show n ≠ 0 by omega)
  have hlt : Rat.divInt due n < 0 ↔ due < 0 := by
    rw [divInt_eq]
    constructor
    · intro h1
      have h2 := Rat.mul_lt_mul_of_pos_right h1 hp
      have h3 : ((due : Int) : Rat) / ((n : Int) : Rat) * ((n : Int) : Rat) = ((due : Int) : Rat) := by grind
      rw [h3, Rat.zero_mul] at h2
      exact_mod_cast h2
    · intro h1
      have h2 : ((due : Int) : Rat) < 0 := by exact_mod_cast h1
      refine Rat.not_le.mp fun h3 => ?_
      have h4 := Rat.mul_le_mul_of_nonneg_right h3 (Rat.le_of_lt hp)
      have h5 : ((due : Int) : Rat) / ((n : Int) : Rat) * ((n : Int) : Rat) = ((due : Int) : Rat) := by grind
      rw [h5, Rat.zero_mul] at h4
      exact absurd h4 (Rat.not_le.mpr h2)
  by_cases c : due < 0
  · rw [if_pos (hlt.mpr c)] at hq
    subst hq
    rw [if_pos c]
    walk_at "w"
    exact eqW_self (x := pR 0) (pR_plain 0) (pR_ok 0) h
  · rw [if_neg (fun z => c (hlt.mp z))] at hq
    rw [if_neg c]
    walk_at "w"
    refine ⟨sq.1.mulOk sn (by decide) (by decide) (by decide), sd.mulOk sq.2 (by decide) (by decide) (by decide), ?_⟩
    have e : q.num * n = due * (q.den : Int) := by
      have h1 : q * ((n : Int) : Rat) = ((due : Int) : Rat) := by rw [hq, divInt_eq]; grind
      have h2 : q * ((q.den : Int) : Rat) = ((q.num : Int) : Rat) := (num_eq q).symm
      have h3 : ((q.num : Int) : Rat) * ((n : Int) : Rat) = ((due : Int) : Rat) * ((q.den : Int) : Rat) := by grind
      exact_mod_cast h3
    rw [decide_eq_true e]
    exact h
theorem lanother_sp (a : Addr) (S : Sto) (k : KD) (xk : XD) (h : k (.bl false) S) : w__law_of_another a "NoRule" [.exn a "NoRule"] S k xk := by
  walk_at "i"
  walk_at "e"
  walk_at "S"
  exact h
theorem lrefused_sp (w : Nat) (word : Str) (n : Int) (p : List Int) (M : List (List Int)) (j : Nat) (P0 : Addr) (S : Sto) (k : KD) (xk : XD) (hw : w ≤ 100) (hp : BdV w p) (hl : M.length ≤ 100) (hv : ∀ v ∈ M, BdV w v) (hT : S[j]? = some (.tab P0 "worst_days.<locals>.<lambda>")) (hx : ¬ ((word = "worst" ∨ word = "mean") ∧ 1 ≤ n ∧ n ≤ (M.length : Int))) (h : k (.bl true) S) : w__law_refused [.tup [.str word, .int n], .lst (vI p), .lst (matL M)] S k xk := by
  walk_at "i"
  walk_at "s"
  refine needof_sp w word n p M j P0 _ _ _ hw hp hl hv hT (fun h1 h2 h3 => absurd ⟨h1, h2, h3⟩ hx) fun _ => ?_
  walk_at "e"
  walk_at "w"
  intro a
  walk_at "s"
  refine lanother_sp _ _ _ _ ?_
  walk_at "w"
  exact h

theorem txt_at {z : Str} {i : Int} {S : Sto} (h0 : 0 ≤ i) (h1 : i < (z.length : Int)) (hz : z.length ≤ sizeLine) : ∃ c, ixD S (.str z) i = some (.str ⟨#[c]⟩) := by
  have hl : z.cps.toList.length = z.length := by simp [Str.length]
  have e : z.cps.toList[i.toNat]? = some (z.cps.toList[i.toNat]'(by omega)) := List.getElem?_eq_getElem (by omega)
  refine ⟨z.cps.toList[i.toNat]'(by omega), ?_⟩
  show (if z.length ≤ sizeLine then (L2.atI z.cps.toList i).map fun c => D.str ⟨#[c]⟩ else none) = _
  rw [if_pos hz]
  have := L2.atI_nat e
  rw [show ((i.toNat : Nat) : Int) = i by omega] at this
  rw [this]
  rfl
theorem slice_len (z : Str) (lo hi : Option Int) : (Txt.slice z lo hi).length ≤ z.length := by
  rw [← C8.cutS_slice]
  exact cutS_length z lo hi
theorem str_app_len (a b : Str) : (a ++ b).length = a.length + b.length := by
  show (a.cps ++ b.cps).size = _
  rw [Array.size_append]
  rfl
theorem otherword_sp (ns : List Int) (word : Str) (S : Sto) (k : KD) (xk : XD) (hl : ns.length ≤ 63) (hw : word.length ≤ 5) (h : ∀ z : Str, z ≠ "worst" → z ≠ "mean" → k (.str z) S) : w__law_other_word [.scr (ns.map .int), .str word] S k xk := by
  have hz : 100 ≤ sizeLine := szle (by decide)
  walk_at "i"
  walk_at "s"
  refine ⟨by omega, ?_⟩
  refine draw4_sp _ _ _ _ _ _ _ hl (by decide) (by decide) (by decide) (by omega) fun at_ a0 a1 => ?_
  walk_at "s"
  refine draw4_sp _ _ _ _ _ _ _ hl (by decide) (by decide) (by decide) (by decide) fun much m0 m1 => ?_
  walk_at "s"
  refine draw4_sp _ _ _ _ _ _ _ hl (by decide) (by decide) (by decide) (by decide) fun i i0 i1 => ?_
  obtain ⟨c, hc⟩ := txt_at (z := "abcdefghijklmnopqrstuvwxyzMWT ") (i := i) (S := S) i0 i1 (Nat.le_trans (by decide) hz)
  refine ⟨_, hc, ?_⟩
  walk_at "s"
  refine draw4_sp _ _ _ _ _ _ _ hl (by decide) (by decide) (by decide) (by decide) fun way w0 w1 => ?_
  refine seq_cut (fun s' S' => S = S' ∧ ∃ (sg : Str) (mu : Int), sg.length ≤ 1 ∧ s' = [some (.scr (ns.map .int)), some (.str word), some (.int at_), some (.int mu), some (.str sg), some (.int way), none]) (fun R hR => ?_) ?_
  · walk_at "w"
    by_cases c0 : way = 0
    · rw [if_pos c0]
      walk_at "s"
      walk_at "w"
      exact hR _ _ ⟨rfl, "", _, by decide, rfl⟩
    · rw [if_neg c0]
      exact hR _ _ ⟨rfl, ⟨#[c]⟩, _, Nat.le_refl _, rfl⟩
  rintro _ _ ⟨rfl, sg, mu, hs, rfl⟩
  walk_at "s"
  have l1 := slice_len word none (some at_)
  have l2 := slice_len word (some (at_ + mu)) none
  refine ⟨by omega, ?_⟩
  refine ⟨by omega, ?_⟩
  refine ⟨by omega, ?_⟩
  refine ⟨by rw [str_app_len]; omega, ?_⟩
  generalize Txt.slice word none (some at_) ++ sg ++ Txt.slice word (some (at_ + mu)) none = z
  walk_at "s"
  by_cases c1 : z = "worst"
  · rw [if_pos c1]
    exact h _ (by decide) (by decide)
  · rw [if_neg c1]
    by_cases c2 : z = "mean"
    · rw [if_pos c2]
      exact h _ (by decide) (by decide)
    · rw [if_neg c2]
      exact h _ c1 c2

theorem norule_sp (ns : List Int) (word : Str) (n days : Int) (S : Sto) (k : KD) (xk : XD) (hl : ns.length ≤ 63) (hb : ∀ z ∈ ns, Builtin.Int.intBits z ≤ 1048576) (hw : word.length ≤ 5) (d0 : 1 ≤ days) (h : ∀ (z : Str) (m : Int), ¬ ((z = "worst" ∨ z = "mean") ∧ 1 ≤ m ∧ m ≤ days) → k (.tup [.str z, .int m]) S) : w__law_no_rule [.scr (ns.map .int), .str word, .int n, .int days] S k xk := by
  walk_at "i"
  walk_at "s"
  refine draw4_sp _ _ _ _ _ _ _ hl (by decide) (by decide) (by decide) (by decide) fun way w0 w1 => ?_
  walk_at "s"
  by_cases c0 : way = 0
  · rw [if_pos c0]
    exact h _ _ (by omega)
  rw [if_neg c0]
  walk_at "s"
  by_cases c1 : way = 1
  · rw [if_pos c1]
    exact h _ _ (by omega)
  rw [if_neg c1]
  walk_at "s"
  by_cases c2 : way = 2
  · rw [if_pos c2]
    walk_at "w"
    refine draw4_sp _ _ _ _ _ _ _ hl (by decide) (by decide) (by decide) (by omega) fun y y0 y1 => ?_
    walk_at "w"
    exact h _ _ (by omega)
  rw [if_neg c2]
  walk_at "s"
  by_cases c3 : way = 3
  · rw [if_pos c3]
    walk_at "w"
    refine fgreat_sp _ _ _ _ _ _ hl hb (by decide) (by decide) (by decide) fun y y0 y1 => ?_
    walk_at "w"
    exact h _ _ (by omega)
  rw [if_neg c3]
  walk_at "s"
  refine otherword_sp _ _ _ _ _ hl hw fun z z1 z2 => ?_
  walk_at "w"
  exact h _ _ (fun q => q.1.elim z1 z2)

theorem law_true (ns : List Int) (hl : ns.length ≤ 63) (hb : ∀ z ∈ ns, Builtin.Int.intBits z ≤ 1048576) : w_law [.scr (ns.map .int)] [.tab 0 "worst_days.<locals>.<lambda>"] (fun d _ => d = .bl true) fun _ _ => False := by
  walk_at "i"
  walk_at "s"
  refine draw4_sp _ _ _ _ _ _ _ hl (by decide) (by decide) (by decide) (by decide) fun z z0 z1 => ?_
  walk_at "s"
  refine days_sp _ _ _ _ _ hl (by decide) fun days d0 d1 => ?_
  walk_at "s"
  refine most_sp _ _ _ _ hl fun most m0 m1 => ?_
  walk_at "s"
  refine moves_sp _ _ _ _ _ _ _ hl hb (by omega) (by omega) (by omega) (by omega) m0 m1 fun M lM hM => ?_
  walk_at "s"
  refine position_sp _ _ _ _ _ _ _ hl hb (by decide) (by decide) (by omega) (by omega) m0 m1 fun p hp => ?_
  walk_at "s"
  refine draw4_sp _ _ _ _ _ _ _ hl (by decide) (by decide) (by decide) (by omega) fun n n0 n1 => ?_
  have lM2 : M.length ≤ 100 := by omega
  have hw : (1 + z).toNat ≤ 100 := by omega
  generalize (1 + z).toNat = w at hM hp hw
  walk_at "s"
  refine lc_rel (fun _ x y => ∀ v : List Int, x = .lst (vI v) → y = .int (lossI p v)) (by rw [matL_len]; exact szlt (by omega)) trivial (fun n x hx k' hk => ?_) fun ys hl' hy => ?_
  · obtain ⟨v, hm, rfl⟩ := matL_get hx
    walk_at "w"
    refine lloss_sp w _ _ _ _ _ hw hp (hM v (List.mem_of_getElem? hm)) (hk _ fun u hu => ?_)
    simp only [D.lst.injEq] at hu
    rw [vI_inj hu]
  rw [matL_len] at hl'
  obtain rfl := vI_map (as := M) (lossI p) hl' fun n v y e1 e2 => hy n (.lst (vI v)) y (by unfold matL; rw [List.getElem?_map, e1]; rfl) e2 v rfl
  clear hy hl'
  walk_at "w"
  have ll : (M.map (lossI p)).length = M.length := List.length_map _
  refine ⟨M.map (lossI p), rfl, fun ms h1 h2 => ?_⟩
  show vSeq _ _ _ _ _
  have lm : (ms.length : Int) = (M.length : Int) := by rw [h1.length_eq, ll]
  have hbd : ∀ z ∈ ms, -100000000000000000000000000 ≤ z ∧ z ≤ 100000000000000000000000000 := fun z hz => by
    obtain ⟨v, hm, rfl⟩ := List.mem_map.mp (h1.mem_iff.mp hz)
    exact lossI_bd hw hp (hM v hm)
  have n1' : 1 ≤ 1 + n := by omega
  have n2' : 1 + n ≤ (M.length : Int) := by omega
  generalize 1 + n = nm at n1' n2'
  have sW := needR_size (word := "worst") hw hp hM lM2 n1' n2'
  have sM := needR_size (word := "mean") hw hp hM lM2 n1' n2'
  have eW : needR "worst" (M.map (lossI p)) nm = if Rat.divInt (gI ms (nm - 1)) 1 < 0 then 0 else Rat.divInt (gI ms (nm - 1)) 1 := by
    unfold needR needV
    rw [if_neg (show ¬ ("worst" : Str) = "mean" by decide), kth_ms h1 h2 n1' (by omega)]
    have d1 : ∀ z : Int, ((z : Int) : Rat) = Rat.divInt z 1 := fun z => by rw [divInt_eq]; have : ((1 : Int) : Rat) = 1 := rfl; grind
    rw [d1]
  have eM : needR "mean" (M.map (lossI p)) nm = if Rat.divInt (ms.take nm.toNat).sum nm < 0 then 0 else Rat.divInt (ms.take nm.toNat).sum nm := by
    unfold needR needV
    rw [if_pos rfl, top_take h1 h2]
  have bW := hbd _ (gI_memJ (v := ms) (j := nm - 1) (by omega) (by omega))
  have bM : -100000000000000000000000000000 ≤ (ms.take nm.toNat).sum ∧ (ms.take nm.toNat).sum ≤ 100000000000000000000000000000 := by
    have h3 := sum_le (b := 100000000000000000000000000) (v := ms.take nm.toNat) fun z hz => (hbd z (List.mem_of_mem_take hz)).2
    have h4 := sum_ge_mul (f := id) (c := -100000000000000000000000000) (l := ms.take nm.toNat) fun z hz => (hbd z (List.mem_of_mem_take hz)).1
    have h5 : ((ms.take nm.toNat).length : Int) ≤ 100 := by rw [List.length_take]; omega
    rw [List.map_id] at h4
    omega
  have zW : Sz 600 (gI ms (nm - 1)) := sz_le 100000000000000000000000000 (by omega) (by decide +kernel)
  have zM : Sz 600 (ms.take nm.toNat).sum := sz_le 100000000000000000000000000000 (by omega) (by decide +kernel)
  have zn : Sz 600 nm := sz_le 100 (by omega) (by decide +kernel)
  have hT : ([.tab 0 "worst_days.<locals>.<lambda>"] : Sto)[0]? = some (.tab 0 "worst_days.<locals>.<lambda>") := rfl
  have mono : ∀ {q : Rat}, SzR 500 q → SzR 600 q := fun h => ⟨h.1.mono (by decide), h.2.mono (by decide)⟩
  walk_at "s"
  refine lc_map id (by rw [matL_len]; exact szlt (by omega)) trivial (fun x hx k' hk => ?_) ?_
  · obtain ⟨n, hn⟩ := List.mem_iff_getElem?.mp hx
    obtain ⟨v, hm, rfl⟩ := matL_get hn
    walk_at "w"
    exact hk
  rw [List.map_id]
  walk_at "s"
  walk_at "s"
  refine needof_sp w "worst" nm p M 0 0 _ _ _ hw hp lM2 hM hT (fun _ _ _ => ?_) (fun z => absurd ⟨.inl rfl, n1', n2'⟩ z)
  walk_at "w"
  refine ⟨_, at_vI (by omega) (by omega), ?_⟩
  refine lmeets_sp _ _ _ _ _ _ (by decide) (mono sW) zW (sz_lit (by decide)) eW ?_
  walk_at "w"
  walk_at "s"
  refine needof_sp w "mean" nm p M 0 0 _ _ _ hw hp lM2 hM hT (fun _ _ _ => ?_) (fun z => absurd ⟨.inr rfl, n1', n2'⟩ z)
  walk_at "w"
  rw [cut_take (by omega)]
  walk_at "w"
  refine ⟨ms.take nm.toNat, by unfold isInts; rw [List.map_take]; rfl, ?_⟩
  refine lmeets_sp _ _ _ _ _ _ n1' (mono sM) zM zn eM ?_
  walk_at "w"
  walk_at "s"
  refine draw4_sp _ _ _ _ _ _ _ hl (by decide) (by decide) (by decide) (by decide) fun y y0 y1 => ?_
  have hwd : ∃ wd : Str, (wd = "worst" ∨ wd = "mean") ∧ L2.atI [D.str "worst", D.str "mean"] y = some (.str wd) := by
    rcases (show y = 0 ∨ y = 1 by omega) with rfl | rfl
    · exact ⟨"worst", .inl rfl, atI_0⟩
    · exact ⟨"mean", .inr rfl, atI_1⟩
  obtain ⟨wd, hwd, ey⟩ := hwd
  have lwd : wd.length ≤ 5 := by rcases hwd with rfl | rfl <;> decide
  walk_at "w"
  refine ⟨_, ey, ?_⟩
  walk_at "s"
  refine norule_sp _ _ _ _ _ _ _ hl hb lwd d0 fun z' m hx => ?_
  walk_at "w"
  refine lrefused_sp w z' m p M 0 0 _ _ _ hw hp lM2 hM hT (by rw [show (M.length : Int) = days by omega]; exact hx) ?_
  walk_at "w"
  walk_at "s"
  refine neW_self (lst_plain (matL_plain _)) (matL_ok _) ?_
  walk_at "w"
  refine neW_self (lst_plain (vI_plain _)) (vI_ok _) ?_
  walk_at "w"
  walk_at "s"
  refine needof_sp w "mean" nm p M 0 0 _ _ _ hw hp lM2 hM hT (fun _ _ _ => ?_) (fun z => absurd ⟨.inr rfl, n1', n2'⟩ z)
  walk_at "w"
  rw [cut_take (by omega)]
  walk_at "w"
  refine ⟨ms.take nm.toNat, by unfold isInts; rw [List.map_take]; rfl, ?_⟩
  refine lmeets_sp _ _ _ _ _ _ n1' (mono sM) zM zn eM ?_
  walk_at "w"
  walk_at "s"
  refine needof_sp w "worst" nm p M 0 0 _ _ _ hw hp lM2 hM hT (fun _ _ _ => ?_) (fun z => absurd ⟨.inl rfl, n1', n2'⟩ z)
  walk_at "w"
  refine ⟨_, at_vI (by omega) (by omega), ?_⟩
  refine lmeets_sp _ _ _ _ _ _ (by decide) (mono sW) zW (sz_lit (by decide)) eW ?_
  walk_at "w"

end Lw
namespace Lw
open PySem PySem.Spec PyProof.Rows L2 Ab
def u__law_cell : WF := wDef 2 2 (wSeq (wIf (wTest (wOp ltW (wVar 1) (wB lenF (wCons (wVar 0) wNil)))) (wRet (wOp ixW (wVar 0) (wVar 1))) wNx)
  (wRet (wC (.int 0))))
theorem l__law_cell : ∀ ds S kk xk, u__law_cell ds S kk xk → ds.length = 2 := fun _ _ _ _ h => h.1
theorem uw__law_cell : u__law_cell = w__law_cell := by
  unfold u__law_cell w__law_cell
  simp only [vVar_s, vC_s, vOp_s, vNeg_s, vTest_s, vChain_s, vAnd_s, vOr_s, vNot_s, vAndV_s, vOrV_s, vNotV_s, vIfE_s, vNoP_s, vSoP_s, vSl_s, vNil_s, vCons_s, vTup_s, vLst_s, vLstC_s, vFrz_s, vB_s, vIsi_s, vM_s, vM0_s, vCall_s, vSeqI_s, vRng1_s, vRng2_s, vYes_s, vLc_s, vLcC_s, vNx_s, vSeq_s, vNever_s, vDrop_s, vRet_s, vRetN_s, vIf_s, vSet_s, vSto_s, vFor_s, vWhile_s, vRaise_s, vDef_s, vTrim_s, vTrimC_s, vTry_s, vIsE_s, vFrzD_s, vLstRev_s, vLstRevC_s, vLstRg_s, vLstRgC_s, vRng3_s, vRem_s, vFld_s, vSetF_s, vMeth_s, vMake_s, vTrimM_s, vCallE_s, vDGet2_s, vDNew_s, vDPut_s, vKeysL_s, vLock_s, vPnil_s, vPcons_s, vDisp_s, vTryO_s, vSortK_s, vTryK_s, vNevE_s, vSlX_s, vUp_s, vJo_s]
def u__law_draw : WF := wDef 4 4 (wRet (wOp modW (wOp modW (wOp addW (wOp addW (wOp mulW (wCall u__law_cell (wCons (wVar 0) (wCons (wVar 1) wNil))) (wC (.int 48271))) (wOp mulW (wOp mulW (wC (.int 7919)) (wVar 1)) (wVar 1))) (wC (.int 11))) (wVar 2)) (wVar 3)))
theorem l__law_draw : ∀ ds S kk xk, u__law_draw ds S kk xk → ds.length = 4 := fun _ _ _ _ h => h.1
theorem uw__law_draw : u__law_draw = w__law_draw := by
  unfold u__law_draw w__law_draw
  simp only [vVar_s, vC_s, vOp_s, vNeg_s, vTest_s, vChain_s, vAnd_s, vOr_s, vNot_s, vAndV_s, vOrV_s, vNotV_s, vIfE_s, vNoP_s, vSoP_s, vSl_s, vNil_s, vCons_s, vTup_s, vLst_s, vLstC_s, vFrz_s, vB_s, vIsi_s, vM_s, vM0_s, vCall_s, vSeqI_s, vRng1_s, vRng2_s, vYes_s, vLc_s, vLcC_s, vNx_s, vSeq_s, vNever_s, vDrop_s, vRet_s, vRetN_s, vIf_s, vSet_s, vSto_s, vFor_s, vWhile_s, vRaise_s, vDef_s, vTrim_s, vTrimC_s, vTry_s, vIsE_s, vFrzD_s, vLstRev_s, vLstRevC_s, vLstRg_s, vLstRgC_s, vRng3_s, vRem_s, vFld_s, vSetF_s, vMeth_s, vMake_s, vTrimM_s, vCallE_s, vDGet2_s, vDNew_s, vDPut_s, vKeysL_s, vLock_s, vPnil_s, vPcons_s, vDisp_s, vTryO_s, vSortK_s, vTryK_s, vNevE_s, vSlX_s, vUp_s, vJo_s, uw__law_cell]
def u__law_days : WF := wDef 2 2 (wSeq (wIf (wTest (wOp eqW (wCall u__law_draw (wCons (wVar 0) (wCons (wC (.int 0)) (wCons (wC (.int 10007)) (wCons (wC (.int 3)) wNil))))) (wC (.int 0)))) (wRet (wOp addW (wC (.int 1)) (wCall u__law_draw (wCons (wVar 0) (wCons (wC (.int 0)) (wCons (wC (.int 15013)) (wCons (wVar 1) wNil))))))) wNx)
  (wRet (wOp addW (wC (.int 1)) (wCall u__law_draw (wCons (wVar 0) (wCons (wC (.int 0)) (wCons (wC (.int 15013)) (wCons (wC (.int 6)) wNil))))))))
theorem l__law_days : ∀ ds S kk xk, u__law_days ds S kk xk → ds.length = 2 := fun _ _ _ _ h => h.1
theorem uw__law_days : u__law_days = w__law_days := by
  unfold u__law_days w__law_days
  simp only [vVar_s, vC_s, vOp_s, vNeg_s, vTest_s, vChain_s, vAnd_s, vOr_s, vNot_s, vAndV_s, vOrV_s, vNotV_s, vIfE_s, vNoP_s, vSoP_s, vSl_s, vNil_s, vCons_s, vTup_s, vLst_s, vLstC_s, vFrz_s, vB_s, vIsi_s, vM_s, vM0_s, vCall_s, vSeqI_s, vRng1_s, vRng2_s, vYes_s, vLc_s, vLcC_s, vNx_s, vSeq_s, vNever_s, vDrop_s, vRet_s, vRetN_s, vIf_s, vSet_s, vSto_s, vFor_s, vWhile_s, vRaise_s, vDef_s, vTrim_s, vTrimC_s, vTry_s, vIsE_s, vFrzD_s, vLstRev_s, vLstRevC_s, vLstRg_s, vLstRgC_s, vRng3_s, vRem_s, vFld_s, vSetF_s, vMeth_s, vMake_s, vTrimM_s, vCallE_s, vDGet2_s, vDNew_s, vDPut_s, vKeysL_s, vLock_s, vPnil_s, vPcons_s, vDisp_s, vTryO_s, vSortK_s, vTryK_s, vNevE_s, vSlX_s, vUp_s, vJo_s, uw__law_draw]
def u__law_most : WF := wDef 1 1 (wSeq (wIf (wTest (wOp eqW (wCall u__law_draw (wCons (wVar 0) (wCons (wC (.int 1)) (wCons (wC (.int 20011)) (wCons (wC (.int 2)) wNil))))) (wC (.int 0)))) (wRet (wC (.int 3))) wNx)
  (wRet (wOp subW (wOp powW (wC (.int 10)) (wC (.int 12))) (wC (.int 1)))))
theorem l__law_most : ∀ ds S kk xk, u__law_most ds S kk xk → ds.length = 1 := fun _ _ _ _ h => h.1
theorem uw__law_most : u__law_most = w__law_most := by
  unfold u__law_most w__law_most
  simp only [vVar_s, vC_s, vOp_s, vNeg_s, vTest_s, vChain_s, vAnd_s, vOr_s, vNot_s, vAndV_s, vOrV_s, vNotV_s, vIfE_s, vNoP_s, vSoP_s, vSl_s, vNil_s, vCons_s, vTup_s, vLst_s, vLstC_s, vFrz_s, vB_s, vIsi_s, vM_s, vM0_s, vCall_s, vSeqI_s, vRng1_s, vRng2_s, vYes_s, vLc_s, vLcC_s, vNx_s, vSeq_s, vNever_s, vDrop_s, vRet_s, vRetN_s, vIf_s, vSet_s, vSto_s, vFor_s, vWhile_s, vRaise_s, vDef_s, vTrim_s, vTrimC_s, vTry_s, vIsE_s, vFrzD_s, vLstRev_s, vLstRevC_s, vLstRg_s, vLstRgC_s, vRng3_s, vRem_s, vFld_s, vSetF_s, vMeth_s, vMake_s, vTrimM_s, vCallE_s, vDGet2_s, vDNew_s, vDPut_s, vKeysL_s, vLock_s, vPnil_s, vPcons_s, vDisp_s, vTryO_s, vSortK_s, vTryK_s, vNevE_s, vSlX_s, vUp_s, vJo_s, uw__law_draw]
def u__law_number : WF := wDef 3 4 (wSeq (wSet 3 (wOp addW (wOp addW (wOp mulW (wCall u__law_cell (wCons (wVar 0) (wCons (wOp modW (wVar 1) (wC (.int 60))) wNil))) (wC (.int 48271))) (wOp mulW (wOp mulW (wC (.int 7919)) (wVar 1)) (wVar 1))) (wC (.int 11))))
  (wSeq (wIf (wTest (wOp eqW (wOp modW (wOp modW (wVar 3) (wC (.int 40009))) (wC (.int 4))) (wC (.int 0)))) (wRet (wC (.int 0))) wNx)
  (wSeq (wIf (wTest (wOp eqW (wOp modW (wOp modW (wVar 3) (wC (.int 40009))) (wC (.int 4))) (wC (.int 1)))) (wRet (wOp subW (wOp modW (wOp modW (wVar 3) (wC (.int 15013))) (wC (.int 7))) (wC (.int 3)))) wNx)
  (wRet (wOp subW (wOp modW (wOp mulW (wVar 3) (wOp powW (wC (.int 2305843009213693951)) (wC (.int 4)))) (wOp addW (wOp mulW (wC (.int 2)) (wVar 2)) (wC (.int 1)))) (wVar 2))))))
theorem l__law_number : ∀ ds S kk xk, u__law_number ds S kk xk → ds.length = 3 := fun _ _ _ _ h => h.1
theorem uw__law_number : u__law_number = w__law_number := by
  unfold u__law_number w__law_number
  simp only [vVar_s, vC_s, vOp_s, vNeg_s, vTest_s, vChain_s, vAnd_s, vOr_s, vNot_s, vAndV_s, vOrV_s, vNotV_s, vIfE_s, vNoP_s, vSoP_s, vSl_s, vNil_s, vCons_s, vTup_s, vLst_s, vLstC_s, vFrz_s, vB_s, vIsi_s, vM_s, vM0_s, vCall_s, vSeqI_s, vRng1_s, vRng2_s, vYes_s, vLc_s, vLcC_s, vNx_s, vSeq_s, vNever_s, vDrop_s, vRet_s, vRetN_s, vIf_s, vSet_s, vSto_s, vFor_s, vWhile_s, vRaise_s, vDef_s, vTrim_s, vTrimC_s, vTry_s, vIsE_s, vFrzD_s, vLstRev_s, vLstRevC_s, vLstRg_s, vLstRgC_s, vRng3_s, vRem_s, vFld_s, vSetF_s, vMeth_s, vMake_s, vTrimM_s, vCallE_s, vDGet2_s, vDNew_s, vDPut_s, vKeysL_s, vLock_s, vPnil_s, vPcons_s, vDisp_s, vTryO_s, vSortK_s, vTryK_s, vNevE_s, vSlX_s, vUp_s, vJo_s, uw__law_cell]
def u__law_moves : WF := wTrim (wDef 4 8 (wSeq (wSet 4 (wLstC wNil))
  (wSeq (wFor 5 (wRng1 (wCons (wVar 1) wNil))
  (wSeq (wSet 6 (wLc 7 [7] (wRng1 (wCons (wVar 2) wNil)) wYes (wCall u__law_number (wCons (wVar 0) (wCons (wOp addW (wOp addW (wC (.int 5)) (wOp mulW (wVar 2) (wVar 5))) (wVar 7)) (wCons (wVar 3) wNil))))))
  (wSeq (wIf (wAnd (wTest (wOp gtW (wVar 5) (wC (.int 0)))) (wTest (wOp eqW (wCall u__law_draw (wCons (wVar 0) (wCons (wOp addW (wC (.int 1)) (wVar 5)) (wCons (wC (.int 60013)) (wCons (wC (.int 5)) wNil))))) (wC (.int 0))))) (wSet 6 (wB listF (wCons (wOp ixW (wVar 4) (wCall u__law_draw (wCons (wVar 0) (wCons (wOp addW (wC (.int 1)) (wVar 5)) (wCons (wC (.int 70001)) (wCons (wVar 5) wNil)))))) wNil))) wNx)
  (wDrop (wM appF (wVar 4) (wCons (wVar 6) wNil))))))
  (wRet (wFrz (wVar 4))))))
theorem l__law_moves : ∀ ds S kk xk, u__law_moves ds S kk xk → ds.length = 4 := fun _ _ _ _ h => h.1
theorem uw__law_moves : u__law_moves = w__law_moves := by
  unfold u__law_moves w__law_moves
  simp only [vVar_s, vC_s, vOp_s, vNeg_s, vTest_s, vChain_s, vAnd_s, vOr_s, vNot_s, vAndV_s, vOrV_s, vNotV_s, vIfE_s, vNoP_s, vSoP_s, vSl_s, vNil_s, vCons_s, vTup_s, vLst_s, vLstC_s, vFrz_s, vB_s, vIsi_s, vM_s, vM0_s, vCall_s, vSeqI_s, vRng1_s, vRng2_s, vYes_s, vLc_s, vLcC_s, vNx_s, vSeq_s, vNever_s, vDrop_s, vRet_s, vRetN_s, vIf_s, vSet_s, vSto_s, vFor_s, vWhile_s, vRaise_s, vDef_s, vTrim_s, vTrimC_s, vTry_s, vIsE_s, vFrzD_s, vLstRev_s, vLstRevC_s, vLstRg_s, vLstRgC_s, vRng3_s, vRem_s, vFld_s, vSetF_s, vMeth_s, vMake_s, vTrimM_s, vCallE_s, vDGet2_s, vDNew_s, vDPut_s, vKeysL_s, vLock_s, vPnil_s, vPcons_s, vDisp_s, vTryO_s, vSortK_s, vTryK_s, vNevE_s, vSlX_s, vUp_s, vJo_s, uw__law_draw, uw__law_number]
def u__law_position : WF := wDef 4 5 (wRet (wLc 4 [4] (wRng1 (wCons (wVar 2) wNil)) wYes (wCall u__law_number (wCons (wVar 0) (wCons (wOp addW (wVar 1) (wOp mulW (wC (.int 7)) (wVar 4))) (wCons (wVar 3) wNil))))))
theorem l__law_position : ∀ ds S kk xk, u__law_position ds S kk xk → ds.length = 4 := fun _ _ _ _ h => h.1
theorem uw__law_position : u__law_position = w__law_position := by
  unfold u__law_position w__law_position
  simp only [vVar_s, vC_s, vOp_s, vNeg_s, vTest_s, vChain_s, vAnd_s, vOr_s, vNot_s, vAndV_s, vOrV_s, vNotV_s, vIfE_s, vNoP_s, vSoP_s, vSl_s, vNil_s, vCons_s, vTup_s, vLst_s, vLstC_s, vFrz_s, vB_s, vIsi_s, vM_s, vM0_s, vCall_s, vSeqI_s, vRng1_s, vRng2_s, vYes_s, vLc_s, vLcC_s, vNx_s, vSeq_s, vNever_s, vDrop_s, vRet_s, vRetN_s, vIf_s, vSet_s, vSto_s, vFor_s, vWhile_s, vRaise_s, vDef_s, vTrim_s, vTrimC_s, vTry_s, vIsE_s, vFrzD_s, vLstRev_s, vLstRevC_s, vLstRg_s, vLstRgC_s, vRng3_s, vRem_s, vFld_s, vSetF_s, vMeth_s, vMake_s, vTrimM_s, vCallE_s, vDGet2_s, vDNew_s, vDPut_s, vKeysL_s, vLock_s, vPnil_s, vPcons_s, vDisp_s, vTryO_s, vSortK_s, vTryK_s, vNevE_s, vSlX_s, vUp_s, vJo_s, uw__law_number]
def u__law_divisor : WF := wDef 2 3 (wSeq (wWhile (wTest (wOp neW (wVar 1) (wC (.int 0))))
  (wSeq (wSet 2 (wOp modW (wVar 0) (wVar 1)))
  (wSeq (wSet 0 (wVar 1))
  (wSet 1 (wVar 2)))))
  (wRet (wVar 0)))
theorem l__law_divisor : ∀ ds S kk xk, u__law_divisor ds S kk xk → ds.length = 2 := fun _ _ _ _ h => h.1
theorem uw__law_divisor : u__law_divisor = w__law_divisor := by
  unfold u__law_divisor w__law_divisor
  simp only [vVar_s, vC_s, vOp_s, vNeg_s, vTest_s, vChain_s, vAnd_s, vOr_s, vNot_s, vAndV_s, vOrV_s, vNotV_s, vIfE_s, vNoP_s, vSoP_s, vSl_s, vNil_s, vCons_s, vTup_s, vLst_s, vLstC_s, vFrz_s, vB_s, vIsi_s, vM_s, vM0_s, vCall_s, vSeqI_s, vRng1_s, vRng2_s, vYes_s, vLc_s, vLcC_s, vNx_s, vSeq_s, vNever_s, vDrop_s, vRet_s, vRetN_s, vIf_s, vSet_s, vSto_s, vFor_s, vWhile_s, vRaise_s, vDef_s, vTrim_s, vTrimC_s, vTry_s, vIsE_s, vFrzD_s, vLstRev_s, vLstRevC_s, vLstRg_s, vLstRgC_s, vRng3_s, vRem_s, vFld_s, vSetF_s, vMeth_s, vMake_s, vTrimM_s, vCallE_s, vDGet2_s, vDNew_s, vDPut_s, vKeysL_s, vLock_s, vPnil_s, vPcons_s, vDisp_s, vTryO_s, vSortK_s, vTryK_s, vNevE_s, vSlX_s, vUp_s, vJo_s]
def u__law_whole : WF := wDef 1 1 (wRet (wAndV (wIsi .int (wVar 0)) (wNotV (wIsi .bool (wVar 0)))))
theorem l__law_whole : ∀ ds S kk xk, u__law_whole ds S kk xk → ds.length = 1 := fun _ _ _ _ h => h.1
theorem uw__law_whole : u__law_whole = w__law_whole := by
  unfold u__law_whole w__law_whole
  simp only [vVar_s, vC_s, vOp_s, vNeg_s, vTest_s, vChain_s, vAnd_s, vOr_s, vNot_s, vAndV_s, vOrV_s, vNotV_s, vIfE_s, vNoP_s, vSoP_s, vSl_s, vNil_s, vCons_s, vTup_s, vLst_s, vLstC_s, vFrz_s, vB_s, vIsi_s, vM_s, vM0_s, vCall_s, vSeqI_s, vRng1_s, vRng2_s, vYes_s, vLc_s, vLcC_s, vNx_s, vSeq_s, vNever_s, vDrop_s, vRet_s, vRetN_s, vIf_s, vSet_s, vSto_s, vFor_s, vWhile_s, vRaise_s, vDef_s, vTrim_s, vTrimC_s, vTry_s, vIsE_s, vFrzD_s, vLstRev_s, vLstRevC_s, vLstRg_s, vLstRgC_s, vRng3_s, vRem_s, vFld_s, vSetF_s, vMeth_s, vMake_s, vTrimM_s, vCallE_s, vDGet2_s, vDNew_s, vDPut_s, vKeysL_s, vLock_s, vPnil_s, vPcons_s, vDisp_s, vTryO_s, vSortK_s, vTryK_s, vNevE_s, vSlX_s, vUp_s, vJo_s]
def u__law_is_part : WF := wDef 1 1 (wSeq (wIf (wOr (wNot (wTest (wIsi .tuple (wVar 0)))) (wTest (wOp neW (wB lenF (wCons (wVar 0) wNil)) (wC (.int 2))))) (wRet (wC (.bl false))) wNx)
  (wSeq (wIf (wOr (wNot (wTest (wCall u__law_whole (wCons (wOp ixW (wVar 0) (wC (.int 0))) wNil)))) (wOr (wNot (wTest (wCall u__law_whole (wCons (wOp ixW (wVar 0) (wC (.int 1))) wNil)))) (wTest (wOp ltW (wOp ixW (wVar 0) (wC (.int 1))) (wC (.int 1)))))) (wRet (wC (.bl false))) wNx)
  (wRet (wOp eqW (wCall u__law_divisor (wCons (wB absF (wCons (wOp ixW (wVar 0) (wC (.int 0))) wNil)) (wCons (wOp ixW (wVar 0) (wC (.int 1))) wNil))) (wC (.int 1))))))
theorem l__law_is_part : ∀ ds S kk xk, u__law_is_part ds S kk xk → ds.length = 1 := fun _ _ _ _ h => h.1
theorem uw__law_is_part : u__law_is_part = w__law_is_part := by
  unfold u__law_is_part w__law_is_part
  simp only [vVar_s, vC_s, vOp_s, vNeg_s, vTest_s, vChain_s, vAnd_s, vOr_s, vNot_s, vAndV_s, vOrV_s, vNotV_s, vIfE_s, vNoP_s, vSoP_s, vSl_s, vNil_s, vCons_s, vTup_s, vLst_s, vLstC_s, vFrz_s, vB_s, vIsi_s, vM_s, vM0_s, vCall_s, vSeqI_s, vRng1_s, vRng2_s, vYes_s, vLc_s, vLcC_s, vNx_s, vSeq_s, vNever_s, vDrop_s, vRet_s, vRetN_s, vIf_s, vSet_s, vSto_s, vFor_s, vWhile_s, vRaise_s, vDef_s, vTrim_s, vTrimC_s, vTry_s, vIsE_s, vFrzD_s, vLstRev_s, vLstRevC_s, vLstRg_s, vLstRgC_s, vRng3_s, vRem_s, vFld_s, vSetF_s, vMeth_s, vMake_s, vTrimM_s, vCallE_s, vDGet2_s, vDNew_s, vDPut_s, vKeysL_s, vLock_s, vPnil_s, vPcons_s, vDisp_s, vTryO_s, vSortK_s, vTryK_s, vNevE_s, vSlX_s, vUp_s, vJo_s, uw__law_divisor, uw__law_whole]
def u__law_meets : WF := wDef 3 3 (wSeq (wIf (wNot (wTest (wCall u__law_is_part (wCons (wVar 0) wNil)))) (wRet (wC (.bl false))) wNx)
  (wSeq (wIf (wTest (wOp ltW (wVar 1) (wC (.int 0)))) (wRet (wOp eqW (wVar 0) (wTup (wCons (wC (.int 0)) (wCons (wC (.int 1)) wNil))))) wNx)
  (wRet (wOp eqW (wOp mulW (wOp ixW (wVar 0) (wC (.int 0))) (wVar 2)) (wOp mulW (wVar 1) (wOp ixW (wVar 0) (wC (.int 1))))))))
theorem l__law_meets : ∀ ds S kk xk, u__law_meets ds S kk xk → ds.length = 3 := fun _ _ _ _ h => h.1
theorem uw__law_meets : u__law_meets = w__law_meets := by
  unfold u__law_meets w__law_meets
  simp only [vVar_s, vC_s, vOp_s, vNeg_s, vTest_s, vChain_s, vAnd_s, vOr_s, vNot_s, vAndV_s, vOrV_s, vNotV_s, vIfE_s, vNoP_s, vSoP_s, vSl_s, vNil_s, vCons_s, vTup_s, vLst_s, vLstC_s, vFrz_s, vB_s, vIsi_s, vM_s, vM0_s, vCall_s, vSeqI_s, vRng1_s, vRng2_s, vYes_s, vLc_s, vLcC_s, vNx_s, vSeq_s, vNever_s, vDrop_s, vRet_s, vRetN_s, vIf_s, vSet_s, vSto_s, vFor_s, vWhile_s, vRaise_s, vDef_s, vTrim_s, vTrimC_s, vTry_s, vIsE_s, vFrzD_s, vLstRev_s, vLstRevC_s, vLstRg_s, vLstRgC_s, vRng3_s, vRem_s, vFld_s, vSetF_s, vMeth_s, vMake_s, vTrimM_s, vCallE_s, vDGet2_s, vDNew_s, vDPut_s, vKeysL_s, vLock_s, vPnil_s, vPcons_s, vDisp_s, vTryO_s, vSortK_s, vTryK_s, vNevE_s, vSlX_s, vUp_s, vJo_s, uw__law_is_part]
def u_loss_on : WF := wDef 2 3 (wRet (wOp subW (wC (.int 0)) (wB sumF (wCons (wLc 2 [2] (wRng1 (wCons (wB lenF (wCons (wVar 0) wNil)) wNil)) wYes (wOp mulW (wOp ixW (wVar 0) (wVar 2)) (wOp ixW (wVar 1) (wVar 2)))) wNil))))
theorem l_loss_on : ∀ ds S kk xk, u_loss_on ds S kk xk → ds.length = 2 := fun _ _ _ _ h => h.1
theorem uw_loss_on : u_loss_on = w_loss_on := by
  unfold u_loss_on w_loss_on
  simp only [vVar_s, vC_s, vOp_s, vNeg_s, vTest_s, vChain_s, vAnd_s, vOr_s, vNot_s, vAndV_s, vOrV_s, vNotV_s, vIfE_s, vNoP_s, vSoP_s, vSl_s, vNil_s, vCons_s, vTup_s, vLst_s, vLstC_s, vFrz_s, vB_s, vIsi_s, vM_s, vM0_s, vCall_s, vSeqI_s, vRng1_s, vRng2_s, vYes_s, vLc_s, vLcC_s, vNx_s, vSeq_s, vNever_s, vDrop_s, vRet_s, vRetN_s, vIf_s, vSet_s, vSto_s, vFor_s, vWhile_s, vRaise_s, vDef_s, vTrim_s, vTrimC_s, vTry_s, vIsE_s, vFrzD_s, vLstRev_s, vLstRevC_s, vLstRg_s, vLstRgC_s, vRng3_s, vRem_s, vFld_s, vSetF_s, vMeth_s, vMake_s, vTrimM_s, vCallE_s, vDGet2_s, vDNew_s, vDPut_s, vKeysL_s, vLock_s, vPnil_s, vPcons_s, vDisp_s, vTryO_s, vSortK_s, vTryK_s, vNevE_s, vSlX_s, vUp_s, vJo_s]
def u_losses_of : WF := wDef 2 3 (wRet (wLc 2 [2] (wSeqI (wVar 1)) wYes (wCall u_loss_on (wCons (wVar 0) (wCons (wVar 2) wNil)))))
theorem l_losses_of : ∀ ds S kk xk, u_losses_of ds S kk xk → ds.length = 2 := fun _ _ _ _ h => h.1
theorem uw_losses_of : u_losses_of = w_losses_of := by
  unfold u_losses_of w_losses_of
  simp only [vVar_s, vC_s, vOp_s, vNeg_s, vTest_s, vChain_s, vAnd_s, vOr_s, vNot_s, vAndV_s, vOrV_s, vNotV_s, vIfE_s, vNoP_s, vSoP_s, vSl_s, vNil_s, vCons_s, vTup_s, vLst_s, vLstC_s, vFrz_s, vB_s, vIsi_s, vM_s, vM0_s, vCall_s, vSeqI_s, vRng1_s, vRng2_s, vYes_s, vLc_s, vLcC_s, vNx_s, vSeq_s, vNever_s, vDrop_s, vRet_s, vRetN_s, vIf_s, vSet_s, vSto_s, vFor_s, vWhile_s, vRaise_s, vDef_s, vTrim_s, vTrimC_s, vTry_s, vIsE_s, vFrzD_s, vLstRev_s, vLstRevC_s, vLstRg_s, vLstRgC_s, vRng3_s, vRem_s, vFld_s, vSetF_s, vMeth_s, vMake_s, vTrimM_s, vCallE_s, vDGet2_s, vDNew_s, vDPut_s, vKeysL_s, vLock_s, vPnil_s, vPcons_s, vDisp_s, vTryO_s, vSortK_s, vTryK_s, vNevE_s, vSlX_s, vUp_s, vJo_s, uw_loss_on]
def u_worst_days : WF := wDef 3 5 (wSeq (wSet 3 (wCall u_losses_of (wCons (wVar 0) (wCons (wVar 1) wNil))))
  (wSeq (wSet 4 (wSortK 3 "worst_days.<locals>.<lambda>" (wB lenF (wCons (wVar 1) wNil))))
  (wRet (wSl (wVar 4) wNoP (wSoP (wVar 2))))))
theorem l_worst_days : ∀ ds S kk xk, u_worst_days ds S kk xk → ds.length = 3 := fun _ _ _ _ h => h.1
theorem uw_worst_days : u_worst_days = w_worst_days := by
  unfold u_worst_days w_worst_days
  simp only [vVar_s, vC_s, vOp_s, vNeg_s, vTest_s, vChain_s, vAnd_s, vOr_s, vNot_s, vAndV_s, vOrV_s, vNotV_s, vIfE_s, vNoP_s, vSoP_s, vSl_s, vNil_s, vCons_s, vTup_s, vLst_s, vLstC_s, vFrz_s, vB_s, vIsi_s, vM_s, vM0_s, vCall_s, vSeqI_s, vRng1_s, vRng2_s, vYes_s, vLc_s, vLcC_s, vNx_s, vSeq_s, vNever_s, vDrop_s, vRet_s, vRetN_s, vIf_s, vSet_s, vSto_s, vFor_s, vWhile_s, vRaise_s, vDef_s, vTrim_s, vTrimC_s, vTry_s, vIsE_s, vFrzD_s, vLstRev_s, vLstRevC_s, vLstRg_s, vLstRgC_s, vRng3_s, vRem_s, vFld_s, vSetF_s, vMeth_s, vMake_s, vTrimM_s, vCallE_s, vDGet2_s, vDNew_s, vDPut_s, vKeysL_s, vLock_s, vPnil_s, vPcons_s, vDisp_s, vTryO_s, vSortK_s, vTryK_s, vNevE_s, vSlX_s, vUp_s, vJo_s, uw_losses_of]
def u_divisor : WF := wDef 2 3 (wSeq (wSet 0 (wB absF (wCons (wVar 0) wNil)))
  (wSeq (wSet 1 (wB absF (wCons (wVar 1) wNil)))
  (wSeq (wWhile (wTest (wOp neW (wVar 1) (wC (.int 0))))
  (wSeq (wSet 2 (wOp modW (wVar 0) (wVar 1)))
  (wSeq (wSet 0 (wVar 1))
  (wSet 1 (wVar 2)))))
  (wRet (wVar 0)))))
theorem l_divisor : ∀ ds S kk xk, u_divisor ds S kk xk → ds.length = 2 := fun _ _ _ _ h => h.1
theorem uw_divisor : u_divisor = w_divisor := by
  unfold u_divisor w_divisor
  simp only [vVar_s, vC_s, vOp_s, vNeg_s, vTest_s, vChain_s, vAnd_s, vOr_s, vNot_s, vAndV_s, vOrV_s, vNotV_s, vIfE_s, vNoP_s, vSoP_s, vSl_s, vNil_s, vCons_s, vTup_s, vLst_s, vLstC_s, vFrz_s, vB_s, vIsi_s, vM_s, vM0_s, vCall_s, vSeqI_s, vRng1_s, vRng2_s, vYes_s, vLc_s, vLcC_s, vNx_s, vSeq_s, vNever_s, vDrop_s, vRet_s, vRetN_s, vIf_s, vSet_s, vSto_s, vFor_s, vWhile_s, vRaise_s, vDef_s, vTrim_s, vTrimC_s, vTry_s, vIsE_s, vFrzD_s, vLstRev_s, vLstRevC_s, vLstRg_s, vLstRgC_s, vRng3_s, vRem_s, vFld_s, vSetF_s, vMeth_s, vMake_s, vTrimM_s, vCallE_s, vDGet2_s, vDNew_s, vDPut_s, vKeysL_s, vLock_s, vPnil_s, vPcons_s, vDisp_s, vTryO_s, vSortK_s, vTryK_s, vNevE_s, vSlX_s, vUp_s, vJo_s]
def u_part : WF := wDef 2 3 (wSeq (wIf (wTest (wOp eqW (wVar 1) (wC (.int 0)))) (wRaise "NoPart") wNx)
  (wSeq (wIf (wTest (wOp ltW (wVar 1) (wC (.int 0)))) (wSeq (wSet 0 (wNeg (wVar 0)))
  (wSet 1 (wNeg (wVar 1)))) wNx)
  (wSeq (wSet 2 (wCall u_divisor (wCons (wVar 0) (wCons (wVar 1) wNil))))
  (wRet (wTup (wCons (wOp fdivW (wVar 0) (wVar 2)) (wCons (wOp fdivW (wVar 1) (wVar 2)) wNil)))))))
theorem l_part : ∀ ds S kk xk, u_part ds S kk xk → ds.length = 2 := fun _ _ _ _ h => h.1
theorem uw_part : u_part = w_part := by
  unfold u_part w_part
  simp only [vVar_s, vC_s, vOp_s, vNeg_s, vTest_s, vChain_s, vAnd_s, vOr_s, vNot_s, vAndV_s, vOrV_s, vNotV_s, vIfE_s, vNoP_s, vSoP_s, vSl_s, vNil_s, vCons_s, vTup_s, vLst_s, vLstC_s, vFrz_s, vB_s, vIsi_s, vM_s, vM0_s, vCall_s, vSeqI_s, vRng1_s, vRng2_s, vYes_s, vLc_s, vLcC_s, vNx_s, vSeq_s, vNever_s, vDrop_s, vRet_s, vRetN_s, vIf_s, vSet_s, vSto_s, vFor_s, vWhile_s, vRaise_s, vDef_s, vTrim_s, vTrimC_s, vTry_s, vIsE_s, vFrzD_s, vLstRev_s, vLstRevC_s, vLstRg_s, vLstRgC_s, vRng3_s, vRem_s, vFld_s, vSetF_s, vMeth_s, vMake_s, vTrimM_s, vCallE_s, vDGet2_s, vDNew_s, vDPut_s, vKeysL_s, vLock_s, vPnil_s, vPcons_s, vDisp_s, vTryO_s, vSortK_s, vTryK_s, vNevE_s, vSlX_s, vUp_s, vJo_s, uw_divisor]
def u_under : WF := wDef 2 2 (wRet (wOp ltW (wOp mulW (wOp ixW (wVar 0) (wC (.int 0))) (wOp ixW (wVar 1) (wC (.int 1)))) (wOp mulW (wOp ixW (wVar 1) (wC (.int 0))) (wOp ixW (wVar 0) (wC (.int 1))))))
theorem l_under : ∀ ds S kk xk, u_under ds S kk xk → ds.length = 2 := fun _ _ _ _ h => h.1
theorem uw_under : u_under = w_under := by
  unfold u_under w_under
  simp only [vVar_s, vC_s, vOp_s, vNeg_s, vTest_s, vChain_s, vAnd_s, vOr_s, vNot_s, vAndV_s, vOrV_s, vNotV_s, vIfE_s, vNoP_s, vSoP_s, vSl_s, vNil_s, vCons_s, vTup_s, vLst_s, vLstC_s, vFrz_s, vB_s, vIsi_s, vM_s, vM0_s, vCall_s, vSeqI_s, vRng1_s, vRng2_s, vYes_s, vLc_s, vLcC_s, vNx_s, vSeq_s, vNever_s, vDrop_s, vRet_s, vRetN_s, vIf_s, vSet_s, vSto_s, vFor_s, vWhile_s, vRaise_s, vDef_s, vTrim_s, vTrimC_s, vTry_s, vIsE_s, vFrzD_s, vLstRev_s, vLstRevC_s, vLstRg_s, vLstRgC_s, vRng3_s, vRem_s, vFld_s, vSetF_s, vMeth_s, vMake_s, vTrimM_s, vCallE_s, vDGet2_s, vDNew_s, vDPut_s, vKeysL_s, vLock_s, vPnil_s, vPcons_s, vDisp_s, vTryO_s, vSortK_s, vTryK_s, vNevE_s, vSlX_s, vUp_s, vJo_s]
def u_need_of : WF := wDef 3 9 (wSeq (wSet 3 (wOp ixW (wVar 0) (wC (.int 0))))
  (wSeq (wSet 4 (wOp ixW (wVar 0) (wC (.int 1))))
  (wSeq (wIf (wAnd (wTest (wOp neW (wVar 3) (wC (.str "worst")))) (wTest (wOp neW (wVar 3) (wC (.str "mean"))))) (wRaise "NoRule") wNx)
  (wSeq (wIf (wOr (wTest (wOp ltW (wVar 4) (wC (.int 1)))) (wTest (wOp gtW (wVar 4) (wB lenF (wCons (wVar 2) wNil))))) (wRaise "NoRule") wNx)
  (wSeq (wSet 5 (wCall u_losses_of (wCons (wVar 1) (wCons (wVar 2) wNil))))
  (wSeq (wSet 6 (wCall u_worst_days (wCons (wVar 1) (wCons (wVar 2) (wCons (wVar 4) wNil)))))
  (wSeq (wSet 7 (wCall u_part (wCons (wOp ixW (wVar 5) (wOp ixW (wVar 6) (wOp subW (wVar 4) (wC (.int 1))))) (wCons (wC (.int 1)) wNil))))
  (wSeq (wIf (wTest (wOp eqW (wVar 3) (wC (.str "mean")))) (wSet 7 (wCall u_part (wCons (wB sumF (wCons (wLc 8 [8] (wSeqI (wVar 6)) wYes (wOp ixW (wVar 5) (wVar 8))) wNil)) (wCons (wVar 4) wNil)))) wNx)
  (wSeq (wIf (wTest (wCall u_under (wCons (wVar 7) (wCons (wTup (wCons (wC (.int 0)) (wCons (wC (.int 1)) wNil))) wNil)))) (wRet (wTup (wCons (wC (.int 0)) (wCons (wC (.int 1)) wNil)))) wNx)
  (wRet (wVar 7)))))))))))
theorem l_need_of : ∀ ds S kk xk, u_need_of ds S kk xk → ds.length = 3 := fun _ _ _ _ h => h.1
theorem uw_need_of : u_need_of = w_need_of := by
  unfold u_need_of w_need_of
  simp only [vVar_s, vC_s, vOp_s, vNeg_s, vTest_s, vChain_s, vAnd_s, vOr_s, vNot_s, vAndV_s, vOrV_s, vNotV_s, vIfE_s, vNoP_s, vSoP_s, vSl_s, vNil_s, vCons_s, vTup_s, vLst_s, vLstC_s, vFrz_s, vB_s, vIsi_s, vM_s, vM0_s, vCall_s, vSeqI_s, vRng1_s, vRng2_s, vYes_s, vLc_s, vLcC_s, vNx_s, vSeq_s, vNever_s, vDrop_s, vRet_s, vRetN_s, vIf_s, vSet_s, vSto_s, vFor_s, vWhile_s, vRaise_s, vDef_s, vTrim_s, vTrimC_s, vTry_s, vIsE_s, vFrzD_s, vLstRev_s, vLstRevC_s, vLstRg_s, vLstRgC_s, vRng3_s, vRem_s, vFld_s, vSetF_s, vMeth_s, vMake_s, vTrimM_s, vCallE_s, vDGet2_s, vDNew_s, vDPut_s, vKeysL_s, vLock_s, vPnil_s, vPcons_s, vDisp_s, vTryO_s, vSortK_s, vTryK_s, vNevE_s, vSlX_s, vUp_s, vJo_s, uw_losses_of, uw_worst_days, uw_part, uw_under]
def u__law_of_another (a1 : Addr) (c1 : Str) : WF := wDef 1 1 (wSeq (wIf (wOr (wTest (wIsE a1 c1 (eSub c1 "Bare") (wVar 0))) (wOr (wTest (wIsE a1 c1 (eSub c1 "Closed") (wVar 0))) (wOr (wTest (wIsE a1 c1 (eSub c1 "Gone") (wVar 0))) (wTest (wIsE a1 c1 (eSub c1 "NoDeal") (wVar 0)))))) (wRet (wC (.bl true))) wNx)
  (wSeq (wIf (wOr (wTest (wIsE a1 c1 (eSub c1 "NoLayer") (wVar 0))) (wOr (wTest (wIsE a1 c1 (eSub c1 "NoMember") (wVar 0))) (wTest (wIsE a1 c1 (eSub c1 "NoPart") (wVar 0))))) (wRet (wC (.bl true))) wNx)
  (wSeq (wIf (wOr (wTest (wIsE a1 c1 (eSub c1 "NoAnswer") (wVar 0))) (wOr (wTest (wIsE a1 c1 (eSub c1 "NoTerms") (wVar 0))) (wOr (wTest (wIsE a1 c1 (eSub c1 "Out") (wVar 0))) (wTest (wIsE a1 c1 (eSub c1 "Poor") (wVar 0)))))) (wRet (wC (.bl true))) wNx)
  (wSeq (wIf (wOr (wTest (wIsE a1 c1 (eSub c1 "Ringed") (wVar 0))) (wOr (wTest (wIsE a1 c1 (eSub c1 "Settled") (wVar 0))) (wTest (wIsE a1 c1 (eSub c1 "Standing") (wVar 0))))) (wRet (wC (.bl true))) wNx)
  (wRet (wOrV (wIsE a1 c1 (eSub c1 "TooMuch") (wVar 0)) (wIsE a1 c1 (eSub c1 "Unclosed") (wVar 0))))))))
theorem l__law_of_another : ∀ a c ds S kk xk, u__law_of_another a c ds S kk xk → ds.length = 1 := fun _ _ _ _ _ _ h => h.1
theorem uw__law_of_another (a1 : Addr) (c1 : Str) : u__law_of_another a1 c1 = w__law_of_another a1 c1 := by
  unfold u__law_of_another w__law_of_another
  simp only [vVar_s, vC_s, vOp_s, vNeg_s, vTest_s, vChain_s, vAnd_s, vOr_s, vNot_s, vAndV_s, vOrV_s, vNotV_s, vIfE_s, vNoP_s, vSoP_s, vSl_s, vNil_s, vCons_s, vTup_s, vLst_s, vLstC_s, vFrz_s, vB_s, vIsi_s, vM_s, vM0_s, vCall_s, vSeqI_s, vRng1_s, vRng2_s, vYes_s, vLc_s, vLcC_s, vNx_s, vSeq_s, vNever_s, vDrop_s, vRet_s, vRetN_s, vIf_s, vSet_s, vSto_s, vFor_s, vWhile_s, vRaise_s, vDef_s, vTrim_s, vTrimC_s, vTry_s, vIsE_s, vFrzD_s, vLstRev_s, vLstRevC_s, vLstRg_s, vLstRgC_s, vRng3_s, vRem_s, vFld_s, vSetF_s, vMeth_s, vMake_s, vTrimM_s, vCallE_s, vDGet2_s, vDNew_s, vDPut_s, vKeysL_s, vLock_s, vPnil_s, vPcons_s, vDisp_s, vTryO_s, vSortK_s, vTryK_s, vNevE_s, vSlX_s, vUp_s, vJo_s]
def u__law_refused : WF := wDef 3 5 (wSeq (wSet 3 (wC .non))
  (wTryK 4 RL (fun c => eSub c "QuitsError")
  (wDrop (wCall u_need_of (wCons (wVar 0) (wCons (wVar 1) (wCons (wVar 2) wNil)))))
  (fun a1 c1 => (wSet 3 (wVar 4)))
  (wSeq (wIf (wOr (wTest (wOp (isNW false) (wVar 3) (wC .non))) (wOr (wNot (wTest wNevE)) (wNot (wTest wNevE)))) (wRet (wC (.bl false))) wNx)
  (wRet (wNotV wNevE)))
  (fun a1 c1 => (wSeq (wIf (wOr (wTest (wOp (isNW false) (wVar 3) (wC .non))) (wOr (wNot (wTest (wIsE a1 c1 (eSub c1 "NoRule") (wVar 3)))) (wNot (wTest (wIsE a1 c1 (eSub c1 "ValueError") (wVar 3)))))) (wRet (wC (.bl false))) wNx)
  (wRet (wNotV (wCallE (u__law_of_another a1 c1) (wCons (wVar 3) wNil))))))))
theorem l__law_refused : ∀ ds S kk xk, u__law_refused ds S kk xk → ds.length = 3 := fun _ _ _ _ h => h.1
theorem uw__law_refused : u__law_refused = w__law_refused := by
  unfold u__law_refused w__law_refused
  simp only [vVar_s, vC_s, vOp_s, vNeg_s, vTest_s, vChain_s, vAnd_s, vOr_s, vNot_s, vAndV_s, vOrV_s, vNotV_s, vIfE_s, vNoP_s, vSoP_s, vSl_s, vNil_s, vCons_s, vTup_s, vLst_s, vLstC_s, vFrz_s, vB_s, vIsi_s, vM_s, vM0_s, vCall_s, vSeqI_s, vRng1_s, vRng2_s, vYes_s, vLc_s, vLcC_s, vNx_s, vSeq_s, vNever_s, vDrop_s, vRet_s, vRetN_s, vIf_s, vSet_s, vSto_s, vFor_s, vWhile_s, vRaise_s, vDef_s, vTrim_s, vTrimC_s, vTry_s, vIsE_s, vFrzD_s, vLstRev_s, vLstRevC_s, vLstRg_s, vLstRgC_s, vRng3_s, vRem_s, vFld_s, vSetF_s, vMeth_s, vMake_s, vTrimM_s, vCallE_s, vDGet2_s, vDNew_s, vDPut_s, vKeysL_s, vLock_s, vPnil_s, vPcons_s, vDisp_s, vTryO_s, vSortK_s, vTryK_s, vNevE_s, vSlX_s, vUp_s, vJo_s, uw_need_of, uw__law_of_another]
def u__law_loss : WF := wDef 2 4 (wSeq (wSet 2 (wC (.int 0)))
  (wSeq (wFor 3 (wRng1 (wCons (wB lenF (wCons (wVar 0) wNil)) wNil))
  (wSet 2 (wOp subW (wVar 2) (wOp mulW (wOp ixW (wVar 0) (wVar 3)) (wOp ixW (wVar 1) (wVar 3))))))
  (wRet (wVar 2))))
theorem l__law_loss : ∀ ds S kk xk, u__law_loss ds S kk xk → ds.length = 2 := fun _ _ _ _ h => h.1
theorem uw__law_loss : u__law_loss = w__law_loss := by
  unfold u__law_loss w__law_loss
  simp only [vVar_s, vC_s, vOp_s, vNeg_s, vTest_s, vChain_s, vAnd_s, vOr_s, vNot_s, vAndV_s, vOrV_s, vNotV_s, vIfE_s, vNoP_s, vSoP_s, vSl_s, vNil_s, vCons_s, vTup_s, vLst_s, vLstC_s, vFrz_s, vB_s, vIsi_s, vM_s, vM0_s, vCall_s, vSeqI_s, vRng1_s, vRng2_s, vYes_s, vLc_s, vLcC_s, vNx_s, vSeq_s, vNever_s, vDrop_s, vRet_s, vRetN_s, vIf_s, vSet_s, vSto_s, vFor_s, vWhile_s, vRaise_s, vDef_s, vTrim_s, vTrimC_s, vTry_s, vIsE_s, vFrzD_s, vLstRev_s, vLstRevC_s, vLstRg_s, vLstRgC_s, vRng3_s, vRem_s, vFld_s, vSetF_s, vMeth_s, vMake_s, vTrimM_s, vCallE_s, vDGet2_s, vDNew_s, vDPut_s, vKeysL_s, vLock_s, vPnil_s, vPcons_s, vDisp_s, vTryO_s, vSortK_s, vTryK_s, vNevE_s, vSlX_s, vUp_s, vJo_s]
def u__law_other_word : WF := wDef 2 7 (wSeq (wSet 2 (wCall u__law_draw (wCons (wVar 0) (wCons (wC (.int 4)) (wCons (wC (.int 20011)) (wCons (wOp addW (wB lenF (wCons (wVar 1) wNil)) (wC (.int 1))) wNil))))))
  (wSeq (wSet 3 (wCall u__law_draw (wCons (wVar 0) (wCons (wC (.int 4)) (wCons (wC (.int 30011)) (wCons (wC (.int 2)) wNil))))))
  (wSeq (wSet 4 (wOp ixW (wC (.str "abcdefghijklmnopqrstuvwxyzMWT ")) (wCall u__law_draw (wCons (wVar 0) (wCons (wC (.int 4)) (wCons (wC (.int 40009)) (wCons (wC (.int 30)) wNil)))))))
  (wSeq (wSet 5 (wCall u__law_draw (wCons (wVar 0) (wCons (wC (.int 4)) (wCons (wC (.int 50021)) (wCons (wC (.int 3)) wNil))))))
  (wSeq (wIf (wTest (wOp eqW (wVar 5) (wC (.int 0)))) (wSeq (wSet 4 (wC (.str "")))
  (wSet 3 (wOp addW (wC (.int 1)) (wOp modW (wVar 2) (wC (.int 3)))))) wNx)
  (wSeq (wSet 6 (wOp addW (wOp addW (wSlX (wVar 1) wNoP (wSoP (wVar 2))) (wVar 4)) (wSlX (wVar 1) (wSoP (wOp addW (wVar 2) (wVar 3))) wNoP)))
  (wSeq (wIf (wOr (wTest (wOp eqW (wVar 6) (wC (.str "worst")))) (wTest (wOp eqW (wVar 6) (wC (.str "mean"))))) (wRet (wC (.str "best"))) wNx)
  (wRet (wVar 6)))))))))
theorem l__law_other_word : ∀ ds S kk xk, u__law_other_word ds S kk xk → ds.length = 2 := fun _ _ _ _ h => h.1
theorem uw__law_other_word : u__law_other_word = w__law_other_word := by
  unfold u__law_other_word w__law_other_word
  simp only [vVar_s, vC_s, vOp_s, vNeg_s, vTest_s, vChain_s, vAnd_s, vOr_s, vNot_s, vAndV_s, vOrV_s, vNotV_s, vIfE_s, vNoP_s, vSoP_s, vSl_s, vNil_s, vCons_s, vTup_s, vLst_s, vLstC_s, vFrz_s, vB_s, vIsi_s, vM_s, vM0_s, vCall_s, vSeqI_s, vRng1_s, vRng2_s, vYes_s, vLc_s, vLcC_s, vNx_s, vSeq_s, vNever_s, vDrop_s, vRet_s, vRetN_s, vIf_s, vSet_s, vSto_s, vFor_s, vWhile_s, vRaise_s, vDef_s, vTrim_s, vTrimC_s, vTry_s, vIsE_s, vFrzD_s, vLstRev_s, vLstRevC_s, vLstRg_s, vLstRgC_s, vRng3_s, vRem_s, vFld_s, vSetF_s, vMeth_s, vMake_s, vTrimM_s, vCallE_s, vDGet2_s, vDNew_s, vDPut_s, vKeysL_s, vLock_s, vPnil_s, vPcons_s, vDisp_s, vTryO_s, vSortK_s, vTryK_s, vNevE_s, vSlX_s, vUp_s, vJo_s, uw__law_draw]
def u__law_great : WF := wDef 3 4 (wSeq (wSet 3 (wOp addW (wOp addW (wOp mulW (wCall u__law_cell (wCons (wVar 0) (wCons (wVar 1) wNil))) (wC (.int 48271))) (wOp mulW (wOp mulW (wC (.int 7919)) (wVar 1)) (wVar 1))) (wC (.int 11))))
  (wRet (wOp modW (wOp mulW (wVar 3) (wOp powW (wC (.int 2305843009213693951)) (wC (.int 4)))) (wOp addW (wVar 2) (wC (.int 1))))))
theorem l__law_great : ∀ ds S kk xk, u__law_great ds S kk xk → ds.length = 3 := fun _ _ _ _ h => h.1
theorem uw__law_great : u__law_great = w__law_great := by
  unfold u__law_great w__law_great
  simp only [vVar_s, vC_s, vOp_s, vNeg_s, vTest_s, vChain_s, vAnd_s, vOr_s, vNot_s, vAndV_s, vOrV_s, vNotV_s, vIfE_s, vNoP_s, vSoP_s, vSl_s, vNil_s, vCons_s, vTup_s, vLst_s, vLstC_s, vFrz_s, vB_s, vIsi_s, vM_s, vM0_s, vCall_s, vSeqI_s, vRng1_s, vRng2_s, vYes_s, vLc_s, vLcC_s, vNx_s, vSeq_s, vNever_s, vDrop_s, vRet_s, vRetN_s, vIf_s, vSet_s, vSto_s, vFor_s, vWhile_s, vRaise_s, vDef_s, vTrim_s, vTrimC_s, vTry_s, vIsE_s, vFrzD_s, vLstRev_s, vLstRevC_s, vLstRg_s, vLstRgC_s, vRng3_s, vRem_s, vFld_s, vSetF_s, vMeth_s, vMake_s, vTrimM_s, vCallE_s, vDGet2_s, vDNew_s, vDPut_s, vKeysL_s, vLock_s, vPnil_s, vPcons_s, vDisp_s, vTryO_s, vSortK_s, vTryK_s, vNevE_s, vSlX_s, vUp_s, vJo_s, uw__law_cell]
def u__law_no_rule : WF := wDef 4 5 (wSeq (wSet 4 (wCall u__law_draw (wCons (wVar 0) (wCons (wC (.int 4)) (wCons (wC (.int 10007)) (wCons (wC (.int 8)) wNil))))))
  (wSeq (wIf (wTest (wOp eqW (wVar 4) (wC (.int 0)))) (wRet (wTup (wCons (wVar 1) (wCons (wC (.int 0)) wNil)))) wNx)
  (wSeq (wIf (wTest (wOp eqW (wVar 4) (wC (.int 1)))) (wRet (wTup (wCons (wVar 1) (wCons (wOp addW (wVar 3) (wC (.int 1))) wNil)))) wNx)
  (wSeq (wIf (wTest (wOp eqW (wVar 4) (wC (.int 2)))) (wRet (wTup (wCons (wVar 1) (wCons (wOp subW (wOp subW (wC (.int 0)) (wC (.int 1))) (wCall u__law_draw (wCons (wVar 0) (wCons (wC (.int 4)) (wCons (wC (.int 15013)) (wCons (wVar 3) wNil)))))) wNil)))) wNx)
  (wSeq (wIf (wTest (wOp eqW (wVar 4) (wC (.int 3)))) (wRet (wTup (wCons (wVar 1) (wCons (wOp addW (wOp addW (wVar 3) (wC (.int 1))) (wCall u__law_great (wCons (wVar 0) (wCons (wC (.int 4)) (wCons (wOp powW (wC (.int 10)) (wC (.int 59))) wNil))))) wNil)))) wNx)
  (wRet (wTup (wCons (wCall u__law_other_word (wCons (wVar 0) (wCons (wVar 1) wNil))) (wCons (wVar 2) wNil)))))))))
theorem l__law_no_rule : ∀ ds S kk xk, u__law_no_rule ds S kk xk → ds.length = 4 := fun _ _ _ _ h => h.1
theorem uw__law_no_rule : u__law_no_rule = w__law_no_rule := by
  unfold u__law_no_rule w__law_no_rule
  simp only [vVar_s, vC_s, vOp_s, vNeg_s, vTest_s, vChain_s, vAnd_s, vOr_s, vNot_s, vAndV_s, vOrV_s, vNotV_s, vIfE_s, vNoP_s, vSoP_s, vSl_s, vNil_s, vCons_s, vTup_s, vLst_s, vLstC_s, vFrz_s, vB_s, vIsi_s, vM_s, vM0_s, vCall_s, vSeqI_s, vRng1_s, vRng2_s, vYes_s, vLc_s, vLcC_s, vNx_s, vSeq_s, vNever_s, vDrop_s, vRet_s, vRetN_s, vIf_s, vSet_s, vSto_s, vFor_s, vWhile_s, vRaise_s, vDef_s, vTrim_s, vTrimC_s, vTry_s, vIsE_s, vFrzD_s, vLstRev_s, vLstRevC_s, vLstRg_s, vLstRgC_s, vRng3_s, vRem_s, vFld_s, vSetF_s, vMeth_s, vMake_s, vTrimM_s, vCallE_s, vDGet2_s, vDNew_s, vDPut_s, vKeysL_s, vLock_s, vPnil_s, vPcons_s, vDisp_s, vTryO_s, vSortK_s, vTryK_s, vNevE_s, vSlX_s, vUp_s, vJo_s, uw__law_draw, uw__law_other_word, uw__law_great]
def u_law : WF := wDef 1 12 (wSeq (wSet 1 (wOp addW (wC (.int 1)) (wCall u__law_draw (wCons (wVar 0) (wCons (wC (.int 2)) (wCons (wC (.int 10007)) (wCons (wC (.int 4)) wNil)))))))
  (wSeq (wSet 2 (wCall u__law_days (wCons (wVar 0) (wCons (wC (.int 30)) wNil))))
  (wSeq (wSet 3 (wCall u__law_most (wCons (wVar 0) wNil)))
  (wSeq (wSet 4 (wCall u__law_moves (wCons (wVar 0) (wCons (wVar 2) (wCons (wVar 1) (wCons (wVar 3) wNil))))))
  (wSeq (wSet 5 (wCall u__law_position (wCons (wVar 0) (wCons (wC (.int 130)) (wCons (wVar 1) (wCons (wVar 3) wNil))))))
  (wSeq (wSet 6 (wOp addW (wC (.int 1)) (wCall u__law_draw (wCons (wVar 0) (wCons (wC (.int 3)) (wCons (wC (.int 10007)) (wCons (wVar 2) wNil)))))))
  (wSeq (wSet 7 (wB sortR (wCons (wLc 11 [11] (wSeqI (wVar 4)) wYes (wCall u__law_loss (wCons (wVar 5) (wCons (wVar 11) wNil)))) wNil)))
  (wSeq (wSet 8 (wLc 11 [11] (wSeqI (wVar 4)) wYes (wB listF (wCons (wVar 11) wNil))))
  (wSeq (wSet 9 (wB listF (wCons (wVar 5) wNil)))
  (wSeq (wIf (wNot (wTest (wCall u__law_meets (wCons (wCall u_need_of (wCons (wTup (wCons (wC (.str "worst")) (wCons (wVar 6) wNil))) (wCons (wVar 9) (wCons (wVar 8) wNil)))) (wCons (wOp ixW (wVar 7) (wOp subW (wVar 6) (wC (.int 1)))) (wCons (wC (.int 1)) wNil)))))) (wRet (wC (.bl false))) wNx)
  (wSeq (wIf (wNot (wTest (wCall u__law_meets (wCons (wCall u_need_of (wCons (wTup (wCons (wC (.str "mean")) (wCons (wVar 6) wNil))) (wCons (wVar 9) (wCons (wVar 8) wNil)))) (wCons (wB sumF (wCons (wSl (wVar 7) wNoP (wSoP (wVar 6))) wNil)) (wCons (wVar 6) wNil)))))) (wRet (wC (.bl false))) wNx)
  (wSeq (wSet 10 (wOp ixW (wLst (wCons (wC (.str "worst")) (wCons (wC (.str "mean")) wNil))) (wCall u__law_draw (wCons (wVar 0) (wCons (wC (.int 3)) (wCons (wC (.int 15013)) (wCons (wC (.int 2)) wNil)))))))
  (wSeq (wIf (wNot (wTest (wCall u__law_refused (wCons (wCall u__law_no_rule (wCons (wVar 0) (wCons (wVar 10) (wCons (wVar 6) (wCons (wVar 2) wNil))))) (wCons (wVar 9) (wCons (wVar 8) wNil)))))) (wRet (wC (.bl false))) wNx)
  (wSeq (wIf (wOr (wTest (wOp neW (wVar 8) (wVar 4))) (wTest (wOp neW (wVar 9) (wVar 5)))) (wRet (wC (.bl false))) wNx)
  (wSeq (wIf (wNot (wTest (wCall u__law_meets (wCons (wCall u_need_of (wCons (wTup (wCons (wC (.str "mean")) (wCons (wVar 6) wNil))) (wCons (wVar 9) (wCons (wVar 8) wNil)))) (wCons (wB sumF (wCons (wSl (wVar 7) wNoP (wSoP (wVar 6))) wNil)) (wCons (wVar 6) wNil)))))) (wRet (wC (.bl false))) wNx)
  (wRet (wCall u__law_meets (wCons (wCall u_need_of (wCons (wTup (wCons (wC (.str "worst")) (wCons (wVar 6) wNil))) (wCons (wVar 9) (wCons (wVar 8) wNil)))) (wCons (wOp ixW (wVar 7) (wOp subW (wVar 6) (wC (.int 1)))) (wCons (wC (.int 1)) wNil))))))))))))))))))))
theorem uw_law : u_law = w_law := by
  unfold u_law w_law
  simp only [vVar_s, vC_s, vOp_s, vNeg_s, vTest_s, vChain_s, vAnd_s, vOr_s, vNot_s, vAndV_s, vOrV_s, vNotV_s, vIfE_s, vNoP_s, vSoP_s, vSl_s, vNil_s, vCons_s, vTup_s, vLst_s, vLstC_s, vFrz_s, vB_s, vIsi_s, vM_s, vM0_s, vCall_s, vSeqI_s, vRng1_s, vRng2_s, vYes_s, vLc_s, vLcC_s, vNx_s, vSeq_s, vNever_s, vDrop_s, vRet_s, vRetN_s, vIf_s, vSet_s, vSto_s, vFor_s, vWhile_s, vRaise_s, vDef_s, vTrim_s, vTrimC_s, vTry_s, vIsE_s, vFrzD_s, vLstRev_s, vLstRevC_s, vLstRg_s, vLstRgC_s, vRng3_s, vRem_s, vFld_s, vSetF_s, vMeth_s, vMake_s, vTrimM_s, vCallE_s, vDGet2_s, vDNew_s, vDPut_s, vKeysL_s, vLock_s, vPnil_s, vPcons_s, vDisp_s, vTryO_s, vSortK_s, vTryK_s, vNevE_s, vSlX_s, vUp_s, vJo_s, uw__law_draw, uw__law_days, uw__law_most, uw__law_moves, uw__law_position, uw__law_meets, uw_need_of, uw__law_refused, uw__law_loss, uw__law_no_rule]
def top (i : Nat) : Stmt := PySem.Challenge.pw_quits_k48_needs.main.body.getD i (.Pass ⟨0, 0, 0, 0⟩)
abbrev s__law_cell : Stmt := top 31
abbrev n__law_cell : List Str := ["script", "k"]
theorem sc__law_cell : FnScope n__law_cell ["script", "k"] (defScope s__law_cell) := ⟨rfl, rfl, rfl, by decide +kernel, rfl, by decide +kernel, by decide +kernel⟩
abbrev s__law_draw : Stmt := top 32
abbrev n__law_draw : List Str := ["script", "k", "prime", "many"]
theorem sc__law_draw : FnScope n__law_draw ["script", "k", "prime", "many"] (defScope s__law_draw) := ⟨rfl, rfl, rfl, by decide +kernel, rfl, by decide +kernel, by decide +kernel⟩
abbrev s__law_days : Stmt := top 37
abbrev n__law_days : List Str := ["script", "most"]
theorem sc__law_days : FnScope n__law_days ["script", "most"] (defScope s__law_days) := ⟨rfl, rfl, rfl, by decide +kernel, rfl, by decide +kernel, by decide +kernel⟩
abbrev s__law_most : Stmt := top 38
abbrev n__law_most : List Str := ["script"]
theorem sc__law_most : FnScope n__law_most ["script"] (defScope s__law_most) := ⟨rfl, rfl, rfl, by decide +kernel, rfl, by decide +kernel, by decide +kernel⟩
abbrev s__law_number : Stmt := top 34
abbrev n__law_number : List Str := ["script", "k", "most", "mixed"]
theorem sc__law_number : FnScope n__law_number ["script", "k", "most"] (defScope s__law_number) := ⟨rfl, rfl, rfl, by decide +kernel, rfl, by decide +kernel, by decide +kernel⟩
abbrev s__law_moves : Stmt := top 35
abbrev n__law_moves : List Str := ["script", "days", "wares", "most", "moves", "day", "move", "k"]
theorem sc__law_moves : FnScope n__law_moves ["script", "days", "wares", "most"] (defScope s__law_moves) := ⟨rfl, rfl, rfl, by decide +kernel, rfl, by decide +kernel, by decide +kernel⟩
abbrev s__law_position : Stmt := top 36
abbrev n__law_position : List Str := ["script", "k", "wares", "most", "ware"]
theorem sc__law_position : FnScope n__law_position ["script", "k", "wares", "most"] (defScope s__law_position) := ⟨rfl, rfl, rfl, by decide +kernel, rfl, by decide +kernel, by decide +kernel⟩
abbrev s__law_divisor : Stmt := top 41
abbrev n__law_divisor : List Str := ["one", "other", "rest"]
theorem sc__law_divisor : FnScope n__law_divisor ["one", "other"] (defScope s__law_divisor) := ⟨rfl, rfl, rfl, by decide +kernel, rfl, by decide +kernel, by decide +kernel⟩
abbrev s__law_whole : Stmt := top 40
abbrev n__law_whole : List Str := ["thing"]
theorem sc__law_whole : FnScope n__law_whole ["thing"] (defScope s__law_whole) := ⟨rfl, rfl, rfl, by decide +kernel, rfl, by decide +kernel, by decide +kernel⟩
abbrev s__law_is_part : Stmt := top 42
abbrev n__law_is_part : List Str := ["thing"]
theorem sc__law_is_part : FnScope n__law_is_part ["thing"] (defScope s__law_is_part) := ⟨rfl, rfl, rfl, by decide +kernel, rfl, by decide +kernel, by decide +kernel⟩
abbrev s__law_meets : Stmt := top 47
abbrev n__law_meets : List Str := ["told", "due", "number"]
theorem sc__law_meets : FnScope n__law_meets ["told", "due", "number"] (defScope s__law_meets) := ⟨rfl, rfl, rfl, by decide +kernel, rfl, by decide +kernel, by decide +kernel⟩
abbrev s_loss_on : Stmt := top 25
abbrev n_loss_on : List Str := ["position", "move", "k"]
theorem sc_loss_on : FnScope n_loss_on ["position", "move"] (defScope s_loss_on) := ⟨rfl, rfl, rfl, by decide +kernel, rfl, by decide +kernel, by decide +kernel⟩
abbrev s_losses_of : Stmt := top 26
abbrev n_losses_of : List Str := ["position", "moves", "move"]
theorem sc_losses_of : FnScope n_losses_of ["position", "moves"] (defScope s_losses_of) := ⟨rfl, rfl, rfl, by decide +kernel, rfl, by decide +kernel, by decide +kernel⟩
abbrev s_worst_days : Stmt := top 27
abbrev n_worst_days : List Str := ["position", "moves", "k", "losses", "days"]
theorem sc_worst_days : FnScope n_worst_days ["position", "moves", "k"] (defScope s_worst_days) := ⟨rfl, rfl, rfl, by decide +kernel, rfl, by decide +kernel, by decide +kernel⟩
abbrev s_divisor : Stmt := top 20
abbrev n_divisor : List Str := ["one", "other", "rest"]
theorem sc_divisor : FnScope n_divisor ["one", "other"] (defScope s_divisor) := ⟨rfl, rfl, rfl, by decide +kernel, rfl, by decide +kernel, by decide +kernel⟩
abbrev s_part : Stmt := top 22
abbrev n_part : List Str := ["top", "bottom", "shared"]
theorem sc_part : FnScope n_part ["top", "bottom"] (defScope s_part) := ⟨rfl, rfl, rfl, by decide +kernel, rfl, by decide +kernel, by decide +kernel⟩
abbrev s_under : Stmt := top 23
abbrev n_under : List Str := ["one", "other"]
theorem sc_under : FnScope n_under ["one", "other"] (defScope s_under) := ⟨rfl, rfl, rfl, by decide +kernel, rfl, by decide +kernel, by decide +kernel⟩
abbrev s_need_of : Stmt := top 29
abbrev n_need_of : List Str := ["rule", "position", "moves", "word", "number", "losses", "days", "need", "day"]
theorem sc_need_of : FnScope n_need_of ["rule", "position", "moves"] (defScope s_need_of) := ⟨rfl, rfl, rfl, by decide +kernel, rfl, by decide +kernel, by decide +kernel⟩
abbrev s__law_of_another : Stmt := top 43
abbrev n__law_of_another : List Str := ["error"]
theorem sc__law_of_another : FnScope n__law_of_another ["error"] (defScope s__law_of_another) := ⟨rfl, rfl, rfl, by decide +kernel, rfl, by decide +kernel, by decide +kernel⟩
abbrev s__law_refused : Stmt := top 44
abbrev n__law_refused : List Str := ["rule", "position", "moves", "told", "error"]
theorem sc__law_refused : FnScope n__law_refused ["rule", "position", "moves"] (defScope s__law_refused) := ⟨rfl, rfl, rfl, by decide +kernel, rfl, by decide +kernel, by decide +kernel⟩
abbrev s__law_loss : Stmt := top 39
abbrev n__law_loss : List Str := ["position", "move", "found", "k"]
theorem sc__law_loss : FnScope n__law_loss ["position", "move"] (defScope s__law_loss) := ⟨rfl, rfl, rfl, by decide +kernel, rfl, by decide +kernel, by decide +kernel⟩
abbrev s__law_other_word : Stmt := top 45
abbrev n__law_other_word : List Str := ["script", "word", "at", "much", "sign", "way", "found"]
theorem sc__law_other_word : FnScope n__law_other_word ["script", "word"] (defScope s__law_other_word) := ⟨rfl, rfl, rfl, by decide +kernel, rfl, by decide +kernel, by decide +kernel⟩
abbrev s__law_great : Stmt := top 33
abbrev n__law_great : List Str := ["script", "k", "most", "mixed"]
theorem sc__law_great : FnScope n__law_great ["script", "k", "most"] (defScope s__law_great) := ⟨rfl, rfl, rfl, by decide +kernel, rfl, by decide +kernel, by decide +kernel⟩
abbrev s__law_no_rule : Stmt := top 46
abbrev n__law_no_rule : List Str := ["script", "word", "number", "days", "way"]
theorem sc__law_no_rule : FnScope n__law_no_rule ["script", "word", "number", "days"] (defScope s__law_no_rule) := ⟨rfl, rfl, rfl, by decide +kernel, rfl, by decide +kernel, by decide +kernel⟩
abbrev s_law : Stmt := top 48
abbrev n_law : List Str := ["script", "wares", "days", "most", "moves", "position", "number", "losses", "handed", "side", "word", "move"]
theorem sc_law : FnScope n_law ["script"] (defScope s_law) := ⟨rfl, rfl, rfl, by decide +kernel, rfl, by decide +kernel, by decide +kernel⟩
structure Tx (K : PySem.W.Frag) (mg : Str → Option Value) (g : Gi) (base : Heap) where
  a__law_cell : Addr
  f__law_cell : FuncData
  F__law_cell : Fun K "_law_cell" "_law_cell" s__law_cell a__law_cell f__law_cell
  b__law_cell : Binds K f__law_cell ["script", "k"] []
  m__law_cell : mg "_law_cell" = some (.ref a__law_cell)
  a__law_draw : Addr
  f__law_draw : FuncData
  F__law_draw : Fun K "_law_draw" "_law_draw" s__law_draw a__law_draw f__law_draw
  b__law_draw : Binds K f__law_draw ["script", "k", "prime", "many"] []
  m__law_draw : mg "_law_draw" = some (.ref a__law_draw)
  a__law_days : Addr
  f__law_days : FuncData
  F__law_days : Fun K "_law_days" "_law_days" s__law_days a__law_days f__law_days
  b__law_days : Binds K f__law_days ["script", "most"] []
  m__law_days : mg "_law_days" = some (.ref a__law_days)
  a__law_most : Addr
  f__law_most : FuncData
  F__law_most : Fun K "_law_most" "_law_most" s__law_most a__law_most f__law_most
  b__law_most : Binds K f__law_most ["script"] []
  m__law_most : mg "_law_most" = some (.ref a__law_most)
  a__law_number : Addr
  f__law_number : FuncData
  F__law_number : Fun K "_law_number" "_law_number" s__law_number a__law_number f__law_number
  b__law_number : Binds K f__law_number ["script", "k", "most"] []
  m__law_number : mg "_law_number" = some (.ref a__law_number)
  a__law_moves : Addr
  f__law_moves : FuncData
  F__law_moves : Fun K "_law_moves" "_law_moves" s__law_moves a__law_moves f__law_moves
  b__law_moves : Binds K f__law_moves ["script", "days", "wares", "most"] []
  m__law_moves : mg "_law_moves" = some (.ref a__law_moves)
  a__law_position : Addr
  f__law_position : FuncData
  F__law_position : Fun K "_law_position" "_law_position" s__law_position a__law_position f__law_position
  b__law_position : Binds K f__law_position ["script", "k", "wares", "most"] []
  m__law_position : mg "_law_position" = some (.ref a__law_position)
  a__law_divisor : Addr
  f__law_divisor : FuncData
  F__law_divisor : Fun K "_law_divisor" "_law_divisor" s__law_divisor a__law_divisor f__law_divisor
  b__law_divisor : Binds K f__law_divisor ["one", "other"] []
  m__law_divisor : mg "_law_divisor" = some (.ref a__law_divisor)
  a__law_whole : Addr
  f__law_whole : FuncData
  F__law_whole : Fun K "_law_whole" "_law_whole" s__law_whole a__law_whole f__law_whole
  b__law_whole : Binds K f__law_whole ["thing"] []
  m__law_whole : mg "_law_whole" = some (.ref a__law_whole)
  a__law_is_part : Addr
  f__law_is_part : FuncData
  F__law_is_part : Fun K "_law_is_part" "_law_is_part" s__law_is_part a__law_is_part f__law_is_part
  b__law_is_part : Binds K f__law_is_part ["thing"] []
  m__law_is_part : mg "_law_is_part" = some (.ref a__law_is_part)
  a__law_meets : Addr
  f__law_meets : FuncData
  F__law_meets : Fun K "_law_meets" "_law_meets" s__law_meets a__law_meets f__law_meets
  b__law_meets : Binds K f__law_meets ["told", "due", "number"] []
  m__law_meets : mg "_law_meets" = some (.ref a__law_meets)
  a_loss_on : Addr
  f_loss_on : FuncData
  F_loss_on : Fun K "loss_on" "loss_on" s_loss_on a_loss_on f_loss_on
  b_loss_on : Binds K f_loss_on ["position", "move"] []
  m_loss_on : mg "loss_on" = some (.ref a_loss_on)
  a_losses_of : Addr
  f_losses_of : FuncData
  F_losses_of : Fun K "losses_of" "losses_of" s_losses_of a_losses_of f_losses_of
  b_losses_of : Binds K f_losses_of ["position", "moves"] []
  m_losses_of : mg "losses_of" = some (.ref a_losses_of)
  a_worst_days : Addr
  f_worst_days : FuncData
  F_worst_days : Fun K "worst_days" "worst_days" s_worst_days a_worst_days f_worst_days
  b_worst_days : Binds K f_worst_days ["position", "moves", "k"] []
  m_worst_days : mg "worst_days" = some (.ref a_worst_days)
  a_divisor : Addr
  f_divisor : FuncData
  F_divisor : Fun K "divisor" "divisor" s_divisor a_divisor f_divisor
  b_divisor : Binds K f_divisor ["one", "other"] []
  m_divisor : mg "divisor" = some (.ref a_divisor)
  a_part : Addr
  f_part : FuncData
  F_part : Fun K "part" "part" s_part a_part f_part
  b_part : Binds K f_part ["top", "bottom"] []
  m_part : mg "part" = some (.ref a_part)
  a_under : Addr
  f_under : FuncData
  F_under : Fun K "under" "under" s_under a_under f_under
  b_under : Binds K f_under ["one", "other"] []
  m_under : mg "under" = some (.ref a_under)
  a_need_of : Addr
  f_need_of : FuncData
  F_need_of : Fun K "need_of" "need_of" s_need_of a_need_of f_need_of
  b_need_of : Binds K f_need_of ["rule", "position", "moves"] []
  m_need_of : mg "need_of" = some (.ref a_need_of)
  a__law_of_another : Addr
  f__law_of_another : FuncData
  F__law_of_another : Fun K "_law_of_another" "_law_of_another" s__law_of_another a__law_of_another f__law_of_another
  b__law_of_another : Binds K f__law_of_another ["error"] []
  m__law_of_another : mg "_law_of_another" = some (.ref a__law_of_another)
  a__law_refused : Addr
  f__law_refused : FuncData
  F__law_refused : Fun K "_law_refused" "_law_refused" s__law_refused a__law_refused f__law_refused
  b__law_refused : Binds K f__law_refused ["rule", "position", "moves"] []
  m__law_refused : mg "_law_refused" = some (.ref a__law_refused)
  a__law_loss : Addr
  f__law_loss : FuncData
  F__law_loss : Fun K "_law_loss" "_law_loss" s__law_loss a__law_loss f__law_loss
  b__law_loss : Binds K f__law_loss ["position", "move"] []
  m__law_loss : mg "_law_loss" = some (.ref a__law_loss)
  a__law_other_word : Addr
  f__law_other_word : FuncData
  F__law_other_word : Fun K "_law_other_word" "_law_other_word" s__law_other_word a__law_other_word f__law_other_word
  b__law_other_word : Binds K f__law_other_word ["script", "word"] []
  m__law_other_word : mg "_law_other_word" = some (.ref a__law_other_word)
  a__law_great : Addr
  f__law_great : FuncData
  F__law_great : Fun K "_law_great" "_law_great" s__law_great a__law_great f__law_great
  b__law_great : Binds K f__law_great ["script", "k", "most"] []
  m__law_great : mg "_law_great" = some (.ref a__law_great)
  a__law_no_rule : Addr
  f__law_no_rule : FuncData
  F__law_no_rule : Fun K "_law_no_rule" "_law_no_rule" s__law_no_rule a__law_no_rule f__law_no_rule
  b__law_no_rule : Binds K f__law_no_rule ["script", "word", "number", "days"] []
  m__law_no_rule : mg "_law_no_rule" = some (.ref a__law_no_rule)
  a_law : Addr
  f_law : FuncData
  F_law : Fun K "law" "law" s_law a_law f_law
  b_law : Binds K f_law ["script"] []
  m_law : mg "law" = some (.ref a_law)
  z_ValueError : mg "ValueError" = none
  z_abs : mg "abs" = none
  z_bool : mg "bool" = none
  z_int : mg "int" = none
  z_isinstance : mg "isinstance" = none
  z_len : mg "len" = none
  z_list : mg "list" = none
  z_range : mg "range" = none
  z_sorted : mg "sorted" = none
  z_sum : mg "sum" = none
  z_tuple : mg "tuple" = none
  g_Bare : mg "Bare" = some (.ref (g.cl "Bare"))
  g_Closed : mg "Closed" = some (.ref (g.cl "Closed"))
  g_Gone : mg "Gone" = some (.ref (g.cl "Gone"))
  g_NoAnswer : mg "NoAnswer" = some (.ref (g.cl "NoAnswer"))
  g_NoDeal : mg "NoDeal" = some (.ref (g.cl "NoDeal"))
  g_NoLayer : mg "NoLayer" = some (.ref (g.cl "NoLayer"))
  g_NoMember : mg "NoMember" = some (.ref (g.cl "NoMember"))
  g_NoPart : mg "NoPart" = some (.ref (g.cl "NoPart"))
  x_NoPart : PySem.W.excIn K (g.cl "NoPart") [.type "ValueError", .type "Exception", .type "BaseException", .type "object"] "ValueError.__new__" = true
  k_NoPart : PySem.W.keepIn K (.ref (g.cl "NoPart")) = true
  b_NoPart : PySem.W.subIn K (.ref (g.cl "NoPart")) (.type "BaseException") = some true
  t_NoPart : PySem.W.typeIn K (.ref (g.cl "NoPart")) = some (.type "type")
  g_NoRule : mg "NoRule" = some (.ref (g.cl "NoRule"))
  x_NoRule : PySem.W.excIn K (g.cl "NoRule") [.type "ValueError", .type "Exception", .type "BaseException", .type "object"] "ValueError.__new__" = true
  k_NoRule : PySem.W.keepIn K (.ref (g.cl "NoRule")) = true
  b_NoRule : PySem.W.subIn K (.ref (g.cl "NoRule")) (.type "BaseException") = some true
  t_NoRule : PySem.W.typeIn K (.ref (g.cl "NoRule")) = some (.type "type")
  g_NoTerms : mg "NoTerms" = some (.ref (g.cl "NoTerms"))
  g_Out : mg "Out" = some (.ref (g.cl "Out"))
  g_Poor : mg "Poor" = some (.ref (g.cl "Poor"))
  g_QuitsError : mg "QuitsError" = some (.ref (g.cl "QuitsError"))
  g_Ringed : mg "Ringed" = some (.ref (g.cl "Ringed"))
  g_Settled : mg "Settled" = some (.ref (g.cl "Settled"))
  g_Standing : mg "Standing" = some (.ref (g.cl "Standing"))
  g_TooMuch : mg "TooMuch" = some (.ref (g.cl "TooMuch"))
  g_Unclosed : mg "Unclosed" = some (.ref (g.cl "Unclosed"))
  q_NoPart : ExcC K (g.cl "NoPart")
  h_NoPart_Bare : PySem.W.kitOne K (.ref (g.cl "NoPart")) (.ref (g.cl "Bare")) = some false
  h_NoPart_Closed : PySem.W.kitOne K (.ref (g.cl "NoPart")) (.ref (g.cl "Closed")) = some false
  h_NoPart_Gone : PySem.W.kitOne K (.ref (g.cl "NoPart")) (.ref (g.cl "Gone")) = some false
  h_NoPart_NoAnswer : PySem.W.kitOne K (.ref (g.cl "NoPart")) (.ref (g.cl "NoAnswer")) = some false
  h_NoPart_NoDeal : PySem.W.kitOne K (.ref (g.cl "NoPart")) (.ref (g.cl "NoDeal")) = some false
  h_NoPart_NoLayer : PySem.W.kitOne K (.ref (g.cl "NoPart")) (.ref (g.cl "NoLayer")) = some false
  h_NoPart_NoMember : PySem.W.kitOne K (.ref (g.cl "NoPart")) (.ref (g.cl "NoMember")) = some false
  h_NoPart_NoPart : PySem.W.kitOne K (.ref (g.cl "NoPart")) (.ref (g.cl "NoPart")) = some true
  h_NoPart_NoRule : PySem.W.kitOne K (.ref (g.cl "NoPart")) (.ref (g.cl "NoRule")) = some false
  h_NoPart_NoTerms : PySem.W.kitOne K (.ref (g.cl "NoPart")) (.ref (g.cl "NoTerms")) = some false
  h_NoPart_Out : PySem.W.kitOne K (.ref (g.cl "NoPart")) (.ref (g.cl "Out")) = some false
  h_NoPart_Poor : PySem.W.kitOne K (.ref (g.cl "NoPart")) (.ref (g.cl "Poor")) = some false
  h_NoPart_Ringed : PySem.W.kitOne K (.ref (g.cl "NoPart")) (.ref (g.cl "Ringed")) = some false
  h_NoPart_Settled : PySem.W.kitOne K (.ref (g.cl "NoPart")) (.ref (g.cl "Settled")) = some false
  h_NoPart_Standing : PySem.W.kitOne K (.ref (g.cl "NoPart")) (.ref (g.cl "Standing")) = some false
  h_NoPart_TooMuch : PySem.W.kitOne K (.ref (g.cl "NoPart")) (.ref (g.cl "TooMuch")) = some false
  h_NoPart_Unclosed : PySem.W.kitOne K (.ref (g.cl "NoPart")) (.ref (g.cl "Unclosed")) = some false
  h_NoPart_ValueError : PySem.W.kitOne K (.ref (g.cl "NoPart")) (.type "ValueError") = some true
  n_NoPart_QuitsError : PySem.W.exmOne K (.ref (g.cl "NoPart")) (.ref (g.cl "QuitsError")) = some true
  q_NoRule : ExcC K (g.cl "NoRule")
  h_NoRule_Bare : PySem.W.kitOne K (.ref (g.cl "NoRule")) (.ref (g.cl "Bare")) = some false
  h_NoRule_Closed : PySem.W.kitOne K (.ref (g.cl "NoRule")) (.ref (g.cl "Closed")) = some false
  h_NoRule_Gone : PySem.W.kitOne K (.ref (g.cl "NoRule")) (.ref (g.cl "Gone")) = some false
  h_NoRule_NoAnswer : PySem.W.kitOne K (.ref (g.cl "NoRule")) (.ref (g.cl "NoAnswer")) = some false
  h_NoRule_NoDeal : PySem.W.kitOne K (.ref (g.cl "NoRule")) (.ref (g.cl "NoDeal")) = some false
  h_NoRule_NoLayer : PySem.W.kitOne K (.ref (g.cl "NoRule")) (.ref (g.cl "NoLayer")) = some false
  h_NoRule_NoMember : PySem.W.kitOne K (.ref (g.cl "NoRule")) (.ref (g.cl "NoMember")) = some false
  h_NoRule_NoPart : PySem.W.kitOne K (.ref (g.cl "NoRule")) (.ref (g.cl "NoPart")) = some false
  h_NoRule_NoRule : PySem.W.kitOne K (.ref (g.cl "NoRule")) (.ref (g.cl "NoRule")) = some true
  h_NoRule_NoTerms : PySem.W.kitOne K (.ref (g.cl "NoRule")) (.ref (g.cl "NoTerms")) = some false
  h_NoRule_Out : PySem.W.kitOne K (.ref (g.cl "NoRule")) (.ref (g.cl "Out")) = some false
  h_NoRule_Poor : PySem.W.kitOne K (.ref (g.cl "NoRule")) (.ref (g.cl "Poor")) = some false
  h_NoRule_Ringed : PySem.W.kitOne K (.ref (g.cl "NoRule")) (.ref (g.cl "Ringed")) = some false
  h_NoRule_Settled : PySem.W.kitOne K (.ref (g.cl "NoRule")) (.ref (g.cl "Settled")) = some false
  h_NoRule_Standing : PySem.W.kitOne K (.ref (g.cl "NoRule")) (.ref (g.cl "Standing")) = some false
  h_NoRule_TooMuch : PySem.W.kitOne K (.ref (g.cl "NoRule")) (.ref (g.cl "TooMuch")) = some false
  h_NoRule_Unclosed : PySem.W.kitOne K (.ref (g.cl "NoRule")) (.ref (g.cl "Unclosed")) = some false
  h_NoRule_ValueError : PySem.W.kitOne K (.ref (g.cl "NoRule")) (.type "ValueError") = some true
  n_NoRule_QuitsError : PySem.W.exmOne K (.ref (g.cl "NoRule")) (.ref (g.cl "QuitsError")) = some true
  cW : Addr
  PW : Addr
  cd : f_worst_days.code = .ref cW
  gP : g.cl "worst_days.<locals>.<lambda>" = PW
  tb : LamX.TabB base mg cW PW
section
variable {P : Program} {w0 : World} {K : PySem.W.Frag} {mg : Str → Option Value} {base : Heap} {g : Gi}
theorem rl_or {c : Str} (h : RL.contains c = true) : c = "NoPart" ∨ c = "NoRule" := by
  simpa [RL] using h
theorem Tx.hq (T : Tx K mg g base) (c : Str) (h : RL.contains c = true) : ExcC K (g.cl c) := by
  rcases rl_or h with rfl | rfl
  · exact T.q_NoPart
  · exact T.q_NoRule
theorem Tx.hk_Bare (T : Tx K mg g base) (c : Str) (h : RL.contains c = true) : PySem.W.kitOne K (.ref (g.cl c)) (.ref (g.cl "Bare")) = some (eSub c "Bare") := by
  rcases rl_or h with rfl | rfl
  · rw [T.h_NoPart_Bare]; decide
  · rw [T.h_NoRule_Bare]; decide
theorem Tx.hk_Closed (T : Tx K mg g base) (c : Str) (h : RL.contains c = true) : PySem.W.kitOne K (.ref (g.cl c)) (.ref (g.cl "Closed")) = some (eSub c "Closed") := by
  rcases rl_or h with rfl | rfl
  · rw [T.h_NoPart_Closed]; decide
  · rw [T.h_NoRule_Closed]; decide
theorem Tx.hk_Gone (T : Tx K mg g base) (c : Str) (h : RL.contains c = true) : PySem.W.kitOne K (.ref (g.cl c)) (.ref (g.cl "Gone")) = some (eSub c "Gone") := by
  rcases rl_or h with rfl | rfl
  · rw [T.h_NoPart_Gone]; decide
  · rw [T.h_NoRule_Gone]; decide
theorem Tx.hk_NoAnswer (T : Tx K mg g base) (c : Str) (h : RL.contains c = true) : PySem.W.kitOne K (.ref (g.cl c)) (.ref (g.cl "NoAnswer")) = some (eSub c "NoAnswer") := by
  rcases rl_or h with rfl | rfl
  · rw [T.h_NoPart_NoAnswer]; decide
  · rw [T.h_NoRule_NoAnswer]; decide
theorem Tx.hk_NoDeal (T : Tx K mg g base) (c : Str) (h : RL.contains c = true) : PySem.W.kitOne K (.ref (g.cl c)) (.ref (g.cl "NoDeal")) = some (eSub c "NoDeal") := by
  rcases rl_or h with rfl | rfl
  · rw [T.h_NoPart_NoDeal]; decide
  · rw [T.h_NoRule_NoDeal]; decide
theorem Tx.hk_NoLayer (T : Tx K mg g base) (c : Str) (h : RL.contains c = true) : PySem.W.kitOne K (.ref (g.cl c)) (.ref (g.cl "NoLayer")) = some (eSub c "NoLayer") := by
  rcases rl_or h with rfl | rfl
  · rw [T.h_NoPart_NoLayer]; decide
  · rw [T.h_NoRule_NoLayer]; decide
theorem Tx.hk_NoMember (T : Tx K mg g base) (c : Str) (h : RL.contains c = true) : PySem.W.kitOne K (.ref (g.cl c)) (.ref (g.cl "NoMember")) = some (eSub c "NoMember") := by
  rcases rl_or h with rfl | rfl
  · rw [T.h_NoPart_NoMember]; decide
  · rw [T.h_NoRule_NoMember]; decide
theorem Tx.hk_NoPart (T : Tx K mg g base) (c : Str) (h : RL.contains c = true) : PySem.W.kitOne K (.ref (g.cl c)) (.ref (g.cl "NoPart")) = some (eSub c "NoPart") := by
  rcases rl_or h with rfl | rfl
  · rw [T.h_NoPart_NoPart]; decide
  · rw [T.h_NoRule_NoPart]; decide
theorem Tx.hk_NoRule (T : Tx K mg g base) (c : Str) (h : RL.contains c = true) : PySem.W.kitOne K (.ref (g.cl c)) (.ref (g.cl "NoRule")) = some (eSub c "NoRule") := by
  rcases rl_or h with rfl | rfl
  · rw [T.h_NoPart_NoRule]; decide
  · rw [T.h_NoRule_NoRule]; decide
theorem Tx.hk_NoTerms (T : Tx K mg g base) (c : Str) (h : RL.contains c = true) : PySem.W.kitOne K (.ref (g.cl c)) (.ref (g.cl "NoTerms")) = some (eSub c "NoTerms") := by
  rcases rl_or h with rfl | rfl
  · rw [T.h_NoPart_NoTerms]; decide
  · rw [T.h_NoRule_NoTerms]; decide
theorem Tx.hk_Out (T : Tx K mg g base) (c : Str) (h : RL.contains c = true) : PySem.W.kitOne K (.ref (g.cl c)) (.ref (g.cl "Out")) = some (eSub c "Out") := by
  rcases rl_or h with rfl | rfl
  · rw [T.h_NoPart_Out]; decide
  · rw [T.h_NoRule_Out]; decide
theorem Tx.hk_Poor (T : Tx K mg g base) (c : Str) (h : RL.contains c = true) : PySem.W.kitOne K (.ref (g.cl c)) (.ref (g.cl "Poor")) = some (eSub c "Poor") := by
  rcases rl_or h with rfl | rfl
  · rw [T.h_NoPart_Poor]; decide
  · rw [T.h_NoRule_Poor]; decide
theorem Tx.hk_Ringed (T : Tx K mg g base) (c : Str) (h : RL.contains c = true) : PySem.W.kitOne K (.ref (g.cl c)) (.ref (g.cl "Ringed")) = some (eSub c "Ringed") := by
  rcases rl_or h with rfl | rfl
  · rw [T.h_NoPart_Ringed]; decide
  · rw [T.h_NoRule_Ringed]; decide
theorem Tx.hk_Settled (T : Tx K mg g base) (c : Str) (h : RL.contains c = true) : PySem.W.kitOne K (.ref (g.cl c)) (.ref (g.cl "Settled")) = some (eSub c "Settled") := by
  rcases rl_or h with rfl | rfl
  · rw [T.h_NoPart_Settled]; decide
  · rw [T.h_NoRule_Settled]; decide
theorem Tx.hk_Standing (T : Tx K mg g base) (c : Str) (h : RL.contains c = true) : PySem.W.kitOne K (.ref (g.cl c)) (.ref (g.cl "Standing")) = some (eSub c "Standing") := by
  rcases rl_or h with rfl | rfl
  · rw [T.h_NoPart_Standing]; decide
  · rw [T.h_NoRule_Standing]; decide
theorem Tx.hk_TooMuch (T : Tx K mg g base) (c : Str) (h : RL.contains c = true) : PySem.W.kitOne K (.ref (g.cl c)) (.ref (g.cl "TooMuch")) = some (eSub c "TooMuch") := by
  rcases rl_or h with rfl | rfl
  · rw [T.h_NoPart_TooMuch]; decide
  · rw [T.h_NoRule_TooMuch]; decide
theorem Tx.hk_Unclosed (T : Tx K mg g base) (c : Str) (h : RL.contains c = true) : PySem.W.kitOne K (.ref (g.cl c)) (.ref (g.cl "Unclosed")) = some (eSub c "Unclosed") := by
  rcases rl_or h with rfl | rfl
  · rw [T.h_NoPart_Unclosed]; decide
  · rw [T.h_NoRule_Unclosed]; decide
theorem Tx.hk_ValueError (T : Tx K mg g base) (c : Str) (h : RL.contains c = true) : PySem.W.kitOne K (.ref (g.cl c)) (.type "ValueError") = some (eSub c "ValueError") := by
  rcases rl_or h with rfl | rfl
  · rw [T.h_NoPart_ValueError]; decide
  · rw [T.h_NoRule_ValueError]; decide
theorem Tx.hm_QuitsError (T : Tx K mg g base) (c : Str) (h : RL.contains c = true) : PySem.W.exmOne K (.ref (g.cl c)) (.ref (g.cl "QuitsError")) = some (eSub c "QuitsError") := by
  rcases rl_or h with rfl | rfl
  · rw [T.n_NoPart_QuitsError]; decide
  · rw [T.n_NoRule_QuitsError]; decide
theorem ok__law_cell (T : Tx K mg g base) : FnOk P w0 K mg base (L2.CX P w0) 1 T.a__law_cell T.f__law_cell ["script", "k"] (spW K g 2 u__law_cell) :=
  fn_ok (k := 0) (N := n__law_cell) T.F__law_cell sc__law_cell (fun cdv A outer s H E hr =>
    (ss_cons (ss_if (st_cmp gc_lt (se_var 1) (se_len rfl T.z_len (sa_cons (se_var 0) sa_nil)))
    (ss_one (ss_ret (se_ix (se_var 0) (se_var 1))))
    ss_nil)
    (ss_one (ss_ret se_int))))
theorem ok__law_draw (T : Tx K mg g base) : FnOk P w0 K mg base (L2.CX P w0) 2 T.a__law_draw T.f__law_draw ["script", "k", "prime", "many"] (spW K g 4 u__law_draw) :=
  fn_ok (k := 1) (N := n__law_draw) T.F__law_draw sc__law_draw (fun cdv A outer s H E hr =>
    (ss_one (ss_ret (se_mod (se_mod (se_add (se_add (se_mul (se_call (ok__law_cell T) l__law_cell (hr.mono (by decide)) rfl T.m__law_cell T.F__law_cell.kp T.b__law_cell (takes_of rfl rfl rfl rfl) (sa_cons (se_var 0) (sa_cons (se_var 1) sa_nil))) se_int) (se_mul (se_mul se_int (se_var 1)) (se_var 1))) se_int) (se_var 2)) (se_var 3)))))
theorem ok__law_days (T : Tx K mg g base) : FnOk P w0 K mg base (L2.CX P w0) 3 T.a__law_days T.f__law_days ["script", "most"] (spW K g 2 u__law_days) :=
  fn_ok (k := 2) (N := n__law_days) T.F__law_days sc__law_days (fun cdv A outer s H E hr =>
    (ss_cons (ss_if (st_cmp (gc_eq hr.units) (se_call (ok__law_draw T) l__law_draw (hr.mono (by decide)) rfl T.m__law_draw T.F__law_draw.kp T.b__law_draw (takes_of rfl rfl rfl rfl) (sa_cons (se_var 0) (sa_cons se_int (sa_cons se_int (sa_cons se_int sa_nil))))) se_int)
    (ss_one (ss_ret (se_add se_int (se_call (ok__law_draw T) l__law_draw (hr.mono (by decide)) rfl T.m__law_draw T.F__law_draw.kp T.b__law_draw (takes_of rfl rfl rfl rfl) (sa_cons (se_var 0) (sa_cons se_int (sa_cons se_int (sa_cons (se_var 1) sa_nil))))))))
    ss_nil)
    (ss_one (ss_ret (se_add se_int (se_call (ok__law_draw T) l__law_draw (hr.mono (by decide)) rfl T.m__law_draw T.F__law_draw.kp T.b__law_draw (takes_of rfl rfl rfl rfl) (sa_cons (se_var 0) (sa_cons se_int (sa_cons se_int (sa_cons se_int sa_nil))))))))))
theorem ok__law_most (T : Tx K mg g base) : FnOk P w0 K mg base (L2.CX P w0) 3 T.a__law_most T.f__law_most ["script"] (spW K g 1 u__law_most) :=
  fn_ok (k := 2) (N := n__law_most) T.F__law_most sc__law_most (fun cdv A outer s H E hr =>
    (ss_cons (ss_if (st_cmp (gc_eq hr.units) (se_call (ok__law_draw T) l__law_draw (hr.mono (by decide)) rfl T.m__law_draw T.F__law_draw.kp T.b__law_draw (takes_of rfl rfl rfl rfl) (sa_cons (se_var 0) (sa_cons se_int (sa_cons se_int (sa_cons se_int sa_nil))))) se_int)
    (ss_one (ss_ret se_int))
    ss_nil)
    (ss_one (ss_ret (se_sub (se_pow se_int se_int) se_int)))))
theorem ok__law_number (T : Tx K mg g base) : FnOk P w0 K mg base (L2.CX P w0) 2 T.a__law_number T.f__law_number ["script", "k", "most"] (spW K g 3 u__law_number) :=
  fn_ok (k := 1) (N := n__law_number) T.F__law_number sc__law_number (fun cdv A outer s H E hr =>
    (ss_cons (ss_set 3 sc__law_number.nd (se_add (se_add (se_mul (se_call (ok__law_cell T) l__law_cell (hr.mono (by decide)) rfl T.m__law_cell T.F__law_cell.kp T.b__law_cell (takes_of rfl rfl rfl rfl) (sa_cons (se_var 0) (sa_cons (se_mod (se_var 1) se_int) sa_nil))) se_int) (se_mul (se_mul se_int (se_var 1)) (se_var 1))) se_int))
    (ss_cons (ss_if (st_cmp (gc_eq hr.units) (se_mod (se_mod (se_var 3) se_int) se_int) se_int)
    (ss_one (ss_ret se_int))
    ss_nil)
    (ss_cons (ss_if (st_cmp (gc_eq hr.units) (se_mod (se_mod (se_var 3) se_int) se_int) se_int)
    (ss_one (ss_ret (se_sub (se_mod (se_mod (se_var 3) se_int) se_int) se_int)))
    ss_nil)
    (ss_one (ss_ret (se_sub (se_mod (se_mul (se_var 3) (se_pow se_int se_int)) (se_add (se_mul se_int (se_var 2)) se_int)) (se_var 2))))))))
theorem ok__law_moves (T : Tx K mg g base) : FnOk P w0 K mg base (L2.CX P w0) 3 T.a__law_moves T.f__law_moves ["script", "days", "wares", "most"] (spW K g 4 u__law_moves) :=
  fn_trim (fn_ok (k := 2) (N := n__law_moves) T.F__law_moves sc__law_moves (fun cdv A outer s H E hr =>
    (ss_cons (ss_set 4 sc__law_moves.nd (se_lstC sa_nil))
    (ss_cons (ss_for 5 (passes_of rfl) rfl sc__law_moves.nd (si_rng1 rfl T.z_range (sa_cons (se_var 1) sa_nil))
    (ss_cons (ss_setLc (j := 6) rfl sc__law_moves.nd rfl rfl (sw_true rfl rfl rfl (by decide +kernel)) (own := [("k", 7)]) (i := 7) (si_rng1 rfl T.z_range (sa_cons (se_var 2) sa_nil)) (blkOk_by (N := n__law_moves) (sc := defScope s__law_moves) (by decide +kernel)) (by decide) (fun _ _ _ _ _ => pg_name (i := 7) sc__law_moves.nd rfl (Or.inl rfl)) (fun _ _ _ _ _ => sts_nil) (fun _ _ _ _ _ => (se_call (ok__law_number T) l__law_number (hr.mono (by decide)) rfl T.m__law_number T.F__law_number.kp T.b__law_number takes0 (sa_cons (se_var 0) (sa_cons (se_add (se_add se_int (se_mul (se_var 2) (se_var 5))) (se_var 7)) (sa_cons (se_var 3) sa_nil))))))
    (ss_cons (ss_if (SPw.st (sw_and (st_cmp gc_gt (se_var 5) se_int) (sw_one (st_cmp (gc_eq hr.units) (se_call (ok__law_draw T) l__law_draw (hr.mono (by decide)) rfl T.m__law_draw T.F__law_draw.kp T.b__law_draw (takes_of rfl rfl rfl rfl) (sa_cons (se_var 0) (sa_cons (se_add se_int (se_var 5)) (sa_cons se_int (sa_cons se_int sa_nil))))) se_int))))
    (ss_one (ss_set 6 sc__law_moves.nd (se_list rfl T.z_list (sa_cons (se_ix (se_var 4) (se_call (ok__law_draw T) l__law_draw (hr.mono (by decide)) rfl T.m__law_draw T.F__law_draw.kp T.b__law_draw (takes_of rfl rfl rfl rfl) (sa_cons (se_var 0) (sa_cons (se_add se_int (se_var 5)) (sa_cons se_int (sa_cons (se_var 5) sa_nil)))))) sa_nil))))
    ss_nil)
    (ss_one (ss_expr (se_app (se_var 4) (sa_cons (se_var 6) sa_nil)))))))
    (ss_one (ss_ret (se_frz (se_var 4))))))))
theorem ok__law_position (T : Tx K mg g base) : FnOk P w0 K mg base (L2.CX P w0) 3 T.a__law_position T.f__law_position ["script", "k", "wares", "most"] (spW K g 4 u__law_position) :=
  fn_ok (k := 2) (N := n__law_position) T.F__law_position sc__law_position (fun cdv A outer s H E hr =>
    (ss_one (ss_ret (se_lc (own := [("ware", 4)]) (i := 4) rfl sc__law_position.nd (si_rng1 rfl T.z_range (sa_cons (se_var 2) sa_nil)) (blkOk_by (N := n__law_position) (sc := defScope s__law_position) (by decide +kernel)) (by decide) (fun _ _ _ _ _ => pg_name (i := 4) sc__law_position.nd rfl (Or.inl rfl)) (fun _ _ _ _ _ => sts_nil) (fun _ _ _ _ _ => (se_call (ok__law_number T) l__law_number (hr.mono (by decide)) rfl T.m__law_number T.F__law_number.kp T.b__law_number takes0 (sa_cons (se_var 0) (sa_cons (se_add (se_var 1) (se_mul se_int (se_var 4))) (sa_cons (se_var 3) sa_nil)))))))))
theorem ok__law_divisor (T : Tx K mg g base) : FnOk P w0 K mg base (L2.CX P w0) 1 T.a__law_divisor T.f__law_divisor ["one", "other"] (spW K g 2 u__law_divisor) :=
  fn_ok (k := 0) (N := n__law_divisor) T.F__law_divisor sc__law_divisor (fun cdv A outer s H E hr =>
    (ss_cons (ss_while (passes_of rfl) (st_cmp (gc_ne hr.units) (se_var 1) se_int)
    (ss_cons (ss_set 2 sc__law_divisor.nd (se_mod (se_var 0) (se_var 1)))
    (ss_cons (ss_set 0 sc__law_divisor.nd (se_var 1))
    (ss_one (ss_set 1 sc__law_divisor.nd (se_var 2))))))
    (ss_one (ss_ret (se_var 0)))))
theorem ok__law_whole (T : Tx K mg g base) : FnOk P w0 K mg base (L2.CX P w0) 1 T.a__law_whole T.f__law_whole ["thing"] (spW K g 1 u__law_whole) :=
  fn_ok (k := 0) (N := n__law_whole) T.F__law_whole sc__law_whole (fun cdv A outer s H E hr =>
    (ss_one (ss_ret (se_and (se_isi .int rfl T.z_isinstance (se_var 0) rfl T.z_int) (se_one (se_not (se_isi .bool rfl T.z_isinstance (se_var 0) rfl T.z_bool)))))))
theorem ok__law_is_part (T : Tx K mg g base) : FnOk P w0 K mg base (L2.CX P w0) 2 T.a__law_is_part T.f__law_is_part ["thing"] (spW K g 1 u__law_is_part) :=
  fn_ok (k := 1) (N := n__law_is_part) T.F__law_is_part sc__law_is_part (fun cdv A outer s H E hr =>
    (ss_cons (ss_if (SPw.st (sw_or (st_not (st_val (se_isi .tuple rfl T.z_isinstance (se_var 0) rfl T.z_tuple))) (sw_one (st_cmp (gc_ne hr.units) (se_len rfl T.z_len (sa_cons (se_var 0) sa_nil)) se_int))))
    (ss_one (ss_ret se_bl))
    ss_nil)
    (ss_cons (ss_if (SPw.st (sw_or (st_not (st_val (se_call (ok__law_whole T) l__law_whole (hr.mono (by decide)) rfl T.m__law_whole T.F__law_whole.kp T.b__law_whole (takes_of rfl rfl rfl rfl) (sa_cons (se_ix (se_var 0) se_int) sa_nil)))) (sw_or (st_not (st_val (se_call (ok__law_whole T) l__law_whole (hr.mono (by decide)) rfl T.m__law_whole T.F__law_whole.kp T.b__law_whole (takes_of rfl rfl rfl rfl) (sa_cons (se_ix (se_var 0) se_int) sa_nil)))) (sw_one (st_cmp gc_lt (se_ix (se_var 0) se_int) se_int)))))
    (ss_one (ss_ret se_bl))
    ss_nil)
    (ss_one (ss_ret (se_cmp (gc_eq hr.units) (se_call (ok__law_divisor T) l__law_divisor (hr.mono (by decide)) rfl T.m__law_divisor T.F__law_divisor.kp T.b__law_divisor (takes_of rfl rfl rfl rfl) (sa_cons (se_abs rfl T.z_abs (sa_cons (se_ix (se_var 0) se_int) sa_nil)) (sa_cons (se_ix (se_var 0) se_int) sa_nil))) se_int))))))
theorem ok__law_meets (T : Tx K mg g base) : FnOk P w0 K mg base (L2.CX P w0) 3 T.a__law_meets T.f__law_meets ["told", "due", "number"] (spW K g 3 u__law_meets) :=
  fn_ok (k := 2) (N := n__law_meets) T.F__law_meets sc__law_meets (fun cdv A outer s H E hr =>
    (ss_cons (ss_if (st_not (st_val (se_call (ok__law_is_part T) l__law_is_part (hr.mono (by decide)) rfl T.m__law_is_part T.F__law_is_part.kp T.b__law_is_part (takes_of rfl rfl rfl rfl) (sa_cons (se_var 0) sa_nil))))
    (ss_one (ss_ret se_bl))
    ss_nil)
    (ss_cons (ss_if (st_cmp gc_lt (se_var 1) se_int)
    (ss_one (ss_ret (se_cmp (gc_eq hr.units) (se_var 0) (se_tup (sa_cons se_int (sa_cons se_int sa_nil))))))
    ss_nil)
    (ss_one (ss_ret (se_cmp (gc_eq hr.units) (se_mul (se_ix (se_var 0) se_int) (se_var 2)) (se_mul (se_var 1) (se_ix (se_var 0) se_int))))))))
theorem ok_loss_on (T : Tx K mg g base) : FnOk P w0 K mg base (L2.CX P w0) 1 T.a_loss_on T.f_loss_on ["position", "move"] (spW K g 2 u_loss_on) :=
  fn_ok (k := 0) (N := n_loss_on) T.F_loss_on sc_loss_on (fun cdv A outer s H E hr =>
    (ss_one (ss_ret (se_sub se_int (se_sum rfl rfl T.z_sum (sa_cons (se_lc (own := [("k", 2)]) (i := 2) rfl sc_loss_on.nd (si_rng1 rfl T.z_range (sa_cons (se_len rfl T.z_len (sa_cons (se_var 0) sa_nil)) sa_nil)) (blkOk_by (N := n_loss_on) (sc := defScope s_loss_on) (by decide +kernel)) (by decide) (fun _ _ _ _ _ => pg_name (i := 2) sc_loss_on.nd rfl (Or.inl rfl)) (fun _ _ _ _ _ => sts_nil) (fun _ _ _ _ _ => (se_mul (se_ix (se_var 0) (se_var 2)) (se_ix (se_var 1) (se_var 2))))) sa_nil))))))
theorem ok_losses_of (T : Tx K mg g base) : FnOk P w0 K mg base (L2.CX P w0) 2 T.a_losses_of T.f_losses_of ["position", "moves"] (spW K g 2 u_losses_of) :=
  fn_ok (k := 1) (N := n_losses_of) T.F_losses_of sc_losses_of (fun cdv A outer s H E hr =>
    (ss_one (ss_ret (se_lc (own := [("move", 2)]) (i := 2) rfl sc_losses_of.nd (si_seq (se_var 1)) (blkOk_by (N := n_losses_of) (sc := defScope s_losses_of) (by decide +kernel)) (by decide) (fun _ _ _ _ _ => pg_name (i := 2) sc_losses_of.nd rfl (Or.inl rfl)) (fun _ _ _ _ _ => sts_nil) (fun _ _ _ _ _ => (se_call (ok_loss_on T) l_loss_on (hr.mono (by decide)) rfl T.m_loss_on T.F_loss_on.kp T.b_loss_on takes0 (sa_cons (se_var 0) (sa_cons (se_var 2) sa_nil))))))))
theorem ok_worst_days (T : Tx K mg g base) : FnOk P w0 K mg base (L2.CX P w0) 3 T.a_worst_days T.f_worst_days ["position", "moves", "k"] (spW K g 3 u_worst_days) :=
  fn_okC (k := 2) (N := n_worst_days) T.F_worst_days sc_worst_days (fun cdv hcdv A outer s H E hr =>
    (ss_cons (ss_set 3 sc_worst_days.nd (se_call (ok_losses_of T) l_losses_of (hr.mono (by decide)) rfl T.m_losses_of T.F_losses_of.kp T.b_losses_of (takes_of rfl rfl rfl rfl) (sa_cons (se_var 0) (sa_cons (se_var 1) sa_nil))))
    (ss_cons (ss_set 4 sc_worst_days.nd (se_sortK (i := 3) (c := T.cW) (P := T.PW) (q := "worst_days.<locals>.<lambda>") rfl hr T.tb (hcdv.symm.trans T.cd) T.gP (show (("worst_days" : Str) ++ ".<locals>." ++ "<lambda>") = _ from by decide +kernel) rfl T.z_sorted rfl T.z_range rfl rfl (se_len rfl T.z_len (sa_cons (se_var 1) sa_nil))))
    (ss_one (ss_ret (se_slice (se_var 4) so_none (so_some (se_var 2))))))))
theorem ok_divisor (T : Tx K mg g base) : FnOk P w0 K mg base (L2.CX P w0) 1 T.a_divisor T.f_divisor ["one", "other"] (spW K g 2 u_divisor) :=
  fn_ok (k := 0) (N := n_divisor) T.F_divisor sc_divisor (fun cdv A outer s H E hr =>
    (ss_cons (ss_set 0 sc_divisor.nd (se_abs rfl T.z_abs (sa_cons (se_var 0) sa_nil)))
    (ss_cons (ss_set 1 sc_divisor.nd (se_abs rfl T.z_abs (sa_cons (se_var 1) sa_nil)))
    (ss_cons (ss_while (passes_of rfl) (st_cmp (gc_ne hr.units) (se_var 1) se_int)
    (ss_cons (ss_set 2 sc_divisor.nd (se_mod (se_var 0) (se_var 1)))
    (ss_cons (ss_set 0 sc_divisor.nd (se_var 1))
    (ss_one (ss_set 1 sc_divisor.nd (se_var 2))))))
    (ss_one (ss_ret (se_var 0)))))))
theorem ok_part (T : Tx K mg g base) : FnOk P w0 K mg base (L2.CX P w0) 2 T.a_part T.f_part ["top", "bottom"] (spW K g 2 u_part) :=
  fn_ok (k := 1) (N := n_part) T.F_part sc_part (fun cdv A outer s H E hr =>
    (ss_cons (ss_if (st_cmp (gc_eq hr.units) (se_var 1) se_int)
    (ss_one (ss_raise rfl (takes_of rfl rfl rfl rfl) PySem.F.excBase_ValueError T.x_NoPart T.g_NoPart T.k_NoPart (raises_own T.b_NoPart T.t_NoPart) rfl))
    ss_nil)
    (ss_cons (ss_if (st_cmp gc_lt (se_var 1) se_int)
    (ss_cons (ss_set 0 sc_part.nd (se_neg (se_var 0)))
    (ss_one (ss_set 1 sc_part.nd (se_neg (se_var 1)))))
    ss_nil)
    (ss_cons (ss_set 2 sc_part.nd (se_call (ok_divisor T) l_divisor (hr.mono (by decide)) rfl T.m_divisor T.F_divisor.kp T.b_divisor (takes_of rfl rfl rfl rfl) (sa_cons (se_var 0) (sa_cons (se_var 1) sa_nil))))
    (ss_one (ss_ret (se_tup (sa_cons (se_fdiv (se_var 0) (se_var 2)) (sa_cons (se_fdiv (se_var 1) (se_var 2)) sa_nil)))))))))
theorem ok_under (T : Tx K mg g base) : FnOk P w0 K mg base (L2.CX P w0) 1 T.a_under T.f_under ["one", "other"] (spW K g 2 u_under) :=
  fn_ok (k := 0) (N := n_under) T.F_under sc_under (fun cdv A outer s H E hr =>
    (ss_one (ss_ret (se_cmp gc_lt (se_mul (se_ix (se_var 0) se_int) (se_ix (se_var 1) se_int)) (se_mul (se_ix (se_var 1) se_int) (se_ix (se_var 0) se_int))))))
theorem ok_need_of (T : Tx K mg g base) : FnOk P w0 K mg base (L2.CX P w0) 4 T.a_need_of T.f_need_of ["rule", "position", "moves"] (spW K g 3 u_need_of) :=
  fn_ok (k := 3) (N := n_need_of) T.F_need_of sc_need_of (fun cdv A outer s H E hr =>
    (ss_cons (ss_set 3 sc_need_of.nd (se_ix (se_var 0) se_int))
    (ss_cons (ss_set 4 sc_need_of.nd (se_ix (se_var 0) se_int))
    (ss_cons (ss_if (SPw.st (sw_and (st_cmp (gc_ne hr.units) (se_var 3) se_str) (sw_one (st_cmp (gc_ne hr.units) (se_var 3) se_str))))
    (ss_one (ss_raise rfl (takes_of rfl rfl rfl rfl) PySem.F.excBase_ValueError T.x_NoRule T.g_NoRule T.k_NoRule (raises_own T.b_NoRule T.t_NoRule) rfl))
    ss_nil)
    (ss_cons (ss_if (SPw.st (sw_or (st_cmp gc_lt (se_var 4) se_int) (sw_one (st_cmp gc_gt (se_var 4) (se_len rfl T.z_len (sa_cons (se_var 2) sa_nil))))))
    (ss_one (ss_raise rfl (takes_of rfl rfl rfl rfl) PySem.F.excBase_ValueError T.x_NoRule T.g_NoRule T.k_NoRule (raises_own T.b_NoRule T.t_NoRule) rfl))
    ss_nil)
    (ss_cons (ss_set 5 sc_need_of.nd (se_call (ok_losses_of T) l_losses_of (hr.mono (by decide)) rfl T.m_losses_of T.F_losses_of.kp T.b_losses_of (takes_of rfl rfl rfl rfl) (sa_cons (se_var 1) (sa_cons (se_var 2) sa_nil))))
    (ss_cons (ss_set 6 sc_need_of.nd (se_call (ok_worst_days T) l_worst_days (hr.mono (by decide)) rfl T.m_worst_days T.F_worst_days.kp T.b_worst_days (takes_of rfl rfl rfl rfl) (sa_cons (se_var 1) (sa_cons (se_var 2) (sa_cons (se_var 4) sa_nil)))))
    (ss_cons (ss_set 7 sc_need_of.nd (se_call (ok_part T) l_part (hr.mono (by decide)) rfl T.m_part T.F_part.kp T.b_part (takes_of rfl rfl rfl rfl) (sa_cons (se_ix (se_var 5) (se_ix (se_var 6) (se_sub (se_var 4) se_int))) (sa_cons se_int sa_nil))))
    (ss_cons (ss_if (st_cmp (gc_eq hr.units) (se_var 3) se_str)
    (ss_one (ss_set 7 sc_need_of.nd (se_call (ok_part T) l_part (hr.mono (by decide)) rfl T.m_part T.F_part.kp T.b_part (takes_of rfl rfl rfl rfl) (sa_cons (se_sum rfl rfl T.z_sum (sa_cons (se_lc (own := [("day", 8)]) (i := 8) rfl sc_need_of.nd (si_seq (se_var 6)) (blkOk_by (N := n_need_of) (sc := defScope s_need_of) (by decide +kernel)) (by decide) (fun _ _ _ _ _ => pg_name (i := 8) sc_need_of.nd rfl (Or.inl rfl)) (fun _ _ _ _ _ => sts_nil) (fun _ _ _ _ _ => (se_ix (se_var 5) (se_var 8)))) sa_nil)) (sa_cons (se_var 4) sa_nil)))))
    ss_nil)
    (ss_cons (ss_if (st_val (se_call (ok_under T) l_under (hr.mono (by decide)) rfl T.m_under T.F_under.kp T.b_under (takes_of rfl rfl rfl rfl) (sa_cons (se_var 7) (sa_cons (se_tup (sa_cons se_int (sa_cons se_int sa_nil))) sa_nil))))
    (ss_one (ss_ret (se_tup (sa_cons se_int (sa_cons se_int sa_nil)))))
    ss_nil)
    (ss_one (ss_ret (se_var 7)))))))))))))
theorem ok__law_of_another (T : Tx K mg g base) : FnE P w0 K mg base g RL 1 T.a__law_of_another T.f__law_of_another ["error"] u__law_of_another :=
  fnE_ok (k := 0) (N := n__law_of_another) T.F__law_of_another sc__law_of_another (fun cdv A outer s H E a1 oe1 c1 ex1 hr =>
    (ss_cons (ss_if (SPw.st (sw_or (st_val (se_isP (cv := .ref (g.cl "Bare")) (T.hq c1 ex1.i) ex1 List.mem_cons_self (T.hk_Bare c1 ex1.i) (fun _ h => h) rfl T.z_isinstance (se_var 0) (pe_glob (v := .ref (g.cl "Bare")) rfl T.g_Bare rfl))) (sw_or (st_val (se_isP (cv := .ref (g.cl "Closed")) (T.hq c1 ex1.i) ex1 List.mem_cons_self (T.hk_Closed c1 ex1.i) (fun _ h => h) rfl T.z_isinstance (se_var 0) (pe_glob (v := .ref (g.cl "Closed")) rfl T.g_Closed rfl))) (sw_or (st_val (se_isP (cv := .ref (g.cl "Gone")) (T.hq c1 ex1.i) ex1 List.mem_cons_self (T.hk_Gone c1 ex1.i) (fun _ h => h) rfl T.z_isinstance (se_var 0) (pe_glob (v := .ref (g.cl "Gone")) rfl T.g_Gone rfl))) (sw_one (st_val (se_isP (cv := .ref (g.cl "NoDeal")) (T.hq c1 ex1.i) ex1 List.mem_cons_self (T.hk_NoDeal c1 ex1.i) (fun _ h => h) rfl T.z_isinstance (se_var 0) (pe_glob (v := .ref (g.cl "NoDeal")) rfl T.g_NoDeal rfl))))))))
    (ss_one (ss_ret se_bl))
    ss_nil)
    (ss_cons (ss_if (SPw.st (sw_or (st_val (se_isP (cv := .ref (g.cl "NoLayer")) (T.hq c1 ex1.i) ex1 List.mem_cons_self (T.hk_NoLayer c1 ex1.i) (fun _ h => h) rfl T.z_isinstance (se_var 0) (pe_glob (v := .ref (g.cl "NoLayer")) rfl T.g_NoLayer rfl))) (sw_or (st_val (se_isP (cv := .ref (g.cl "NoMember")) (T.hq c1 ex1.i) ex1 List.mem_cons_self (T.hk_NoMember c1 ex1.i) (fun _ h => h) rfl T.z_isinstance (se_var 0) (pe_glob (v := .ref (g.cl "NoMember")) rfl T.g_NoMember rfl))) (sw_one (st_val (se_isP (cv := .ref (g.cl "NoPart")) (T.hq c1 ex1.i) ex1 List.mem_cons_self (T.hk_NoPart c1 ex1.i) (fun _ h => h) rfl T.z_isinstance (se_var 0) (pe_glob (v := .ref (g.cl "NoPart")) rfl T.g_NoPart rfl)))))))
    (ss_one (ss_ret se_bl))
    ss_nil)
    (ss_cons (ss_if (SPw.st (sw_or (st_val (se_isP (cv := .ref (g.cl "NoAnswer")) (T.hq c1 ex1.i) ex1 List.mem_cons_self (T.hk_NoAnswer c1 ex1.i) (fun _ h => h) rfl T.z_isinstance (se_var 0) (pe_glob (v := .ref (g.cl "NoAnswer")) rfl T.g_NoAnswer rfl))) (sw_or (st_val (se_isP (cv := .ref (g.cl "NoTerms")) (T.hq c1 ex1.i) ex1 List.mem_cons_self (T.hk_NoTerms c1 ex1.i) (fun _ h => h) rfl T.z_isinstance (se_var 0) (pe_glob (v := .ref (g.cl "NoTerms")) rfl T.g_NoTerms rfl))) (sw_or (st_val (se_isP (cv := .ref (g.cl "Out")) (T.hq c1 ex1.i) ex1 List.mem_cons_self (T.hk_Out c1 ex1.i) (fun _ h => h) rfl T.z_isinstance (se_var 0) (pe_glob (v := .ref (g.cl "Out")) rfl T.g_Out rfl))) (sw_one (st_val (se_isP (cv := .ref (g.cl "Poor")) (T.hq c1 ex1.i) ex1 List.mem_cons_self (T.hk_Poor c1 ex1.i) (fun _ h => h) rfl T.z_isinstance (se_var 0) (pe_glob (v := .ref (g.cl "Poor")) rfl T.g_Poor rfl))))))))
    (ss_one (ss_ret se_bl))
    ss_nil)
    (ss_cons (ss_if (SPw.st (sw_or (st_val (se_isP (cv := .ref (g.cl "Ringed")) (T.hq c1 ex1.i) ex1 List.mem_cons_self (T.hk_Ringed c1 ex1.i) (fun _ h => h) rfl T.z_isinstance (se_var 0) (pe_glob (v := .ref (g.cl "Ringed")) rfl T.g_Ringed rfl))) (sw_or (st_val (se_isP (cv := .ref (g.cl "Settled")) (T.hq c1 ex1.i) ex1 List.mem_cons_self (T.hk_Settled c1 ex1.i) (fun _ h => h) rfl T.z_isinstance (se_var 0) (pe_glob (v := .ref (g.cl "Settled")) rfl T.g_Settled rfl))) (sw_one (st_val (se_isP (cv := .ref (g.cl "Standing")) (T.hq c1 ex1.i) ex1 List.mem_cons_self (T.hk_Standing c1 ex1.i) (fun _ h => h) rfl T.z_isinstance (se_var 0) (pe_glob (v := .ref (g.cl "Standing")) rfl T.g_Standing rfl)))))))
    (ss_one (ss_ret se_bl))
    ss_nil)
    (ss_one (ss_ret (se_or (se_isP (cv := .ref (g.cl "TooMuch")) (T.hq c1 ex1.i) ex1 List.mem_cons_self (T.hk_TooMuch c1 ex1.i) (fun _ h => h) rfl T.z_isinstance (se_var 0) (pe_glob (v := .ref (g.cl "TooMuch")) rfl T.g_TooMuch rfl)) (se_one (se_isP (cv := .ref (g.cl "Unclosed")) (T.hq c1 ex1.i) ex1 List.mem_cons_self (T.hk_Unclosed c1 ex1.i) (fun _ h => h) rfl T.z_isinstance (se_var 0) (pe_glob (v := .ref (g.cl "Unclosed")) rfl T.g_Unclosed rfl)))))))))))
theorem ok__law_refused (T : Tx K mg g base) : FnOk P w0 K mg base (L2.CX P w0) 5 T.a__law_refused T.f__law_refused ["rule", "position", "moves"] (spW K g 3 u__law_refused) :=
  fn_ok (k := 4) (N := n__law_refused) T.F__law_refused sc__law_refused (fun cdv A outer s H E hr =>
    (ss_cons (ss_set 3 sc__law_refused.nd se_non)
    (ss_tryK (i := 4) (rl := RL) (cat := fun c => eSub c "QuitsError") rfl rfl sc__law_refused.nd rfl rfl ⟨rfl, rfl, Or.inl T.g_QuitsError⟩ (takes_of rfl rfl rfl rfl) (fun c hc => T.hm_QuitsError c hc) (fun W1 pn1 xe1 tk1 po1 =>
    (ss_one (ss_expr (se_call (ok_need_of T) l_need_of (hr.mono (by decide)) rfl T.m_need_of T.F_need_of.kp T.b_need_of tk1 (sa_cons (se_var 0) (sa_cons (se_var 1) (sa_cons (se_var 2) sa_nil))))))) (fun a1 oe1 c1 pn1 hc1 hz1 hf1 =>
    (ss_one (ss_set 3 sc__law_refused.nd (se_var 4)))) (fun pn1 =>
    (ss_cons (ss_if (SPw.st (sw_or (st_cmp gc_isN (se_var 3) se_non) (sw_or (st_not (st_val se_nev)) (sw_one (st_not (st_val se_nev))))))
    (ss_one (ss_ret se_bl))
    ss_nil)
    (ss_one (ss_ret (se_not se_nev))))) (fun a1 oe1 c1 pn1 hc1 hz1 hf1 =>
    (ss_cons (ss_if (SPw.st (sw_or (st_cmp gc_isN (se_var 3) se_non) (sw_or (st_not (st_val (se_isP (cv := .ref (g.cl "NoRule")) (T.hq c1 hc1) ⟨hz1, hf1, hc1⟩ List.mem_cons_self (T.hk_NoRule c1 hc1) (fun _ h => h) rfl T.z_isinstance (se_var 3) (pe_glob (v := .ref (g.cl "NoRule")) rfl T.g_NoRule rfl)))) (sw_one (st_not (st_val (se_isP (cv := .ty "ValueError") (T.hq c1 hc1) ⟨hz1, hf1, hc1⟩ List.mem_cons_self (T.hk_ValueError c1 hc1) (fun _ h => h) rfl T.z_isinstance (se_var 3) (pe_bltn (v := .ty "ValueError") rfl T.z_ValueError (by decide +kernel) rfl (by decide) (by decide)))))))))
    (ss_one (ss_ret se_bl))
    ss_nil)
    (ss_one (ss_ret (se_not (se_callP (ok__law_of_another T) l__law_of_another ⟨hz1, hf1, hc1⟩ List.mem_cons_self (L2H.roomH_of (hr.mono (by decide))) rfl T.m__law_of_another T.F__law_of_another.kp T.b__law_of_another (sa_cons (se_var 3) sa_nil))))))))))
theorem ok__law_loss (T : Tx K mg g base) : FnOk P w0 K mg base (L2.CX P w0) 1 T.a__law_loss T.f__law_loss ["position", "move"] (spW K g 2 u__law_loss) :=
  fn_ok (k := 0) (N := n__law_loss) T.F__law_loss sc__law_loss (fun cdv A outer s H E hr =>
    (ss_cons (ss_set 2 sc__law_loss.nd se_int)
    (ss_cons (ss_for 3 (passes_of rfl) rfl sc__law_loss.nd (si_rng1 rfl T.z_range (sa_cons (se_len rfl T.z_len (sa_cons (se_var 0) sa_nil)) sa_nil))
    (ss_one (ss_set 2 sc__law_loss.nd (se_sub (se_var 2) (se_mul (se_ix (se_var 0) (se_var 3)) (se_ix (se_var 1) (se_var 3)))))))
    (ss_one (ss_ret (se_var 2))))))
theorem ok__law_other_word (T : Tx K mg g base) : FnOk P w0 K mg base (L2.CX P w0) 3 T.a__law_other_word T.f__law_other_word ["script", "word"] (spW K g 2 u__law_other_word) :=
  fn_ok (k := 2) (N := n__law_other_word) T.F__law_other_word sc__law_other_word (fun cdv A outer s H E hr =>
    (ss_cons (ss_set 2 sc__law_other_word.nd (se_call (ok__law_draw T) l__law_draw (hr.mono (by decide)) rfl T.m__law_draw T.F__law_draw.kp T.b__law_draw (takes_of rfl rfl rfl rfl) (sa_cons (se_var 0) (sa_cons se_int (sa_cons se_int (sa_cons (se_add (se_len rfl T.z_len (sa_cons (se_var 1) sa_nil)) se_int) sa_nil))))))
    (ss_cons (ss_set 3 sc__law_other_word.nd (se_call (ok__law_draw T) l__law_draw (hr.mono (by decide)) rfl T.m__law_draw T.F__law_draw.kp T.b__law_draw (takes_of rfl rfl rfl rfl) (sa_cons (se_var 0) (sa_cons se_int (sa_cons se_int (sa_cons se_int sa_nil))))))
    (ss_cons (ss_set 4 sc__law_other_word.nd (se_ix se_str (se_call (ok__law_draw T) l__law_draw (hr.mono (by decide)) rfl T.m__law_draw T.F__law_draw.kp T.b__law_draw (takes_of rfl rfl rfl rfl) (sa_cons (se_var 0) (sa_cons se_int (sa_cons se_int (sa_cons se_int sa_nil)))))))
    (ss_cons (ss_set 5 sc__law_other_word.nd (se_call (ok__law_draw T) l__law_draw (hr.mono (by decide)) rfl T.m__law_draw T.F__law_draw.kp T.b__law_draw (takes_of rfl rfl rfl rfl) (sa_cons (se_var 0) (sa_cons se_int (sa_cons se_int (sa_cons se_int sa_nil))))))
    (ss_cons (ss_if (st_cmp (gc_eq hr.units) (se_var 5) se_int)
    (ss_cons (ss_set 4 sc__law_other_word.nd se_str)
    (ss_one (ss_set 3 sc__law_other_word.nd (se_add se_int (se_mod (se_var 2) se_int)))))
    ss_nil)
    (ss_cons (ss_set 6 sc__law_other_word.nd (se_add (se_add (se_sliceX (se_var 1) so_none (so_some (se_var 2))) (se_var 4)) (se_sliceX (se_var 1) (so_some (se_add (se_var 2) (se_var 3))) so_none)))
    (ss_cons (ss_if (SPw.st (sw_or (st_cmp (gc_eq hr.units) (se_var 6) se_str) (sw_one (st_cmp (gc_eq hr.units) (se_var 6) se_str))))
    (ss_one (ss_ret se_str))
    ss_nil)
    (ss_one (ss_ret (se_var 6)))))))))))
theorem ok__law_great (T : Tx K mg g base) : FnOk P w0 K mg base (L2.CX P w0) 2 T.a__law_great T.f__law_great ["script", "k", "most"] (spW K g 3 u__law_great) :=
  fn_ok (k := 1) (N := n__law_great) T.F__law_great sc__law_great (fun cdv A outer s H E hr =>
    (ss_cons (ss_set 3 sc__law_great.nd (se_add (se_add (se_mul (se_call (ok__law_cell T) l__law_cell (hr.mono (by decide)) rfl T.m__law_cell T.F__law_cell.kp T.b__law_cell (takes_of rfl rfl rfl rfl) (sa_cons (se_var 0) (sa_cons (se_var 1) sa_nil))) se_int) (se_mul (se_mul se_int (se_var 1)) (se_var 1))) se_int))
    (ss_one (ss_ret (se_mod (se_mul (se_var 3) (se_pow se_int se_int)) (se_add (se_var 2) se_int))))))
theorem ok__law_no_rule (T : Tx K mg g base) : FnOk P w0 K mg base (L2.CX P w0) 4 T.a__law_no_rule T.f__law_no_rule ["script", "word", "number", "days"] (spW K g 4 u__law_no_rule) :=
  fn_ok (k := 3) (N := n__law_no_rule) T.F__law_no_rule sc__law_no_rule (fun cdv A outer s H E hr =>
    (ss_cons (ss_set 4 sc__law_no_rule.nd (se_call (ok__law_draw T) l__law_draw (hr.mono (by decide)) rfl T.m__law_draw T.F__law_draw.kp T.b__law_draw (takes_of rfl rfl rfl rfl) (sa_cons (se_var 0) (sa_cons se_int (sa_cons se_int (sa_cons se_int sa_nil))))))
    (ss_cons (ss_if (st_cmp (gc_eq hr.units) (se_var 4) se_int)
    (ss_one (ss_ret (se_tup (sa_cons (se_var 1) (sa_cons se_int sa_nil)))))
    ss_nil)
    (ss_cons (ss_if (st_cmp (gc_eq hr.units) (se_var 4) se_int)
    (ss_one (ss_ret (se_tup (sa_cons (se_var 1) (sa_cons (se_add (se_var 3) se_int) sa_nil)))))
    ss_nil)
    (ss_cons (ss_if (st_cmp (gc_eq hr.units) (se_var 4) se_int)
    (ss_one (ss_ret (se_tup (sa_cons (se_var 1) (sa_cons (se_sub (se_sub se_int se_int) (se_call (ok__law_draw T) l__law_draw (hr.mono (by decide)) rfl T.m__law_draw T.F__law_draw.kp T.b__law_draw (takes_of rfl rfl rfl rfl) (sa_cons (se_var 0) (sa_cons se_int (sa_cons se_int (sa_cons (se_var 3) sa_nil)))))) sa_nil)))))
    ss_nil)
    (ss_cons (ss_if (st_cmp (gc_eq hr.units) (se_var 4) se_int)
    (ss_one (ss_ret (se_tup (sa_cons (se_var 1) (sa_cons (se_add (se_add (se_var 3) se_int) (se_call (ok__law_great T) l__law_great (hr.mono (by decide)) rfl T.m__law_great T.F__law_great.kp T.b__law_great (takes_of rfl rfl rfl rfl) (sa_cons (se_var 0) (sa_cons se_int (sa_cons (se_pow se_int se_int) sa_nil))))) sa_nil)))))
    ss_nil)
    (ss_one (ss_ret (se_tup (sa_cons (se_call (ok__law_other_word T) l__law_other_word (hr.mono (by decide)) rfl T.m__law_other_word T.F__law_other_word.kp T.b__law_other_word (takes_of rfl rfl rfl rfl) (sa_cons (se_var 0) (sa_cons (se_var 1) sa_nil))) (sa_cons (se_var 2) sa_nil)))))))))))
theorem ok_law (T : Tx K mg g base) : FnOk P w0 K mg base (L2.CX P w0) 6 T.a_law T.f_law ["script"] (spW K g 1 u_law) :=
  fn_ok (k := 5) (N := n_law) T.F_law sc_law (fun cdv A outer s H E hr =>
    (ss_cons (ss_set 1 sc_law.nd (se_add se_int (se_call (ok__law_draw T) l__law_draw (hr.mono (by decide)) rfl T.m__law_draw T.F__law_draw.kp T.b__law_draw (takes_of rfl rfl rfl rfl) (sa_cons (se_var 0) (sa_cons se_int (sa_cons se_int (sa_cons se_int sa_nil)))))))
    (ss_cons (ss_set 2 sc_law.nd (se_call (ok__law_days T) l__law_days (hr.mono (by decide)) rfl T.m__law_days T.F__law_days.kp T.b__law_days (takes_of rfl rfl rfl rfl) (sa_cons (se_var 0) (sa_cons se_int sa_nil))))
    (ss_cons (ss_set 3 sc_law.nd (se_call (ok__law_most T) l__law_most (hr.mono (by decide)) rfl T.m__law_most T.F__law_most.kp T.b__law_most (takes_of rfl rfl rfl rfl) (sa_cons (se_var 0) sa_nil)))
    (ss_cons (ss_set 4 sc_law.nd (se_call (ok__law_moves T) l__law_moves (hr.mono (by decide)) rfl T.m__law_moves T.F__law_moves.kp T.b__law_moves (takes_of rfl rfl rfl rfl) (sa_cons (se_var 0) (sa_cons (se_var 2) (sa_cons (se_var 1) (sa_cons (se_var 3) sa_nil))))))
    (ss_cons (ss_set 5 sc_law.nd (se_call (ok__law_position T) l__law_position (hr.mono (by decide)) rfl T.m__law_position T.F__law_position.kp T.b__law_position (takes_of rfl rfl rfl rfl) (sa_cons (se_var 0) (sa_cons se_int (sa_cons (se_var 1) (sa_cons (se_var 3) sa_nil))))))
    (ss_cons (ss_set 6 sc_law.nd (se_add se_int (se_call (ok__law_draw T) l__law_draw (hr.mono (by decide)) rfl T.m__law_draw T.F__law_draw.kp T.b__law_draw (takes_of rfl rfl rfl rfl) (sa_cons (se_var 0) (sa_cons se_int (sa_cons se_int (sa_cons (se_var 2) sa_nil)))))))
    (ss_cons (ss_set 7 sc_law.nd (se_sortedR rfl T.z_sorted (sa_cons (se_lc (own := [("move", 11)]) (i := 11) rfl sc_law.nd (si_seq (se_var 4)) (blkOk_by (N := n_law) (sc := defScope s_law) (by decide +kernel)) (by decide) (fun _ _ _ _ _ => pg_name (i := 11) sc_law.nd rfl (Or.inl rfl)) (fun _ _ _ _ _ => sts_nil) (fun _ _ _ _ _ => (se_call (ok__law_loss T) l__law_loss (hr.mono (by decide)) rfl T.m__law_loss T.F__law_loss.kp T.b__law_loss takes0 (sa_cons (se_var 5) (sa_cons (se_var 11) sa_nil))))) sa_nil)))
    (ss_cons (ss_setLc (j := 8) rfl sc_law.nd rfl rfl (sw_true rfl rfl rfl (by decide +kernel)) (own := [("move", 11)]) (i := 11) (si_seq (se_var 4)) (blkOk_by (N := n_law) (sc := defScope s_law) (by decide +kernel)) (by decide) (fun _ _ _ _ _ => pg_name (i := 11) sc_law.nd rfl (Or.inl rfl)) (fun _ _ _ _ _ => sts_nil) (fun _ _ _ _ _ => (se_list rfl T.z_list (sa_cons (se_var 11) sa_nil))))
    (ss_cons (ss_set 9 sc_law.nd (se_list rfl T.z_list (sa_cons (se_var 5) sa_nil)))
    (ss_cons (ss_if (st_not (st_val (se_call (ok__law_meets T) l__law_meets (hr.mono (by decide)) rfl T.m__law_meets T.F__law_meets.kp T.b__law_meets (takes_of rfl rfl rfl rfl) (sa_cons (se_call (ok_need_of T) l_need_of (hr.mono (by decide)) rfl T.m_need_of T.F_need_of.kp T.b_need_of (takes_of rfl rfl rfl rfl) (sa_cons (se_tup (sa_cons se_str (sa_cons (se_var 6) sa_nil))) (sa_cons (se_var 9) (sa_cons (se_var 8) sa_nil)))) (sa_cons (se_ix (se_var 7) (se_sub (se_var 6) se_int)) (sa_cons se_int sa_nil))))))
    (ss_one (ss_ret se_bl))
    ss_nil)
    (ss_cons (ss_if (st_not (st_val (se_call (ok__law_meets T) l__law_meets (hr.mono (by decide)) rfl T.m__law_meets T.F__law_meets.kp T.b__law_meets (takes_of rfl rfl rfl rfl) (sa_cons (se_call (ok_need_of T) l_need_of (hr.mono (by decide)) rfl T.m_need_of T.F_need_of.kp T.b_need_of (takes_of rfl rfl rfl rfl) (sa_cons (se_tup (sa_cons se_str (sa_cons (se_var 6) sa_nil))) (sa_cons (se_var 9) (sa_cons (se_var 8) sa_nil)))) (sa_cons (se_sum rfl rfl T.z_sum (sa_cons (se_slice (se_var 7) so_none (so_some (se_var 6))) sa_nil)) (sa_cons (se_var 6) sa_nil))))))
    (ss_one (ss_ret se_bl))
    ss_nil)
    (ss_cons (ss_set 10 sc_law.nd (se_ix (se_lst (sa_cons se_str (sa_cons se_str sa_nil))) (se_call (ok__law_draw T) l__law_draw (hr.mono (by decide)) rfl T.m__law_draw T.F__law_draw.kp T.b__law_draw (takes_of rfl rfl rfl rfl) (sa_cons (se_var 0) (sa_cons se_int (sa_cons se_int (sa_cons se_int sa_nil)))))))
    (ss_cons (ss_if (st_not (st_val (se_call (ok__law_refused T) l__law_refused (hr.mono (by decide)) rfl T.m__law_refused T.F__law_refused.kp T.b__law_refused (takes_of rfl rfl rfl rfl) (sa_cons (se_call (ok__law_no_rule T) l__law_no_rule (hr.mono (by decide)) rfl T.m__law_no_rule T.F__law_no_rule.kp T.b__law_no_rule (takes_of rfl rfl rfl rfl) (sa_cons (se_var 0) (sa_cons (se_var 10) (sa_cons (se_var 6) (sa_cons (se_var 2) sa_nil))))) (sa_cons (se_var 9) (sa_cons (se_var 8) sa_nil))))))
    (ss_one (ss_ret se_bl))
    ss_nil)
    (ss_cons (ss_if (SPw.st (sw_or (st_cmp (gc_ne hr.units) (se_var 8) (se_var 4)) (sw_one (st_cmp (gc_ne hr.units) (se_var 9) (se_var 5)))))
    (ss_one (ss_ret se_bl))
    ss_nil)
    (ss_cons (ss_if (st_not (st_val (se_call (ok__law_meets T) l__law_meets (hr.mono (by decide)) rfl T.m__law_meets T.F__law_meets.kp T.b__law_meets (takes_of rfl rfl rfl rfl) (sa_cons (se_call (ok_need_of T) l_need_of (hr.mono (by decide)) rfl T.m_need_of T.F_need_of.kp T.b_need_of (takes_of rfl rfl rfl rfl) (sa_cons (se_tup (sa_cons se_str (sa_cons (se_var 6) sa_nil))) (sa_cons (se_var 9) (sa_cons (se_var 8) sa_nil)))) (sa_cons (se_sum rfl rfl T.z_sum (sa_cons (se_slice (se_var 7) so_none (so_some (se_var 6))) sa_nil)) (sa_cons (se_var 6) sa_nil))))))
    (ss_one (ss_ret se_bl))
    ss_nil)
    (ss_one (ss_ret (se_call (ok__law_meets T) l__law_meets (hr.mono (by decide)) rfl T.m__law_meets T.F__law_meets.kp T.b__law_meets (takes_of rfl rfl rfl rfl) (sa_cons (se_call (ok_need_of T) l_need_of (hr.mono (by decide)) rfl T.m_need_of T.F_need_of.kp T.b_need_of (takes_of rfl rfl rfl rfl) (sa_cons (se_tup (sa_cons se_str (sa_cons (se_var 6) sa_nil))) (sa_cons (se_var 9) (sa_cons (se_var 8) sa_nil)))) (sa_cons (se_ix (se_var 7) (se_sub (se_var 6) se_int)) (sa_cons se_int sa_nil))))))))))))))))))))))
end
theorem all_mk {l : PySem.W.OpenLaw} {w : World} {K : PySem.W.Frag} {h : Heap} {mg : Str → Option Value} {fa : Addr} (X : K.In h) (G : h.Ns mainGlobals mg) (hfa : mg "law" = some (.ref fa))
    {od0 an0 : Option Addr} {sl0 : Array (Option Value)} {oc0 kV0 dc0 pm0 cd0 ct0 : Value} {f0 : Addr}
    (a0 : PySem.W.nsIn K mainGlobals "_law_cell" = some (some (.ref f0))) (l0 : K.lookup f0 = some ⟨oc0, od0, .func (PySem.W.fnOf "_law_cell" "_law_cell" (defArgs s__law_cell) (defBody s__law_cell) (defScope s__law_cell) .none kV0 dc0 pm0 an0 cd0 ct0), sl0⟩) (c0 : PySem.W.codeIn K cd0 "_law_cell" = true) (k0 : PySem.W.keepIn K (.ref f0) = true)
    {od1 an1 : Option Addr} {sl1 : Array (Option Value)} {oc1 kV1 dc1 pm1 cd1 ct1 : Value} {f1 : Addr}
    (a1 : PySem.W.nsIn K mainGlobals "_law_draw" = some (some (.ref f1))) (l1 : K.lookup f1 = some ⟨oc1, od1, .func (PySem.W.fnOf "_law_draw" "_law_draw" (defArgs s__law_draw) (defBody s__law_draw) (defScope s__law_draw) .none kV1 dc1 pm1 an1 cd1 ct1), sl1⟩) (c1 : PySem.W.codeIn K cd1 "_law_draw" = true) (k1 : PySem.W.keepIn K (.ref f1) = true)
    {od2 an2 : Option Addr} {sl2 : Array (Option Value)} {oc2 kV2 dc2 pm2 cd2 ct2 : Value} {f2 : Addr}
    (a2 : PySem.W.nsIn K mainGlobals "_law_days" = some (some (.ref f2))) (l2 : K.lookup f2 = some ⟨oc2, od2, .func (PySem.W.fnOf "_law_days" "_law_days" (defArgs s__law_days) (defBody s__law_days) (defScope s__law_days) .none kV2 dc2 pm2 an2 cd2 ct2), sl2⟩) (c2 : PySem.W.codeIn K cd2 "_law_days" = true) (k2 : PySem.W.keepIn K (.ref f2) = true)
    {od3 an3 : Option Addr} {sl3 : Array (Option Value)} {oc3 kV3 dc3 pm3 cd3 ct3 : Value} {f3 : Addr}
    (a3 : PySem.W.nsIn K mainGlobals "_law_most" = some (some (.ref f3))) (l3 : K.lookup f3 = some ⟨oc3, od3, .func (PySem.W.fnOf "_law_most" "_law_most" (defArgs s__law_most) (defBody s__law_most) (defScope s__law_most) .none kV3 dc3 pm3 an3 cd3 ct3), sl3⟩) (c3 : PySem.W.codeIn K cd3 "_law_most" = true) (k3 : PySem.W.keepIn K (.ref f3) = true)
    {od4 an4 : Option Addr} {sl4 : Array (Option Value)} {oc4 kV4 dc4 pm4 cd4 ct4 : Value} {f4 : Addr}
    (a4 : PySem.W.nsIn K mainGlobals "_law_number" = some (some (.ref f4))) (l4 : K.lookup f4 = some ⟨oc4, od4, .func (PySem.W.fnOf "_law_number" "_law_number" (defArgs s__law_number) (defBody s__law_number) (defScope s__law_number) .none kV4 dc4 pm4 an4 cd4 ct4), sl4⟩) (c4 : PySem.W.codeIn K cd4 "_law_number" = true) (k4 : PySem.W.keepIn K (.ref f4) = true)
    {od5 an5 : Option Addr} {sl5 : Array (Option Value)} {oc5 kV5 dc5 pm5 cd5 ct5 : Value} {f5 : Addr}
    (a5 : PySem.W.nsIn K mainGlobals "_law_moves" = some (some (.ref f5))) (l5 : K.lookup f5 = some ⟨oc5, od5, .func (PySem.W.fnOf "_law_moves" "_law_moves" (defArgs s__law_moves) (defBody s__law_moves) (defScope s__law_moves) .none kV5 dc5 pm5 an5 cd5 ct5), sl5⟩) (c5 : PySem.W.codeIn K cd5 "_law_moves" = true) (k5 : PySem.W.keepIn K (.ref f5) = true)
    {od6 an6 : Option Addr} {sl6 : Array (Option Value)} {oc6 kV6 dc6 pm6 cd6 ct6 : Value} {f6 : Addr}
    (a6 : PySem.W.nsIn K mainGlobals "_law_position" = some (some (.ref f6))) (l6 : K.lookup f6 = some ⟨oc6, od6, .func (PySem.W.fnOf "_law_position" "_law_position" (defArgs s__law_position) (defBody s__law_position) (defScope s__law_position) .none kV6 dc6 pm6 an6 cd6 ct6), sl6⟩) (c6 : PySem.W.codeIn K cd6 "_law_position" = true) (k6 : PySem.W.keepIn K (.ref f6) = true)
    {od7 an7 : Option Addr} {sl7 : Array (Option Value)} {oc7 kV7 dc7 pm7 cd7 ct7 : Value} {f7 : Addr}
    (a7 : PySem.W.nsIn K mainGlobals "_law_divisor" = some (some (.ref f7))) (l7 : K.lookup f7 = some ⟨oc7, od7, .func (PySem.W.fnOf "_law_divisor" "_law_divisor" (defArgs s__law_divisor) (defBody s__law_divisor) (defScope s__law_divisor) .none kV7 dc7 pm7 an7 cd7 ct7), sl7⟩) (c7 : PySem.W.codeIn K cd7 "_law_divisor" = true) (k7 : PySem.W.keepIn K (.ref f7) = true)
    {od8 an8 : Option Addr} {sl8 : Array (Option Value)} {oc8 kV8 dc8 pm8 cd8 ct8 : Value} {f8 : Addr}
    (a8 : PySem.W.nsIn K mainGlobals "_law_whole" = some (some (.ref f8))) (l8 : K.lookup f8 = some ⟨oc8, od8, .func (PySem.W.fnOf "_law_whole" "_law_whole" (defArgs s__law_whole) (defBody s__law_whole) (defScope s__law_whole) .none kV8 dc8 pm8 an8 cd8 ct8), sl8⟩) (c8 : PySem.W.codeIn K cd8 "_law_whole" = true) (k8 : PySem.W.keepIn K (.ref f8) = true)
    {od9 an9 : Option Addr} {sl9 : Array (Option Value)} {oc9 kV9 dc9 pm9 cd9 ct9 : Value} {f9 : Addr}
    (a9 : PySem.W.nsIn K mainGlobals "_law_is_part" = some (some (.ref f9))) (l9 : K.lookup f9 = some ⟨oc9, od9, .func (PySem.W.fnOf "_law_is_part" "_law_is_part" (defArgs s__law_is_part) (defBody s__law_is_part) (defScope s__law_is_part) .none kV9 dc9 pm9 an9 cd9 ct9), sl9⟩) (c9 : PySem.W.codeIn K cd9 "_law_is_part" = true) (k9 : PySem.W.keepIn K (.ref f9) = true)
    {od10 an10 : Option Addr} {sl10 : Array (Option Value)} {oc10 kV10 dc10 pm10 cd10 ct10 : Value} {f10 : Addr}
    (a10 : PySem.W.nsIn K mainGlobals "_law_meets" = some (some (.ref f10))) (l10 : K.lookup f10 = some ⟨oc10, od10, .func (PySem.W.fnOf "_law_meets" "_law_meets" (defArgs s__law_meets) (defBody s__law_meets) (defScope s__law_meets) .none kV10 dc10 pm10 an10 cd10 ct10), sl10⟩) (c10 : PySem.W.codeIn K cd10 "_law_meets" = true) (k10 : PySem.W.keepIn K (.ref f10) = true)
    {od11 an11 : Option Addr} {sl11 : Array (Option Value)} {oc11 kV11 dc11 pm11 cd11 ct11 : Value} {f11 : Addr}
    (a11 : PySem.W.nsIn K mainGlobals "loss_on" = some (some (.ref f11))) (l11 : K.lookup f11 = some ⟨oc11, od11, .func (PySem.W.fnOf "loss_on" "loss_on" (defArgs s_loss_on) (defBody s_loss_on) (defScope s_loss_on) .none kV11 dc11 pm11 an11 cd11 ct11), sl11⟩) (c11 : PySem.W.codeIn K cd11 "loss_on" = true) (k11 : PySem.W.keepIn K (.ref f11) = true)
    {od12 an12 : Option Addr} {sl12 : Array (Option Value)} {oc12 kV12 dc12 pm12 cd12 ct12 : Value} {f12 : Addr}
    (a12 : PySem.W.nsIn K mainGlobals "losses_of" = some (some (.ref f12))) (l12 : K.lookup f12 = some ⟨oc12, od12, .func (PySem.W.fnOf "losses_of" "losses_of" (defArgs s_losses_of) (defBody s_losses_of) (defScope s_losses_of) .none kV12 dc12 pm12 an12 cd12 ct12), sl12⟩) (c12 : PySem.W.codeIn K cd12 "losses_of" = true) (k12 : PySem.W.keepIn K (.ref f12) = true)
    {od13 an13 : Option Addr} {sl13 : Array (Option Value)} {oc13 kV13 dc13 pm13 cd13 ct13 : Value} {f13 : Addr}
    (a13 : PySem.W.nsIn K mainGlobals "worst_days" = some (some (.ref f13))) (l13 : K.lookup f13 = some ⟨oc13, od13, .func (PySem.W.fnOf "worst_days" "worst_days" (defArgs s_worst_days) (defBody s_worst_days) (defScope s_worst_days) .none kV13 dc13 pm13 an13 cd13 ct13), sl13⟩) (c13 : PySem.W.codeIn K cd13 "worst_days" = true) (k13 : PySem.W.keepIn K (.ref f13) = true)
    {od14 an14 : Option Addr} {sl14 : Array (Option Value)} {oc14 kV14 dc14 pm14 cd14 ct14 : Value} {f14 : Addr}
    (a14 : PySem.W.nsIn K mainGlobals "divisor" = some (some (.ref f14))) (l14 : K.lookup f14 = some ⟨oc14, od14, .func (PySem.W.fnOf "divisor" "divisor" (defArgs s_divisor) (defBody s_divisor) (defScope s_divisor) .none kV14 dc14 pm14 an14 cd14 ct14), sl14⟩) (c14 : PySem.W.codeIn K cd14 "divisor" = true) (k14 : PySem.W.keepIn K (.ref f14) = true)
    {od15 an15 : Option Addr} {sl15 : Array (Option Value)} {oc15 kV15 dc15 pm15 cd15 ct15 : Value} {f15 : Addr}
    (a15 : PySem.W.nsIn K mainGlobals "part" = some (some (.ref f15))) (l15 : K.lookup f15 = some ⟨oc15, od15, .func (PySem.W.fnOf "part" "part" (defArgs s_part) (defBody s_part) (defScope s_part) .none kV15 dc15 pm15 an15 cd15 ct15), sl15⟩) (c15 : PySem.W.codeIn K cd15 "part" = true) (k15 : PySem.W.keepIn K (.ref f15) = true)
    {od16 an16 : Option Addr} {sl16 : Array (Option Value)} {oc16 kV16 dc16 pm16 cd16 ct16 : Value} {f16 : Addr}
    (a16 : PySem.W.nsIn K mainGlobals "under" = some (some (.ref f16))) (l16 : K.lookup f16 = some ⟨oc16, od16, .func (PySem.W.fnOf "under" "under" (defArgs s_under) (defBody s_under) (defScope s_under) .none kV16 dc16 pm16 an16 cd16 ct16), sl16⟩) (c16 : PySem.W.codeIn K cd16 "under" = true) (k16 : PySem.W.keepIn K (.ref f16) = true)
    {od17 an17 : Option Addr} {sl17 : Array (Option Value)} {oc17 kV17 dc17 pm17 cd17 ct17 : Value} {f17 : Addr}
    (a17 : PySem.W.nsIn K mainGlobals "need_of" = some (some (.ref f17))) (l17 : K.lookup f17 = some ⟨oc17, od17, .func (PySem.W.fnOf "need_of" "need_of" (defArgs s_need_of) (defBody s_need_of) (defScope s_need_of) .none kV17 dc17 pm17 an17 cd17 ct17), sl17⟩) (c17 : PySem.W.codeIn K cd17 "need_of" = true) (k17 : PySem.W.keepIn K (.ref f17) = true)
    {od18 an18 : Option Addr} {sl18 : Array (Option Value)} {oc18 kV18 dc18 pm18 cd18 ct18 : Value} {f18 : Addr}
    (a18 : PySem.W.nsIn K mainGlobals "_law_of_another" = some (some (.ref f18))) (l18 : K.lookup f18 = some ⟨oc18, od18, .func (PySem.W.fnOf "_law_of_another" "_law_of_another" (defArgs s__law_of_another) (defBody s__law_of_another) (defScope s__law_of_another) .none kV18 dc18 pm18 an18 cd18 ct18), sl18⟩) (c18 : PySem.W.codeIn K cd18 "_law_of_another" = true) (k18 : PySem.W.keepIn K (.ref f18) = true)
    {od19 an19 : Option Addr} {sl19 : Array (Option Value)} {oc19 kV19 dc19 pm19 cd19 ct19 : Value} {f19 : Addr}
    (a19 : PySem.W.nsIn K mainGlobals "_law_refused" = some (some (.ref f19))) (l19 : K.lookup f19 = some ⟨oc19, od19, .func (PySem.W.fnOf "_law_refused" "_law_refused" (defArgs s__law_refused) (defBody s__law_refused) (defScope s__law_refused) .none kV19 dc19 pm19 an19 cd19 ct19), sl19⟩) (c19 : PySem.W.codeIn K cd19 "_law_refused" = true) (k19 : PySem.W.keepIn K (.ref f19) = true)
    {od20 an20 : Option Addr} {sl20 : Array (Option Value)} {oc20 kV20 dc20 pm20 cd20 ct20 : Value} {f20 : Addr}
    (a20 : PySem.W.nsIn K mainGlobals "_law_loss" = some (some (.ref f20))) (l20 : K.lookup f20 = some ⟨oc20, od20, .func (PySem.W.fnOf "_law_loss" "_law_loss" (defArgs s__law_loss) (defBody s__law_loss) (defScope s__law_loss) .none kV20 dc20 pm20 an20 cd20 ct20), sl20⟩) (c20 : PySem.W.codeIn K cd20 "_law_loss" = true) (k20 : PySem.W.keepIn K (.ref f20) = true)
    {od21 an21 : Option Addr} {sl21 : Array (Option Value)} {oc21 kV21 dc21 pm21 cd21 ct21 : Value} {f21 : Addr}
    (a21 : PySem.W.nsIn K mainGlobals "_law_other_word" = some (some (.ref f21))) (l21 : K.lookup f21 = some ⟨oc21, od21, .func (PySem.W.fnOf "_law_other_word" "_law_other_word" (defArgs s__law_other_word) (defBody s__law_other_word) (defScope s__law_other_word) .none kV21 dc21 pm21 an21 cd21 ct21), sl21⟩) (c21 : PySem.W.codeIn K cd21 "_law_other_word" = true) (k21 : PySem.W.keepIn K (.ref f21) = true)
    {od22 an22 : Option Addr} {sl22 : Array (Option Value)} {oc22 kV22 dc22 pm22 cd22 ct22 : Value} {f22 : Addr}
    (a22 : PySem.W.nsIn K mainGlobals "_law_great" = some (some (.ref f22))) (l22 : K.lookup f22 = some ⟨oc22, od22, .func (PySem.W.fnOf "_law_great" "_law_great" (defArgs s__law_great) (defBody s__law_great) (defScope s__law_great) .none kV22 dc22 pm22 an22 cd22 ct22), sl22⟩) (c22 : PySem.W.codeIn K cd22 "_law_great" = true) (k22 : PySem.W.keepIn K (.ref f22) = true)
    {od23 an23 : Option Addr} {sl23 : Array (Option Value)} {oc23 kV23 dc23 pm23 cd23 ct23 : Value} {f23 : Addr}
    (a23 : PySem.W.nsIn K mainGlobals "_law_no_rule" = some (some (.ref f23))) (l23 : K.lookup f23 = some ⟨oc23, od23, .func (PySem.W.fnOf "_law_no_rule" "_law_no_rule" (defArgs s__law_no_rule) (defBody s__law_no_rule) (defScope s__law_no_rule) .none kV23 dc23 pm23 an23 cd23 ct23), sl23⟩) (c23 : PySem.W.codeIn K cd23 "_law_no_rule" = true) (k23 : PySem.W.keepIn K (.ref f23) = true)
    {od24 an24 : Option Addr} {sl24 : Array (Option Value)} {oc24 kV24 dc24 pm24 cd24 ct24 : Value} {f24 : Addr}
    (a24 : PySem.W.nsIn K mainGlobals "law" = some (some (.ref f24))) (l24 : K.lookup f24 = some ⟨oc24, od24, .func (PySem.W.fnOf "law" "law" (defArgs s_law) (defBody s_law) (defScope s_law) .none kV24 dc24 pm24 an24 cd24 ct24), sl24⟩) (c24 : PySem.W.codeIn K cd24 "law" = true) (k24 : PySem.W.keepIn K (.ref f24) = true)
    (zValueError : PySem.W.nsIn K mainGlobals "ValueError" = some none)
    (zabs : PySem.W.nsIn K mainGlobals "abs" = some none)
    (zbool : PySem.W.nsIn K mainGlobals "bool" = some none)
    (zint : PySem.W.nsIn K mainGlobals "int" = some none)
    (zisinstance : PySem.W.nsIn K mainGlobals "isinstance" = some none)
    (zlen : PySem.W.nsIn K mainGlobals "len" = some none)
    (zlist : PySem.W.nsIn K mainGlobals "list" = some none)
    (zrange : PySem.W.nsIn K mainGlobals "range" = some none)
    (zsorted : PySem.W.nsIn K mainGlobals "sorted" = some none)
    (zsum : PySem.W.nsIn K mainGlobals "sum" = some none)
    (ztuple : PySem.W.nsIn K mainGlobals "tuple" = some none)
    {xBare : Addr} (xgBare : PySem.W.nsIn K mainGlobals "Bare" = some (some (.ref xBare)))
    {xClosed : Addr} (xgClosed : PySem.W.nsIn K mainGlobals "Closed" = some (some (.ref xClosed)))
    {xGone : Addr} (xgGone : PySem.W.nsIn K mainGlobals "Gone" = some (some (.ref xGone)))
    {xNoAnswer : Addr} (xgNoAnswer : PySem.W.nsIn K mainGlobals "NoAnswer" = some (some (.ref xNoAnswer)))
    {xNoDeal : Addr} (xgNoDeal : PySem.W.nsIn K mainGlobals "NoDeal" = some (some (.ref xNoDeal)))
    {xNoLayer : Addr} (xgNoLayer : PySem.W.nsIn K mainGlobals "NoLayer" = some (some (.ref xNoLayer)))
    {xNoMember : Addr} (xgNoMember : PySem.W.nsIn K mainGlobals "NoMember" = some (some (.ref xNoMember)))
    {xNoPart : Addr} (xgNoPart : PySem.W.nsIn K mainGlobals "NoPart" = some (some (.ref xNoPart)))
    (xxNoPart : PySem.W.excIn K xNoPart [.type "ValueError", .type "Exception", .type "BaseException", .type "object"] "ValueError.__new__" = true) (xkNoPart : PySem.W.keepIn K (.ref xNoPart) = true) (xbNoPart : PySem.W.subIn K (.ref xNoPart) (.type "BaseException") = some true) (xtNoPart : PySem.W.typeIn K (.ref xNoPart) = some (.type "type"))
    {xNoRule : Addr} (xgNoRule : PySem.W.nsIn K mainGlobals "NoRule" = some (some (.ref xNoRule)))
    (xxNoRule : PySem.W.excIn K xNoRule [.type "ValueError", .type "Exception", .type "BaseException", .type "object"] "ValueError.__new__" = true) (xkNoRule : PySem.W.keepIn K (.ref xNoRule) = true) (xbNoRule : PySem.W.subIn K (.ref xNoRule) (.type "BaseException") = some true) (xtNoRule : PySem.W.typeIn K (.ref xNoRule) = some (.type "type"))
    {xNoTerms : Addr} (xgNoTerms : PySem.W.nsIn K mainGlobals "NoTerms" = some (some (.ref xNoTerms)))
    {xOut : Addr} (xgOut : PySem.W.nsIn K mainGlobals "Out" = some (some (.ref xOut)))
    {xPoor : Addr} (xgPoor : PySem.W.nsIn K mainGlobals "Poor" = some (some (.ref xPoor)))
    {xQuitsError : Addr} (xgQuitsError : PySem.W.nsIn K mainGlobals "QuitsError" = some (some (.ref xQuitsError)))
    {xRinged : Addr} (xgRinged : PySem.W.nsIn K mainGlobals "Ringed" = some (some (.ref xRinged)))
    {xSettled : Addr} (xgSettled : PySem.W.nsIn K mainGlobals "Settled" = some (some (.ref xSettled)))
    {xStanding : Addr} (xgStanding : PySem.W.nsIn K mainGlobals "Standing" = some (some (.ref xStanding)))
    {xTooMuch : Addr} (xgTooMuch : PySem.W.nsIn K mainGlobals "TooMuch" = some (some (.ref xTooMuch)))
    {xUnclosed : Addr} (xgUnclosed : PySem.W.nsIn K mainGlobals "Unclosed" = some (some (.ref xUnclosed)))
    (q0NoPart : PySem.W.findIn K (.ref xNoPart) "__getattribute__" = some (some (.builtin "BaseException.__getattribute__")))
    (q1NoPart : PySem.W.findIn K (.ref xNoPart) "__getattr__" = some none)
    (q2NoPart : PySem.W.subIn K (.ref xNoPart) (.type "BaseException") = some true)
    (q3NoPart : PySem.W.hasDictIn K xNoPart = true)
    (q4NoPart : PySem.W.findIn K (.ref xNoPart) "__class__" = some (some (.builtin "object.__class__")))
    (q5NoPart : PySem.W.specialIn K (.builtin "object.__class__") "__get__" = some (some (.builtin "getset_descriptor.__get__")))
    (q6NoPart : PySem.W.takesIn K (.builtin "object.__class__") = some true)
    (q7NoPart : PySem.W.mroIn K xNoPart (.type "object") = some true)
    (hNoPartBare : PySem.W.kitOne K (.ref xNoPart) (.ref xBare) = some false)
    (hNoPartClosed : PySem.W.kitOne K (.ref xNoPart) (.ref xClosed) = some false)
    (hNoPartGone : PySem.W.kitOne K (.ref xNoPart) (.ref xGone) = some false)
    (hNoPartNoAnswer : PySem.W.kitOne K (.ref xNoPart) (.ref xNoAnswer) = some false)
    (hNoPartNoDeal : PySem.W.kitOne K (.ref xNoPart) (.ref xNoDeal) = some false)
    (hNoPartNoLayer : PySem.W.kitOne K (.ref xNoPart) (.ref xNoLayer) = some false)
    (hNoPartNoMember : PySem.W.kitOne K (.ref xNoPart) (.ref xNoMember) = some false)
    (hNoPartNoPart : PySem.W.kitOne K (.ref xNoPart) (.ref xNoPart) = some true)
    (hNoPartNoRule : PySem.W.kitOne K (.ref xNoPart) (.ref xNoRule) = some false)
    (hNoPartNoTerms : PySem.W.kitOne K (.ref xNoPart) (.ref xNoTerms) = some false)
    (hNoPartOut : PySem.W.kitOne K (.ref xNoPart) (.ref xOut) = some false)
    (hNoPartPoor : PySem.W.kitOne K (.ref xNoPart) (.ref xPoor) = some false)
    (hNoPartRinged : PySem.W.kitOne K (.ref xNoPart) (.ref xRinged) = some false)
    (hNoPartSettled : PySem.W.kitOne K (.ref xNoPart) (.ref xSettled) = some false)
    (hNoPartStanding : PySem.W.kitOne K (.ref xNoPart) (.ref xStanding) = some false)
    (hNoPartTooMuch : PySem.W.kitOne K (.ref xNoPart) (.ref xTooMuch) = some false)
    (hNoPartUnclosed : PySem.W.kitOne K (.ref xNoPart) (.ref xUnclosed) = some false)
    (hNoPartValueError : PySem.W.kitOne K (.ref xNoPart) (.type "ValueError") = some true)
    (nNoPartQuitsError : PySem.W.exmOne K (.ref xNoPart) (.ref xQuitsError) = some true)
    (q0NoRule : PySem.W.findIn K (.ref xNoRule) "__getattribute__" = some (some (.builtin "BaseException.__getattribute__")))
    (q1NoRule : PySem.W.findIn K (.ref xNoRule) "__getattr__" = some none)
    (q2NoRule : PySem.W.subIn K (.ref xNoRule) (.type "BaseException") = some true)
    (q3NoRule : PySem.W.hasDictIn K xNoRule = true)
    (q4NoRule : PySem.W.findIn K (.ref xNoRule) "__class__" = some (some (.builtin "object.__class__")))
    (q5NoRule : PySem.W.specialIn K (.builtin "object.__class__") "__get__" = some (some (.builtin "getset_descriptor.__get__")))
    (q6NoRule : PySem.W.takesIn K (.builtin "object.__class__") = some true)
    (q7NoRule : PySem.W.mroIn K xNoRule (.type "object") = some true)
    (hNoRuleBare : PySem.W.kitOne K (.ref xNoRule) (.ref xBare) = some false)
    (hNoRuleClosed : PySem.W.kitOne K (.ref xNoRule) (.ref xClosed) = some false)
    (hNoRuleGone : PySem.W.kitOne K (.ref xNoRule) (.ref xGone) = some false)
    (hNoRuleNoAnswer : PySem.W.kitOne K (.ref xNoRule) (.ref xNoAnswer) = some false)
    (hNoRuleNoDeal : PySem.W.kitOne K (.ref xNoRule) (.ref xNoDeal) = some false)
    (hNoRuleNoLayer : PySem.W.kitOne K (.ref xNoRule) (.ref xNoLayer) = some false)
    (hNoRuleNoMember : PySem.W.kitOne K (.ref xNoRule) (.ref xNoMember) = some false)
    (hNoRuleNoPart : PySem.W.kitOne K (.ref xNoRule) (.ref xNoPart) = some false)
    (hNoRuleNoRule : PySem.W.kitOne K (.ref xNoRule) (.ref xNoRule) = some true)
    (hNoRuleNoTerms : PySem.W.kitOne K (.ref xNoRule) (.ref xNoTerms) = some false)
    (hNoRuleOut : PySem.W.kitOne K (.ref xNoRule) (.ref xOut) = some false)
    (hNoRulePoor : PySem.W.kitOne K (.ref xNoRule) (.ref xPoor) = some false)
    (hNoRuleRinged : PySem.W.kitOne K (.ref xNoRule) (.ref xRinged) = some false)
    (hNoRuleSettled : PySem.W.kitOne K (.ref xNoRule) (.ref xSettled) = some false)
    (hNoRuleStanding : PySem.W.kitOne K (.ref xNoRule) (.ref xStanding) = some false)
    (hNoRuleTooMuch : PySem.W.kitOne K (.ref xNoRule) (.ref xTooMuch) = some false)
    (hNoRuleUnclosed : PySem.W.kitOne K (.ref xNoRule) (.ref xUnclosed) = some false)
    (hNoRuleValueError : PySem.W.kitOne K (.ref xNoRule) (.type "ValueError") = some true)
    (nNoRuleQuitsError : PySem.W.exmOne K (.ref xNoRule) (.ref xQuitsError) = some true)
    {cW PW : Addr} (tW : PySem.W.tabIn K "worst_days" = some (cW, PW)) (hW : PySem.W.codeHdIn K cW PW = true) {ts : List Addr} (mW : PW ∈ ts) (nW : K.lookup PW = none) :
    ∃ (fd : FuncData) (g : Gi) (c P : Addr), PySem.W.codeHdIn K c P = true ∧ P ∈ ts ∧ K.lookup P = none ∧ g.cl "worst_days.<locals>.<lambda>" = P ∧ (∀ (s : Shared) (v : Value), BindsTo s fd ⟨[v], []⟩ [("script", v)]) ∧ ∀ base : Heap, K.In base → base.Ns mainGlobals mg → LamX.TabB base mg c P → FnOk l.prog w K mg base (L2.CX l.prog w) 6 fa fd ["script"] (spW K g 1 u_law) := by
  have e := hfa.symm.trans (PySem.W.mg_of X G a24)
  cases e
  have F0 := fun_mk (st := s__law_cell) l0 c0 k0
  have F1 := fun_mk (st := s__law_draw) l1 c1 k1
  have F2 := fun_mk (st := s__law_days) l2 c2 k2
  have F3 := fun_mk (st := s__law_most) l3 c3 k3
  have F4 := fun_mk (st := s__law_number) l4 c4 k4
  have F5 := fun_mk (st := s__law_moves) l5 c5 k5
  have F6 := fun_mk (st := s__law_position) l6 c6 k6
  have F7 := fun_mk (st := s__law_divisor) l7 c7 k7
  have F8 := fun_mk (st := s__law_whole) l8 c8 k8
  have F9 := fun_mk (st := s__law_is_part) l9 c9 k9
  have F10 := fun_mk (st := s__law_meets) l10 c10 k10
  have F11 := fun_mk (st := s_loss_on) l11 c11 k11
  have F12 := fun_mk (st := s_losses_of) l12 c12 k12
  have F13 := fun_mk (st := s_worst_days) l13 c13 k13
  have F14 := fun_mk (st := s_divisor) l14 c14 k14
  have F15 := fun_mk (st := s_part) l15 c15 k15
  have F16 := fun_mk (st := s_under) l16 c16 k16
  have F17 := fun_mk (st := s_need_of) l17 c17 k17
  have F18 := fun_mk (st := s__law_of_another) l18 c18 k18
  have F19 := fun_mk (st := s__law_refused) l19 c19 k19
  have F20 := fun_mk (st := s__law_loss) l20 c20 k20
  have F21 := fun_mk (st := s__law_other_word) l21 c21 k21
  have F22 := fun_mk (st := s__law_great) l22 c22 k22
  have F23 := fun_mk (st := s__law_no_rule) l23 c23 k23
  have F24 := fun_mk (st := s_law) l24 c24 k24
  let T : ∀ base : Heap, LamX.TabB base mg cW PW → Tx K mg ⟨fun s => if s = "worst_days.<locals>.<lambda>" then PW else if s = "Bare" then xBare else if s = "Closed" then xClosed else if s = "Gone" then xGone else if s = "NoAnswer" then xNoAnswer else if s = "NoDeal" then xNoDeal else if s = "NoLayer" then xNoLayer else if s = "NoMember" then xNoMember else if s = "NoPart" then xNoPart else if s = "NoRule" then xNoRule else if s = "NoTerms" then xNoTerms else if s = "Out" then xOut else if s = "Poor" then xPoor else if s = "QuitsError" then xQuitsError else if s = "Ringed" then xRinged else if s = "Settled" then xSettled else if s = "Standing" then xStanding else if s = "TooMuch" then xTooMuch else if s = "Unclosed" then xUnclosed else 0⟩ base := fun base hTB => ⟨f0, _, F0, F0.binds (ps := ["script", "k"]) (fun _ _ _ _ _ _ us hl => match us, hl with | [_, _], _ => rfl), PySem.W.mg_of X G a0,
    f1, _, F1, F1.binds (ps := ["script", "k", "prime", "many"]) (fun _ _ _ _ _ _ us hl => match us, hl with | [_, _, _, _], _ => rfl), PySem.W.mg_of X G a1,
    f2, _, F2, F2.binds (ps := ["script", "most"]) (fun _ _ _ _ _ _ us hl => match us, hl with | [_, _], _ => rfl), PySem.W.mg_of X G a2,
    f3, _, F3, F3.binds (ps := ["script"]) (fun _ _ _ _ _ _ us hl => match us, hl with | [_], _ => rfl), PySem.W.mg_of X G a3,
    f4, _, F4, F4.binds (ps := ["script", "k", "most"]) (fun _ _ _ _ _ _ us hl => match us, hl with | [_, _, _], _ => rfl), PySem.W.mg_of X G a4,
    f5, _, F5, F5.binds (ps := ["script", "days", "wares", "most"]) (fun _ _ _ _ _ _ us hl => match us, hl with | [_, _, _, _], _ => rfl), PySem.W.mg_of X G a5,
    f6, _, F6, F6.binds (ps := ["script", "k", "wares", "most"]) (fun _ _ _ _ _ _ us hl => match us, hl with | [_, _, _, _], _ => rfl), PySem.W.mg_of X G a6,
    f7, _, F7, F7.binds (ps := ["one", "other"]) (fun _ _ _ _ _ _ us hl => match us, hl with | [_, _], _ => rfl), PySem.W.mg_of X G a7,
    f8, _, F8, F8.binds (ps := ["thing"]) (fun _ _ _ _ _ _ us hl => match us, hl with | [_], _ => rfl), PySem.W.mg_of X G a8,
    f9, _, F9, F9.binds (ps := ["thing"]) (fun _ _ _ _ _ _ us hl => match us, hl with | [_], _ => rfl), PySem.W.mg_of X G a9,
    f10, _, F10, F10.binds (ps := ["told", "due", "number"]) (fun _ _ _ _ _ _ us hl => match us, hl with | [_, _, _], _ => rfl), PySem.W.mg_of X G a10,
    f11, _, F11, F11.binds (ps := ["position", "move"]) (fun _ _ _ _ _ _ us hl => match us, hl with | [_, _], _ => rfl), PySem.W.mg_of X G a11,
    f12, _, F12, F12.binds (ps := ["position", "moves"]) (fun _ _ _ _ _ _ us hl => match us, hl with | [_, _], _ => rfl), PySem.W.mg_of X G a12,
    f13, _, F13, F13.binds (ps := ["position", "moves", "k"]) (fun _ _ _ _ _ _ us hl => match us, hl with | [_, _, _], _ => rfl), PySem.W.mg_of X G a13,
    f14, _, F14, F14.binds (ps := ["one", "other"]) (fun _ _ _ _ _ _ us hl => match us, hl with | [_, _], _ => rfl), PySem.W.mg_of X G a14,
    f15, _, F15, F15.binds (ps := ["top", "bottom"]) (fun _ _ _ _ _ _ us hl => match us, hl with | [_, _], _ => rfl), PySem.W.mg_of X G a15,
    f16, _, F16, F16.binds (ps := ["one", "other"]) (fun _ _ _ _ _ _ us hl => match us, hl with | [_, _], _ => rfl), PySem.W.mg_of X G a16,
    f17, _, F17, F17.binds (ps := ["rule", "position", "moves"]) (fun _ _ _ _ _ _ us hl => match us, hl with | [_, _, _], _ => rfl), PySem.W.mg_of X G a17,
    f18, _, F18, F18.binds (ps := ["error"]) (fun _ _ _ _ _ _ us hl => match us, hl with | [_], _ => rfl), PySem.W.mg_of X G a18,
    f19, _, F19, F19.binds (ps := ["rule", "position", "moves"]) (fun _ _ _ _ _ _ us hl => match us, hl with | [_, _, _], _ => rfl), PySem.W.mg_of X G a19,
    f20, _, F20, F20.binds (ps := ["position", "move"]) (fun _ _ _ _ _ _ us hl => match us, hl with | [_, _], _ => rfl), PySem.W.mg_of X G a20,
    f21, _, F21, F21.binds (ps := ["script", "word"]) (fun _ _ _ _ _ _ us hl => match us, hl with | [_, _], _ => rfl), PySem.W.mg_of X G a21,
    f22, _, F22, F22.binds (ps := ["script", "k", "most"]) (fun _ _ _ _ _ _ us hl => match us, hl with | [_, _, _], _ => rfl), PySem.W.mg_of X G a22,
    f23, _, F23, F23.binds (ps := ["script", "word", "number", "days"]) (fun _ _ _ _ _ _ us hl => match us, hl with | [_, _, _, _], _ => rfl), PySem.W.mg_of X G a23,
    fa, _, F24, F24.binds (ps := ["script"]) (fun _ _ _ _ _ _ us hl => match us, hl with | [_], _ => rfl), PySem.W.mg_of X G a24,
    PySem.W.mg_none_of X G zValueError,
    PySem.W.mg_none_of X G zabs,
    PySem.W.mg_none_of X G zbool,
    PySem.W.mg_none_of X G zint,
    PySem.W.mg_none_of X G zisinstance,
    PySem.W.mg_none_of X G zlen,
    PySem.W.mg_none_of X G zlist,
    PySem.W.mg_none_of X G zrange,
    PySem.W.mg_none_of X G zsorted,
    PySem.W.mg_none_of X G zsum,
    PySem.W.mg_none_of X G ztuple,
    PySem.W.mg_of X G xgBare,
    PySem.W.mg_of X G xgClosed,
    PySem.W.mg_of X G xgGone,
    PySem.W.mg_of X G xgNoAnswer,
    PySem.W.mg_of X G xgNoDeal,
    PySem.W.mg_of X G xgNoLayer,
    PySem.W.mg_of X G xgNoMember,
    PySem.W.mg_of X G xgNoPart, xxNoPart, xkNoPart, xbNoPart, xtNoPart,
    PySem.W.mg_of X G xgNoRule, xxNoRule, xkNoRule, xbNoRule, xtNoRule,
    PySem.W.mg_of X G xgNoTerms,
    PySem.W.mg_of X G xgOut,
    PySem.W.mg_of X G xgPoor,
    PySem.W.mg_of X G xgQuitsError,
    PySem.W.mg_of X G xgRinged,
    PySem.W.mg_of X G xgSettled,
    PySem.W.mg_of X G xgStanding,
    PySem.W.mg_of X G xgTooMuch,
    PySem.W.mg_of X G xgUnclosed,
    ⟨q0NoPart, q1NoPart, q2NoPart, q3NoPart, q4NoPart, q5NoPart, q6NoPart, q7NoPart⟩,
    hNoPartBare,
    hNoPartClosed,
    hNoPartGone,
    hNoPartNoAnswer,
    hNoPartNoDeal,
    hNoPartNoLayer,
    hNoPartNoMember,
    hNoPartNoPart,
    hNoPartNoRule,
    hNoPartNoTerms,
    hNoPartOut,
    hNoPartPoor,
    hNoPartRinged,
    hNoPartSettled,
    hNoPartStanding,
    hNoPartTooMuch,
    hNoPartUnclosed,
    hNoPartValueError,
    nNoPartQuitsError,
    ⟨q0NoRule, q1NoRule, q2NoRule, q3NoRule, q4NoRule, q5NoRule, q6NoRule, q7NoRule⟩,
    hNoRuleBare,
    hNoRuleClosed,
    hNoRuleGone,
    hNoRuleNoAnswer,
    hNoRuleNoDeal,
    hNoRuleNoLayer,
    hNoRuleNoMember,
    hNoRuleNoPart,
    hNoRuleNoRule,
    hNoRuleNoTerms,
    hNoRuleOut,
    hNoRulePoor,
    hNoRuleRinged,
    hNoRuleSettled,
    hNoRuleStanding,
    hNoRuleTooMuch,
    hNoRuleUnclosed,
    hNoRuleValueError,
    nNoRuleQuitsError,
    cW,
    PW,
    tab_code tW a13 l13,
    rfl,
    hTB⟩
  exact ⟨_, ⟨fun s => if s = "worst_days.<locals>.<lambda>" then PW else if s = "Bare" then xBare else if s = "Closed" then xClosed else if s = "Gone" then xGone else if s = "NoAnswer" then xNoAnswer else if s = "NoDeal" then xNoDeal else if s = "NoLayer" then xNoLayer else if s = "NoMember" then xNoMember else if s = "NoPart" then xNoPart else if s = "NoRule" then xNoRule else if s = "NoTerms" then xNoTerms else if s = "Out" then xOut else if s = "Poor" then xPoor else if s = "QuitsError" then xQuitsError else if s = "Ringed" then xRinged else if s = "Settled" then xSettled else if s = "Standing" then xStanding else if s = "TooMuch" then xTooMuch else if s = "Unclosed" then xUnclosed else 0⟩, cW, PW, hW, mW, nW, rfl, fun s v => .of_eq rfl, fun base _ _ hTB => ok_law (T base hTB)⟩
end Lw
open PySem PySem.W PyProof.Rows
set_option maxRecDepth 100000 in
set_option maxHeartbeats 0 in
theorem PySem.Challenge.cw_quits_k48_needs_holds : PySem.Challenge.rw_quits_k48_needs.Holds := by
  w_on; o_law; k_head; (case hw => w_witness2)
  k_fill
  refine Ab.law_walkT (l := PySem.Challenge.rw_quits_k48_needs) (k := 6) (wf := Lw.u_law) (qn := "worst_days.<locals>.<lambda>") rfl rfl ⟨rfl, by decide, by decide⟩ (fun w h Y => PySem.W.km_in_of Y) (fun w h Y => PySem.W.km_tabs_of Y) ?F (by rw [Lw.uw_law]; exact Lw.law_true)
  case F =>
    intro w mg fa h KX G hmg
    refine' Lw.all_mk KX G hmg ?a0 ?l0 ?c0 ?k0 ?a1 ?l1 ?c1 ?k1 ?a2 ?l2 ?c2 ?k2 ?a3 ?l3 ?c3 ?k3 ?a4 ?l4 ?c4 ?k4 ?a5 ?l5 ?c5 ?k5 ?a6 ?l6 ?c6 ?k6 ?a7 ?l7 ?c7 ?k7 ?a8 ?l8 ?c8 ?k8 ?a9 ?l9 ?c9 ?k9 ?a10 ?l10 ?c10 ?k10 ?a11 ?l11 ?c11 ?k11 ?a12 ?l12 ?c12 ?k12 ?a13 ?l13 ?c13 ?k13 ?a14 ?l14 ?c14 ?k14 ?a15 ?l15 ?c15 ?k15 ?a16 ?l16 ?c16 ?k16 ?a17 ?l17 ?c17 ?k17 ?a18 ?l18 ?c18 ?k18 ?a19 ?l19 ?c19 ?k19 ?a20 ?l20 ?c20 ?k20 ?a21 ?l21 ?c21 ?k21 ?a22 ?l22 ?c22 ?k22 ?a23 ?l23 ?c23 ?k23 ?a24 ?l24 ?c24 ?k24 ?zValueError ?zabs ?zbool ?zint ?zisinstance ?zlen ?zlist ?zrange ?zsorted ?zsum ?ztuple ?xgBare ?xgClosed ?xgGone ?xgNoAnswer ?xgNoDeal ?xgNoLayer ?xgNoMember ?xgNoPart ?xxNoPart ?xkNoPart ?xbNoPart ?xtNoPart ?xgNoRule ?xxNoRule ?xkNoRule ?xbNoRule ?xtNoRule ?xgNoTerms ?xgOut ?xgPoor ?xgQuitsError ?xgRinged ?xgSettled ?xgStanding ?xgTooMuch ?xgUnclosed ?q0NoPart ?q1NoPart ?q2NoPart ?q3NoPart ?q4NoPart ?q5NoPart ?q6NoPart ?q7NoPart ?hNoPartBare ?hNoPartClosed ?hNoPartGone ?hNoPartNoAnswer ?hNoPartNoDeal ?hNoPartNoLayer ?hNoPartNoMember ?hNoPartNoPart ?hNoPartNoRule ?hNoPartNoTerms ?hNoPartOut ?hNoPartPoor ?hNoPartRinged ?hNoPartSettled ?hNoPartStanding ?hNoPartTooMuch ?hNoPartUnclosed ?hNoPartValueError ?nNoPartQuitsError ?q0NoRule ?q1NoRule ?q2NoRule ?q3NoRule ?q4NoRule ?q5NoRule ?q6NoRule ?q7NoRule ?hNoRuleBare ?hNoRuleClosed ?hNoRuleGone ?hNoRuleNoAnswer ?hNoRuleNoDeal ?hNoRuleNoLayer ?hNoRuleNoMember ?hNoRuleNoPart ?hNoRuleNoRule ?hNoRuleNoTerms ?hNoRuleOut ?hNoRulePoor ?hNoRuleRinged ?hNoRuleSettled ?hNoRuleStanding ?hNoRuleTooMuch ?hNoRuleUnclosed ?hNoRuleValueError ?nNoRuleQuitsError ?tW ?hW ?mW ?nW
    (case a0 => k_is); (case l0 => k_is); (case c0 => k_is); (case k0 => k_is); (case a1 => k_is); (case l1 => k_is); (case c1 => k_is); (case k1 => k_is); (case a2 => k_is); (case l2 => k_is); (case c2 => k_is); (case k2 => k_is); (case a3 => k_is); (case l3 => k_is); (case c3 => k_is); (case k3 => k_is); (case a4 => k_is); (case l4 => k_is); (case c4 => k_is); (case k4 => k_is); (case a5 => k_is); (case l5 => k_is); (case c5 => k_is); (case k5 => k_is); (case a6 => k_is); (case l6 => k_is); (case c6 => k_is); (case k6 => k_is); (case a7 => k_is); (case l7 => k_is); (case c7 => k_is); (case k7 => k_is); (case a8 => k_is); (case l8 => k_is); (case c8 => k_is); (case k8 => k_is); (case a9 => k_is); (case l9 => k_is); (case c9 => k_is); (case k9 => k_is); (case a10 => k_is); (case l10 => k_is); (case c10 => k_is); (case k10 => k_is); (case a11 => k_is); (case l11 => k_is); (case c11 => k_is); (case k11 => k_is); (case a12 => k_is); (case l12 => k_is); (case c12 => k_is); (case k12 => k_is); (case a13 => k_is); (case l13 => k_is); (case c13 => k_is); (case k13 => k_is); (case a14 => k_is); (case l14 => k_is); (case c14 => k_is); (case k14 => k_is); (case a15 => k_is); (case l15 => k_is); (case c15 => k_is); (case k15 => k_is); (case a16 => k_is); (case l16 => k_is); (case c16 => k_is); (case k16 => k_is); (case a17 => k_is); (case l17 => k_is); (case c17 => k_is); (case k17 => k_is); (case a18 => k_is); (case l18 => k_is); (case c18 => k_is); (case k18 => k_is); (case a19 => k_is); (case l19 => k_is); (case c19 => k_is); (case k19 => k_is); (case a20 => k_is); (case l20 => k_is); (case c20 => k_is); (case k20 => k_is); (case a21 => k_is); (case l21 => k_is); (case c21 => k_is); (case k21 => k_is); (case a22 => k_is); (case l22 => k_is); (case c22 => k_is); (case k22 => k_is); (case a23 => k_is); (case l23 => k_is); (case c23 => k_is); (case k23 => k_is); (case a24 => k_is); (case l24 => k_is); (case c24 => k_is); (case k24 => k_is); (case zValueError => k_is); (case zabs => k_is); (case zbool => k_is); (case zint => k_is); (case zisinstance => k_is); (case zlen => k_is); (case zlist => k_is); (case zrange => k_is); (case zsorted => k_is); (case zsum => k_is); (case ztuple => k_is); (case xgBare => k_is); (case xgClosed => k_is); (case xgGone => k_is); (case xgNoAnswer => k_is); (case xgNoDeal => k_is); (case xgNoLayer => k_is); (case xgNoMember => k_is); (case xgNoPart => k_is); (case xxNoPart => k_exc); (case xkNoPart => k_is); (case xbNoPart => k_is); (case xtNoPart => k_is); (case xgNoRule => k_is); (case xxNoRule => k_exc); (case xkNoRule => k_is); (case xbNoRule => k_is); (case xtNoRule => k_is); (case xgNoTerms => k_is); (case xgOut => k_is); (case xgPoor => k_is); (case xgQuitsError => k_is); (case xgRinged => k_is); (case xgSettled => k_is); (case xgStanding => k_is); (case xgTooMuch => k_is); (case xgUnclosed => k_is); (case q0NoPart => k_is); (case q1NoPart => k_is); (case q2NoPart => k_is); (case q3NoPart => k_is); (case q4NoPart => k_is); (case q5NoPart => k_is); (case q6NoPart => k_is); (case q7NoPart => k_is); (case hNoPartBare => exact rfl); (case hNoPartClosed => exact rfl); (case hNoPartGone => exact rfl); (case hNoPartNoAnswer => exact rfl); (case hNoPartNoDeal => exact rfl); (case hNoPartNoLayer => exact rfl); (case hNoPartNoMember => exact rfl); (case hNoPartNoPart => exact rfl); (case hNoPartNoRule => exact rfl); (case hNoPartNoTerms => exact rfl); (case hNoPartOut => exact rfl); (case hNoPartPoor => exact rfl); (case hNoPartRinged => exact rfl); (case hNoPartSettled => exact rfl); (case hNoPartStanding => exact rfl); (case hNoPartTooMuch => exact rfl); (case hNoPartUnclosed => exact rfl); (case hNoPartValueError => exact rfl); (case nNoPartQuitsError => exact rfl); (case q0NoRule => k_is); (case q1NoRule => k_is); (case q2NoRule => k_is); (case q3NoRule => k_is); (case q4NoRule => k_is); (case q5NoRule => k_is); (case q6NoRule => k_is); (case q7NoRule => k_is); (case hNoRuleBare => exact rfl); (case hNoRuleClosed => exact rfl); (case hNoRuleGone => exact rfl); (case hNoRuleNoAnswer => exact rfl); (case hNoRuleNoDeal => exact rfl); (case hNoRuleNoLayer => exact rfl); (case hNoRuleNoMember => exact rfl); (case hNoRuleNoPart => exact rfl); (case hNoRuleNoRule => exact rfl); (case hNoRuleNoTerms => exact rfl); (case hNoRuleOut => exact rfl); (case hNoRulePoor => exact rfl); (case hNoRuleRinged => exact rfl); (case hNoRuleSettled => exact rfl); (case hNoRuleStanding => exact rfl); (case hNoRuleTooMuch => exact rfl); (case hNoRuleUnclosed => exact rfl); (case hNoRuleValueError => exact rfl); (case nNoRuleQuitsError => exact rfl); (case tW => exact rfl); (case hW => exact rfl); (case mW => exact .head _); (case nW => exact rfl)
#print axioms PySem.Challenge.cw_quits_k48_needs_holds
