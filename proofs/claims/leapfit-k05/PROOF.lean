import PyProof.Rows.All
import Wide.All
import OpenK.AllK
import Wide.FinOn
import PySem.Challenge.RW_leapfit_k05_rules_changed
import HandS.ForMost
import HandS.Exc
import HandS.Wide
import HandS.ExcInit
import HandS.WordsExc
import HandS.Lambda
import HandS.IsInst
import KE.KUnpack
import HandS.NoneIn
import HandS.Style
import HandS.Defaults
import HandS.Comp
import HandS.Iter
import HandS.Dict
import HandS.EndBits
import HandS.HeadEnd
import HandS.Head2
import HandS.HeadHook2
import HandS.RaiseMore
import PyProof.CallFns
set_option Elab.async false
set_option linter.all false
set_option maxRecDepth 100000
namespace L3
open PySem PySem.Spec PyProof.Rows L2

inductive D where
  | non | bl (b : Bool) | int (i : Int) | str (s : Str) | ref (a : Addr) | ty (n : String)
  | tup (l : List D) | lst (l : List D) | lsf (l : List D) | dic (ks : List Key) (l : List D) | ins (C : Addr) (ns : List Str) (l : List D)
  deriving Inhabited
inductive Z where
  | d (x : D) | m (n : Nat)
  deriving Inhabited
inductive MC where
  | lst (l : List D) | dic (ks : List Key) (l : List D) | ins (C : Addr) (ns : List Str) (l : List Z)
structure DS where
  s : List (Option Z)
  w : List (Option MC)

def WrL (K : PySem.W.Frag) (a : Addr) (xs : List V) : Prop :=
  ∃ (o : Obj) (its : Array Value) (n : Nat), K.lookup a = some o ∧ o.cls = .type "list" ∧ o.dict = none ∧ o.data = .seq its n ∧ its.size ≤ sizeLine ∧ Vals xs its.toList
def WrT (K : PySem.W.Frag) (a : Addr) (xs : List V) : Prop :=
  ∃ (o : Obj) (its : Array Value) (n : Nat), K.lookup a = some o ∧ o.cls = .type "tuple" ∧ o.data = .seq its n ∧ its.size ≤ sizeLine ∧ Vals xs its.toList

section
variable (K : PySem.W.Frag) (own : Addr → Prop) (H : Hp)
mutual
def RepD : D → V → Prop
  | .non, v => v = .non
  | .bl b, v => v = .bl b
  | .int i, v => v = .int i
  | .str s, v => v = .str s
  | .ref a, v => v = .ref a
  | .ty n, v => v = .ty n
  | .tup l, v => ∃ a xs, v = .ref a ∧ RepL l xs ∧ ((¬ own a ∧ Rd H a (.tup xs)) ∨ WrT K a xs)
  | .lst l, v => ∃ a xs, v = .ref a ∧ RepL l xs ∧ ¬ own a ∧ H a = some (.lst xs)
  | .lsf l, v => ∃ a xs, v = .ref a ∧ RepL l xs ∧ ((¬ own a ∧ Rd H a (.lst xs)) ∨ WrL K a xs)
  | .dic ks l, v => ∃ a xs, v = .ref a ∧ RepL l xs ∧ ks.length = l.length ∧ ¬ own a ∧ H a = some (.dK (ks.zip xs))
  | .ins C ns l, v => ∃ a dx xs, v = .ref a ∧ RepL l xs ∧ ns.length = l.length ∧ ¬ own a ∧ H a = some (.ins C dx (ns.zip xs))
def RepL : List D → List V → Prop
  | [], xs => xs = []
  | d :: l, xs => ∃ v r, xs = v :: r ∧ RepD d v ∧ RepL l r
end
end

/-- what may change between two states -/
structure Mv (own own' : Addr → Prop) (H H' : Hp) : Prop where
  keep : ∀ b o, H b = some o → ¬ own b → (∀ ps, o ≠ .tbl ps) → H' b = some o
  tb : ∀ b ps, H b = some (.tbl ps) → ∃ qs, H' b = some (.tbl qs)
  new : ∀ b, own' b → own b ∨ H b = none
theorem Mv.refl {own : Addr → Prop} {H : Hp} : Mv own own H H := ⟨fun _ _ h _ _ => h, fun _ ps h => ⟨ps, h⟩, fun _ h => .inl h⟩
theorem Mv.trans {o1 o2 o3 : Addr → Prop} {H1 H2 H3 : Hp} (a : Mv o1 o2 H1 H2) (b : Mv o2 o3 H2 H3) : Mv o1 o3 H1 H3 := by
  have nn : ∀ c, H2 c = none → o1 c ∨ H1 c = none := fun c z => by
    by_cases hc : o1 c
    · exact .inl hc
    · cases e : H1 c with
      | none => exact .inr rfl
      | some o =>
        by_cases ht : ∃ ps, o = .tbl ps
        · obtain ⟨ps, rfl⟩ := ht
          obtain ⟨qs, q⟩ := a.tb c ps e
          rw [z] at q; cases q
        · have q := a.keep c o e hc fun ps h => ht ⟨ps, h⟩
          rw [z] at q; cases q
  refine ⟨fun c o h n t => ?_, fun c ps h => ?_, fun c h => ?_⟩
  · refine b.keep c o (a.keep c o h n t) (fun z => ?_) t
    rcases a.new c z with z | z
    · exact n z
    · rw [h] at z; cases z
  · obtain ⟨qs, q⟩ := a.tb c ps h
    exact b.tb c qs q
  · rcases b.new c h with z | z
    · exact a.new c z
    · exact nn c z
section
variable {K : PySem.W.Frag} {own own' : Addr → Prop} {H H' : Hp}
theorem Mv.rd (m : Mv own own' H H') {a : Addr} {u : HO} (hu : ∀ ps, u ≠ .tbl ps) (n : ¬ own a) (h : Rd H a u) : Rd H' a u := by
  rcases h with h | ⟨o, h⟩
  · exact .inl (m.keep _ _ h n hu)
  · exact .inr ⟨o, m.keep _ _ h n fun ps z => by cases z⟩
theorem Mv.nown (m : Mv own own' H H') {a : Addr} (n : ¬ own a) (h : H a ≠ none) : ¬ own' a := fun z => by
  rcases m.new a z with z | z
  · exact n z
  · exact h z
theorem rd_ne {a : Addr} {u : HO} (h : Rd H a u) : H a ≠ none := fun z => by
  rcases h with h | ⟨o, h⟩ <;> rw [z] at h <;> cases h
mutual
theorem RepD.mv (m : Mv own own' H H') : ∀ (d : D) (v : V), RepD K own H d v → RepD K own' H' d v
  | .non, v, h => h
  | .bl b, v, h => h
  | .int i, v, h => h
  | .str s, v, h => h
  | .ref a, v, h => h
  | .ty n, v, h => h
  | .tup l, v, h => by
    obtain ⟨a, xs, e, r, q⟩ := h
    refine ⟨a, xs, e, RepL.mv m l xs r, ?_⟩
    rcases q with ⟨n, q⟩ | q
    · exact .inl ⟨m.nown n (rd_ne q), m.rd (fun ps z => by cases z) n q⟩
    · exact .inr q
  | .lst l, v, h => by
    obtain ⟨a, xs, e, r, n, q⟩ := h
    exact ⟨a, xs, e, RepL.mv m l xs r, m.nown n (by rw [q]; simp), m.keep _ _ q n fun ps z => by cases z⟩
  | .lsf l, v, h => by
    obtain ⟨a, xs, e, r, q⟩ := h
    refine ⟨a, xs, e, RepL.mv m l xs r, ?_⟩
    rcases q with ⟨n, q⟩ | q
    · exact .inl ⟨m.nown n (rd_ne q), m.rd (fun ps z => by cases z) n q⟩
    · exact .inr q
  | .dic ks l, v, h => by
    obtain ⟨a, xs, e, r, z, n, q⟩ := h
    exact ⟨a, xs, e, RepL.mv m l xs r, z, m.nown n (by rw [q]; simp), m.keep _ _ q n fun ps z => by cases z⟩
  | .ins C ns l, v, h => by
    obtain ⟨a, dx, xs, e, r, z, n, q⟩ := h
    exact ⟨a, dx, xs, e, RepL.mv m l xs r, z, m.nown n (by rw [q]; simp), m.keep _ _ q n fun ps z => by cases z⟩
theorem RepL.mv (m : Mv own own' H H') : ∀ (l : List D) (xs : List V), RepL K own H l xs → RepL K own' H' l xs
  | [], xs, h => h
  | d :: l, xs, h => by
    obtain ⟨v, r, e, h1, h2⟩ := h
    exact ⟨v, r, e, RepD.mv m d v h1, RepL.mv m l r h2⟩
end
theorem RepL.length : ∀ {l : List D} {xs : List V}, RepL K own H l xs → xs.length = l.length
  | [], xs, h => by cases h; rfl
  | d :: l, xs, h => by
    obtain ⟨v, r, rfl, h1, h2⟩ := h
    simp [RepL.length h2]
theorem RepL.get : ∀ {l : List D} {xs : List V} {i : Nat} {d : D}, RepL K own H l xs → l[i]? = some d → ∃ v, xs[i]? = some v ∧ RepD K own H d v
  | [], xs, i, d, h, e => by simp at e
  | c :: l, xs, 0, d, h, e => by
    obtain ⟨v, r, rfl, h1, h2⟩ := h
    simp at e; subst e
    exact ⟨v, rfl, h1⟩
  | c :: l, xs, i + 1, d, h, e => by
    obtain ⟨v, r, rfl, h1, h2⟩ := h
    obtain ⟨u, q1, q2⟩ := RepL.get (i := i) h2 (by simpa using e)
    exact ⟨u, by simpa using q1, q2⟩
theorem RepL.got : ∀ {l : List D} {xs : List V} {i : Nat} {v : V}, RepL K own H l xs → xs[i]? = some v → ∃ d, l[i]? = some d ∧ RepD K own H d v
  | [], xs, i, v, h, e => by cases h; simp at e
  | c :: l, xs, 0, v, h, e => by
    obtain ⟨u, r, rfl, h1, h2⟩ := h
    simp at e; subst e
    exact ⟨c, rfl, h1⟩
  | c :: l, xs, i + 1, v, h, e => by
    obtain ⟨u, r, rfl, h1, h2⟩ := h
    obtain ⟨d, q1, q2⟩ := RepL.got (i := i) h2 (by simpa using e)
    exact ⟨d, by simpa using q1, q2⟩
theorem RepL.append : ∀ {l l' : List D} {xs ys : List V}, RepL K own H l xs → RepL K own H l' ys → RepL K own H (l ++ l') (xs ++ ys)
  | [], l', xs, ys, h, h' => by cases h; exact h'
  | c :: l, l', xs, ys, h, h' => by
    obtain ⟨u, r, rfl, h1, h2⟩ := h
    exact ⟨u, r ++ ys, rfl, h1, RepL.append h2 h'⟩
theorem RepL.take : ∀ {l : List D} {xs : List V} (n : Nat), RepL K own H l xs → RepL K own H (l.take n) (xs.take n)
  | l, xs, 0, h => by simp; rfl
  | [], xs, n + 1, h => by cases h; rfl
  | c :: l, xs, n + 1, h => by
    obtain ⟨u, r, rfl, h1, h2⟩ := h
    exact ⟨u, r.take n, rfl, h1, RepL.take n h2⟩
theorem RepL.drop : ∀ {l : List D} {xs : List V} (n : Nat), RepL K own H l xs → RepL K own H (l.drop n) (xs.drop n)
  | l, xs, 0, h => h
  | [], xs, n + 1, h => by cases h; rfl
  | c :: l, xs, n + 1, h => by
    obtain ⟨u, r, rfl, h1, h2⟩ := h
    exact RepL.drop n h2
theorem RepL.one {d : D} {v : V} (h : RepD K own H d v) : RepL K own H [d] [v] := ⟨v, [], rfl, h, rfl⟩
theorem RepL.ints : ∀ {l : List Int} {xs : List V}, RepL K own H (l.map D.int) xs → xs = l.map V.int
  | [], xs, h => h
  | i :: l, xs, h => by
    obtain ⟨u, r, rfl, h1, h2⟩ := h
    have e : u = .int i := h1
    rw [e, RepL.ints h2]; rfl
theorem RepL.ofInts : ∀ (l : List Int), RepL K own H (l.map D.int) (l.map V.int)
  | [] => rfl
  | i :: l => ⟨.int i, l.map V.int, rfl, rfl, RepL.ofInts l⟩
end

/-- the addresses of mutable things that live -/
def live (M : List Addr) (w : List (Option MC)) (a : Addr) : Prop := ∃ (n : Nat) (c : MC), M[n]? = some a ∧ w[n]? = some (some c)
def ownM (Ow : Addr → Prop) (M : List Addr) (w : List (Option MC)) (a : Addr) : Prop := Ow a ∨ live M w a
def RepZ (K : PySem.W.Frag) (own : Addr → Prop) (M : List Addr) (H : Hp) : Z → V → Prop
  | .d x, v => RepD K own H x v
  | .m n, v => ∃ a, M[n]? = some a ∧ v = .ref a
def RepZs (K : PySem.W.Frag) (own : Addr → Prop) (M : List Addr) (H : Hp) : List Z → List V → Prop
  | [], xs => xs = []
  | d :: l, xs => ∃ v r, xs = v :: r ∧ RepZ K own M H d v ∧ RepZs K own M H l r
def RepM (K : PySem.W.Frag) (own : Addr → Prop) (M : List Addr) (H : Hp) (a : Addr) : MC → Prop
  | .lst l => ∃ xs, RepL K own H l xs ∧ H a = some (.lst xs)
  | .dic ks l => ∃ xs, RepL K own H l xs ∧ ks.length = l.length ∧ H a = some (.dK (ks.zip xs))
  | .ins C ns l => ∃ dx xs, RepZs K own M H l xs ∧ ns.length = l.length ∧ H a = some (.ins C dx (ns.zip xs))
/-- the outer frame of a walk: what lives outside, the code tables -/
structure G where
  ow : Addr → Prop
  T : List (Addr × Str)
def G.own (g : G) (M : List Addr) (ds : DS) : Addr → Prop := ownM g.ow M ds.w
structure RepS (K : PySem.W.Frag) (g : G) (M : List Addr) (ds : DS) (σ : L2.St) (H : Hp) : Prop where
  len : σ.length = ds.s.length
  slot : ∀ (i : Nat) (z : Z), ds.s[i]? = some (some z) → ∃ v, σ[i]? = some (some v) ∧ RepZ K (g.own M ds) M H z v
  mlen : M.length = ds.w.length
  nd : M.Nodup
  apart : ∀ a ∈ M, ¬ g.ow a
  obj : ∀ (n : Nat) (c : MC) (a : Addr), ds.w[n]? = some (some c) → M[n]? = some a → RepM K (g.own M ds) M H a c
  tabs : LamX.Tabs g.T H
  out : ∀ a, g.ow a → ∃ o, H a = some o ∧ (∀ ps, o ≠ .tbl ps) ∧ ∀ φ, o ≠ .ext φ
  ex : ∀ a ∈ M, ∃ o, H a = some o ∧ (∀ ps, o ≠ .tbl ps) ∧ ∀ φ, o ≠ .ext φ
/-- from one state to a later one -/
structure Nxt (g : G) (M : List Addr) (ds : DS) (H : Hp) (M' : List Addr) (ds' : DS) (H' : Hp) : Prop where
  mv : Mv (g.own M ds) (g.own M' ds') H H'
  pre : ∃ more, M' = M ++ more
  out : ∀ a, g.ow a → H' a = H a
theorem Nxt.refl {g : G} {M : List Addr} {ds : DS} {H : Hp} : Nxt g M ds H M ds H := ⟨.refl, ⟨[], by simp⟩, fun _ _ => rfl⟩
theorem Nxt.trans {g : G} {M1 M2 M3 : List Addr} {d1 d2 d3 : DS} {H1 H2 H3 : Hp} (a : Nxt g M1 d1 H1 M2 d2 H2) (b : Nxt g M2 d2 H2 M3 d3 H3) : Nxt g M1 d1 H1 M3 d3 H3 := by
  refine ⟨a.mv.trans b.mv, ?_, fun c h => (b.out c h).trans (a.out c h)⟩
  obtain ⟨m1, e1⟩ := a.pre
  obtain ⟨m2, e2⟩ := b.pre
  exact ⟨m1 ++ m2, by rw [e2, e1, List.append_assoc]⟩
theorem pre_get {M M' : List Addr} {n : Nat} {a : Addr} (p : ∃ more, M' = M ++ more) (h : M[n]? = some a) : M'[n]? = some a := by
  obtain ⟨more, rfl⟩ := p
  rw [List.getElem?_append_left]
  · exact h
  · obtain ⟨z, _⟩ := List.getElem?_eq_some_iff.mp h; exact z
section
variable {K : PySem.W.Frag} {own own' : Addr → Prop} {M M' : List Addr} {H H' : Hp}
theorem RepZ.mv (m : Mv own own' H H') (p : ∃ more, M' = M ++ more) : ∀ {z : Z} {v : V}, RepZ K own M H z v → RepZ K own' M' H' z v
  | .d x, v, h => RepD.mv m x v h
  | .m n, v, h => by
    obtain ⟨a, e1, e2⟩ := h
    exact ⟨a, pre_get p e1, e2⟩
theorem RepZs.mv (m : Mv own own' H H') (p : ∃ more, M' = M ++ more) : ∀ {l : List Z} {xs : List V}, RepZs K own M H l xs → RepZs K own' M' H' l xs
  | [], xs, h => h
  | d :: l, xs, h => by
    obtain ⟨v, r, e, h1, h2⟩ := h
    exact ⟨v, r, e, RepZ.mv m p h1, RepZs.mv m p h2⟩
theorem RepZs.length : ∀ {l : List Z} {xs : List V}, RepZs K own M H l xs → xs.length = l.length
  | [], xs, h => by cases h; rfl
  | d :: l, xs, h => by
    obtain ⟨v, r, rfl, h1, h2⟩ := h
    simp [RepZs.length h2]
theorem RepZs.get : ∀ {l : List Z} {xs : List V} {i : Nat} {d : Z}, RepZs K own M H l xs → l[i]? = some d → ∃ v, xs[i]? = some v ∧ RepZ K own M H d v
  | [], xs, i, d, h, e => by simp at e
  | c :: l, xs, 0, d, h, e => by
    obtain ⟨v, r, rfl, h1, h2⟩ := h
    simp at e; subst e
    exact ⟨v, rfl, h1⟩
  | c :: l, xs, i + 1, d, h, e => by
    obtain ⟨v, r, rfl, h1, h2⟩ := h
    obtain ⟨u, q1, q2⟩ := RepZs.get (i := i) h2 (by simpa using e)
    exact ⟨u, by simpa using q1, q2⟩
theorem RepZs.append : ∀ {l l' : List Z} {xs ys : List V}, RepZs K own M H l xs → RepZs K own M H l' ys → RepZs K own M H (l ++ l') (xs ++ ys)
  | [], l', xs, ys, h, h' => by cases h; exact h'
  | c :: l, l', xs, ys, h, h' => by
    obtain ⟨u, r, rfl, h1, h2⟩ := h
    exact ⟨u, r ++ ys, rfl, h1, RepZs.append h2 h'⟩
theorem RepZs.set : ∀ {l : List Z} {xs : List V} {z : Z} {v : V} (i : Nat), RepZs K own M H l xs → RepZ K own M H z v → RepZs K own M H (l.set i z) (xs.set i v)
  | [], xs, z, v, i, h, hz => by cases h; exact rfl
  | c :: l, xs, z, v, 0, h, hz => by
    obtain ⟨u, r, rfl, h1, h2⟩ := h
    exact ⟨v, r, rfl, hz, h2⟩
  | c :: l, xs, z, v, i + 1, h, hz => by
    obtain ⟨u, r, rfl, h1, h2⟩ := h
    exact ⟨u, r.set i v, rfl, h1, RepZs.set i h2 hz⟩
theorem RepZs.ofD : ∀ {l : List D} {xs : List V}, RepL K own H l xs → RepZs K own M H (l.map Z.d) xs
  | [], xs, h => h
  | d :: l, xs, h => by
    obtain ⟨v, r, e, h1, h2⟩ := h
    exact ⟨v, r, e, h1, RepZs.ofD h2⟩
theorem RepZs.toD : ∀ {l : List D} {xs : List V}, RepZs K own M H (l.map Z.d) xs → RepL K own H l xs
  | [], xs, h => h
  | d :: l, xs, h => by
    obtain ⟨v, r, e, h1, h2⟩ := h
    exact ⟨v, r, e, h1, RepZs.toD h2⟩
theorem RepM.mv (m : Mv own own' H H') (p : ∃ more, M' = M ++ more) {a : Addr} (ha : H' a = H a) : ∀ {c : MC}, RepM K own M H a c → RepM K own' M' H' a c
  | .lst l, h => by
    obtain ⟨xs, r, e⟩ := h
    exact ⟨xs, RepL.mv m _ _ r, by rw [ha]; exact e⟩
  | .dic ks l, h => by
    obtain ⟨xs, r, z, e⟩ := h
    exact ⟨xs, RepL.mv m _ _ r, z, by rw [ha]; exact e⟩
  | .ins C ns l, h => by
    obtain ⟨dx, xs, r, z, e⟩ := h
    exact ⟨dx, xs, r.mv m p, z, by rw [ha]; exact e⟩
theorem RepM.ex {a : Addr} : ∀ {c : MC}, RepM K own M H a c → ∃ o, H a = some o ∧ (∀ ps, o ≠ .tbl ps) ∧ (∀ xs, o ≠ .tup xs) ∧ ∀ φ, o ≠ .ext φ
  | .lst l, h => by
    obtain ⟨xs, r, e⟩ := h
    exact ⟨_, e, (fun _ z => nomatch z), (fun _ z => nomatch z), (fun _ z => nomatch z)⟩
  | .dic ks l, h => by
    obtain ⟨xs, r, z, e⟩ := h
    exact ⟨_, e, (fun _ z => nomatch z), (fun _ z => nomatch z), (fun _ z => nomatch z)⟩
  | .ins C ns l, h => by
    obtain ⟨dx, xs, r, z, e⟩ := h
    exact ⟨_, e, (fun _ z => nomatch z), (fun _ z => nomatch z), (fun _ z => nomatch z)⟩
end
section
variable {K : PySem.W.Frag} {g : G} {M : List Addr} {ds : DS} {σ : L2.St} {H H' : Hp}
/-- everything that was tracked is as it was (but the tables): the state stands -/
theorem RepS.same (R : RepS K g M ds σ H) (e : ∀ b o, H b = some o → (∀ ps, o ≠ .tbl ps) → H' b = some o) (tb : ∀ b ps, H b = some (.tbl ps) → ∃ qs, H' b = some (.tbl qs)) (T : LamX.Tabs g.T H') : RepS K g M ds σ H' ∧ Nxt g M ds H M ds H' := by
  have m : Mv (g.own M ds) (g.own M ds) H H' := ⟨fun b o h _ t => e b o h t, tb, fun _ h => .inl h⟩
  have p : ∃ more, M = M ++ more := ⟨[], by simp⟩
  refine ⟨{ len := R.len, slot := fun i z h => ?_, mlen := R.mlen, nd := R.nd, apart := R.apart, obj := fun n c a h1 h2 => ?_, tabs := T, out := fun a h => ?_, ex := fun a h => ?_ }, m, p, fun a h => ?_⟩
  · obtain ⟨v, h1, h2⟩ := R.slot i z h
    exact ⟨v, h1, h2.mv m p⟩
  · have r := R.obj n c a h1 h2
    obtain ⟨o, q1, q2, _⟩ := r.ex
    exact r.mv m p (by rw [e a o q1 q2, q1])
  · obtain ⟨o, q1, q2, q3⟩ := R.out a h
    exact ⟨o, e a o q1 q2, q2, q3⟩
  · obtain ⟨o, q1, q2, q3⟩ := R.ex a h
    exact ⟨o, e a o q1 q2, q2, q3⟩
  · obtain ⟨o, q1, q2, q3⟩ := R.out a h
    rw [e a o q1 q2, q1]
/-- a new thing that is not told -/
theorem RepS.upd (R : RepS K g M ds σ H) {p : Addr} {o : HO} (hp : H p = none) : RepS K g M ds σ (upd H p o) ∧ Nxt g M ds H M ds (upd H p o) := by
  have e : ∀ b u, H b = some u → L2.upd H p o b = some u := fun b u h => by rw [upd_ne (ne_of_none h hp)]; exact h
  exact R.same (fun b u h _ => e b u h) (fun b ps h => ⟨ps, e b _ h⟩) (R.tabs.ext e)
theorem RepS.own_ne (R : RepS K g M ds σ H) {p : Addr} (hp : H p = none) : ¬ live M ds.w p := fun ⟨n, c, h1, h2⟩ => by
  obtain ⟨o, q, _⟩ := (R.obj n c p h2 h1).ex
  rw [hp] at q; cases q
theorem RepS.own_none (R : RepS K g M ds σ H) {p : Addr} (hp : H p = none) : ¬ g.own M ds p := fun z => by
  rcases z with z | z
  · obtain ⟨o, q, _⟩ := R.out p z
    rw [hp] at q; cases q
  · exact R.own_ne hp z
theorem RepS.own_some (R : RepS K g M ds σ H) {p : Addr} (h : live M ds.w p) : ∃ o, H p = some o ∧ (∀ ps, o ≠ .tbl ps) ∧ (∀ xs, o ≠ .tup xs) ∧ ∀ φ, o ≠ .ext φ := by
  obtain ⟨n, c, h1, h2⟩ := h
  exact (R.obj n c p h2 h1).ex
theorem live_more {M : List Addr} {w : List (Option MC)} {p b : Addr} {c : MC} (hl : M.length = w.length) (h : live (M ++ [p]) (w ++ [some c]) b) : live M w b ∨ b = p := by
  obtain ⟨n, x, h1, h2⟩ := h
  by_cases hn : n < M.length
  · rw [List.getElem?_append_left hn] at h1
    rw [List.getElem?_append_left (by omega)] at h2
    exact .inl ⟨n, x, h1, h2⟩
  · have z : n = M.length := by
      obtain ⟨q, _⟩ := List.getElem?_eq_some_iff.mp h1
      rw [List.length_append, List.length_singleton] at q
      omega
    subst z
    rw [List.getElem?_append_right (Nat.le_refl _), Nat.sub_self] at h1
    exact .inr (Option.some.inj h1).symm
theorem get_more {α : Type} {w : List α} {n : Nat} {c x : α} (h : (w ++ [c])[n]? = some x) : w[n]? = some x ∨ (n = w.length ∧ x = c) := by
  by_cases hn : n < w.length
  · rw [List.getElem?_append_left hn] at h
    exact .inl h
  · have z : n = w.length := by
      obtain ⟨q, _⟩ := List.getElem?_eq_some_iff.mp h
      rw [List.length_append, List.length_singleton] at q
      omega
    subst z
    rw [List.getElem?_append_right (Nat.le_refl _), Nat.sub_self] at h
    exact .inr ⟨rfl, (Option.some.inj h).symm⟩
/-- a new thing that will be written: it gets a number -/
def DS.more (ds : DS) (c : MC) : DS := ⟨ds.s, ds.w ++ [some c]⟩
theorem RepS.more (R : RepS K g M ds σ H) {p : Addr} {o : HO} {c : MC} (hp : H p = none) (ht : ∀ ps, o ≠ .tbl ps) (hx : ∀ φ, o ≠ .ext φ)
    (hc : ∀ own', Mv (g.own M ds) own' H (L2.upd H p o) → RepM K own' (M ++ [p]) (L2.upd H p o) p c) :
    RepS K g (M ++ [p]) (ds.more c) σ (L2.upd H p o) ∧ Nxt g M ds H (M ++ [p]) (ds.more c) (L2.upd H p o) := by
  have e : ∀ b u, H b = some u → L2.upd H p o b = some u := fun b u h => by rw [upd_ne (ne_of_none h hp)]; exact h
  have pM : p ∉ M := fun h => by
    obtain ⟨u, q, _⟩ := R.ex p h
    rw [hp] at q; cases q
  have m : Mv (g.own M ds) (g.own (M ++ [p]) (ds.more c)) H (L2.upd H p o) := ⟨fun b u h _ _ => e b u h, fun b ps h => ⟨ps, e b _ h⟩, fun b h => by
    rcases h with h | h
    · exact .inl (.inl h)
    · rcases live_more R.mlen h with h | h
      · exact .inl (.inr h)
      · exact .inr (by rw [h]; exact hp)⟩
  have pr : ∃ more, M ++ [p] = M ++ more := ⟨[p], rfl⟩
  refine ⟨{ len := R.len, slot := fun i z h => ?_, mlen := ?_, nd := ?_, apart := fun a h => ?_, obj := fun n x a h1 h2 => ?_, tabs := R.tabs.ext e, out := fun a h => ?_, ex := fun a h => ?_ }, m, pr, fun a h => ?_⟩
  · obtain ⟨v, h1, h2⟩ := R.slot i z h
    exact ⟨v, h1, h2.mv m pr⟩
  · show (M ++ [p]).length = (ds.w ++ [some c]).length
    rw [List.length_append, List.length_append, R.mlen]; rfl
  · rw [List.nodup_append]
    refine ⟨R.nd, by simp, fun a ha b hb z => ?_⟩
    have : b = p := by simpa using hb
    subst this
    exact pM (z ▸ ha)
  · rcases List.mem_append.mp h with h | h
    · exact R.apart a h
    · have : a = p := by simpa using h
      subst this
      exact fun z => by
        obtain ⟨u, q, _⟩ := R.out _ z
        rw [hp] at q; cases q
  · rcases get_more h1 with h1 | ⟨h4, h3⟩
    · have hn : n < M.length := by
        obtain ⟨q, _⟩ := List.getElem?_eq_some_iff.mp h1
        rw [R.mlen]; exact q
      rw [List.getElem?_append_left hn] at h2
      have r := R.obj n x a h1 h2
      obtain ⟨u, q1, q2, _⟩ := r.ex
      exact r.mv m pr (by rw [e a u q1, q1])
    · have h3 := Option.some.inj h3
      subst h3
      rw [h4, ← R.mlen, List.getElem?_append_right (Nat.le_refl _), Nat.sub_self] at h2
      have : p = a := Option.some.inj h2
      subst this
      exact hc _ m
  · obtain ⟨u, q1, q2, q3⟩ := R.out a h
    exact ⟨u, e a u q1, q2, q3⟩
  · rcases List.mem_append.mp h with h | h
    · obtain ⟨u, q1, q2, q3⟩ := R.ex a h
      exact ⟨u, e a u q1, q2, q3⟩
    · have : a = p := by simpa using h
      subst this
      exact ⟨o, upd_same, ht, hx⟩
  · obtain ⟨u, q1, q2, q3⟩ := R.out a h
    rw [e a u q1, q1]
/-- the thing numbered n is written -/
def DS.put (ds : DS) (n : Nat) (c : MC) : DS := ⟨ds.s, ds.w.set n (some c)⟩
theorem nodup_at {l : List Addr} (hN : l.Nodup) {i j : Nat} {x : Addr} (a : l[i]? = some x) (b : l[j]? = some x) : i = j := by
  obtain ⟨h1, e1⟩ := List.getElem?_eq_some_iff.mp a
  obtain ⟨h2, e2⟩ := List.getElem?_eq_some_iff.mp b
  exact (List.getElem_inj hN).mp (e1.trans e2.symm)
theorem live_put {M : List Addr} {w : List (Option MC)} {n : Nat} {c c0 : MC} (h0 : w[n]? = some (some c0)) {b : Addr} : live M (w.set n (some c)) b ↔ live M w b := by
  constructor
  · rintro ⟨k, x, h1, h2⟩
    by_cases hk : k = n
    · subst hk
      exact ⟨k, c0, h1, h0⟩
    · rw [List.getElem?_set_ne (Ne.symm hk)] at h2
      exact ⟨k, x, h1, h2⟩
  · rintro ⟨k, x, h1, h2⟩
    by_cases hk : k = n
    · subst hk
      have hl : k < w.length := (List.getElem?_eq_some_iff.mp h0).1
      exact ⟨k, c, h1, by rw [List.getElem?_set_self hl]⟩
    · exact ⟨k, x, h1, by rw [List.getElem?_set_ne (Ne.symm hk)]; exact h2⟩
theorem RepS.put (R : RepS K g M ds σ H) {n : Nat} {a : Addr} {o : HO} {c c0 : MC} (h0 : ds.w[n]? = some (some c0)) (ha : M[n]? = some a) (ht : ∀ ps, o ≠ .tbl ps) (hx : ∀ φ, o ≠ .ext φ)
    (hc : ∀ own', Mv (g.own M ds) own' H (L2.upd H a o) → RepM K own' M (L2.upd H a o) a c) :
    RepS K g M (ds.put n c) σ (L2.upd H a o) ∧ Nxt g M ds H M (ds.put n c) (L2.upd H a o) := by
  have la : live M ds.w a := ⟨n, c0, ha, h0⟩
  have e : ∀ b, b ≠ a → L2.upd H a o b = H b := fun b h => upd_ne h
  obtain ⟨u0, q0, qt, qx⟩ := (R.obj n c0 a h0 ha).ex
  have m : Mv (g.own M ds) (g.own M (ds.put n c)) H (L2.upd H a o) := by
    refine ⟨fun b u h nb _ => ?_, fun b ps h => ⟨ps, ?_⟩, fun b h => .inl ?_⟩
    · rw [e b fun z => nb (.inr (z ▸ la))]; exact h
    · rw [e b fun z => by rw [z, q0] at h; cases h; exact qt ps rfl]; exact h
    · rcases h with h | h
      · exact .inl h
      · exact .inr ((live_put h0).mp h)
  have pr : ∃ more, M = M ++ more := ⟨[], by simp⟩
  have na : ∀ b, g.ow b → b ≠ a := fun b h z => R.apart a (List.mem_of_getElem? ha) (z ▸ h)
  refine ⟨{ len := R.len, slot := fun i z h => ?_, mlen := ?_, nd := R.nd, apart := R.apart, obj := fun k x b h1 h2 => ?_, tabs := ?_, out := fun b h => ?_, ex := fun b h => ?_ }, m, pr, fun b h => e b (na b h)⟩
  · obtain ⟨v, h1, h2⟩ := R.slot i z h
    exact ⟨v, h1, h2.mv m pr⟩
  · show M.length = (ds.w.set n (some c)).length
    rw [List.length_set]; exact R.mlen
  · by_cases hk : k = n
    · subst hk
      rw [ha] at h2; cases h2
      have hl : k < ds.w.length := (List.getElem?_eq_some_iff.mp h0).1
      have h1' : (ds.w.set k (some c))[k]? = some (some x) := h1
      rw [List.getElem?_set_self hl] at h1'
      cases h1'
      exact hc _ m
    · have h1' : (ds.w.set n (some c))[k]? = some (some x) := h1
      rw [List.getElem?_set_ne (Ne.symm hk)] at h1'
      have r := R.obj k x b h1' h2
      exact r.mv m pr (e b fun z => hk (nodup_at R.nd h2 (z ▸ ha)))
  · intro p hp
    obtain ⟨ps, t1, t2, t3⟩ := R.tabs p hp
    refine ⟨ps, by rw [e _ fun z => by rw [z, q0] at t1; cases t1; exact qt ps rfl]; exact t1, t2, fun pos cv hcv => ?_⟩
    obtain ⟨c', e1, e2⟩ := t3 pos cv hcv
    exact ⟨c', e1, by rw [e _ fun z => by rw [z, q0] at e2; exact qx.2 _ (Option.some.inj e2)]; exact e2⟩
  · obtain ⟨u, q1, q2, q3⟩ := R.out b h
    exact ⟨u, by rw [e b (na b h)]; exact q1, q2, q3⟩
  · by_cases hb : b = a
    · subst hb
      exact ⟨o, upd_same, ht, hx⟩
    · obtain ⟨u, q1, q2, q3⟩ := R.ex b h
      exact ⟨u, by rw [e b hb]; exact q1, q2, q3⟩
/-- a slot is set -/
def DS.set (ds : DS) (i : Nat) (z : Z) : DS := ⟨ds.s.set i (some z), ds.w⟩
theorem RepS.set (R : RepS K g M ds σ H) (i : Nat) {z : Z} {v : V} (r : RepZ K (g.own M ds) M H z v) : RepS K g M (ds.set i z) (σ.set i (some v)) H := by
  refine { len := by show (σ.set i _).length = (ds.s.set i _).length; rw [List.length_set, List.length_set]; exact R.len, slot := fun j y h => ?_, mlen := R.mlen, nd := R.nd, apart := R.apart, obj := R.obj, tabs := R.tabs, out := R.out, ex := R.ex }
  have h' : (ds.s.set i (some z))[j]? = some (some y) := h
  by_cases hj : j = i
  · subst hj
    have hl : j < ds.s.length := by
      obtain ⟨q, _⟩ := List.getElem?_eq_some_iff.mp h'
      rw [List.length_set] at q; exact q
    rw [List.getElem?_set_self hl] at h'
    cases h'
    exact ⟨v, by rw [List.getElem?_set_self (by rw [R.len]; exact hl)], r⟩
  · rw [List.getElem?_set_ne (Ne.symm hj)] at h'
    obtain ⟨u, h1, h2⟩ := R.slot j y h'
    exact ⟨u, by rw [List.getElem?_set_ne (Ne.symm hj)]; exact h1, h2⟩
theorem Nxt.set {i : Nat} {z : Z} : Nxt g M ds H M (ds.set i z) H := ⟨⟨fun _ _ h _ _ => h, fun _ ps h => ⟨ps, h⟩, fun _ h => .inl h⟩, ⟨[], by simp⟩, fun _ _ => rfl⟩
/-- less is told of the slots -/
theorem RepS.weak (R : RepS K g M ds σ H) {l : List (Option Z)} {σ' : L2.St} (hl : σ'.length = l.length) (h : ∀ (i : Nat) z, l[i]? = some (some z) → ds.s[i]? = some (some z) ∧ σ'[i]? = σ[i]?) : RepS K g M ⟨l, ds.w⟩ σ' H :=
  { len := hl, slot := fun i z e => by
      obtain ⟨h1, h2⟩ := h i z e
      obtain ⟨v, q1, q2⟩ := R.slot i z h1
      exact ⟨v, by rw [h2]; exact q1, q2⟩
    mlen := R.mlen, nd := R.nd, apart := R.apart, obj := R.obj, tabs := R.tabs, out := R.out, ex := R.ex }
/-- the thing numbered n is never written again: it is data from now on -/
def frzZ (n : Nat) (x : D) : Option Z → Option Z
  | some (.m k) => match Nat.beq k n with
    | true => some (.d x)
    | false => some (.m k)
  | z => z
def DS.frz (ds : DS) (n : Nat) (x : D) : DS := ⟨ds.s.map (frzZ n x), ds.w.set n none⟩
def MC.dat : MC → D → Prop
  | .lst l, x => x = .lst l
  | .dic ks l, x => x = .dic ks l
  | .ins C ns zs, x => ∃ l, x = .ins C ns l ∧ zs = l.map Z.d
theorem RepM.dat {own : Addr → Prop} {M : List Addr} {H : Hp} {a : Addr} (na : ¬ own a) : ∀ {c : MC} {x : D}, RepM K own M H a c → c.dat x → RepD K own H x (.ref a)
  | .lst zs, x, h, q => by
    cases q
    obtain ⟨xs, r, e⟩ := h
    exact ⟨a, xs, rfl, r, na, e⟩
  | .dic ks zs, x, h, q => by
    cases q
    obtain ⟨xs, r, z, e⟩ := h
    exact ⟨a, xs, rfl, r, z, na, e⟩
  | .ins C ns zs, x, h, q => by
    obtain ⟨l, rfl, rfl⟩ := q
    obtain ⟨dx, xs, r, z, e⟩ := h
    exact ⟨a, dx, xs, rfl, r.toD, by rw [z, List.length_map], na, e⟩
theorem RepS.frz (R : RepS K g M ds σ H) {n : Nat} {a : Addr} {c : MC} {x : D} (h0 : ds.w[n]? = some (some c)) (ha : M[n]? = some a) (hx : c.dat x) :
    RepS K g M (ds.frz n x) σ H ∧ Nxt g M ds H M (ds.frz n x) H ∧ RepD K (g.own M (ds.frz n x)) H x (.ref a) := by
  have lv : ∀ b, live M (ds.w.set n none) b → live M ds.w b ∧ b ≠ a := fun b ⟨k, y, h1, h2⟩ => by
    by_cases hk : k = n
    · subst hk
      rw [List.getElem?_set_self (List.getElem?_eq_some_iff.mp h0).1] at h2
      cases h2
    · rw [List.getElem?_set_ne (Ne.symm hk)] at h2
      exact ⟨⟨k, y, h1, h2⟩, fun z => hk (nodup_at R.nd h1 (z ▸ ha))⟩
  have m : Mv (g.own M ds) (g.own M (ds.frz n x)) H H := ⟨fun _ _ h _ _ => h, fun _ ps h => ⟨ps, h⟩, fun b h => .inl (h.elim .inl fun z => .inr (lv b z).1)⟩
  have pr : ∃ more, M = M ++ more := ⟨[], by simp⟩
  have no : ¬ g.own M (ds.frz n x) a := fun z => z.elim (R.apart a (List.mem_of_getElem? ha)) fun z => (lv a z).2 rfl
  have rx : RepD K (g.own M (ds.frz n x)) H x (.ref a) := ((R.obj n c a h0 ha).mv m pr rfl).dat no hx
  refine ⟨{ len := ?_, slot := fun i z h => ?_, mlen := ?_, nd := R.nd, apart := R.apart, obj := fun k y b h1 h2 => ?_, tabs := R.tabs, out := R.out, ex := R.ex }, ⟨m, pr, fun _ _ => rfl⟩, rx⟩
  · show σ.length = (ds.s.map _).length
    rw [List.length_map]; exact R.len
  · have h' : (ds.s.map (frzZ n x))[i]? = some (some z) := h
    rw [List.getElem?_map] at h'
    cases e : ds.s[i]? with
    | none => rw [e] at h'; cases h'
    | some oz =>
      rw [e] at h'
      have h'' : frzZ n x oz = some z := Option.some.inj h'
      cases oz with
      | none => cases h''
      | some y =>
        obtain ⟨v, q1, q2⟩ := R.slot i y e
        cases y with
        | d y => cases h''; exact ⟨v, q1, q2.mv m pr⟩
        | m k =>
          cases hk : Nat.beq k n with
          | true =>
            have : k = n := Nat.eq_of_beq_eq_true hk
            subst this
            simp only [frzZ, hk] at h''
            cases h''
            obtain ⟨b, hb, rfl⟩ := q2
            rw [ha] at hb; cases hb
            exact ⟨_, q1, rx⟩
          | false =>
            simp only [frzZ, hk] at h''
            cases h''
            exact ⟨v, q1, q2.mv m pr⟩
  · show M.length = (ds.w.set n none).length
    rw [List.length_set]; exact R.mlen
  · have h1' : (ds.w.set n none)[k]? = some (some y) := h1
    by_cases hk : k = n
    · subst hk
      rw [List.getElem?_set_self (List.getElem?_eq_some_iff.mp h0).1] at h1'
      cases h1'
    · rw [List.getElem?_set_ne (Ne.symm hk)] at h1'
      exact (R.obj k y b h1' h2).mv m pr rfl
end
end L3

set_option Elab.async false
set_option linter.all false
set_option maxRecDepth 100000
set_option maxHeartbeats 4000000
namespace L3
open PySem PySem.Spec PyProof.Rows L2

/-- an exception as data: its class, its attributes -/
structure EX where
  cls : Value
  fs : List Str
  vals : List D
abbrev QZ := Z → DS → Prop
abbrev QE := EX → DS → Prop
abbrev TD := DS → QZ → QE → Prop
abbrev TBo := DS → (Bool → DS → Prop) → QE → Prop
abbrev TLi := DS → (List Z → DS → Prop) → QE → Prop
def RepE (K : PySem.W.Frag) (own : Addr → Prop) (H : Hp) (x : EX) (cls : Value) (d : Option Addr) : Prop :=
  cls = x.cls ∧ (x.fs ≠ [] → ∃ dx xs, d = some dx ∧ ¬ own dx ∧ H dx = some (.xd (x.fs.zip xs)) ∧ RepL K own H x.vals xs ∧ x.fs.length = x.vals.length)

section
variable (X : Cx) (g : G) (W : WX)
def EPD (pins : List (Addr × Obj)) (σ : L2.St) (M : List Addr) (ds : DS) (H : Hp) (QD : QZ) (u : Value) (s' : Shared) : Prop :=
  ∃ z ds' M' v H', Inv X pins σ H' s' ∧ RelV v u ∧ RepS X.K g M' ds' σ H' ∧ Nxt g M ds H M' ds' H' ∧ RepZ X.K (g.own M' ds') M' H' z v ∧ QD z ds'
def TPD (pins : List (Addr × Obj)) (σ : L2.St) (M : List Addr) (ds : DS) (H : Hp) (QD : Bool → DS → Prop) (b : Bool) (s' : Shared) : Prop :=
  ∃ ds' M' H', Inv X pins σ H' s' ∧ RepS X.K g M' ds' σ H' ∧ Nxt g M ds H M' ds' H' ∧ QD b ds'
def LPD (pins : List (Addr × Obj)) (σ : L2.St) (M : List Addr) (ds : DS) (H : Hp) (QD : List Z → DS → Prop) (us : List Value) (s' : Shared) : Prop :=
  ∃ zs ds' M' vs H', Inv X pins σ H' s' ∧ Vals vs us ∧ RepS X.K g M' ds' σ H' ∧ Nxt g M ds H M' ds' H' ∧ RepZs X.K (g.own M' ds') M' H' zs vs ∧ QD zs ds'
def EW (σ : L2.St) (M : List Addr) (ds : DS) (H : Hp) (ED : QE) : Prop :=
  ∀ x ds' M' H' cls d, ED x ds' → RepS X.K g M' ds' σ H' → Nxt g M ds H M' ds' H' → RepE X.K (g.own M' ds') H' x cls d → W cls d σ H'
structure PX (e : Expr) (t : TD) : Prop where
  run : ∀ (pins : List (Addr × Obj)) (s : Shared) (σ : L2.St) (H : Hp) (M : List Addr) (ds : DS) (QD : QZ) (ED : QE), Inv X pins σ H s → RepS X.K g M ds σ H → t ds QD ED → EW X g W σ M ds H ED →
    wpAny (model X.prog X.w) X.A (eval e X.env) (EPD X g pins σ M ds H QD) X.xe s
structure PXT (e : Expr) (t : TBo) : Prop where
  run : ∀ (pins : List (Addr × Obj)) (s : Shared) (σ : L2.St) (H : Hp) (M : List Addr) (ds : DS) (QD : Bool → DS → Prop) (ED : QE), Inv X pins σ H s → RepS X.K g M ds σ H → t ds QD ED → EW X g W σ M ds H ED →
    wpAny (model X.prog X.w) X.A (isTrue e X.env (eval e X.env)) (TPD X g pins σ M ds H QD) X.xe s
structure PXW (e : Expr) (t : TBo) : Prop where
  run : ∀ (whole : Sem Value) (pins : List (Addr × Obj)) (s : Shared) (σ : L2.St) (H : Hp) (M : List Addr) (ds : DS) (QD : Bool → DS → Prop) (ED : QE), Inv X pins σ H s → RepS X.K g M ds σ H → t ds QD ED → EW X g W σ M ds H ED →
    wpAny (model X.prog X.w) X.A (isTrue e X.env whole) (TPD X g pins σ M ds H QD) X.xe s
structure PXA (es : List Expr) (t : TLi) : Prop where
  run : ∀ (pos : Pos) (pins : List (Addr × Obj)) (s : Shared) (σ : L2.St) (H : Hp) (M : List Addr) (ds : DS) (QD : List Z → DS → Prop) (ED : QE), Inv X pins σ H s → RepS X.K g M ds σ H → t ds QD ED → EW X g W σ M ds H ED →
    wpAny (model X.prog X.w) X.A (spliced (backTo pos (starEach es X.env))) (LPD X g pins σ M ds H QD) X.xe s
/-- a two-place operation on values -/
def OpD (f : Value → Value → Sem Value) (rd : Z → Z → DS → QZ → Prop) : Prop :=
  ∀ (pins : List (Addr × Obj)) (s : Shared) (σ : L2.St) (H : Hp) (M : List Addr) (ds : DS) (x y : Z) (v u : V) (vv uu : Value) (QD : QZ), Inv X pins σ H s → RepS X.K g M ds σ H → RepZ X.K (g.own M ds) M H x v → RelV v vv →
    RepZ X.K (g.own M ds) M H y u → RelV u uu → rd x y ds QD → wpAny (model X.prog X.w) X.A (f vv uu) (EPD X g pins σ M ds H QD) X.xe s
def UnD (f : Value → Sem Value) (rd : Z → DS → QZ → Prop) : Prop :=
  ∀ (pins : List (Addr × Obj)) (s : Shared) (σ : L2.St) (H : Hp) (M : List Addr) (ds : DS) (x : Z) (v : V) (vv : Value) (QD : QZ), Inv X pins σ H s → RepS X.K g M ds σ H → RepZ X.K (g.own M ds) M H x v → RelV v vv →
    rd x ds QD → wpAny (model X.prog X.w) X.A (f vv) (EPD X g pins σ M ds H QD) X.xe s
def CallD (f : Value) (rd : List Z → DS → QZ → Prop) : Prop :=
  ∀ (pins : List (Addr × Obj)) (s : Shared) (σ : L2.St) (H : Hp) (M : List Addr) (ds : DS) (zs : List Z) (vs : List V) (us : List Value) (QD : QZ), Inv X pins σ H s → RepS X.K g M ds σ H → RepZs X.K (g.own M ds) M H zs vs → Vals vs us →
    rd zs ds QD → wpAny (model X.prog X.w) X.A (call f us) (EPD X g pins σ M ds H QD) X.xe s
/-- the wish from the layer below -/
def Mid (σ : L2.St) (M : List Addr) (ds : DS) (H : Hp) (QD : QZ) (v : V) (H' : Hp) : Prop :=
  ∃ z ds' M', RepS X.K g M' ds' σ H' ∧ Nxt g M ds H M' ds' H' ∧ RepZ X.K (g.own M' ds') M' H' z v ∧ QD z ds'
end

section
variable {X : Cx} {g : G} {W : WX} {pins : List (Addr × Obj)} {σ : L2.St} {M M1 : List Addr} {ds ds1 : DS} {H H1 : Hp} {s : Shared} {QD : QZ} {ED : QE}
theorem EW.nxt (h : EW X g W σ M ds H ED) (N : Nxt g M ds H M1 ds1 H1) : EW X g W σ M1 ds1 H1 ED := fun x ds' M' H' cls d e R N' r => h x ds' M' H' cls d e R (N.trans N') r
theorem EPD.of {u : Value} {s' : Shared} (h : EP X pins σ (Mid X g σ M ds H QD) u s') : EPD X g pins σ M ds H QD u s' := by
  obtain ⟨v, H', I, r, z, ds', M', R, N, rz, q⟩ := h
  exact ⟨z, ds', M', v, H', I, r, R, N, rz, q⟩
theorem OpD.of {f : Value → Value → Sem Value} {r : R2} {rd : Z → Z → DS → QZ → Prop} (ho : OpR X f r)
    (h : ∀ (σ : L2.St) (H : Hp) (M : List Addr) (ds : DS) (x y : Z) (v u : V) (QD : QZ), RepS X.K g M ds σ H → RepZ X.K (g.own M ds) M H x v → RepZ X.K (g.own M ds) M H y u → rd x y ds QD → r v u H (Mid X g σ M ds H QD)) : OpD X g f rd :=
  fun pins s σ H M ds x y v u vv uu QD I R rx vx ry vy q => thn (ho pins s σ H v u vv uu _ I vx vy (h σ H M ds x y v u QD R rx ry q)) fun _ _ z => .of z
theorem UnD.of {f : Value → Sem Value} {r : V → Hp → VK → Prop} {rd : Z → DS → QZ → Prop} (ho : UnR X f r)
    (h : ∀ (σ : L2.St) (H : Hp) (M : List Addr) (ds : DS) (x : Z) (v : V) (QD : QZ), RepS X.K g M ds σ H → RepZ X.K (g.own M ds) M H x v → rd x ds QD → r v H (Mid X g σ M ds H QD)) : UnD X g f rd :=
  fun pins s σ H M ds x v vv QD I R rx vx q => thn (ho pins s σ H v vv _ I vx (h σ H M ds x v QD R rx q)) fun _ _ z => .of z
theorem CallD.of {f : Value} {r : List V → Hp → VK → Prop} {rd : List Z → DS → QZ → Prop} (ho : CallR X f r)
    (h : ∀ (σ : L2.St) (H : Hp) (M : List Addr) (ds : DS) (zs : List Z) (vs : List V) (QD : QZ), RepS X.K g M ds σ H → RepZs X.K (g.own M ds) M H zs vs → rd zs ds QD → r vs H (Mid X g σ M ds H QD)) : CallD X g f rd :=
  fun pins s σ H M ds zs vs us QD I R rx vx q => thn (ho pins s σ H vs us _ I vx (h σ H M ds zs vs QD R rx q)) fun _ _ z => .of z
/-- the same state, a value -/
theorem Mid.same (R : RepS X.K g M ds σ H) {z : Z} {v : V} (r : RepZ X.K (g.own M ds) M H z v) (q : QD z ds) : Mid X g σ M ds H QD v H := ⟨z, ds, M, R, .refl, r, q⟩
/-- a new tuple or list, never written -/
theorem Mid.tup (R : RepS X.K g M ds σ H) {l : List D} {xs : List V} {p : Addr} (hp : H p = none) (r : RepL X.K (g.own M ds) H l xs) (q : QD (.d (.tup l)) ds) : Mid X g σ M ds H QD (.ref p) (L2.upd H p (.tup xs)) := by
  obtain ⟨R', N⟩ := R.upd (o := .tup xs) hp
  exact ⟨.d (.tup l), ds, M, R', N, ⟨p, xs, rfl, RepL.mv N.mv _ _ r, .inl ⟨R.own_none hp, .inl upd_same⟩⟩, q⟩
theorem Mid.lst (R : RepS X.K g M ds σ H) {l : List D} {xs : List V} {p : Addr} (hp : H p = none) (r : RepL X.K (g.own M ds) H l xs) (q : QD (.d (.lst l)) ds) : Mid X g σ M ds H QD (.ref p) (L2.upd H p (.lst xs)) := by
  obtain ⟨R', N⟩ := R.upd (o := .lst xs) hp
  exact ⟨.d (.lst l), ds, M, R', N, ⟨p, xs, rfl, RepL.mv N.mv _ _ r, R.own_none hp, upd_same⟩, q⟩
/-- a new list that will be written -/
theorem Mid.mlst (R : RepS X.K g M ds σ H) {l : List D} {xs : List V} {p : Addr} (hp : H p = none) (r : RepL X.K (g.own M ds) H l xs) (q : QD (.m ds.w.length) (ds.more (.lst l))) : Mid X g σ M ds H QD (.ref p) (L2.upd H p (.lst xs)) := by
  obtain ⟨R', N⟩ := R.more (o := .lst xs) (c := .lst l) hp (fun _ z => nomatch z) (fun _ z => nomatch z) fun own' m => ⟨xs, RepL.mv m _ _ r, upd_same⟩
  exact ⟨.m ds.w.length, _, _, R', N, ⟨p, by rw [← R.mlen, List.getElem?_append_right (Nat.le_refl _), Nat.sub_self]; rfl, rfl⟩, q⟩
end

section
variable {X : Cx} {g : G} {W : WX} {pos : Pos}
def dVar (i : Nat) : TD := fun ds Q _ => match ds.s[i]? with
  | some (some z) => Q z ds
  | _ => False
theorem px_var (i : Nat) {x : Str} (hN : X.N[i]? = some x := by rfl) (hv : Vis X.env.scope x := by first | exact Or.inl rfl | exact Or.inr (Or.inl rfl) | exact Or.inr (Or.inr rfl)) (hd : (x == ("__debug__" : Str)) = false := by decide)
    (hcd : (x == ("__classdict__" : Str)) = false := by decide) : PX X g W (.Name x pos) (dVar i) := by
  refine ⟨fun pins s σ H M ds QD ED I R t _ => ?_⟩
  unfold dVar at t
  split at t
  · rename_i z e
    obtain ⟨v, h1, h2⟩ := R.slot i z e
    exact thn ((pe_var hN hv hd hcd).run pins s σ H (Mid X g σ M ds H QD) I ⟨v, h1, .same R h2 t⟩) fun _ _ z => .of z
  · exact t.elim
/-- .. read for good: what was written so far is data now -/
def dVarF (i : Nat) : TD := fun ds Q _ => match ds.s[i]? with
  | some (some (.d x)) => Q (.d x) ds
  | some (some (.m n)) => match ds.w[n]? with
    | some (some (.lst l)) => Q (.d (.lst l)) (ds.frz n (.lst l))
    | some (some (.dic ks l)) => Q (.d (.dic ks l)) (ds.frz n (.dic ks l))
    | some (some (.ins C ns l)) => ∃ l', l = l'.map Z.d ∧ Q (.d (.ins C ns l')) (ds.frz n (.ins C ns l'))
    | _ => False
  | _ => False
theorem px_varF (i : Nat) {x : Str} (hN : X.N[i]? = some x := by rfl) (hv : Vis X.env.scope x := by first | exact Or.inl rfl | exact Or.inr (Or.inl rfl) | exact Or.inr (Or.inr rfl)) (hd : (x == ("__debug__" : Str)) = false := by decide)
    (hcd : (x == ("__classdict__" : Str)) = false := by decide) : PX X g W (.Name x pos) (dVarF i) := by
  refine ⟨fun pins s σ H M ds QD ED I R t _ => ?_⟩
  have go : ∀ {n : Nat} {c : MC} {x' : D}, ds.s[i]? = some (some (.m n)) → ds.w[n]? = some (some c) → c.dat x' → QD (.d x') (ds.frz n x') → wpAny (model X.prog X.w) X.A (eval (.Name x pos) X.env) (EPD X g pins σ M ds H QD) X.xe s := fun {n c x'} e1 e2 hx q => by
    obtain ⟨v, h1, a, ha, rfl⟩ := R.slot i _ e1
    obtain ⟨R', N, rx⟩ := R.frz e2 ha hx
    exact thn ((pe_var hN hv hd hcd).run pins s σ H (Mid X g σ M ds H QD) I ⟨_, h1, .d x', _, M, R', N, rx, q⟩) fun _ _ z => .of z
  unfold dVarF at t
  split at t
  · rename_i y e
    obtain ⟨v, h1, h2⟩ := R.slot i _ e
    exact thn ((pe_var hN hv hd hcd).run pins s σ H (Mid X g σ M ds H QD) I ⟨v, h1, .same R h2 t⟩) fun _ _ z => .of z
  · rename_i n e
    split at t
    · rename_i l e2; exact go e e2 rfl t
    · rename_i ks l e2; exact go e e2 rfl t
    · rename_i C ns l e2
      obtain ⟨l', rfl, t⟩ := t
      exact go e e2 ⟨l', rfl, rfl⟩ t
    · exact t.elim
  · exact t.elim
def dC (x : D) : TD := fun ds Q _ => Q (.d x) ds
theorem px_c {e : Expr} {x : D} {v : V} (h : PE X e (tC v)) (hx : ∀ K own H, RepD K own H x v) : PX X g W e (dC x) :=
  ⟨fun pins s σ H M ds QD ED I R t _ => thn (h.run pins s σ H (Mid X g σ M ds H QD) I (.same R (z := .d x) (hx _ _ _) t)) fun _ _ z => .of z⟩
theorem px_int {i j} : PX X g W (.Constant (.int i) j pos) (dC (.int i)) := px_c pe_int fun _ _ _ => rfl
theorem px_bl {b j} : PX X g W (.Constant (.bool b) j pos) (dC (.bl b)) := px_c pe_bl fun _ _ _ => rfl
theorem px_non {j} : PX X g W (.Constant .none j pos) (dC .non) := px_c pe_non fun _ _ _ => rfl
theorem px_str {x j} : PX X g W (.Constant (.str x) j pos) (dC (.str x)) := px_c pe_str fun _ _ _ => rfl
/-- a global of the program as a value -/
theorem px_glob {x : Str} {a : Addr} (hg : Gl X x) (hm : X.mg x = some (.ref a)) (hd : (x == ("__debug__" : Str)) = false := by decide) : PX X g W (.Name x pos) (dC (.ref a)) := px_c (pe_glob (v := .ref a) hg hm rfl hd) fun _ _ _ => rfl
theorem px_globT {x : Str} {a : Addr} {l : List D} {xs : List V} (hg : Gl X x) (hm : X.mg x = some (.ref a)) (ht : WrT X.K a xs) (hl : ∀ own H, RepL X.K own H l xs) (hd : (x == ("__debug__" : Str)) = false := by decide) : PX X g W (.Name x pos) (dC (.tup l)) :=
  ⟨fun pins s σ H M ds QD ED I R t _ => thn ((pe_glob (v := .ref a) hg hm rfl hd).run pins s σ H (Mid X g σ M ds H QD) I (.same R (z := .d (.tup l)) ⟨a, xs, rfl, hl _ _, .inr ht⟩ t)) fun _ _ z => .of z⟩
theorem px_globI {x : Str} {i : Int} {tk : Tok} (hg : Gl X x) (hm : X.mg x = some (.int i tk)) (hd : (x == ("__debug__" : Str)) = false := by decide) : PX X g W (.Name x pos) (dC (.int i)) := px_c (pe_glob (v := .int i) hg hm ⟨_, rfl⟩ hd) fun _ _ _ => rfl
theorem px_globS {x : Str} {i : Str} {tk : Tok} (hg : Gl X x) (hm : X.mg x = some (.str i tk)) (hd : (x == ("__debug__" : Str)) = false := by decide) : PX X g W (.Name x pos) (dC (.str i)) := px_c (pe_glob (v := .str i) hg hm ⟨_, rfl⟩ hd) fun _ _ _ => rfl
theorem px_ty {x : Str} {n : String} (hg : Gl X x) (hm : X.mg x = none) (hv : bootBuiltins x = some (.type n)) (hn : x ≠ "__name__" := by decide) (hd : (x == ("__debug__" : Str)) = false := by decide) : PX X g W (.Name x pos) (dC (.ty n)) := px_c (pe_bltn (v := .ty n) hg hm hv rfl hn hd) fun _ _ _ => rfl

variable {a b c : Expr}
def dOp (rd : Z → Z → DS → QZ → Prop) (ta tb : TD) : TD := fun ds Q E => ta ds (fun x ds1 => tb ds1 (fun y ds2 => rd x y ds2 Q) E) E
theorem px_bin {ta tb : TD} (ha : PX X g W a ta) (hb : PX X g W b tb) {pins : List (Addr × Obj)} {σ : L2.St} {M : List Addr} {ds : DS} {H : Hp} {s : Shared} {ED : QE} {α : Type} {PD : α → Shared → Prop} {f : Value → Value → Sem α} (I : Inv X pins σ H s) (R : RepS X.K g M ds σ H)
    {R2 : Z → Z → DS → Prop} (t : ta ds (fun x ds1 => tb ds1 (fun y ds2 => R2 x y ds2) ED) ED) (he : EW X g W σ M ds H ED)
    (hf : ∀ vv uu s2 x y v u M2 ds2 H2, Inv X pins σ H2 s2 → RepS X.K g M2 ds2 σ H2 → Nxt g M ds H M2 ds2 H2 → RepZ X.K (g.own M2 ds2) M2 H2 x v → RelV v vv → RepZ X.K (g.own M2 ds2) M2 H2 y u → RelV u uu → R2 x y ds2 → wpAny (model X.prog X.w) X.A (f vv uu) PD X.xe s2) :
    wpAny (model X.prog X.w) X.A (eval a X.env) (fun v s₁ => wpAny (model X.prog X.w) X.A (eval b X.env) (fun u s₂ => wpAny (model X.prog X.w) X.A (f v u) PD X.xe s₂) X.xe s₁) X.xe s := by
  refine thn (ha.run pins s σ H M ds _ ED I R t he) fun vv s1 ⟨x, ds1, M1, v, H1, I1, r1, R1, N1, z1, q1⟩ => ?_
  refine thn (hb.run pins s1 σ H1 M1 ds1 _ ED I1 R1 q1 (he.nxt N1)) fun uu s2 ⟨y, ds2, M2, u, H2, I2, r2, R2, N2, z2, q2⟩ => ?_
  exact hf vv uu s2 x y v u M2 ds2 H2 I2 R2 (N1.trans N2) (z1.mv N2.mv N2.pre) r1 z2 r2 q2
theorem EPD.nxt {pins : List (Addr × Obj)} {σ : L2.St} {M M1 : List Addr} {ds ds1 : DS} {H H1 : Hp} {QD : QZ} {u : Value} {s' : Shared} (N : Nxt g M ds H M1 ds1 H1) (h : EPD X g pins σ M1 ds1 H1 QD u s') : EPD X g pins σ M ds H QD u s' := by
  obtain ⟨z, ds', M', v, H', I, r, R, N', rz, q⟩ := h
  exact ⟨z, ds', M', v, H', I, r, R, N.trans N', rz, q⟩
theorem TPD.nxt {pins : List (Addr × Obj)} {σ : L2.St} {M M1 : List Addr} {ds ds1 : DS} {H H1 : Hp} {QD : Bool → DS → Prop} {u : Bool} {s' : Shared} (N : Nxt g M ds H M1 ds1 H1) (h : TPD X g pins σ M1 ds1 H1 QD u s') : TPD X g pins σ M ds H QD u s' := by
  obtain ⟨ds', M', H', I, R, N', q⟩ := h
  exact ⟨ds', M', H', I, R, N.trans N', q⟩
theorem px_op {op : Operator} {rd : Z → Z → DS → QZ → Prop} {ta tb : TD} (ho : OpD X g (binaryOp op) rd) (ha : PX X g W a ta) (hb : PX X g W b tb) : PX X g W (.BinOp a op b pos) (dOp rd ta tb) :=
  ⟨fun pins s σ H M ds QD ED I R t he => wpAny_BinOp (px_bin ha hb I R t he fun vv uu s2 x y v u M2 ds2 H2 I2 R2 N z1 r1 z2 r2 q => thn (ho pins s2 σ H2 M2 ds2 x y v u vv uu QD I2 R2 z1 r1 z2 r2 q) fun _ _ h => h.nxt N)⟩
theorem px_cmp {op : CmpOp} {rd : Z → Z → DS → QZ → Prop} {ta tb : TD} (ho : OpD X g (compareOp op) rd) (ha : PX X g W a ta) (hb : PX X g W b tb) (hm : behindInMarks op b = false) : PX X g W (.Compare a [op] [b] pos) (dOp rd ta tb) :=
  ⟨fun pins s σ H M ds QD ED I R t he => wpAny_Compare1 (px_bin ha hb I R t he fun vv uu s2 x y v u M2 ds2 H2 I2 R2 N z1 r1 z2 r2 q => thn (ho pins s2 σ H2 M2 ds2 x y v u vv uu QD I2 R2 z1 r1 z2 r2 q) fun _ _ h => h.nxt N) hm⟩
def bB (Q : Bool → DS → Prop) : QZ := fun z ds => match z with
  | .d (.bl b) => Q b ds
  | _ => False
theorem bB_of {X : Cx} {g : G} {pins : List (Addr × Obj)} {σ : L2.St} {M : List Addr} {ds : DS} {H : Hp} {Q : Bool → DS → Prop} {u : Value} {s' : Shared} (h : EPD X g pins σ M ds H (bB Q) u s') : ∃ b, u = .bool b ∧ TPD X g pins σ M ds H Q b s' := by
  obtain ⟨z, ds', M', v, H', I, r, R, N, rz, q⟩ := h
  cases z with
  | m n => exact q.elim
  | d x =>
    cases x with
    | bl b =>
      have e : v = .bl b := rz
      subst e
      exact ⟨b, r, ds', M', H', I, R, N, q⟩
    | _ => exact q.elim
def dT (t : TD) : TBo := fun ds Q E => t ds (bB Q) E
theorem pxt_cmp {op : CmpOp} {rd : Z → Z → DS → QZ → Prop} {ta tb : TD} (ho : OpD X g (compareOp op) rd) (ha : PX X g W a ta) (hb : PX X g W b tb) (hm : behindInMarks op b = false) : PXT X g W (.Compare a [op] [b] pos) (dT (dOp rd ta tb)) :=
  ⟨fun pins s σ H M ds QD ED I R t he => wpAny_isTrue_Compare1 (px_bin (f := fun v u => compareOp op v u) ha hb I R t he fun vv uu s2 x y v u M2 ds2 H2 I2 R2 N z1 r1 z2 r2 q => thn (ho pins s2 σ H2 M2 ds2 x y v u vv uu _ I2 R2 z1 r1 z2 r2 q) fun c s3 h => by
    obtain ⟨k, rfl, h2⟩ := bB_of h
    exact wpAny_truthy_bool (TPD.nxt N h2)) hm⟩
def dUn (rd : Z → DS → QZ → Prop) (ta : TD) : TD := fun ds Q E => ta ds (fun x ds1 => rd x ds1 Q) E
theorem px_un {op : UnaryOp} {rd : Z → DS → QZ → Prop} {ta : TD} (ho : UnD X g (unaryOp op) rd) (ha : PX X g W a ta) : PX X g W (.UnaryOp op a pos) (dUn rd ta) :=
  ⟨fun pins s σ H M ds QD ED I R t he => UnaryOp_ (thn (ha.run pins s σ H M ds _ ED I R t he) fun vv s1 ⟨x, ds1, M1, v, H1, I1, r1, R1, N1, z1, q1⟩ => thn (ho pins s1 σ H1 M1 ds1 x v vv QD I1 R1 z1 r1 q1) fun _ _ h => h.nxt N1)⟩
end
end L3

set_option Elab.async false
set_option linter.all false
set_option maxRecDepth 100000
set_option maxHeartbeats 4000000
namespace L3
open PySem PySem.Spec PyProof.Rows L2
section
variable {X : Cx} {g : G} {W : WX} {pos : Pos}
def rdII (f : Int → Int → D) : Z → Z → DS → QZ → Prop := fun x y ds Q => match x, y with
  | .d (.int i), .d (.int j) => Q (.d (f i j)) ds
  | _, _ => False
def rdIIc (C : Int → Int → Prop) (f : Int → Int → D) : Z → Z → DS → QZ → Prop := fun x y ds Q => match x, y with
  | .d (.int i), .d (.int j) => C i j ∧ Q (.d (f i j)) ds
  | _, _ => False
theorem rdII_inv {f : Int → Int → D} {x y : Z} {ds : DS} {Q : QZ} (h : rdII f x y ds Q) : ∃ i j, x = .d (.int i) ∧ y = .d (.int j) ∧ Q (.d (f i j)) ds := by
  unfold rdII at h
  split at h
  · exact ⟨_, _, rfl, rfl, h⟩
  · exact h.elim
theorem rdIIc_inv {C : Int → Int → Prop} {f : Int → Int → D} {x y : Z} {ds : DS} {Q : QZ} (h : rdIIc C f x y ds Q) : ∃ i j, x = .d (.int i) ∧ y = .d (.int j) ∧ C i j ∧ Q (.d (f i j)) ds := by
  unfold rdIIc at h
  split at h
  · exact ⟨_, _, rfl, rfl, h.1, h.2⟩
  · exact h.elim
theorem od_ii {fn : Value → Value → Sem Value} {gv : Int → Int → V} {f : Int → Int → D} (ho : OpR X fn (rI0 gv)) (hf : ∀ K own H i j, RepD K own H (f i j) (gv i j)) : OpD X g fn (rdII f) :=
  .of ho fun σ H M ds x y v u QD R rx ry h => by
    obtain ⟨i, j, rfl, rfl, q⟩ := rdII_inv h
    exact ⟨i, j, rx, ry, .same R (z := .d (f i j)) (hf _ _ _ _ _) q⟩
theorem od_iic {fn : Value → Value → Sem Value} {C : Int → Int → Prop} {gv : Int → Int → V} {f : Int → Int → D} (ho : OpR X fn (rI C gv)) (hf : ∀ K own H i j, RepD K own H (f i j) (gv i j)) : OpD X g fn (rdIIc C f) :=
  .of ho fun σ H M ds x y v u QD R rx ry h => by
    obtain ⟨i, j, rfl, rfl, c, q⟩ := rdIIc_inv h
    exact ⟨i, j, rx, ry, c, .same R (z := .d (f i j)) (hf _ _ _ _ _) q⟩
theorem od_sub : OpD X g (binaryOp .Sub) (rdII fun i j => .int (i - j)) := od_ii op_sub fun _ _ _ _ _ => rfl
theorem od_addI : OpD X g (binaryOp .Add) (rdII fun i j => .int (i + j)) := od_ii op_add fun _ _ _ _ _ => rfl
theorem od_mulI : OpD X g (binaryOp .Mult) (rdIIc CMulW fun i j => .int (i * j)) := od_iic op_mulW fun _ _ _ _ _ => rfl
theorem od_div : OpD X g (binaryOp .FloorDiv) (rdIIc CDivW fun i j => .int (i / j)) := od_iic op_fdivW fun _ _ _ _ _ => rfl
theorem od_mod : OpD X g (binaryOp .Mod) (rdIIc (fun _ j => 0 < j) fun i j => .int (i % j)) := od_iic op_mod fun _ _ _ _ _ => rfl
theorem od_pow : OpD X g (binaryOp .Pow) (rdIIc CPow fun i j => .int (i ^ j.toNat)) := od_iic op_pow fun _ _ _ _ _ => rfl
theorem od_lt : OpD X g (compareOp .Lt) (rdII fun i j => .bl (decide (i < j))) := od_ii op_lt fun _ _ _ _ _ => rfl
theorem od_le : OpD X g (compareOp .LtE) (rdII fun i j => .bl (decide (i ≤ j))) := od_ii op_le fun _ _ _ _ _ => rfl
theorem od_gt : OpD X g (compareOp .Gt) (rdII fun i j => .bl (decide (j < i))) := od_ii op_gt fun _ _ _ _ _ => rfl
theorem od_ge : OpD X g (compareOp .GtE) (rdII fun i j => .bl (decide (j ≤ i))) := od_ii op_ge fun _ _ _ _ _ => rfl
def rdAdd : Z → Z → DS → QZ → Prop := fun x y ds Q => match x, y with
  | .d (.int i), .d (.int j) => Q (.d (.int (i + j))) ds
  | .d (.str a), .d (.str b) => a.length + b.length ≤ sizeLine ∧ Q (.d (.str (a ++ b))) ds
  | .d (.lst a), .d (.lst b) => a.length + b.length ≤ sizeLine ∧ Q (.d (.lst (a ++ b))) ds
  | .d (.tup (a :: as)), .d (.tup (b :: bs)) => (a :: as).length + (b :: bs).length ≤ sizeLine ∧ Q (.d (.tup ((a :: as) ++ (b :: bs)))) ds
  | _, _ => False
theorem sqT_of {K : PySem.W.Frag} {own : Addr → Prop} {H : Hp} {a : Addr} {xs : List V} (h : (¬ own a ∧ Rd H a (.tup xs)) ∨ WrT K a xs) : SqT K H a xs := h.elim (fun z => .inl z.2) .inr
theorem sqL_of {K : PySem.W.Frag} {own : Addr → Prop} {H : Hp} {a : Addr} {xs : List V} (h : (¬ own a ∧ Rd H a (.lst xs)) ∨ WrL K a xs) : SqL K H a xs := h.elim (fun z => .inl z.2) .inr
theorem od_add : OpD X g (binaryOp .Add) rdAdd := by
  intro pins s σ H M ds x y v u vv uu QD I R rx vx ry vy h
  unfold rdAdd at h
  split at h
  · exact od_addI pins s σ H M ds _ _ v u vv uu QD I R rx vx ry vy h
  · exact thn (op_add_str pins s σ H v u vv uu _ I vx vy ⟨_, _, rx, ry, h.1, .same R (z := .d (.str _)) rfl h.2⟩) fun _ _ z => .of z
  · obtain ⟨a, xs, rfl, r1, _, h1⟩ := rx
    obtain ⟨b, ys, rfl, r2, _, h2⟩ := ry
    exact thn (op_cat pins s σ H _ _ vv uu _ I vx vy ⟨a, b, xs, ys, rfl, rfl, h1, h2, by rw [RepL.length r1, RepL.length r2]; exact h.1, fun p hp => .lst R hp (r1.append r2) h.2⟩) fun _ _ z => .of z
  · obtain ⟨a, xs, rfl, r1, h1⟩ := rx
    obtain ⟨b, ys, rfl, r2, h2⟩ := ry
    have n1 : xs ≠ [] := fun z => by
      have := RepL.length r1
      rw [z] at this; cases this
    have n2 : ys ≠ [] := fun z => by
      have := RepL.length r2
      rw [z] at this; cases this
    exact thn (op_catT pins s σ H _ _ vv uu _ I vx vy ⟨a, b, xs, ys, rfl, rfl, sqT_of h1, sqT_of h2, n1, by rw [RepL.length r1, RepL.length r2]; exact h.1, fun z => absurd z n2, fun _ p hp => .tup R hp (r1.append r2) h.2⟩) fun _ _ z => .of z
  · exact h.elim
/-- * of ints, a list times an int -/
def rdMul : Z → Z → DS → QZ → Prop := fun x y ds Q => match x, y with
  | .d (.int i), .d (.int j) => CMulW i j ∧ Q (.d (.int (i * j))) ds
  | .d (.lst l), .d (.int j) => (-(2 ^ 63) ≤ j ∧ j < 2 ^ 63 ∧ l.length * j.toNat ≤ sizeLine) ∧ Q (.d (.lst (List.replicate j.toNat l).flatten)) ds
  | _, _ => False
theorem RepL.rep {K : PySem.W.Frag} {own : Addr → Prop} {H : Hp} {l : List D} {xs : List V} (r : RepL K own H l xs) : ∀ n : Nat, RepL K own H (List.replicate n l).flatten (List.replicate n xs).flatten
  | 0 => rfl
  | n + 1 => by
    rw [List.replicate_succ, List.replicate_succ, List.flatten_cons, List.flatten_cons]
    exact RepL.append r (RepL.rep r n)
theorem od_mul : OpD X g (binaryOp .Mult) rdMul := by
  intro pins s σ H M ds x y v u vv uu QD I R rx vx ry vy h
  unfold rdMul at h
  split at h
  · exact od_mulI pins s σ H M ds _ _ v u vv uu QD I R rx vx ry vy h
  · obtain ⟨a, xs, rfl, r1, _, h1⟩ := rx
    obtain ⟨⟨c1, c2, c3⟩, h⟩ := h
    exact thn (op_rep pins s σ H _ _ vv uu _ I vx vy ⟨a, _, xs, rfl, ry, h1, c1, c2, by rw [RepL.length r1]; exact c3, fun p hp => .lst R hp (RepL.rep r1 _) h⟩) fun _ _ z => .of z
  · exact h.elim
def rdNeg : Z → DS → QZ → Prop := fun x ds Q => match x with
  | .d (.int i) => Q (.d (.int (-i))) ds
  | _ => False
theorem ud_neg : UnD X g (unaryOp .USub) rdNeg := .of un_neg fun σ H M ds x v QD R rx h => by
  unfold rdNeg at h
  split at h
  · exact ⟨_, rx, .same R (z := .d (.int _)) rfl h⟩
  · exact h.elim
mutual
def D.pd : D → PyData
  | .bl b => .bool b
  | .int i => .int i
  | .str s => .str s
  | .tup l => .tuple (pds l)
  | .lst l => .list (pds l)
  | .lsf l => .list (pds l)
  | _ => .none
def pds : List D → List PyData
  | [] => []
  | d :: l => d.pd :: pds l
end
mutual
/-- data that == looks at -/
def D.flat : D → Bool
  | .non => true
  | .bl _ => true
  | .int _ => true
  | .str _ => true
  | .tup l => flats l
  | .lst l => flats l
  | .lsf l => flats l
  | _ => false
def flats : List D → Bool
  | [] => true
  | d :: l => d.flat && flats l
end
mutual
theorem RepD.dp {K : PySem.W.Frag} {own : Addr → Prop} {H : Hp} : ∀ (d : D) (v : V), d.flat = true → RepD K own H d v → Dp K H v d.pd
  | .non, v, _, h => by cases h; exact .non
  | .bl b, v, _, h => by cases h; exact .bl b
  | .int i, v, _, h => by cases h; exact .int i
  | .str i, v, _, h => by cases h; exact .str i
  | .tup l, v, f, h => by
    obtain ⟨a, xs, rfl, r, q⟩ := h
    exact .tup (sqT_of q) (RepL.dp l xs f r)
  | .lst l, v, f, h => by
    obtain ⟨a, xs, rfl, r, n, q⟩ := h
    exact .lst (.of q) (RepL.dp l xs f r)
  | .lsf l, v, f, h => by
    obtain ⟨a, xs, rfl, r, q⟩ := h
    exact .lst (sqL_of q) (RepL.dp l xs f r)
  | .ref a, v, f, h => by cases f
  | .ty a, v, f, h => by cases f
  | .dic ks l, v, f, h => by cases f
  | .ins C ns l, v, f, h => by cases f
theorem RepL.dp {K : PySem.W.Frag} {own : Addr → Prop} {H : Hp} : ∀ (l : List D) (xs : List V), flats l = true → RepL K own H l xs → DpAll K H xs (pds l)
  | [], xs, _, h => by cases h; exact .nil
  | d :: l, xs, f, h => by
    obtain ⟨v, r, rfl, h1, h2⟩ := h
    have f' : (d.flat && flats l) = true := f
    rw [Bool.and_eq_true] at f'
    exact .cons (RepD.dp d v f'.1 h1) (RepL.dp l r f'.2 h2)
end
theorem dVI (i j : Int) : decide (V.int i = V.int j) = decide (i = j) := by
  by_cases h : i = j <;> simp [h]
theorem dVS (i j : Str) : decide (V.str i = V.str j) = decide (i = j) := by
  by_cases h : i = j <;> simp [h]
def eqOk (x y : D) : Prop := x.flat = true ∧ y.flat = true ∧ SeqAt.shaped x.pd = true ∧ SeqAt.shaped y.pd = true
def rdEq : Z → Z → DS → QZ → Prop := fun x y ds Q => match x, y with
  | .d (.int i), .d (.int j) => Q (.d (.bl (decide (i = j)))) ds
  | .d (.str i), .d (.str j) => Q (.d (.bl (decide (i = j)))) ds
  | .d x, .d y => eqOk x y ∧ Q (.d (.bl (PyData.eqv x.pd y.pd))) ds
  | _, _ => False
def rdNe : Z → Z → DS → QZ → Prop := fun x y ds Q => match x, y with
  | .d (.int i), .d (.int j) => Q (.d (.bl (!decide (i = j)))) ds
  | .d (.str i), .d (.str j) => Q (.d (.bl (!decide (i = j)))) ds
  | .d x, .d y => eqOk x y ∧ Q (.d (.bl (!PyData.eqv x.pd y.pd))) ds
  | _, _ => False
theorem od_eq (hu : X.A.units + 64 < cLine) : OpD X g (compareOp .Eq) rdEq := by
  intro pins s σ H M ds x y v u vv uu QD I R rx vx ry vy h
  unfold rdEq at h
  split at h
  · cases rx; cases ry
    exact thn (op_eq pins s σ H _ _ vv uu _ I vx vy ⟨rfl, .same R (z := .d (.bl _)) rfl (by rw [dVI]; exact h)⟩) fun _ _ z => .of z
  · cases rx; cases ry
    exact thn (op_eq pins s σ H _ _ vv uu _ I vx vy ⟨rfl, .same R (z := .d (.bl _)) rfl (by rw [dVS]; exact h)⟩) fun _ _ z => .of z
  · obtain ⟨⟨f1, f2, s1, s2⟩, h⟩ := h
    exact thn (op_eqD hu pins s σ H _ _ vv uu _ I vx vy ⟨_, _, RepD.dp _ _ f1 rx, RepD.dp _ _ f2 ry, s1, s2, .same R (z := .d (.bl _)) rfl h⟩) fun _ _ z => .of z
  · exact h.elim
theorem od_ne (hu : X.A.units + 64 < cLine) : OpD X g (compareOp .NotEq) rdNe := by
  intro pins s σ H M ds x y v u vv uu QD I R rx vx ry vy h
  unfold rdNe at h
  split at h
  · cases rx; cases ry
    exact thn (op_ne pins s σ H _ _ vv uu _ I vx vy ⟨rfl, .same R (z := .d (.bl _)) rfl (by rw [dVI]; exact h)⟩) fun _ _ z => .of z
  · cases rx; cases ry
    exact thn (op_ne pins s σ H _ _ vv uu _ I vx vy ⟨rfl, .same R (z := .d (.bl _)) rfl (by rw [dVS]; exact h)⟩) fun _ _ z => .of z
  · obtain ⟨⟨f1, f2, s1, s2⟩, h⟩ := h
    exact thn (op_neD hu pins s σ H _ _ vv uu _ I vx vy ⟨_, _, RepD.dp _ _ f1 rx, RepD.dp _ _ f2 ry, s1, s2, .same R (z := .d (.bl _)) rfl h⟩) fun _ _ z => .of z
  · exact h.elim
def D.isN : D → Bool
  | .non => true
  | _ => false
theorem RepD.isN {K : PySem.W.Frag} {own : Addr → Prop} {H : Hp} : ∀ {d : D} {v : V}, RepD K own H d v → decide (v = .non) = d.isN
  | .non, v, h => by cases h; rfl
  | .bl b, v, h => by cases h; rfl
  | .int i, v, h => by cases h; rfl
  | .str i, v, h => by cases h; rfl
  | .tup l, v, h => by obtain ⟨a, xs, rfl, _⟩ := h; rfl
  | .lst l, v, h => by obtain ⟨a, xs, rfl, _⟩ := h; rfl
  | .lsf l, v, h => by obtain ⟨a, xs, rfl, _⟩ := h; rfl
  | .ref a, v, h => by cases h; rfl
  | .ty a, v, h => by cases h; rfl
  | .dic ks l, v, h => by obtain ⟨a, xs, rfl, _⟩ := h; rfl
  | .ins C ns l, v, h => by obtain ⟨a, dx, xs, rfl, _⟩ := h; rfl
def rdIsN : Z → Z → DS → QZ → Prop := fun x y ds Q => match x, y with
  | .d x, .d .non => Q (.d (.bl x.isN)) ds
  | _, _ => False
def rdNotN : Z → Z → DS → QZ → Prop := fun x y ds Q => match x, y with
  | .d x, .d .non => Q (.d (.bl (!x.isN))) ds
  | _, _ => False
theorem od_isN : OpD X g (compareOp .Is) rdIsN := .of op_isN fun σ H M ds x y v u QD R rx ry h => by
  unfold rdIsN at h
  split at h
  · exact ⟨ry, .same R (z := .d (.bl _)) (by show V.bl _ = V.bl _; rw [RepD.isN rx]) h⟩
  · exact h.elim
theorem od_notN : OpD X g (compareOp .IsNot) rdNotN := .of op_notN fun σ H M ds x y v u QD R rx ry h => by
  unfold rdNotN at h
  split at h
  · exact ⟨ry, .same R (z := .d (.bl _)) (by show V.bl _ = V.bl _; rw [RepD.isN rx]) h⟩
  · exact h.elim

end
section
variable {X : Cx} {g : G} {W : WX} {pos : Pos} {a b c : Expr} {rest : List Expr}
def rdTru (x : Z) (ds : DS) (Q : Bool → DS → Prop) : Prop := match x with
  | .d .non => Q false ds
  | .d (.bl k) => Q k ds
  | .d (.int i) => Q (i != 0) ds
  | .d (.str s) => s.length ≤ sizeLine ∧ Q ((s.length : Int) != 0) ds
  | .d (.tup l) => Q (!l.isEmpty) ds
  | .d (.lst l) => Q (!l.isEmpty) ds
  | .d (.lsf l) => Q (!l.isEmpty) ds
  | .m n => match ds.w[n]? with
    | some (some (.lst l)) => Q (!l.isEmpty) ds
    | some (some (.dic ks l)) => Q (!l.isEmpty) ds
    | _ => False
  | _ => False
theorem RepL.emp {K : PySem.W.Frag} {own : Addr → Prop} {H : Hp} {l : List D} {xs : List V} (r : RepL K own H l xs) : xs.isEmpty = l.isEmpty := by
  have := RepL.length r
  cases l <;> cases xs <;> simp at this ⊢
theorem tru_d {pins : List (Addr × Obj)} {s : Shared} {σ : L2.St} {H : Hp} {M : List Addr} {ds : DS} {x : Z} {v : V} {vv : Value} {QD : Bool → DS → Prop} (I : L2.Inv X pins σ H s) (R : RepS X.K g M ds σ H) (rx : RepZ X.K (g.own M ds) M H x v) (vx : L2.RelV v vv)
    (h : rdTru x ds QD) : wpAny (model X.prog X.w) X.A (truthy vv) (TPD X g pins σ M ds H QD) X.xe s := by
  have go : ∀ k, TruV X.K v H k → QD k ds → wpAny (model X.prog X.w) X.A (truthy vv) (TPD X g pins σ M ds H QD) X.xe s := fun k hk q =>
    thn (tru_ok pins s σ H v vv (fun k' H' => k' = k ∧ H' = H) I vx ⟨k, hk, rfl, rfl⟩) fun k' s' ⟨H', I', e1, e2⟩ => by
      subst e1; subst e2
      exact ⟨ds, M, _, I', R, .refl, q⟩
  unfold rdTru at h
  split at h
  · cases rx; exact go _ rfl h
  · cases rx; exact go _ rfl h
  · cases rx; exact go _ rfl h
  · cases rx; exact go _ ⟨h.1, rfl⟩ h.2
  · obtain ⟨p, xs, rfl, r, q⟩ := rx
    exact go _ (.inr (.inl ⟨xs, sqT_of q, by rw [RepL.emp r]⟩)) h
  · obtain ⟨p, xs, rfl, r, n, q⟩ := rx
    exact go _ (.inl ⟨xs, .of q, by rw [RepL.emp r]⟩) h
  · obtain ⟨p, xs, rfl, r, q⟩ := rx
    exact go _ (.inl ⟨xs, sqL_of q, by rw [RepL.emp r]⟩) h
  · obtain ⟨p, hp, rfl⟩ := rx
    split at h
    · rename_i l e
      obtain ⟨xs, r, q⟩ := R.obj _ _ _ e hp
      exact go _ (.inl ⟨xs, .of q, by rw [RepL.emp r]⟩) h
    · rename_i ks l e
      obtain ⟨xs, r, z, q⟩ := R.obj _ _ _ e hp
      refine go _ (.inr (.inr ⟨_, q, ?_⟩)) h
      have h1 := RepL.length r
      cases ks <;> cases l <;> cases xs <;> simp at z h1 ⊢
    · exact h.elim
  · exact h.elim
def dTr (t : TD) : TBo := fun ds Q E => t ds (fun z ds1 => rdTru z ds1 Q) E
/-- any expression whose test is its value's truth -/
theorem pxt_val {e : Expr} {t : TD} (h : PX X g W e t) (he : ∀ whole, isTrue e X.env whole = (do let v ← whole; standAt e.pos; holding [v] (truthy v)) := by intro _; rfl) : PXT X g W e (dTr t) :=
  ⟨fun pins s σ H M ds QD ED I R t he' => isTrue_plain (thn (h.run pins s σ H M ds _ ED I R t he') fun vv s1 ⟨z, ds1, M1, v, H1, I1, r1, R1, N1, z1, q1⟩ => thn (tru_d I1 R1 z1 r1 q1) fun _ _ h => h.nxt N1) (he _)⟩
theorem PXW.pxt {e : Expr} {t : TBo} (h : PXW X g W e t) : PXT X g W e t := ⟨h.run _⟩
def dAndT (t u : TBo) : TBo := fun ds Q E => t ds (fun c ds1 => (c = true → u ds1 Q E) ∧ (c = false → Q false ds1)) E
def dOrT (t u : TBo) : TBo := fun ds Q E => t ds (fun c ds1 => (c = true → Q true ds1) ∧ (c = false → u ds1 Q E)) E
def dNotT (t : TBo) : TBo := fun ds Q E => t ds (fun c ds1 => Q (!c) ds1) E
variable {tA tB' : TBo}
theorem pxw_and1 (ha : PXT X g W a tA) : PXW X g W (.BoolOp .And [a] pos) tA :=
  ⟨fun wh pins s σ H M ds QD ED I R t he => isTrue_and (thn (ha.run pins s σ H M ds QD ED I R t he) fun c s1 e => by
    cases c with
    | true => exact isTrue_and_nil e
    | false => exact e)⟩
theorem pxw_or1 (ha : PXT X g W a tA) : PXW X g W (.BoolOp .Or [a] pos) tA :=
  ⟨fun wh pins s σ H M ds QD ED I R t he => isTrue_or (thn (ha.run pins s σ H M ds QD ED I R t he) fun c s1 e => by
    cases c with
    | false => exact isTrue_or_nil e
    | true => exact e)⟩
theorem pxw_and (ha : PXT X g W a tA) (hb : PXW X g W (.BoolOp .And (b :: rest) pos) tB') : PXW X g W (.BoolOp .And (a :: b :: rest) pos) (dAndT tA tB') :=
  ⟨fun wh pins s σ H M ds QD ED I R t he => isTrue_and (thn (ha.run pins s σ H M ds _ ED I R t he) fun c s1 ⟨ds1, M1, H1, I1, R1, N1, q1⟩ => by
    cases c with
    | true => exact thn (hb.run wh pins s1 σ H1 M1 ds1 QD ED I1 R1 (q1.1 rfl) (he.nxt N1)) fun _ _ h => h.nxt N1
    | false => exact ⟨ds1, M1, H1, I1, R1, N1, q1.2 rfl⟩)⟩
theorem pxw_or (ha : PXT X g W a tA) (hb : PXW X g W (.BoolOp .Or (b :: rest) pos) tB') : PXW X g W (.BoolOp .Or (a :: b :: rest) pos) (dOrT tA tB') :=
  ⟨fun wh pins s σ H M ds QD ED I R t he => isTrue_or (thn (ha.run pins s σ H M ds _ ED I R t he) fun c s1 ⟨ds1, M1, H1, I1, R1, N1, q1⟩ => by
    cases c with
    | true => exact ⟨ds1, M1, H1, I1, R1, N1, q1.1 rfl⟩
    | false => exact thn (hb.run wh pins s1 σ H1 M1 ds1 QD ED I1 R1 (q1.2 rfl) (he.nxt N1)) fun _ _ h => h.nxt N1)⟩
theorem pxt_not (ha : PXT X g W a tA) : PXT X g W (.UnaryOp .Not a pos) (dNotT tA) :=
  ⟨fun pins s σ H M ds QD ED I R t he => isTrue_not (thn (ha.run pins s σ H M ds _ ED I R t he) fun c s1 h => h)⟩
variable {ta tb : TD}
def kBl (P : Bool → Prop) : Z → Prop
  | .d (.bl c) => P c
  | _ => False
def dAndV (ta tb : TD) : TD := fun ds Q E => ta ds (fun z ds1 => kBl (fun c => (c = true → tb ds1 Q E) ∧ (c = false → Q (.d (.bl false)) ds1)) z) E
def dOrV (ta tb : TD) : TD := fun ds Q E => ta ds (fun z ds1 => kBl (fun c => (c = true → Q (.d (.bl true)) ds1) ∧ (c = false → tb ds1 Q E)) z) E
def dNotV (t : TBo) : TD := fun ds Q E => t ds (fun c ds1 => Q (.d (.bl (!c))) ds1) E
theorem px_one {op} (h : PX X g W a ta) : PX X g W (.BoolOp op [a] pos) ta := ⟨fun pins s σ H M ds QD ED I R t he => BoolOp_one (h.run pins s σ H M ds QD ED I R t he)⟩
theorem blD {K : PySem.W.Frag} {own : Addr → Prop} {M : List Addr} {H : Hp} {x : Z} {v : V} {vv : Value} {P : Bool → Prop} (rx : RepZ K own M H x v) (vx : L2.RelV v vv) (h : kBl P x) : ∃ c, x = .d (.bl c) ∧ vv = .bool c ∧ P c := by
  unfold kBl at h
  split at h
  · rename_i c
    have e : v = .bl c := rx
    subst e
    exact ⟨c, rfl, vx, h⟩
  · exact h.elim
theorem px_and (ha : PX X g W a ta) (hb : PX X g W (.BoolOp .And (b :: rest) pos) tb) : PX X g W (.BoolOp .And (a :: b :: rest) pos) (dAndV ta tb) :=
  ⟨fun pins s σ H M ds QD ED I R t he => BoolOp_and (thn (ha.run pins s σ H M ds _ ED I R t he) fun vv s1 ⟨z, ds1, M1, v, H1, I1, r1, R1, N1, z1, q1⟩ => by
    obtain ⟨c, rfl, rfl, q1⟩ := blD (P := fun c => (c = true → tb ds1 QD ED) ∧ (c = false → QD (.d (.bl false)) ds1)) z1 r1 q1
    refine wpAny_truthy_bool ?_
    cases c with
    | true => exact thn (hb.run pins s1 σ H1 M1 ds1 QD ED I1 R1 (q1.1 rfl) (he.nxt N1)) fun _ _ h => h.nxt N1
    | false => exact ⟨.d (.bl false), ds1, M1, .bl false, H1, I1, rfl, R1, N1, rfl, q1.2 rfl⟩)⟩
theorem px_or (ha : PX X g W a ta) (hb : PX X g W (.BoolOp .Or (b :: rest) pos) tb) : PX X g W (.BoolOp .Or (a :: b :: rest) pos) (dOrV ta tb) :=
  ⟨fun pins s σ H M ds QD ED I R t he => BoolOp_or (thn (ha.run pins s σ H M ds _ ED I R t he) fun vv s1 ⟨z, ds1, M1, v, H1, I1, r1, R1, N1, z1, q1⟩ => by
    obtain ⟨c, rfl, rfl, q1⟩ := blD (P := fun c => (c = true → QD (.d (.bl true)) ds1) ∧ (c = false → tb ds1 QD ED)) z1 r1 q1
    refine wpAny_truthy_bool ?_
    cases c with
    | true => exact ⟨.d (.bl true), ds1, M1, .bl true, H1, I1, rfl, R1, N1, rfl, q1.1 rfl⟩
    | false => exact thn (hb.run pins s1 σ H1 M1 ds1 QD ED I1 R1 (q1.2 rfl) (he.nxt N1)) fun _ _ h => h.nxt N1)⟩
theorem px_not (ha : PX X g W a ta) : PX X g W (.UnaryOp .Not a pos) (dNotV (dTr ta)) :=
  ⟨fun pins s σ H M ds QD ED I R t he => UnaryOp_ (thn (ha.run pins s σ H M ds _ ED I R t he) fun vv s1 ⟨z, ds1, M1, v, H1, I1, r1, R1, N1, z1, q1⟩ =>
    not_of (thn (tru_d I1 R1 z1 r1 q1) fun c s2 ⟨ds2, M2, H2, I2, R2, N2, q2⟩ => ⟨.d (.bl (!c)), ds2, M2, .bl (!c), H2, I2, rfl, R2, N1.trans N2, rfl, q2⟩))⟩
def dIf (t : TBo) (ta tb : TD) : TD := fun ds Q E => t ds (fun c ds1 => (c = true → ta ds1 Q E) ∧ (c = false → tb ds1 Q E)) E
theorem px_ifExp (hc : PXT X g W c tA) (ha : PX X g W a ta) (hb : PX X g W b tb) : PX X g W (.IfExp c a b pos) (dIf tA ta tb) :=
  ⟨fun pins s σ H M ds QD ED I R t he => wpAny_IfExp (thn (hc.run pins s σ H M ds _ ED I R t he) fun d s1 ⟨ds1, M1, H1, I1, R1, N1, q1⟩ => by
    cases d with
    | true => exact thn (ha.run pins s1 σ H1 M1 ds1 QD ED I1 R1 (q1.1 rfl) (he.nxt N1)) fun _ _ h => h.nxt N1
    | false => exact thn (hb.run pins s1 σ H1 M1 ds1 QD ED I1 R1 (q1.2 rfl) (he.nxt N1)) fun _ _ h => h.nxt N1)⟩
variable {rd rd' : Z → Z → DS → QZ → Prop} {tc : TD}
def dChain (rd rd' : Z → Z → DS → QZ → Prop) (ta tb tc : TD) : TD := fun ds Q E => ta ds (fun x ds1 => tb ds1 (fun y ds2 => rd x y ds2 fun z ds3 => kBl (fun k => (k = true → tc ds3 (fun w ds4 => rd' y w ds4 Q) E) ∧ (k = false → Q (.d (.bl false)) ds3)) z) E) E
theorem px_chain {op op' : CmpOp} (ho : OpD X g (compareOp op) rd) (ho' : OpD X g (compareOp op') rd') (ha : PX X g W a ta) (hb : PX X g W b tb) (hc : PX X g W c tc)
    (hm : lastMarks [op, op'] [b, c] = false := by with_unfolding_all rfl) : PX X g W (.Compare a [op, op'] [b, c] pos) (dChain rd rd' ta tb tc) := by
  refine ⟨fun pins s σ H M ds QD ED I R t he => ?_⟩
  refine Compare_chain (thn (ha.run pins s σ H M ds _ ED I R t he) fun vv s1 ⟨x, ds1, M1, v, H1, I1, r1, R1, N1, z1, q1⟩ => chain_link (thn (hb.run pins s1 σ H1 M1 ds1 _ ED I1 R1 q1 (he.nxt N1)) fun uu s2 ⟨y, ds2, M2, u, H2, I2, r2, R2, N2, z2, q2⟩ =>
    thn (ho pins s2 σ H2 M2 ds2 x y v u vv uu _ I2 R2 (z1.mv N2.mv N2.pre) r1 z2 r2 q2) fun d s3 ⟨z, ds3, M3, w, H3, I3, r3, R3, N3, z3, q3⟩ => ?_)) hm
  obtain ⟨k, rfl, rfl, q3⟩ := blD (P := fun k => (k = true → tc ds3 (fun w ds4 => rd' y w ds4 QD) ED) ∧ (k = false → QD (.d (.bl false)) ds3)) z3 r3 q3
  refine wpAny_truthy_bool ?_
  have N := (N1.trans N2).trans N3
  cases k with
  | false => exact ite_ff ⟨.d (.bl false), ds3, M3, .bl false, H3, I3, rfl, R3, N, rfl, q3.2 rfl⟩
  | true => exact ite_tt (chain_last (thn (hc.run pins s3 σ H3 M3 ds3 _ ED I3 R3 (q3.1 rfl) (he.nxt N)) fun w' s4 ⟨z', ds4, M4, w, H4, I4, r4, R4, N4, z4, q4⟩ =>
      thn (ho' pins s4 σ H4 M4 ds4 y z' u w uu w' QD I4 R4 ((z2.mv N3.mv N3.pre).mv N4.mv N4.pre) r2 z4 r4 q4) fun _ _ h => h.nxt (N.trans N4)))
theorem pxt_chain {op op' : CmpOp} (ho : OpD X g (compareOp op) rd) (ho' : OpD X g (compareOp op') rd') (ha : PX X g W a ta) (hb : PX X g W b tb) (hc : PX X g W c tc)
    (hm : lastMarks [op, op'] [b, c] = false := by with_unfolding_all rfl) : PXT X g W (.Compare a [op, op'] [b, c] pos) (dT (dChain rd rd' ta tb tc)) := by
  refine ⟨fun pins s σ H M ds QD ED I R t he => ?_⟩
  refine isTrue_chain (thn (ha.run pins s σ H M ds _ ED I R t he) fun vv s1 ⟨x, ds1, M1, v, H1, I1, r1, R1, N1, z1, q1⟩ => test_link (thn (hb.run pins s1 σ H1 M1 ds1 _ ED I1 R1 q1 (he.nxt N1)) fun uu s2 ⟨y, ds2, M2, u, H2, I2, r2, R2, N2, z2, q2⟩ =>
    thn (ho pins s2 σ H2 M2 ds2 x y v u vv uu _ I2 R2 (z1.mv N2.mv N2.pre) r1 z2 r2 q2) fun d s3 ⟨z, ds3, M3, w, H3, I3, r3, R3, N3, z3, q3⟩ => ?_)) hm
  obtain ⟨k, rfl, rfl, q3⟩ := blD (P := fun k => (k = true → tc ds3 (fun w ds4 => rd' y w ds4 (bB QD)) ED) ∧ (k = false → (bB QD) (.d (.bl false)) ds3)) z3 r3 q3
  refine wpAny_truthy_bool ?_
  have N := (N1.trans N2).trans N3
  cases k with
  | false => exact ite_ff ⟨ds3, M3, H3, I3, R3, N, q3.2 rfl⟩
  | true => exact ite_tt (test_last (thn (hc.run pins s3 σ H3 M3 ds3 _ ED I3 R3 (q3.1 rfl) (he.nxt N)) fun w' s4 ⟨z', ds4, M4, w, H4, I4, r4, R4, N4, z4, q4⟩ =>
      thn (ho' pins s4 σ H4 M4 ds4 y z' u w uu w' _ I4 R4 ((z2.mv N3.mv N3.pre).mv N4.mv N4.pre) r2 z4 r4 q4) fun d5 s5 h => by
        obtain ⟨k2, rfl, h2⟩ := bB_of h
        exact wpAny_truthy_bool (TPD.nxt (N.trans N4) h2)))
variable {e : Expr} {es : List Expr}
def dNil : TLi := fun ds Q _ => Q [] ds
def dCons (t : TD) (u : TLi) : TLi := fun ds Q E => t ds (fun x ds1 => u ds1 (fun xs ds2 => Q (x :: xs) ds2) E) E
theorem pxa_nil : PXA X g W [] dNil := ⟨fun pos pins s σ H M ds QD ED I R t _ => Calls.spliced_nil ⟨[], ds, M, [], H, I, .nil, R, .refl, rfl, t⟩⟩
theorem pxa_cons {t : TD} {u : TLi} (ha : PX X g W e t) (hr : PXA X g W es u) (hs : starEach (e :: es) X.env = (false, eval e X.env) :: starEach es X.env := by rfl) : PXA X g W (e :: es) (dCons t u) := by
  refine ⟨fun pos pins s σ H M ds QD ED I R t he => ?_⟩
  rw [hs]
  show wpAny _ _ (spliced ((false, eval e X.env) :: backTo pos (starEach es X.env))) _ _ s
  refine Calls.spliced_cons (thn (ha.run pins s σ H M ds _ ED I R t he) fun vv s1 ⟨x, ds1, M1, v, H1, I1, r1, R1, N1, z1, q1⟩ => ?_)
  exact thn (hr.run pos pins s1 σ H1 M1 ds1 _ ED I1 R1 q1 (he.nxt N1)) fun us s2 ⟨xs, ds2, M2, vs, H2, I2, r2, R2, N2, z2, q2⟩ => ⟨x :: xs, ds2, M2, v :: vs, H2, I2, .cons r1 r2, R2, N1.trans N2, ⟨v, vs, rfl, z1.mv N2.mv N2.pre, z2⟩, q2⟩
def unD : List Z → Option (List D)
  | [] => some []
  | .d x :: l => match unD l with
    | some r => some (x :: r)
    | none => none
  | .m _ :: _ => none
theorem unD_of : ∀ {l : List Z} {r : List D}, unD l = some r → l = r.map Z.d
  | [], r, h => by cases h; rfl
  | .d x :: l, r, h => by
    unfold unD at h
    split at h
    · rename_i r' e
      cases h
      rw [unD_of e]; rfl
    · cases h
  | .m n :: l, r, h => by cases h
def kTup (Q : QZ) : List Z → DS → Prop := fun zs ds => match unD zs with
  | some l => l.length ≤ sizeLine ∧ Q (.d (.tup l)) ds
  | none => False
def kLst (Q : QZ) : List Z → DS → Prop := fun zs ds => match unD zs with
  | some l => l.length ≤ sizeLine ∧ Q (.d (.lst l)) ds
  | none => False
def kLstM (Q : QZ) : List Z → DS → Prop := fun zs ds => match unD zs with
  | some l => l.length ≤ sizeLine ∧ Q (.m ds.w.length) (ds.more (.lst l))
  | none => False
def dTup (t : TLi) : TD := fun ds Q E => t ds (kTup Q) E
def dLst (t : TLi) : TD := fun ds Q E => t ds (kLst Q) E
def dLstM (t : TLi) : TD := fun ds Q E => t ds (kLstM Q) E
theorem px_tup {x1} {t : TLi} (h : PXA X g W es t) : PX X g W (.Tuple es x1 pos) (dTup t) := by
  refine ⟨fun pins s σ H M ds QD ED I R t he => ?_⟩
  refine wpAny_Tuple_spliced (thn (h.run pos pins s σ H M ds _ ED I R t he) fun us s1 ⟨zs, ds1, M1, xs, H1, I1, r, R1, N1, rz, q⟩ => ?_)
  unfold kTup at q
  split at q
  · rename_i l el
    obtain rfl := unD_of el
    have rl := rz.toD
    have hf : H1 s1.heap.objs.size = none := I1.hok.fresh (Nat.le_refl _)
    have hl : us.length ≤ sizeLine := by rw [← r.length, RepL.length rl]; exact q.1
    refine ⟨hl, ?_⟩
    obtain ⟨R2, N2⟩ := R1.upd (o := .tup xs) hf
    refine ⟨.d (.tup l), ds1, M1, .ref s1.heap.objs.size, L2.upd H1 s1.heap.objs.size (.tup xs), I1.laid (t' := s1.toks) (fun b u e => Heap.get?_push_of_some _ e) (Nat.le_refl _) ?_, rfl, R2, N1.trans N2, ⟨_, xs, rfl, RepL.mv N2.mv _ _ rl, .inl ⟨R1.own_none hf, .inl upd_same⟩⟩, q.2⟩
    exact ⟨by rw [r.length]; exact hl, us, r, ⟨_, Heap.get?_push_size _ rfl, rfl, _, rfl⟩⟩
  · exact q.elim
theorem px_lst {t : TLi} (h : PXA X g W es t) : PX X g W (.List es pos) (dLst t) := by
  refine ⟨fun pins s σ H M ds QD ED I R t he => ?_⟩
  refine wpAny_List_spliced (thn (h.run pos pins s σ H M ds _ ED I R t he) fun us s1 ⟨zs, ds1, M1, xs, H1, I1, r, R1, N1, rz, q⟩ => ?_)
  unfold kLst at q
  split at q
  · rename_i l el
    obtain rfl := unD_of el
    have rl := rz.toD
    have hf : H1 s1.heap.objs.size = none := I1.hok.fresh (Nat.le_refl _)
    have hl : us.length ≤ sizeLine := by rw [← r.length, RepL.length rl]; exact q.1
    refine ⟨hl, ?_⟩
    obtain ⟨R2, N2⟩ := R1.upd (o := .lst xs) hf
    refine ⟨.d (.lst l), ds1, M1, .ref s1.heap.objs.size, L2.upd H1 s1.heap.objs.size (.lst xs), I1.laid (t' := s1.toks) (fun b u e => Heap.get?_push_of_some _ e) (Nat.le_refl _) ?_, rfl, R2, N1.trans N2, ⟨_, xs, rfl, RepL.mv N2.mv _ _ rl, R1.own_none hf, upd_same⟩, q.2⟩
    exact ⟨by rw [r.length]; exact hl, us, 0, r, Heap.get?_push_size _ rfl⟩
  · exact q.elim
theorem px_lstM {t : TLi} (h : PXA X g W es t) : PX X g W (.List es pos) (dLstM t) := by
  refine ⟨fun pins s σ H M ds QD ED I R t he => ?_⟩
  refine wpAny_List_spliced (thn (h.run pos pins s σ H M ds _ ED I R t he) fun us s1 ⟨zs, ds1, M1, xs, H1, I1, r, R1, N1, rz, q⟩ => ?_)
  unfold kLstM at q
  split at q
  · rename_i l el
    obtain rfl := unD_of el
    have rl := rz.toD
    have hf : H1 s1.heap.objs.size = none := I1.hok.fresh (Nat.le_refl _)
    have hl : us.length ≤ sizeLine := by rw [← r.length, RepL.length rl]; exact q.1
    refine ⟨hl, ?_⟩
    have md := Mid.mlst (X := X) (QD := QD) R1 hf rl q.2
    obtain ⟨z, ds2, M2, R2, N2, z2, q2⟩ := md
    refine ⟨z, ds2, M2, .ref s1.heap.objs.size, L2.upd H1 s1.heap.objs.size (.lst xs), I1.laid (t' := s1.toks) (fun b u e => Heap.get?_push_of_some _ e) (Nat.le_refl _) ?_, rfl, R2, N1.trans N2, z2, q2⟩
    exact ⟨by rw [r.length]; exact hl, us, 0, r, Heap.get?_push_size _ rfl⟩
  · exact q.elim
end
end L3

set_option Elab.async false
set_option linter.all false
set_option maxRecDepth 100000
set_option maxHeartbeats 4000000
namespace L3
open PySem PySem.Spec PyProof.Rows L2
section
variable (X : Cx) (g : G) (W : WX)
def MidL (σ : L2.St) (M : List Addr) (ds : DS) (H : Hp) (QD : List Z → DS → Prop) (vs : List V) (H' : Hp) : Prop :=
  ∃ zs ds' M', RepS X.K g M' ds' σ H' ∧ Nxt g M ds H M' ds' H' ∧ RepZs X.K (g.own M' ds') M' H' zs vs ∧ QD zs ds'
def MidT (σ : L2.St) (M : List Addr) (ds : DS) (H : Hp) (QD : Bool → DS → Prop) (b : Bool) (H' : Hp) : Prop :=
  ∃ ds' M', RepS X.K g M' ds' σ H' ∧ Nxt g M ds H M' ds' H' ∧ QD b ds'
def lift (t : TD) : TE := fun σ H Q => ∃ M ds QD ED, RepS X.K g M ds σ H ∧ t ds QD ED ∧ EW X g W σ M ds H ED ∧ ∀ v H', Mid X g σ M ds H QD v H' → Q v H'
def liftA (t : TLi) : TA := fun σ H Q => ∃ M ds QD ED, RepS X.K g M ds σ H ∧ t ds QD ED ∧ EW X g W σ M ds H ED ∧ ∀ v H', MidL X g σ M ds H QD v H' → Q v H'
def liftT (t : TBo) : TT := fun σ H Q => ∃ M ds QD ED, RepS X.K g M ds σ H ∧ t ds QD ED ∧ EW X g W σ M ds H ED ∧ ∀ b H', MidT X g σ M ds H QD b H' → Q b H'
end
section
variable {X : Cx} {g : G} {W : WX} {pos : Pos} {e : Expr} {es : List Expr}
theorem PX.pe {t : TD} (h : PX X g W e t) : PE X e (lift X g W t) := by
  refine ⟨fun pins s σ H Q I q => ?_⟩
  obtain ⟨M, ds, QD, ED, R, ht, he, hq⟩ := q
  exact thn (h.run pins s σ H M ds QD ED I R ht he) fun u s' ⟨z, ds', M', v, H', I', r, R', N, rz, q⟩ => ⟨v, H', I', r, hq v H' ⟨z, ds', M', R', N, rz, q⟩⟩
theorem PXA.pa {t : TLi} (h : PXA X g W es t) : PA X es (liftA X g W t) := by
  refine ⟨fun pos pins s σ H Q I q => ?_⟩
  obtain ⟨M, ds, QD, ED, R, ht, he, hq⟩ := q
  exact thn (h.run pos pins s σ H M ds QD ED I R ht he) fun u s' ⟨z, ds', M', v, H', I', r, R', N, rz, q⟩ => ⟨v, H', I', r, hq v H' ⟨z, ds', M', R', N, rz, q⟩⟩
theorem PXT.pt {t : TBo} (h : PXT X g W e t) : PT X e (liftT X g W t) := by
  refine ⟨fun pins s σ H Q I q => ?_⟩
  obtain ⟨M, ds, QD, ED, R, ht, he, hq⟩ := q
  exact thn (h.run pins s σ H M ds QD ED I R ht he) fun u s' ⟨ds', M', H', I', R', N, q⟩ => ⟨H', I', hq u H' ⟨ds', M', R', N, q⟩⟩
theorem PX.of {t : TD} {te : TE} (h : PE X e te) (hs : ∀ (σ : L2.St) (H : Hp) (M : List Addr) (ds : DS) (QD : QZ) (ED : QE), RepS X.K g M ds σ H → t ds QD ED → EW X g W σ M ds H ED → te σ H (Mid X g σ M ds H QD)) : PX X g W e t :=
  ⟨fun pins s σ H M ds QD ED I R ht he => thn (h.run pins s σ H _ I (hs σ H M ds QD ED R ht he)) fun _ _ z => .of z⟩
theorem lift_in {t : TD} {σ : L2.St} {H : Hp} {M : List Addr} {ds : DS} {QD : QZ} {ED : QE} {Q : VK} (R : RepS X.K g M ds σ H) (ht : t ds QD ED) (he : EW X g W σ M ds H ED) (hq : ∀ z ds' M' v H', RepS X.K g M' ds' σ H' → Nxt g M ds H M' ds' H' → RepZ X.K (g.own M' ds') M' H' z v → QD z ds' → Q v H') : lift X g W t σ H Q :=
  ⟨M, ds, QD, ED, R, ht, he, fun v H' ⟨z, ds', M', R', N, rz, q⟩ => hq z ds' M' v H' R' N rz q⟩
theorem liftA_in {t : TLi} {σ : L2.St} {H : Hp} {M : List Addr} {ds : DS} {QD : List Z → DS → Prop} {ED : QE} {Q : List V → Hp → Prop} (R : RepS X.K g M ds σ H) (ht : t ds QD ED) (he : EW X g W σ M ds H ED) (hq : ∀ z ds' M' v H', RepS X.K g M' ds' σ H' → Nxt g M ds H M' ds' H' → RepZs X.K (g.own M' ds') M' H' z v → QD z ds' → Q v H') : liftA X g W t σ H Q :=
  ⟨M, ds, QD, ED, R, ht, he, fun v H' ⟨z, ds', M', R', N, rz, q⟩ => hq z ds' M' v H' R' N rz q⟩
theorem Mid.nxt {σ : L2.St} {M M1 : List Addr} {ds ds1 : DS} {H H1 : Hp} {QD : QZ} {v : V} {H' : Hp} (N : Nxt g M ds H M1 ds1 H1) (h : Mid X g σ M1 ds1 H1 QD v H') : Mid X g σ M ds H QD v H' := by
  obtain ⟨z, ds', M', R, N', rz, q⟩ := h
  exact ⟨z, ds', M', R, N.trans N', rz, q⟩
variable {a b : Expr} {ta tb : TD}
/-- the items that a list holds; a list or tuple -/
def itemsL (ds : DS) : Z → Option (List D)
  | .d (.lst l) => some l
  | .d (.lsf l) => some l
  | .m n => match ds.w[n]? with
    | some (some (.lst l)) => some l
    | _ => none
  | _ => none
def itemsOf (ds : DS) : Z → Option (List D)
  | .d (.tup l) => some l
  | z => itemsL ds z
theorem itemsL_rep {σ : L2.St} {H : Hp} {M : List Addr} {ds : DS} {z : Z} {v : V} {l : List D} (R : RepS X.K g M ds σ H) (rz : RepZ X.K (g.own M ds) M H z v) (h : itemsL ds z = some l) : ∃ a xs, v = .ref a ∧ RepL X.K (g.own M ds) H l xs ∧ SqL X.K H a xs := by
  unfold itemsL at h
  split at h
  · cases h; obtain ⟨a, xs, rfl, r, n, q⟩ := rz; exact ⟨a, xs, rfl, r, .of q⟩
  · cases h; obtain ⟨a, xs, rfl, r, q⟩ := rz; exact ⟨a, xs, rfl, r, sqL_of q⟩
  · rename_i n
    obtain ⟨p, hp, rfl⟩ := rz
    split at h
    · rename_i l' e
      cases h
      obtain ⟨xs, r, q⟩ := R.obj _ _ _ e hp
      exact ⟨p, xs, rfl, r, .of q⟩
    · cases h
  · cases h
theorem items_rep {σ : L2.St} {H : Hp} {M : List Addr} {ds : DS} {z : Z} {v : V} {l : List D} (R : RepS X.K g M ds σ H) (rz : RepZ X.K (g.own M ds) M H z v) (h : itemsOf ds z = some l) : ∃ a xs, v = .ref a ∧ RepL X.K (g.own M ds) H l xs ∧ (SqL X.K H a xs ∨ SqT X.K H a xs) := by
  unfold itemsOf at h
  split at h
  · cases h; obtain ⟨a, xs, rfl, r, q⟩ := rz; exact ⟨a, xs, rfl, r, .inr (sqT_of q)⟩
  · obtain ⟨a, xs, h1, h2, h3⟩ := itemsL_rep R rz h
    exact ⟨a, xs, h1, h2, .inl h3⟩
def kInt (P : Int → Prop) : Z → Prop
  | .d (.int i) => P i
  | _ => False
theorem intD {K : PySem.W.Frag} {own : Addr → Prop} {M : List Addr} {H : Hp} {x : Z} {v : V} {P : Int → Prop} (rx : RepZ K own M H x v) (h : kInt P x) : ∃ i, x = .d (.int i) ∧ v = .int i ∧ P i := by
  unfold kInt at h
  split at h
  · exact ⟨_, rfl, rx, h⟩
  · exact h.elim
/-- x[i], i a written number from 0 on -/
def rdIxN (k : Nat) (x : Z) (ds : DS) (Q : QZ) : Prop := match itemsOf ds x with
  | some l => match l[k]? with
    | some y => Q (.d y) ds
    | none => False
  | none => False
def rdIx : Z → Z → DS → QZ → Prop := fun x y ds Q => match y with
  | .d (.int i) => match x with
    | .d (.str s) => ∃ c, s.length ≤ sizeLine ∧ atI s.cps.toList i = some c ∧ Q (.d (.str ⟨#[c]⟩)) ds
    | _ => match itemsOf ds x with
      | some l => ∃ y, atI l i = some y ∧ Q (.d y) ds
      | none => False
  | _ => False
theorem atI_map {K : PySem.W.Frag} {own : Addr → Prop} {H : Hp} {l : List D} {xs : List V} {i : Int} {d : D} (r : RepL K own H l xs) (h : atI l i = some d) : ∃ v, atI xs i = some v ∧ RepD K own H d v := by
  unfold atI at h ⊢
  rw [RepL.length r]
  cases e : ixN l.length i with
  | none => rw [e] at h; cases h
  | some j =>
    rw [e] at h
    exact r.get h
theorem px_ix (ha : PX X g W a ta) (hb : PX X g W b tb) (hs : PlainIx b := by intro _ _; rfl) : PX X g W (.Subscript a b pos) (dOp rdIx ta tb) := by
  refine .of (pe_ix ix_seq ha.pe hb.pe hs) fun σ H M ds QD ED R ht he => ?_
  refine lift_in R ht he fun x ds1 M1 v H1 R1 N1 rx q1 => lift_in R1 q1 (he.nxt N1) fun y ds2 M2 u H2 R2 N2 ry q2 => ?_
  have rx := rx.mv N2.mv N2.pre
  have N := N1.trans N2
  unfold rdIx at q2
  split at q2
  · cases ry
    split at q2
    · obtain ⟨c, h1, h2, q⟩ := q2
      cases rx
      exact .inr (.inr ⟨_, _, c, rfl, rfl, h1, h2, (Mid.same R2 (z := .d (.str _)) rfl q).nxt N⟩)
    · split at q2
      · rename_i l e
        obtain ⟨y, h1, q⟩ := q2
        obtain ⟨p, xs, rfl, r, hq⟩ := items_rep R2 rx e
        obtain ⟨w, h2, rw'⟩ := atI_map r h1
        have m : Mid X g σ M ds H QD w H2 := (Mid.same R2 (z := .d y) rw' q).nxt N
        rcases hq with hq | hq
        · exact .inl ⟨p, xs, _, w, rfl, rfl, hq, h2, m⟩
        · exact .inr (.inl ⟨p, xs, _, w, rfl, rfl, hq, h2, m⟩)
      · exact q2.elim
  · exact q2.elim
def dIxN (k : Nat) (ta : TD) : TD := fun ds Q E => ta ds (fun x ds1 => rdIxN k x ds1 Q) E
theorem px_ixN {k : Nat} {j : Nat} {p2 : Pos} (ha : PX X g W a ta) : PX X g W (.Subscript a (.Constant (.int (k : Nat)) j p2) pos) (dIxN k ta) := by
  refine .of (pe_ix ix_seq ha.pe (pe_int (i := (k : Nat))) (by intro _ _; rfl)) fun σ H M ds QD ED R ht he => ?_
  refine lift_in R ht he fun x ds1 M1 v H1 R1 N1 rx q1 => ?_
  show rIx _ _ _ _ _
  unfold rdIxN at q1
  split at q1
  · rename_i l e
    split at q1
    · rename_i y hy
      obtain ⟨p, xs, rfl, r, hq⟩ := items_rep R1 rx e
      obtain ⟨w, h2, rw'⟩ := r.get hy
      have m : Mid X g σ M ds H QD w H1 := (Mid.same R1 (z := .d y) rw' q1).nxt N1
      rcases hq with hq | hq
      · exact .inl ⟨p, xs, _, w, rfl, rfl, hq, atI_nat h2, m⟩
      · exact .inr (.inl ⟨p, xs, _, w, rfl, rfl, hq, atI_nat h2, m⟩)
    · exact q1.elim
  · exact q1.elim
/-- the items of l[lo:hi] -/
def cutD (l : List D) (lo hi : Option Int) : List D := (l.drop (HT.sIx l.length 0 lo)).take (HT.sIx l.length l.length hi - HT.sIx l.length 0 lo)
theorem RepL.cut {K : PySem.W.Frag} {own : Addr → Prop} {H : Hp} {l : List D} {xs : List V} (r : RepL K own H l xs) (lo hi : Option Int) : RepL K own H (cutD l lo hi) (cutV xs lo hi) := by
  unfold cutD cutV
  rw [RepL.length r]
  exact RepL.take _ (RepL.drop _ r)
def rdSl (lo hi : Option Int) (x : Z) (ds : DS) (Q : QZ) : Prop := match x with
  | .d (.tup l) => ¬ (HT.sIx l.length 0 lo = 0 ∧ HT.sIx l.length l.length hi = l.length) ∧ Q (.d (.tup (cutD l lo hi))) ds
  | _ => match itemsL ds x with
    | some l => Q (.d (.lst (cutD l lo hi))) ds
    | none => False
theorem rdSl_ok {σ : L2.St} {H : Hp} {M : List Addr} {ds : DS} {x : Z} {v : V} {lo hi : Option Int} {QD : QZ} (R : RepS X.K g M ds σ H) (rx : RepZ X.K (g.own M ds) M H x v) (q : rdSl lo hi x ds QD) :
    rSlL X.K v lo hi H (Mid X g σ M ds H QD) ∨ rSlT X.K v lo hi H (Mid X g σ M ds H QD) := by
  unfold rdSl at q
  split at q
  · obtain ⟨p, xs, rfl, r, hq⟩ := rx
    have e := RepL.length r
    exact .inr ⟨p, xs, rfl, sqT_of hq, by rw [e]; exact q.1, fun p hp => .tup R hp (r.cut lo hi) q.2⟩
  · split at q
    · rename_i l e
      obtain ⟨p, xs, rfl, r, hq⟩ := itemsL_rep R rx e
      exact .inl ⟨p, xs, rfl, hq, fun p hp => .lst R hp (r.cut lo hi) q⟩
    · exact q.elim
theorem rSl_nxt {σ : L2.St} {M M1 : List Addr} {ds ds1 : DS} {H H1 : Hp} {QD : QZ} {v : V} {lo hi : Option Int} (N : Nxt g M ds H M1 ds1 H1) (h : rSlL X.K v lo hi H1 (Mid X g σ M1 ds1 H1 QD) ∨ rSlT X.K v lo hi H1 (Mid X g σ M1 ds1 H1 QD)) :
    rSlL X.K v lo hi H1 (Mid X g σ M ds H QD) ∨ rSlT X.K v lo hi H1 (Mid X g σ M ds H QD) := by
  rcases h with ⟨p, xs, h1, h2, h3⟩ | ⟨p, xs, h1, h2, h4, h3⟩
  · exact .inl ⟨p, xs, h1, h2, fun p hp => (h3 p hp).nxt N⟩
  · exact .inr ⟨p, xs, h1, h2, h4, fun p hp => (h3 p hp).nxt N⟩
/-- x[:hi], x[lo:], x[lo:hi] -/
def dSl1 (t : TD) (th : TD) : TD := fun ds Q E => t ds (fun x ds1 => th ds1 (fun z ds2 => kInt (fun i => rdSl none (some i) x ds2 Q) z) E) E
def dSl2 (t : TD) (tl : TD) : TD := fun ds Q E => t ds (fun x ds1 => tl ds1 (fun z ds2 => kInt (fun i => rdSl (some i) none x ds2 Q) z) E) E
def dSl3 (t : TD) (tl th : TD) : TD := fun ds Q E => t ds (fun x ds1 => tl ds1 (fun y ds2 => kInt (fun i => th ds2 (fun z ds3 => kInt (fun j => rdSl (some i) (some j) x ds3 Q) z) E) y) E) E
variable {lo hi : Expr} {tl th : TD} {p2 : Pos}
theorem px_sl1 (ha : PX X g W a ta) (hh : PX X g W hi th) : PX X g W (.Subscript a (.Slice none (some hi) none p2) pos) (dSl1 ta th) := by
  refine .of (pe_slice (sl_list.or sl_tup) ha.pe po_none (po_some hh.pe)) fun σ H M ds QD ED R ht he => ?_
  refine lift_in R ht he fun x ds1 M1 v H1 R1 N1 rx q1 => lift_in R1 q1 (he.nxt N1) fun y ds2 M2 u H2 R2 N2 ry q2 => ?_
  obtain ⟨i, rfl, rfl, q3⟩ := intD ry q2
  exact ⟨i, rfl, rSl_nxt (N1.trans N2) (rdSl_ok R2 (rx.mv N2.mv N2.pre) q3)⟩
theorem px_sl2 (ha : PX X g W a ta) (hl : PX X g W lo tl) : PX X g W (.Subscript a (.Slice (some lo) none none p2) pos) (dSl2 ta tl) := by
  refine .of (pe_slice (sl_list.or sl_tup) ha.pe (po_some hl.pe) po_none) fun σ H M ds QD ED R ht he => ?_
  refine lift_in R ht he fun x ds1 M1 v H1 R1 N1 rx q1 => lift_in R1 q1 (he.nxt N1) fun y ds2 M2 u H2 R2 N2 ry q2 => ?_
  obtain ⟨i, rfl, rfl, q3⟩ := intD ry q2
  exact ⟨i, rfl, rSl_nxt (N1.trans N2) (rdSl_ok R2 (rx.mv N2.mv N2.pre) q3)⟩
theorem px_sl3 (ha : PX X g W a ta) (hl : PX X g W lo tl) (hh : PX X g W hi th) : PX X g W (.Subscript a (.Slice (some lo) (some hi) none p2) pos) (dSl3 ta tl th) := by
  refine .of (pe_slice (sl_list.or sl_tup) ha.pe (po_some hl.pe) (po_some hh.pe)) fun σ H M ds QD ED R ht he => ?_
  refine lift_in R ht he fun x ds1 M1 v H1 R1 N1 rx q1 => lift_in R1 q1 (he.nxt N1) fun y ds2 M2 u H2 R2 N2 ry q2 => ?_
  obtain ⟨i, rfl, rfl, q2⟩ := intD ry q2
  refine ⟨i, rfl, lift_in R2 q2 (he.nxt (N1.trans N2)) fun z ds3 M3 w H3 R3 N3 rz q3 => ?_⟩
  obtain ⟨j, rfl, rfl, q3⟩ := intD rz q3
  exact ⟨j, rfl, rSl_nxt ((N1.trans N2).trans N3) (rdSl_ok R3 ((rx.mv N2.mv N2.pre).mv N3.mv N3.pre) q3)⟩
variable {x : Str} {p : Pos} {T id : String} {r : List V → Hp → VK → Prop} {rd : List Z → DS → QZ → Prop} {t : TLi}
def dCB (rd : List Z → DS → QZ → Prop) (t : TLi) : TD := fun ds Q E => t ds (fun zs ds1 => rd zs ds1 Q) E
/-- a rule of the layer below, over data -/
def LowD (X : Cx) (g : G) (r : List V → Hp → VK → Prop) (rd : List Z → DS → QZ → Prop) : Prop :=
  ∀ (σ : L2.St) (H : Hp) (M : List Addr) (ds : DS) (zs : List Z) (vs : List V) (QD : QZ), RepS X.K g M ds σ H → RepZs X.K (g.own M ds) M H zs vs → rd zs ds QD → r vs H (Mid X g σ M ds H QD)
def MonoR (r : List V → Hp → VK → Prop) : Prop := ∀ vs H (Q Q' : VK), (∀ v H', Q v H' → Q' v H') → r vs H Q → r vs H Q'
theorem px_callB (hc : CallD X g (.builtin id) rd) (hg : Gl X x) (hm : X.mg x = none) (hv : bootBuiltins x = some (.builtin id)) (ha : PXA X g W (e :: es) t) (hn : x ≠ "__name__" := by decide) (hdb : (x == ("__debug__" : Str)) = false := by decide)
    (he : starEach (e :: es) X.env = (false, eval e X.env) :: starEach es X.env := by rfl) (hpl : (backTo pos (starEach es X.env)).any (·.1) = false := by rfl) : PX X g W (.Call (.Name x p) (e :: es) [] pos) (dCB rd t) := by
  refine ⟨fun pins s σ H M ds QD ED I R ht hE => ?_⟩
  refine wpAny_Call_Name_kw (ld_blt I hg hm hv ?_ hn hdb)
  exact PyProof.Rows.callWith_builtin1 (thn (ha.run pos pins s σ H M ds _ ED I R ht hE) fun us s1 ⟨zs, ds1, M1, vs, H1, I1, r1, R1, N1, rz, q1⟩ => thn (hc pins s1 σ H1 M1 ds1 zs vs us QD I1 R1 rz r1 q1) fun _ _ h => h.nxt N1) he hpl
theorem px_callTy (hc : CallD X g (.type T) rd) (hg : Gl X x) (hm : X.mg x = none) (hv : bootBuiltins x = some (.type T)) (ha : PXA X g W (e :: es) t) (hn : x ≠ "__name__" := by decide) (hdb : (x == ("__debug__" : Str)) = false := by decide)
    (he : starEach (e :: es) X.env = (false, eval e X.env) :: starEach es X.env := by rfl) (hpl : (backTo pos (starEach es X.env)).any (·.1) = false := by rfl) : PX X g W (.Call (.Name x p) (e :: es) [] pos) (dCB rd t) := by
  refine ⟨fun pins s σ H M ds QD ED I R ht hE => ?_⟩
  refine wpAny_Call_Name_kw (ld_blt I hg hm hv ?_ hn hdb)
  exact PyProof.Rows.callWith_type1 (thn (ha.run pos pins s σ H M ds _ ED I R ht hE) fun us s1 ⟨zs, ds1, M1, vs, H1, I1, r1, R1, N1, rz, q1⟩ => thn (hc pins s1 σ H1 M1 ds1 zs vs us QD I1 R1 rz r1 q1) fun _ _ h => h.nxt N1) he hpl
end
section
variable {X : Cx} {g : G}
theorem zs1 {K : PySem.W.Frag} {own : Addr → Prop} {M : List Addr} {H : Hp} {z : Z} {vs : List V} (h : RepZs K own M H [z] vs) : ∃ v, vs = [v] ∧ RepZ K own M H z v := by
  obtain ⟨v, r, rfl, h1, h2⟩ := h
  cases h2
  exact ⟨v, rfl, h1⟩
theorem zs2 {K : PySem.W.Frag} {own : Addr → Prop} {M : List Addr} {H : Hp} {z y : Z} {vs : List V} (h : RepZs K own M H [z, y] vs) : ∃ v u, vs = [v, u] ∧ RepZ K own M H z v ∧ RepZ K own M H y u := by
  obtain ⟨v, r, rfl, h1, h2⟩ := h
  obtain ⟨u, rfl, h3⟩ := zs1 h2
  exact ⟨v, u, rfl, h1, h3⟩
def rdLen : List Z → DS → QZ → Prop := fun zs ds Q => match zs with
  | [.d (.str s)] => s.length ≤ sizeLine ∧ Q (.d (.int s.length)) ds
  | [z] => match itemsOf ds z with
    | some l => Q (.d (.int l.length)) ds
    | none => False
  | _ => False
theorem cd_len : CallD X g (.builtin "len") rdLen := by
  intro pins s σ H M ds zs vs us QD I R rz rv h
  unfold rdLen at h
  split at h
  · obtain ⟨v, rfl, r1⟩ := zs1 rz
    cases r1
    exact thn (call_len_str pins s σ H _ us _ I rv ⟨_, rfl, h.1, .same R (z := .d (.int _)) rfl h.2⟩) fun _ _ z => .of z
  · obtain ⟨v, rfl, r1⟩ := zs1 rz
    split at h
    · rename_i l e
      obtain ⟨p, xs, rfl, r, hq⟩ := items_rep R r1 e
      exact thn (call_len_seq pins s σ H _ us _ I rv ⟨p, xs, rfl, hq, .same R (z := .d (.int _)) (by show V.int _ = V.int _; rw [RepL.length r]) h⟩) fun _ _ z => .of z
    · exact h.elim
  · exact h.elim
def rdAbs : List Z → DS → QZ → Prop := fun zs ds Q => match zs with
  | [.d (.int i)] => Q (.d (.int (if i < 0 then -i else i))) ds
  | _ => False
theorem cd_abs : CallD X g (.builtin "abs") rdAbs := .of call_abs fun σ H M ds zs vs QD R rz h => by
  unfold rdAbs at h
  split at h
  · obtain ⟨v, rfl, r1⟩ := zs1 rz
    cases r1
    exact ⟨_, rfl, .same R (z := .d (.int _)) rfl h⟩
  · exact h.elim
def rdMax2 : List Z → DS → QZ → Prop := fun zs ds Q => match zs with
  | [.d (.int i), .d (.int j)] => Q (.d (.int (max i j))) ds
  | _ => False
theorem max_if (i j : Int) : (if j > i then j else i) = max i j := by
  rw [Int.max_def]; split <;> split <;> omega
theorem min_if (i j : Int) : (if j < i then j else i) = min i j := by
  rw [Int.min_def]; split <;> split <;> omega
theorem cd_max2 (hc : X.calm = true) : CallD X g (.builtin "max") rdMax2 := .of (call_max2 hc) fun σ H M ds zs vs QD R rz h => by
  unfold rdMax2 at h
  split at h
  · obtain ⟨v, u, rfl, r1, r2⟩ := zs2 rz
    cases r1; cases r2
    exact ⟨_, _, rfl, by rw [max_if]; exact .same R (z := .d (.int _)) rfl h⟩
  · exact h.elim
def rdMin2 : List Z → DS → QZ → Prop := fun zs ds Q => match zs with
  | [.d (.int i), .d (.int j)] => Q (.d (.int (min i j))) ds
  | _ => False
theorem cd_min2 (hc : X.calm = true) : CallD X g (.builtin "min") rdMin2 := .of (call_min2 hc) fun σ H M ds zs vs QD R rz h => by
  unfold rdMin2 at h
  split at h
  · obtain ⟨v, u, rfl, r1, r2⟩ := zs2 rz
    cases r1; cases r2
    exact ⟨_, _, rfl, by rw [min_if]; exact .same R (z := .d (.int _)) rfl h⟩
  · exact h.elim
def rdInt1 : List Z → DS → QZ → Prop := fun zs ds Q => match zs with
  | [.d (.int i)] => Q (.d (.int i)) ds
  | [.d (.bl b)] => Q (.d (.int (if b then 1 else 0))) ds
  | _ => False
theorem cd_int1 : CallD X g (.type "int") rdInt1 := .of call_int1 fun σ H M ds zs vs QD R rz h => by
  unfold rdInt1 at h
  split at h
  · obtain ⟨v, rfl, r1⟩ := zs1 rz
    cases r1
    exact .inl ⟨_, rfl, .same R (z := .d (.int _)) rfl h⟩
  · obtain ⟨v, rfl, r1⟩ := zs1 rz
    cases r1
    exact .inr ⟨_, rfl, .same R (z := .d (.int _)) rfl h⟩
  · exact h.elim
/-- list(xs), a list that is read or one that will be written -/
def rdList : List Z → DS → QZ → Prop := fun zs ds Q => match zs with
  | [z] => match itemsOf ds z with
    | some l => Q (.d (.lst l)) ds
    | none => False
  | _ => False
def rdListM : List Z → DS → QZ → Prop := fun zs ds Q => match zs with
  | [z] => match itemsOf ds z with
    | some l => Q (.m ds.w.length) (ds.more (.lst l))
    | none => False
  | _ => False
theorem cd_list : CallD X g (.type "list") rdList := .of call_list_of fun σ H M ds zs vs QD R rz h => by
  unfold rdList at h
  split at h
  · obtain ⟨v, rfl, r1⟩ := zs1 rz
    split at h
    · rename_i l e
      obtain ⟨p, xs, rfl, r, hq⟩ := items_rep R r1 e
      exact ⟨p, xs, rfl, hq, fun l hl => .lst R hl r h⟩
    · exact h.elim
  · exact h.elim
theorem cd_listM : CallD X g (.type "list") rdListM := .of call_list_of fun σ H M ds zs vs QD R rz h => by
  unfold rdListM at h
  split at h
  · obtain ⟨v, rfl, r1⟩ := zs1 rz
    split at h
    · rename_i l e
      obtain ⟨p, xs, rfl, r, hq⟩ := items_rep R r1 e
      exact ⟨p, xs, rfl, hq, fun l hl => .mlst R hl r h⟩
    · exact h.elim
  · exact h.elim
/-- tuple(xs) of a list -/
def rdTuple : List Z → DS → QZ → Prop := fun zs ds Q => match zs with
  | [.d (.tup l)] => Q (.d (.tup l)) ds
  | [z] => match itemsL ds z with
    | some l => Q (.d (.tup l)) ds
    | none => False
  | _ => False
theorem cd_tuple : CallD X g (.type "tuple") rdTuple := .of call_tuple_of fun σ H M ds zs vs QD R rz h => by
  unfold rdTuple at h
  split at h
  · obtain ⟨v, rfl, r1⟩ := zs1 rz
    obtain ⟨p, xs, rfl, r, hq⟩ := r1
    exact ⟨p, xs, rfl, .inr ⟨sqT_of hq, .same R (z := .d (.tup _)) ⟨p, xs, rfl, r, hq⟩ h⟩⟩
  · obtain ⟨v, rfl, r1⟩ := zs1 rz
    split at h
    · rename_i l e
      obtain ⟨p, xs, rfl, r, hq⟩ := itemsL_rep R r1 e
      exact ⟨p, xs, rfl, .inl ⟨hq, fun l hl => .tup R hl r h⟩⟩
    · exact h.elim
  · exact h.elim
/-- the ints of a list -/
def intsD : List D → Option (List Int)
  | [] => some []
  | .int i :: l => match intsD l with
    | some r => some (i :: r)
    | none => none
  | _ :: _ => none
theorem intsD_of : ∀ {l : List D} {r : List Int}, intsD l = some r → l = r.map D.int
  | [], r, h => by cases h; rfl
  | .int x :: l, r, h => by
    unfold intsD at h
    split at h
    · rename_i r' e
      cases h
      rw [intsD_of e]; rfl
    · cases h
  | .non :: l, r, h => by cases h
  | .bl _ :: l, r, h => by cases h
  | .str _ :: l, r, h => by cases h
  | .ref _ :: l, r, h => by cases h
  | .ty _ :: l, r, h => by cases h
  | .tup _ :: l, r, h => by cases h
  | .lst _ :: l, r, h => by cases h
  | .lsf _ :: l, r, h => by cases h
  | .dic _ _ :: l, r, h => by cases h
  | .ins _ _ _ :: l, r, h => by cases h
theorem intsD_map : ∀ r : List Int, intsD (r.map D.int) = some r
  | [] => rfl
  | i :: r => by
    show (match intsD (r.map D.int) with | some r => some (i :: r) | none => none) = _
    rw [intsD_map r]
/-- sum(xs), max(xs), min(xs) of a list of ints -/
def rdSum : List Z → DS → QZ → Prop := fun zs ds Q => match zs with
  | [z] => match itemsL ds z with
    | some l => ∃ ns : List Int, l = ns.map D.int ∧ Q (.d (.int ns.sum)) ds
    | none => False
  | _ => False
theorem cd_sum (hc : X.calm = true) : CallD X g (.builtin "sum") rdSum := .of (cr_sum hc) fun σ H M ds zs vs QD R rz h => by
  unfold rdSum at h
  split at h
  · obtain ⟨v, rfl, r1⟩ := zs1 rz
    split at h
    · rename_i l e
      obtain ⟨p, xs, rfl, r, hq⟩ := itemsL_rep R r1 e
      obtain ⟨ns, rfl, q⟩ := h
      obtain rfl := r.ints
      exact ⟨p, ns, rfl, hq, .same R (z := .d (.int _)) rfl q⟩
    · exact h.elim
  · exact h.elim
def rdMaxL : List Z → DS → QZ → Prop := fun zs ds Q => match zs with
  | [z] => match itemsL ds z with
    | some l => ∃ ns : List Int, l = ns.map D.int ∧ 0 < ns.length ∧ ∀ m, m ∈ ns → (∀ y ∈ ns, y ≤ m) → Q (.d (.int m)) ds
    | none => False
  | _ => False
def rdMinL : List Z → DS → QZ → Prop := fun zs ds Q => match zs with
  | [z] => match itemsL ds z with
    | some l => ∃ ns : List Int, l = ns.map D.int ∧ 0 < ns.length ∧ ∀ m, m ∈ ns → (∀ y ∈ ns, m ≤ y) → Q (.d (.int m)) ds
    | none => False
  | _ => False
def rdAll : List Z → DS → QZ → Prop := fun zs ds Q => match zs with
  | [z] => match itemsL ds z with
    | some l => ∃ bs : List Bool, l = bs.map D.bl ∧ Q (.d (.bl (bs.all id))) ds
    | none => False
  | _ => False
theorem RepL.bls {K : PySem.W.Frag} {own : Addr → Prop} {H : Hp} : ∀ {l : List Bool} {xs : List V}, RepL K own H (l.map D.bl) xs → xs = l.map V.bl
  | [], xs, h => h
  | i :: l, xs, h => by
    obtain ⟨u, r, rfl, h1, h2⟩ := h
    have e : u = .bl i := h1
    rw [e, RepL.bls h2]; rfl
theorem cd_all (hc : X.calm = true) : CallD X g (.builtin "all") rdAll := .of (cr_all hc) fun σ H M ds zs vs QD R rz h => by
  unfold rdAll at h
  split at h
  · obtain ⟨v, rfl, r1⟩ := zs1 rz
    split at h
    · rename_i l e
      obtain ⟨p, xs, rfl, r, hq⟩ := itemsL_rep R r1 e
      obtain ⟨ns, rfl, q⟩ := h
      obtain rfl := RepL.bls r
      exact ⟨p, ns, rfl, hq, .same R (z := .d (.bl _)) rfl q⟩
    · exact h.elim
  · exact h.elim
def D.isInt : D → Bool
  | .int _ => true
  | .bl _ => true
  | _ => false
def D.isBool : D → Bool
  | .bl _ => true
  | _ => false
def D.isStr : D → Bool
  | .str _ => true
  | _ => false
def D.isList : D → Bool
  | .lst _ => true
  | .lsf _ => true
  | _ => false
def D.isTuple : D → Bool
  | .tup _ => true
  | _ => false
/-- the kind's name -/
def D.tyName : D → String
  | .non => "NoneType"
  | .bl _ => "bool"
  | .int _ => "int"
  | .str _ => "str"
  | .tup _ => "tuple"
  | .lst _ => "list"
  | .lsf _ => "list"
  | .dic _ _ => "dict"
  | _ => ""
def D.plain : D → Bool
  | .ref _ => false
  | .ty _ => false
  | .ins _ _ _ => false
  | _ => true
theorem RepD.tyX {K : PySem.W.Frag} {own : Addr → Prop} {H : Hp} : ∀ {d : D} {v : V}, RepD K own H d v → d.plain = true → TyX K H v (.type d.tyName)
  | .non, v, h, _ => by cases h; exact .base .non
  | .bl b, v, h, _ => by cases h; exact .base (.bl b)
  | .int b, v, h, _ => by cases h; exact .base (.int b)
  | .str b, v, h, _ => by cases h; exact .base (.str b)
  | .tup l, v, h, _ => by
    obtain ⟨a, xs, rfl, r, q⟩ := h
    rcases q with ⟨n, q | ⟨o, q⟩⟩ | ⟨o, its, n, h1, h2, _⟩
    · exact .base (.tup q)
    · exact .fTuple q
    · exact .kTuple h1 h2
  | .lst l, v, h, _ => by
    obtain ⟨a, xs, rfl, r, n, q⟩ := h
    exact .base (.lst q)
  | .lsf l, v, h, _ => by
    obtain ⟨a, xs, rfl, r, q⟩ := h
    rcases q with ⟨n, q | ⟨o, q⟩⟩ | ⟨o, its, n, h1, h2, _⟩
    · exact .base (.lst q)
    · exact .base (.frz q)
    · exact .kList h1 h2
  | .dic ks l, v, h, _ => by
    obtain ⟨a, xs, rfl, r, z, n, q⟩ := h
    exact .base (.dK q)
  | .ref a, v, h, f => by cases f
  | .ty a, v, h, f => by cases f
  | .ins C ns l, v, h, f => by cases f
def rdIsi (f : D → Bool) (T : String) : List Z → DS → QZ → Prop := fun zs ds Q => match zs with
  | [.d x, .d (.ty T')] => T' = T ∧ x.plain = true ∧ Q (.d (.bl (f x))) ds
  | _ => False
theorem cd_isi {f : D → Bool} {T : String} (hf : ∀ d : D, d.plain = true → kitB d.tyName T = some (f d)) : CallD X g (.builtin "isinstance") (rdIsi f T) := .of call_isi fun σ H M ds zs vs QD R rz h => by
  unfold rdIsi at h
  split at h
  · obtain ⟨v, u, rfl, r1, r2⟩ := zs2 rz
    obtain ⟨rfl, pl, q⟩ := h
    cases r2
    exact ⟨v, _, _, _, _, rfl, .ty _, RepD.tyX r1 pl, kit_ty (hf _ pl), .same R (z := .d (.bl _)) rfl q⟩
  · exact h.elim
theorem cd_isiInt : CallD X g (.builtin "isinstance") (rdIsi D.isInt "int") := cd_isi fun d h => by
  cases d with
  | non => exact (by decide +kernel : kitB "NoneType" "int" = some false)
  | bl b => exact (by decide +kernel : kitB "bool" "int" = some true)
  | int b => exact (by decide +kernel : kitB "int" "int" = some true)
  | str b => exact (by decide +kernel : kitB "str" "int" = some false)
  | tup b => exact (by decide +kernel : kitB "tuple" "int" = some false)
  | lst b => exact (by decide +kernel : kitB "list" "int" = some false)
  | lsf b => exact (by decide +kernel : kitB "list" "int" = some false)
  | dic b c => exact (by decide +kernel : kitB "dict" "int" = some false)
  | ref b => cases h
  | ty b => cases h
  | ins a b c => cases h
theorem cd_isiBool : CallD X g (.builtin "isinstance") (rdIsi D.isBool "bool") := cd_isi fun d h => by
  cases d with
  | non => exact (by decide +kernel : kitB "NoneType" "bool" = some false)
  | bl b => exact (by decide +kernel : kitB "bool" "bool" = some true)
  | int b => exact (by decide +kernel : kitB "int" "bool" = some false)
  | str b => exact (by decide +kernel : kitB "str" "bool" = some false)
  | tup b => exact (by decide +kernel : kitB "tuple" "bool" = some false)
  | lst b => exact (by decide +kernel : kitB "list" "bool" = some false)
  | lsf b => exact (by decide +kernel : kitB "list" "bool" = some false)
  | dic b c => exact (by decide +kernel : kitB "dict" "bool" = some false)
  | ref b => cases h
  | ty b => cases h
  | ins a b c => cases h
theorem cd_isiStr : CallD X g (.builtin "isinstance") (rdIsi D.isStr "str") := cd_isi fun d h => by
  cases d with
  | non => exact (by decide +kernel : kitB "NoneType" "str" = some false)
  | bl b => exact (by decide +kernel : kitB "bool" "str" = some false)
  | int b => exact (by decide +kernel : kitB "int" "str" = some false)
  | str b => exact (by decide +kernel : kitB "str" "str" = some true)
  | tup b => exact (by decide +kernel : kitB "tuple" "str" = some false)
  | lst b => exact (by decide +kernel : kitB "list" "str" = some false)
  | lsf b => exact (by decide +kernel : kitB "list" "str" = some false)
  | dic b c => exact (by decide +kernel : kitB "dict" "str" = some false)
  | ref b => cases h
  | ty b => cases h
  | ins a b c => cases h
theorem cd_isiTuple : CallD X g (.builtin "isinstance") (rdIsi D.isTuple "tuple") := cd_isi fun d h => by
  cases d with
  | non => exact (by decide +kernel : kitB "NoneType" "tuple" = some false)
  | bl b => exact (by decide +kernel : kitB "bool" "tuple" = some false)
  | int b => exact (by decide +kernel : kitB "int" "tuple" = some false)
  | str b => exact (by decide +kernel : kitB "str" "tuple" = some false)
  | tup b => exact (by decide +kernel : kitB "tuple" "tuple" = some true)
  | lst b => exact (by decide +kernel : kitB "list" "tuple" = some false)
  | lsf b => exact (by decide +kernel : kitB "list" "tuple" = some false)
  | dic b c => exact (by decide +kernel : kitB "dict" "tuple" = some false)
  | ref b => cases h
  | ty b => cases h
  | ins a b c => cases h
theorem cd_isiList : CallD X g (.builtin "isinstance") (rdIsi D.isList "list") := cd_isi fun d h => by
  cases d with
  | non => exact (by decide +kernel : kitB "NoneType" "list" = some false)
  | bl b => exact (by decide +kernel : kitB "bool" "list" = some false)
  | int b => exact (by decide +kernel : kitB "int" "list" = some false)
  | str b => exact (by decide +kernel : kitB "str" "list" = some false)
  | tup b => exact (by decide +kernel : kitB "tuple" "list" = some false)
  | lst b => exact (by decide +kernel : kitB "list" "list" = some true)
  | lsf b => exact (by decide +kernel : kitB "list" "list" = some true)
  | dic b c => exact (by decide +kernel : kitB "dict" "list" = some false)
  | ref b => cases h
  | ty b => cases h
  | ins a b c => cases h
end
end L3

set_option Elab.async false
set_option linter.all false
set_option maxRecDepth 100000
set_option maxHeartbeats 4000000
namespace L3
open PySem PySem.Spec PyProof.Rows L2

structure DE where
  nx : DS → Prop
  rt : QZ
  bk : DS → Prop := fun _ => False
  ct : DS → Prop := fun _ => False
  er : QE
abbrev TSd := DE → DS → Prop
section
variable (X : Cx) (g : G) (W : WX)
def ND (pins : List (Addr × Obj)) (M : List Addr) (ds : DS) (H : Hp) (P : DS → Prop) (s' : Shared) : Prop :=
  ∃ ds' M' σ' H', Inv X pins σ' H' s' ∧ RepS X.K g M' ds' σ' H' ∧ Nxt g M ds H M' ds' H' ∧ P ds'
def RD (pins : List (Addr × Obj)) (M : List Addr) (ds : DS) (H : Hp) (P : QZ) (u : Value) (s' : Shared) : Prop :=
  ∃ z ds' M' v σ' H', Inv X pins σ' H' s' ∧ RelV v u ∧ RepS X.K g M' ds' σ' H' ∧ Nxt g M ds H M' ds' H' ∧ RepZ X.K (g.own M' ds') M' H' z v ∧ P z ds'
def SPD (pins : List (Addr × Obj)) (M : List Addr) (ds : DS) (H : Hp) (D : DE) (f : Flow) (s' : Shared) : Prop := match f with
  | .next => ND X g pins M ds H D.nx s'
  | .brk => ND X g pins M ds H D.bk s'
  | .cont => ND X g pins M ds H D.ct s'
  | .ret u => RD X g pins M ds H D.rt u s'
def EWS (M : List Addr) (ds : DS) (H : Hp) (ED : QE) : Prop :=
  ∀ x ds' M' σ' H' cls d, ED x ds' → RepS X.K g M' ds' σ' H' → Nxt g M ds H M' ds' H' → RepE X.K (g.own M' ds') H' x cls d → W cls d σ' H'
structure PXS (st : Stmt) (t : TSd) : Prop where
  run : ∀ (pins : List (Addr × Obj)) (s : Shared) (σ : L2.St) (H : Hp) (M : List Addr) (ds : DS) (D : DE), Inv X pins σ H s → RepS X.K g M ds σ H → t D ds → EWS X g W M ds H D.er →
    wpAny (model X.prog X.w) X.A (exec st X.env) (SPD X g pins M ds H D) X.xe s
structure PXB (sts : List Stmt) (t : TSd) : Prop where
  run : ∀ (pins : List (Addr × Obj)) (s : Shared) (σ : L2.St) (H : Hp) (M : List Addr) (ds : DS) (D : DE), Inv X pins σ H s → RepS X.K g M ds σ H → t D ds → EWS X g W M ds H D.er →
    wpAny (model X.prog X.w) X.A (execs sts X.env) (SPD X g pins M ds H D) X.xe s
end
section
variable {X : Cx} {g : G} {W : WX} {pins : List (Addr × Obj)} {σ : L2.St} {M M1 : List Addr} {ds ds1 : DS} {H H1 : Hp} {s : Shared} {De : DE} {ED : QE}
theorem EWS.ew (h : EWS X g W M ds H ED) : EW X g W σ M ds H ED := fun x ds' M' H' cls d e R N r => h x ds' M' σ H' cls d e R N r
theorem EWS.nxt (h : EWS X g W M ds H ED) (N : Nxt g M ds H M1 ds1 H1) : EWS X g W M1 ds1 H1 ED := fun x ds' M' σ' H' cls d e R N' r => h x ds' M' σ' H' cls d e R (N.trans N') r
theorem ND.nxt {P : DS → Prop} {s' : Shared} (N : Nxt g M ds H M1 ds1 H1) (h : ND X g pins M1 ds1 H1 P s') : ND X g pins M ds H P s' := by
  obtain ⟨ds', M', σ', H', I, R, N', q⟩ := h
  exact ⟨ds', M', σ', H', I, R, N.trans N', q⟩
theorem RD.nxt {P : QZ} {u : Value} {s' : Shared} (N : Nxt g M ds H M1 ds1 H1) (h : RD X g pins M1 ds1 H1 P u s') : RD X g pins M ds H P u s' := by
  obtain ⟨z, ds', M', v, σ', H', I, r, R, N', rz, q⟩ := h
  exact ⟨z, ds', M', v, σ', H', I, r, R, N.trans N', rz, q⟩
theorem SPD.nxt {f : Flow} {s' : Shared} (N : Nxt g M ds H M1 ds1 H1) (h : SPD X g pins M1 ds1 H1 De f s') : SPD X g pins M ds H De f s' := by
  cases f with
  | next => exact ND.nxt N h
  | brk => exact ND.nxt N h
  | cont => exact ND.nxt N h
  | ret u => exact RD.nxt N h
variable {st : Stmt} {rest : List Stmt} {t u : TSd} {e : Expr} {te : TD} {pos : Pos}
def dNext : TSd := fun D ds => D.nx ds
def dSeq (t u : TSd) : TSd := fun D ds => t { D with nx := u D } ds
theorem pxb_nil : PXB X g W [] dNext := ⟨fun _ _ σ H M ds _ I R h _ => wpAny_execs_nil ⟨ds, M, σ, H, I, R, .refl, h⟩⟩
theorem pxb_cons (h1 : PXS X g W st t) (h2 : PXB X g W rest u) : PXB X g W (st :: rest) (dSeq t u) := by
  refine ⟨fun pins s σ H M ds D I R h he => ?_⟩
  refine wpAny_execs_cons (thn (h1.run pins s σ H M ds { D with nx := u D } I R h he) fun f s1 q => ?_)
  cases f with
  | next =>
    obtain ⟨ds1, M1, σ1, H1, I1, R1, N1, q⟩ := q
    exact thn (h2.run pins s1 σ1 H1 M1 ds1 D I1 R1 q (he.nxt N1)) fun _ _ h => h.nxt N1
  | ret v => exact q
  | brk => exact q
  | cont => exact q
theorem pxb_one (h1 : PXS X g W st t) : PXB X g W [st] t := by
  refine ⟨fun pins s σ H M ds D I R h he => ?_⟩
  refine wpAny_execs_cons (thn (h1.run pins s σ H M ds D I R h he) fun f s1 q => ?_)
  cases f with
  | next => exact wpAny_execs_nil q
  | ret v => exact q
  | brk => exact q
  | cont => exact q
def dBreak : TSd := fun D ds => D.bk ds
def dCont : TSd := fun D ds => D.ct ds
theorem pxs_pass : PXS X g W (.Pass pos) dNext := ⟨fun _ _ σ H M ds _ I R h _ => wpAny_Pass ⟨ds, M, σ, H, I, R, .refl, h⟩⟩
theorem pxs_break : PXS X g W (.Break pos) dBreak := ⟨fun _ _ σ H M ds _ I R h _ => wpAny_Break ⟨ds, M, σ, H, I, R, .refl, h⟩⟩
theorem pxs_continue : PXS X g W (.Continue pos) dCont := ⟨fun _ _ σ H M ds _ I R h _ => wpAny_Continue ⟨ds, M, σ, H, I, R, .refl, h⟩⟩
def dDrop (te : TD) : TSd := fun D ds => te ds (fun _ ds1 => D.nx ds1) D.er
theorem pxs_expr (he : PX X g W e te) (hs : swapsWith e none pos.line X.env = pure false := by rfl) : PXS X g W (.Expr e pos) (dDrop te) :=
  ⟨fun pins s σ H M ds D I R h hE => wpAny_Expr_any (thn (he.run pins s σ H M ds _ _ I R h hE.ew) fun v s1 ⟨z, ds1, M1, v, H1, I1, r1, R1, N1, z1, q1⟩ => ⟨ds1, M1, σ, H1, I1, R1, N1, q1⟩) I.quiet hs⟩
def dRet (te : TD) : TSd := fun D ds => te ds D.rt D.er
theorem pxs_ret (he : PX X g W e te) : PXS X g W (.Return (some e) pos) (dRet te) :=
  ⟨fun pins s σ H M ds D I R h hE => wpAny_Return_some (thn (he.run pins s σ H M ds _ _ I R h hE.ew) fun v s1 ⟨z, ds1, M1, v, H1, I1, r1, R1, N1, z1, q1⟩ => ⟨z, ds1, M1, v, σ, H1, I1, r1, R1, N1, z1, q1⟩)⟩
def dRetN : TSd := fun D ds => D.rt (.d .non) ds
theorem pxs_retN : PXS X g W (.Return none pos) dRetN := ⟨fun _ _ σ H M ds _ I R h _ => wpAny_Return_none ⟨.d .non, ds, M, .non, σ, H, I, rfl, R, .refl, rfl, h⟩⟩
def dIfS (c : TBo) (t u : TSd) : TSd := fun D ds => c ds (fun b ds1 => (b = true → t D ds1) ∧ (b = false → u D ds1)) D.er
theorem pxs_if {c : Expr} {a b : List Stmt} {tc : TBo} (hc : PXT X g W c tc) (ha : PXB X g W a t) (hb : PXB X g W b u) : PXS X g W (.If c a b pos) (dIfS tc t u) := by
  refine ⟨fun pins s σ H M ds D I R h hE => ?_⟩
  refine wpAny_If (thn (hc.run pins s σ H M ds _ _ I R h hE.ew) fun d s1 ⟨ds1, M1, H1, I1, R1, N1, q1⟩ => ?_)
  cases d with
  | true => exact thn (ha.run pins s1 σ H1 M1 ds1 D I1 R1 (q1.1 rfl) (hE.nxt N1)) fun _ _ h => h.nxt N1
  | false => exact thn (hb.run pins s1 σ H1 M1 ds1 D I1 R1 (q1.2 rfl) (hE.nxt N1)) fun _ _ h => h.nxt N1
abbrev TGd := Z → DS → (DS → Prop) → Prop
abbrev TGsd := List D → DS → (DS → Prop) → Prop
structure PXG (X : Cx) (g : G) (target : Expr) (t : TGd) : Prop where
  run : ∀ (pins : List (Addr × Obj)) (s : Shared) (σ : L2.St) (H : Hp) (M : List Addr) (ds : DS) (z : Z) (v : V) (u : Value) (P : DS → Prop), Inv X pins σ H s → RepS X.K g M ds σ H → RepZ X.K (g.own M ds) M H z v → RelV v u → t z ds P →
    wpAny (model X.prog X.w) X.A (assign target X.env u) (fun _ s' => ND X g pins M ds H P s') X.xe s
structure PXGs (X : Cx) (g : G) (ts : List Expr) (t : TGsd) : Prop where
  run : ∀ (pins : List (Addr × Obj)) (s : Shared) (σ : L2.St) (H : Hp) (M : List Addr) (ds : DS) (l : List D) (vs : List V) (us : List Value) (P : DS → Prop), Inv X pins σ H s → RepS X.K g M ds σ H → RepL X.K (g.own M ds) H l vs → Vals vs us → t l ds P →
    wpAny (model X.prog X.w) X.A (assignInOrder ((assignEach ts X.env).map (·.2)) us) (fun _ s' => ND X g pins M ds H P s') X.xe s
def dgName (i : Nat) : TGd := fun z ds P => P (ds.set i z)
theorem pxg_name {i : Nat} {x : Str} (hN : X.N.Nodup) (hi : X.N[i]? = some x) (hx : Loc X.env.scope x) (hf : X.fn x = true ∨ X.env.scope.names.lookup x = some .local := by first | exact .inl rfl | exact .inr rfl | assumption) : PXG X g (.Name x pos) (dgName i) :=
  ⟨fun pins s σ H M ds z v u P I R rz r h => wpAny_assign_Name (store_ok I hN hi hx r (fun s' I' => ⟨ds.set i z, M, _, H, I', R.set i rz, .set, h⟩) hf)⟩
def dgNil : TGsd := fun l ds P => match l with
  | [] => P ds
  | _ => False
def dgCons (t : TGd) (u : TGsd) : TGsd := fun l ds P => match l with
  | x :: r => t (.d x) ds fun ds1 => u r ds1 P
  | [] => False
theorem pxgs_nil : PXGs X g [] dgNil := by
  refine ⟨fun pins s σ H M ds l vs us P I R rl r h => ?_⟩
  cases l with
  | cons x l => exact h.elim
  | nil =>
    cases rl
    cases r
    exact assignInOrder_nil ⟨ds, M, σ, H, I, R, .refl, h⟩
theorem pxgs_cons {es : List Expr} {t : TGd} {u : TGsd} (h1 : PXG X g e t) (h2 : PXGs X g es u)
    (hs : (assignEach (e :: es) X.env).map (·.2) = assign e X.env :: (assignEach es X.env).map (·.2) := by rfl) : PXGs X g (e :: es) (dgCons t u) := by
  refine ⟨fun pins s σ H M ds l vs us P I R rl r h => ?_⟩
  cases l with
  | nil => exact h.elim
  | cons x l =>
    obtain ⟨v, vr, rfl, rx, rl⟩ := rl
    cases r with
    | cons r rr =>
      rw [hs]
      refine assignInOrder_cons (thn (h1.run pins s σ H M ds (.d x) v _ _ I R rx r h) fun _ s1 ⟨ds1, M1, σ1, H1, I1, R1, N1, q1⟩ => ?_)
      exact thn (h2.run pins s1 σ1 H1 M1 ds1 l vr _ P I1 R1 (RepL.mv N1.mv _ _ rl) rr q1) fun _ _ h => h.nxt N1
def dgTup (n : Nat) (t : TGsd) : TGd := fun z ds P => match z with
  | .d (.tup l) => l.length = n ∧ t l ds P
  | .d (.lst l) => l.length = n ∧ t l ds P
  | _ => False
theorem pxg_tup {es : List Expr} {k : Nat} {t : TGsd} {n : Nat} (hc : X.calm = true) (h : PXGs X g es t)
    (hn : (assignEach es X.env).length = n := by rfl) (hst : (assignEach es X.env).findIdx? (·.1) = none := by rfl) : PXG X g (.Tuple es k pos) (dgTup n t) := by
  refine ⟨fun pins s σ H M ds z v u P I R rz r hw => ?_⟩
  unfold dgTup at hw
  split at hw
  · rename_i l
    obtain ⟨a, xs, rfl, rl, hq⟩ := rz
    obtain ⟨hl, hw⟩ := hw
    cases r
    obtain ⟨its, rv, ht, hz⟩ := I.tuple (sqT_of hq)
    refine assign_Tuple_tuple (I.ok.hd hc) ht (by simp [hn, ← hl, ← rv.length, RepL.length rl]) hst fun h' hx => ?_
    have I1 : L2.Inv X pins σ H { s with heap := h' } := I.kept (t' := s.toks) fun b o e => hx b o (Nat.ne_of_lt (Heap.lt_size e)) e
    exact h.run pins _ σ H M ds l xs _ P I1 R rl (by simpa using rv) hw
  · rename_i l
    obtain ⟨a, xs, rfl, rl, nn, hq⟩ := rz
    obtain ⟨hl, hw⟩ := hw
    cases r
    obtain ⟨its, rv, pl, hz⟩ := I.list (.of hq)
    have hsz : (assignEach es X.env).length = its.toArray.size := by
      have e1 := RepL.length rl
      have e2 := rv.length
      simp; omega
    rw [PyProof.Rows.assign_Tuple]; refine wpAny_bind (wpAny_standAt ?_)
    unfold unpack; rw [hsz, hst]
    refine wpAny_bind (wpAny_holding (PySem.W.kun_itemsOf (I.ok.hd hc) pl.isList fun h2 hx => ?_))
    have I1 : L2.Inv X pins σ H { s with heap := h2 } := I.kept (t' := s.toks) fun b o e => hx b o (Nat.ne_of_lt (Heap.lt_size e)) e
    exact h.run pins _ σ H M ds l xs _ P I1 R rl (by simpa using rv) hw
  · exact hw.elim
def dAsg (te : TD) (gt : TGd) : TSd := fun D ds => te ds (fun z ds1 => gt z ds1 D.nx) D.er
theorem pxs_asg {tg : Expr} {gt : TGd} (he : PX X g W e te) (hg : PXG X g tg gt) (hs : swapsWithSole [tg] e pos.line X.env = pure false := by rfl) (hw : swappedStores [tg] e X.env = pure none := by rfl)
    (h1 : (assignEach [tg] X.env).map (·.2) = [assign tg X.env] := by rfl) : PXS X g W (.Assign [tg] e pos) (dAsg te gt) := by
  refine ⟨fun pins s σ H M ds D I R h hE => ?_⟩
  refine wpAny_Assign_stores (thn (he.run pins s σ H M ds _ _ I R h hE.ew) fun v s1 ⟨z, ds1, M1, x, H1, I1, r1, R1, N1, z1, q1⟩ => ?_) hs hw
  rw [h1]
  exact thn (hg.run pins s1 σ H1 M1 ds1 z x v _ I1 R1 z1 r1 q1) fun _ s2 q => ND.nxt N1 q
theorem pxs_set {i : Nat} {x : Str} {pos' : Pos} (hN : X.N.Nodup) (hi : X.N[i]? = some x) (hx : Loc X.env.scope x) (he : PX X g W e te) (hs : swapsWith e (some (.Name x pos')) pos.line X.env = pure false := by rfl) (hf : X.fn x = true ∨ X.env.scope.names.lookup x = some .local := by first | exact .inl rfl | exact .inr rfl | assumption) :
    PXS X g W (.Assign [.Name x pos'] e pos) (dAsg te (dgName i)) := by
  refine ⟨fun pins s σ H M ds D I R h hE => ?_⟩
  refine wpAny_Assign_Name (thn (he.run pins s σ H M ds _ _ I R h hE.ew) fun v s1 ⟨z, ds1, M1, y, H1, I1, r1, R1, N1, z1, q1⟩ => ?_) hs
  exact store_ok I1 hN hi hx r1 (fun s2 I2 => ⟨ds1.set i z, M1, _, H1, I2, R1.set i z1, N1.trans .set, q1⟩) hf
/-- a, b = x, y, plain local names -/
def dPar (i j : Nat) (ta : TLi) : TSd := fun D ds => ta ds (fun zs ds1 => match zs with
  | [x, y] => D.nx ((ds1.set i x).set j y)
  | _ => False) D.er
theorem pxs_par {i j : Nat} {x y : Str} {a b : Expr} {ta : TLi} {px py pt : Pos} {kt k2 pt2} (hc : X.calm = true) (hN : X.N.Nodup) (hi : X.N[i]? = some x) (hj : X.N[j]? = some y) (hij : i ≠ j)
    (hx : X.env.scope.names.lookup x = some .local) (hy : X.env.scope.names.lookup y = some .local) (ha : PXA X g W [a, b] ta)
    (hw : swappedStores [.Tuple [.Name x px, .Name y py] kt pt] (.Tuple [a, b] k2 pt2) X.env = pure (some [x, y]))
    (hs : swapsWithSole [.Tuple [.Name x px, .Name y py] kt pt] (.Tuple [a, b] k2 pt2) pos.line X.env = pure false := by rfl) :
    PXS X g W (.Assign [.Tuple [.Name x px, .Name y py] kt pt] (.Tuple [a, b] k2 pt2) pos) (dPar i j ta) := by
  refine ⟨fun pins s σ H M ds D I R h hE => ?_⟩
  have h0 := (ps_par (i := i) (j := j) (pos := pos) (px := px) (py := py) (pt := pt) hc hN hi hj hij hx hy ha.pa hw hs).run pins s σ H ⟨fun σ' H' => ∃ ds' M', RepS X.K g M' ds' σ' H' ∧ Nxt g M ds H M' ds' H' ∧ D.nx ds', fun _ _ => False, fun _ _ => False, fun _ _ => False⟩ I
    (liftA_in R h hE.ew fun zs ds1 M1 vs H1 R1 N1 rz q => by
      split at q
      · obtain ⟨v, u, rfl, r1, r2⟩ := zs2 rz
        exact ⟨v, u, rfl, _, M1, (R1.set i r1).set j r2, N1.trans (.trans .set .set), q⟩
      · exact q.elim)
  refine thn h0 fun f s1 q => ?_
  cases f with
  | next =>
    obtain ⟨σ', H', I', ds', M', R', N', q⟩ := q
    exact ⟨ds', M', σ', H', I', R', N', q⟩
  | brk => obtain ⟨_, _, _, q⟩ := q; exact q.elim
  | cont => obtain ⟨_, _, _, q⟩ := q; exact q.elim
  | ret u => obtain ⟨_, _, _, _, _, q⟩ := q; exact q.elim
def dPar3 (i j l : Nat) (ta : TLi) : TSd := fun D ds => ta ds (fun zs ds1 => match zs with
  | [x, y, z] => D.nx (((ds1.set i x).set j y).set l z)
  | _ => False) D.er
theorem pxs_par3 {i j l : Nat} {x y z : Str} {a b c : Expr} {ta : TLi} {px py pz pt : Pos} {kt k2 pt2} (hc : X.calm = true) (hN : X.N.Nodup) (hi : X.N[i]? = some x) (hj : X.N[j]? = some y) (hl : X.N[l]? = some z) (hij : i ≠ j) (hil : i ≠ l) (hjl : j ≠ l)
    (hx : X.env.scope.names.lookup x = some .local) (hy : X.env.scope.names.lookup y = some .local) (hz : X.env.scope.names.lookup z = some .local) (ha : PXA X g W [a, b, c] ta)
    (hw : swappedStores [.Tuple [.Name x px, .Name y py, .Name z pz] kt pt] (.Tuple [a, b, c] k2 pt2) X.env = pure (some [x, y, z]))
    (hs : swapsWithSole [.Tuple [.Name x px, .Name y py, .Name z pz] kt pt] (.Tuple [a, b, c] k2 pt2) pos.line X.env = pure false := by rfl) :
    PXS X g W (.Assign [.Tuple [.Name x px, .Name y py, .Name z pz] kt pt] (.Tuple [a, b, c] k2 pt2) pos) (dPar3 i j l ta) := by
  refine ⟨fun pins s σ H M ds D I R h hE => ?_⟩
  have h0 := (ps_par3 (i := i) (j := j) (l := l) (pos := pos) (px := px) (py := py) (pz := pz) (pt := pt) hc hN hi hj hl hij hil hjl hx hy hz ha.pa hw hs).run pins s σ H ⟨fun σ' H' => ∃ ds' M', RepS X.K g M' ds' σ' H' ∧ Nxt g M ds H M' ds' H' ∧ D.nx ds', fun _ _ => False, fun _ _ => False, fun _ _ => False⟩ I
    (liftA_in R h hE.ew fun zs ds1 M1 vs H1 R1 N1 rz q => by
      split at q
      · obtain ⟨v, r, rfl, r1, r2⟩ := rz
        obtain ⟨u, w, rfl, r2, r3⟩ := zs2 r2
        exact ⟨v, u, w, rfl, _, M1, ((R1.set i r1).set j r2).set l r3, N1.trans (.trans .set (.trans .set .set)), q⟩
      · exact q.elim)
  refine thn h0 fun f s1 q => ?_
  cases f with
  | next =>
    obtain ⟨σ', H', I', ds', M', R', N', q⟩ := q
    exact ⟨ds', M', σ', H', I', R', N', q⟩
  | brk => obtain ⟨_, _, _, q⟩ := q; exact q.elim
  | cont => obtain ⟨_, _, _, q⟩ := q; exact q.elim
  | ret u => obtain ⟨_, _, _, _, _, q⟩ := q; exact q.elim
/-- name op= e, op's rule over data -/
def dAug (i : Nat) (te : TD) (rd : Z → Z → DS → QZ → Prop) : TSd := fun D ds => match ds.s[i]? with
  | some (some x) => te ds (fun y ds1 => rd x y ds1 (fun z ds2 => D.nx (ds2.set i z))) D.er
  | _ => False
theorem pxs_aug {i : Nat} {x : Str} {op : Operator} {rd : Z → Z → DS → QZ → Prop} {pos' : Pos} (ho : OpD X g (inplaceOp op) rd) (hN : X.N.Nodup) (hi : X.N[i]? = some x) (hx : Loc X.env.scope x) (he : PX X g W e te)
    (hf : X.fn x = true ∨ X.env.scope.names.lookup x = some .local := by first | exact .inl rfl | exact .inr rfl | assumption) : PXS X g W (.AugAssign (.Name x pos') op e pos) (dAug i te rd) := by
  refine ⟨fun pins s σ H M ds D I R h hE => ?_⟩
  unfold dAug at h
  split at h
  · rename_i z e1
    obtain ⟨v, hσ, rz⟩ := R.slot i z e1
    obtain ⟨m, hn, hl⟩ := I.loc
    have vis : Vis X.env.scope x := by rcases hx with k | k; exact .inl k; exact .inr (.inl k)
    obtain ⟨u, r, l⟩ := hl i x v hi hσ vis
    refine wpAny_AugAssign_Name ?_
    have go : wpAny (model X.prog X.w) X.A (eval e X.env) (fun w s₂ => wpAny (model X.prog X.w) X.A (inplaceOp op u w) (fun r s₃ => wpAny (model X.prog X.w) X.A (storeName X.env x r) (fun _ => SPD X g pins M ds H D .next) X.xe s₃) X.xe s₂) X.xe s := by
      refine thn (he.run pins s σ H M ds _ _ I R h hE.ew) fun w s1 ⟨y, ds1, M1, vy, H1, I1, r1, R1, N1, z1, q1⟩ => ?_
      refine thn (ho pins s1 σ H1 M1 ds1 z y v vy u w _ I1 R1 (rz.mv N1.mv N1.pre) r z1 r1 q1) fun zz s2 ⟨y2, ds2, M2, v2, H2, I2, r2, R2, N2, z2, q2⟩ => ?_
      exact store_ok I2 hN hi hx r2 (fun s3 I3 => ⟨ds2.set i y2, M2, _, H2, I3, R2.set i z2, (N1.trans N2).trans .set, q2⟩) hf
    rcases l with ⟨hk, hm⟩ | ⟨hk, c, hc, hcell⟩
    · exact wpAny_loadName_local I.ok.kind hk hn hm go
    · rcases hk with hk | hk
      · exact wpAny_loadName_cell I.ok.kind hk hc hcell go
      · rcases hx with k | k
        · have : X.env.scope.names.lookup x = some .free := hk
          rw [k] at this; cases this
        · have : X.env.scope.names.lookup x = some .free := hk
          rw [k] at this; cases this
  · exact h.elim
theorem od_iadd : OpD X g (inplaceOp .Add) (rdII fun i j => .int (i + j)) := od_ii iop_add fun _ _ _ _ _ => rfl
theorem od_isub : OpD X g (inplaceOp .Sub) (rdII fun i j => .int (i - j)) := od_ii iop_sub fun _ _ _ _ _ => rfl
end
end L3

set_option Elab.async false
set_option linter.all false
set_option maxRecDepth 100000
set_option maxHeartbeats 1000000
namespace L3
open PySem PySem.Spec PyProof.Rows L2
section
variable {X : Cx} {g : G} {W : WX} {pins : List (Addr × Obj)} {σ : L2.St} {M M1 : List Addr} {ds ds1 : DS} {H H1 : Hp} {s : Shared} {ED : QE}
variable {e : Expr} {te : TD} {pos : Pos}
def dWhile (c : TBo) (tb : TSd) : TSd := fun D ds => ∃ I : Nat → DS → Prop, (∃ m, I m ds) ∧ ∀ m ds, I m ds →
  c ds (fun b ds1 => (b = true → tb { D with nx := fun ds' => ∃ m', m' < m ∧ I m' ds', ct := fun ds' => ∃ m', m' < m ∧ I m' ds', bk := D.nx } ds1) ∧ (b = false → D.nx ds1)) D.er
theorem pxs_while {c : Expr} {body : List Stmt} {tc : TBo} {tb : TSd} (hp : PassesOwn (model X.prog X.w) X.A X.env X.xe) (hc : PXT X g W c tc) (hb : PXB X g W body tb) : PXS X g W (.While c body [] pos) (dWhile tc tb) := by
  refine ⟨fun pins s σ H M ds D I R h hE => ?_⟩
  obtain ⟨J, ⟨m0, w0⟩, turn⟩ := h
  refine wpAny_While (codeAny_whileLoop (fun n s' => ND X g pins M ds H (J n) s') ?_ m0 ⟨ds, M, σ, H, I, R, .refl, w0⟩)
  rintro n s1 ⟨ds1, M1, σ1, H1, I1, R1, N1, w1⟩
  refine wpAny_passesOwn hp (thn (hc.run pins s1 σ1 H1 M1 ds1 _ _ I1 R1 (turn n ds1 w1) (hE.nxt N1).ew) fun b s2 ⟨ds2, M2, H2, I2, R2, N2, q2⟩ => ?_)
  have N := N1.trans N2
  cases b with
  | true =>
    rw [if_pos rfl]
    refine wpAny_passesOwn hp (thn (hb.run pins s2 σ1 H2 M2 ds2 _ I2 R2 (q2.1 rfl) (hE.nxt N)) fun f s3 q3 => ?_)
    cases f with
    | next =>
      obtain ⟨ds3, M3, σ3, H3, I3, R3, N3, m', hm, w3⟩ := q3
      exact ⟨m', hm, ds3, M3, σ3, H3, I3, R3, N.trans N3, w3⟩
    | cont =>
      obtain ⟨ds3, M3, σ3, H3, I3, R3, N3, m', hm, w3⟩ := q3
      exact ⟨m', hm, ds3, M3, σ3, H3, I3, R3, N.trans N3, w3⟩
    | brk => exact ND.nxt N q3
    | ret v => exact RD.nxt N q3
  | false =>
    rw [if_neg Bool.false_ne_true]
    exact wpAny_execs_nil ⟨ds2, M2, σ1, H2, I2, R2, N, q2.2 rfl⟩
abbrev TIt := DS → (List D → DS → Prop) → QE → Prop
/-- the walk J yields these items from the state (M1, ds1, H1) on -/
def ItD (X : Cx) (g : G) (J : It) (items : List D) (M1 : List Addr) (ds1 : DS) (H1 : Hp) : Prop :=
  ∀ (g' : G) (i : Nat) (M' : List Addr) (ds' : DS) (σ' : L2.St) (H' : Hp), RepS X.K g' M' ds' σ' H' → Mv (g.own M1 ds1) (g'.own M' ds') H1 H' →
    (∀ d, items[i]? = some d → J.go i H' ∧ ∀ x H'', J.yld i H' x H'' → RepS X.K g' M' ds' σ' H'' ∧ Nxt g' M' ds' H' M' ds' H'' ∧ RepD X.K (g'.own M' ds') H'' d x) ∧ (items[i]? = none → J.stop i H')
def PIQ (X : Cx) (g : G) (σ : L2.St) (M : List Addr) (ds : DS) (H : Hp) (Q : List D → DS → Prop) (J : It) (H1 : Hp) : Prop :=
  ∃ items ds1 M1, RepS X.K g M1 ds1 σ H1 ∧ Nxt g M ds H M1 ds1 H1 ∧ ItD X g J items M1 ds1 H1 ∧ Q items ds1
structure PXI (X : Cx) (g : G) (W : WX) (tg iter : Expr) (ti : TIt) : Prop where
  run : ∀ (pins : List (Addr × Obj)) (s : Shared) (σ : L2.St) (H : Hp) (M : List Addr) (ds : DS) (Q : List D → DS → Prop) (ED : QE), Inv X pins σ H s → RepS X.K g M ds σ H → ti ds Q ED → EW X g W σ M ds H ED →
    wpAny (model X.prog X.w) X.A (eval iter X.env) (fun v s1 => wpAny (model X.prog X.w) X.A (pyIter v) (PIE X pins σ tg (PIQ X g σ M ds H Q)) X.xe s1) X.xe s
theorem PXI.of {tg iter : Expr} {ti : TIt} {wi : TI} (h : PI X tg iter wi) (hs : ∀ (σ : L2.St) (H : Hp) (M : List Addr) (ds : DS) (Q : List D → DS → Prop) (ED : QE), RepS X.K g M ds σ H → ti ds Q ED → EW X g W σ M ds H ED → wi σ H (PIQ X g σ M ds H Q)) : PXI X g W tg iter ti :=
  ⟨fun pins s σ H M ds Q ED I R t he => h.run pins s σ H _ I (hs σ H M ds Q ED R t he)⟩
theorem PIQ.nxt {Q : List D → DS → Prop} {J : It} {H' : Hp} (N : Nxt g M ds H M1 ds1 H1) (h : PIQ X g σ M1 ds1 H1 Q J H') : PIQ X g σ M ds H Q J H' := by
  obtain ⟨items, ds2, M2, R, N', it, q⟩ := h
  exact ⟨items, ds2, M2, R, N.trans N', it, q⟩
theorem itd_list {l : List D} {a : Addr} {xs : List V} (hq : (¬ g.own M1 ds1 a ∧ Rd H1 a (.lst xs)) ∨ WrL X.K a xs) (r : RepL X.K (g.own M1 ds1) H1 l xs) : ItD X g (Itl X.K a) l M1 ds1 H1 := by
  intro g' i M' ds' σ' H' R m
  have hq' : SqL X.K H' a xs := by
    rcases hq with ⟨n, q⟩ | q
    · exact .inl (m.rd (fun ps z => nomatch z) n q)
    · exact .inr q
  have r' := RepL.mv m _ _ r
  refine ⟨fun d hd => ?_, fun hn => ⟨xs, hq', by rw [RepL.length r']; exact List.getElem?_eq_none_iff.mp hn⟩⟩
  obtain ⟨v, hv, rv⟩ := r'.get hd
  refine ⟨⟨xs, v, hq', hv⟩, fun x H'' ⟨e1, e2⟩ => ?_⟩
  subst e1
  have : x = v := Option.some.inj ((e2 xs hq').symm.trans hv)
  subst this
  exact ⟨R, .refl, rv⟩
theorem itd_tup {l : List D} {a : Addr} {xs : List V} (hq : (¬ g.own M1 ds1 a ∧ Rd H1 a (.tup xs)) ∨ WrT X.K a xs) (r : RepL X.K (g.own M1 ds1) H1 l xs) : ItD X g (Itt X.K a) l M1 ds1 H1 := by
  intro g' i M' ds' σ' H' R m
  have hq' : SqT X.K H' a xs := by
    rcases hq with ⟨n, q⟩ | q
    · exact .inl (m.rd (fun ps z => nomatch z) n q)
    · exact .inr q
  have r' := RepL.mv m _ _ r
  refine ⟨fun d hd => ?_, fun hn => ⟨xs, hq', by rw [RepL.length r']; exact List.getElem?_eq_none_iff.mp hn⟩⟩
  obtain ⟨v, hv, rv⟩ := r'.get hd
  refine ⟨⟨xs, v, hq', hv⟩, fun x H'' ⟨e1, e2⟩ => ?_⟩
  subst e1
  have : x = v := Option.some.inj ((e2 xs hq').symm.trans hv)
  subst this
  exact ⟨R, .refl, rv⟩
def rangeD (lo : Int) (n : Nat) : List D := (List.range n).map fun i => .int (lo + (i : Nat))
theorem itd_range {lo : Int} {n : Nat} : ItD X g (Itr lo n) (rangeD lo n) M1 ds1 H1 := by
  intro g' i M' ds' σ' H' R m
  refine ⟨fun d hd => ?_, fun hn => ?_⟩
  · unfold rangeD at hd
    rw [List.getElem?_map] at hd
    by_cases hi : i < n
    · rw [List.getElem?_range hi] at hd
      cases hd
      exact ⟨hi, fun x H'' ⟨e1, e2⟩ => by subst e1; subst e2; exact ⟨R, .refl, rfl⟩⟩
    · rw [List.getElem?_eq_none (by simpa using hi)] at hd
      cases hd
  · have := List.getElem?_eq_none_iff.mp hn
    unfold rangeD at this
    rw [List.length_map, List.length_range] at this
    exact this
/-- pairs of the place and the item -/
def enumD : Nat → List D → List D
  | _, [] => []
  | i, x :: r => .tup [.int (i : Nat), x] :: enumD (i + 1) r
theorem enumD_get : ∀ (l : List D) (k i : Nat), (enumD k l)[i]? = l[i]?.map fun x => D.tup [.int ((k + i : Nat)), x]
  | [], k, i => by simp [enumD]
  | x :: r, k, 0 => by simp [enumD]
  | x :: r, k, i + 1 => by
    show (enumD (k + 1) r)[i]? = _
    rw [enumD_get r (k + 1) i, show k + 1 + i = k + (i + 1) by omega]
    rfl
theorem RepS.tup2 {σ' : L2.St} (R : RepS X.K g M ds σ' H) {T : Addr} {l : List D} {xs : List V} (hT : H T = none) (r : RepL X.K (g.own M ds) H l xs) : RepS X.K g M ds σ' (L2.upd H T (.tup xs)) ∧ Nxt g M ds H M ds (L2.upd H T (.tup xs)) ∧ RepD X.K (g.own M ds) (L2.upd H T (.tup xs)) (.tup l) (.ref T) := by
  obtain ⟨R', N⟩ := R.upd (o := .tup xs) hT
  exact ⟨R', N, T, xs, rfl, RepL.mv N.mv _ _ r, .inl ⟨R.own_none hT, .inl upd_same⟩⟩
theorem itd_enum {l : List D} {a : Addr} {xs : List V} (hq : (¬ g.own M1 ds1 a ∧ Rd H1 a (.lst xs)) ∨ WrL X.K a xs) (r : RepL X.K (g.own M1 ds1) H1 l xs) : ItD X g (Ite X.K a) (enumD 0 l) M1 ds1 H1 := by
  intro g' i M' ds' σ' H' R m
  have hq' : SqL X.K H' a xs := by
    rcases hq with ⟨n, q⟩ | q
    · exact .inl (m.rd (fun ps z => nomatch z) n q)
    · exact .inr q
  have r' := RepL.mv m _ _ r
  rw [enumD_get]
  refine ⟨fun d hd => ?_, fun hn => ⟨xs, hq', by rw [RepL.length r']; exact List.getElem?_eq_none_iff.mp (by simpa using hn)⟩⟩
  cases hl : l[i]? with
  | none => rw [hl] at hd; cases hd
  | some y =>
    rw [hl] at hd
    cases hd
    obtain ⟨v, hv, rv⟩ := r'.get hl
    refine ⟨⟨xs, v, hq', hv⟩, fun x H'' ⟨T, x', e1, hT, e2, e3⟩ => ?_⟩
    subst e1; subst e2
    have : x' = v := Option.some.inj ((e3 xs hq').symm.trans hv)
    subst this
    rw [Nat.zero_add]
    exact R.tup2 hT ⟨_, _, rfl, rfl, _, _, rfl, rv, rfl⟩
def zipD : List D → List D → List D
  | x :: l, y :: r => .tup [x, y] :: zipD l r
  | _, _ => []
theorem zipD_get : ∀ (l r : List D) (i : Nat), (zipD l r)[i]? = match l[i]?, r[i]? with
    | some x, some y => some (D.tup [x, y])
    | _, _ => none
  | [], r, i => by simp [zipD]
  | x :: l, [], i => by
    cases h : (x :: l)[i]? <;> simp [zipD]
  | x :: l, y :: r, 0 => by simp [zipD]
  | x :: l, y :: r, i + 1 => by
    show (zipD l r)[i]? = _
    rw [zipD_get l r i]
    rfl
theorem itd_zip {l l2 : List D} {a a2 : Addr} {xs ys : List V} (hq : (¬ g.own M1 ds1 a ∧ Rd H1 a (.lst xs)) ∨ WrL X.K a xs) (r : RepL X.K (g.own M1 ds1) H1 l xs) (hq2 : (¬ g.own M1 ds1 a2 ∧ Rd H1 a2 (.lst ys)) ∨ WrL X.K a2 ys) (r2 : RepL X.K (g.own M1 ds1) H1 l2 ys) : ItD X g (Itz X.K a a2) (zipD l l2) M1 ds1 H1 := by
  intro g' i M' ds' σ' H' R m
  have rd : ∀ {a : Addr} {xs : List V}, (¬ g.own M1 ds1 a ∧ Rd H1 a (.lst xs)) ∨ WrL X.K a xs → SqL X.K H' a xs := fun {a xs} hq => by
    rcases hq with ⟨n, q⟩ | q
    · exact .inl (m.rd (fun ps z => nomatch z) n q)
    · exact .inr q
  have hq' := rd hq
  have hq2' := rd hq2
  have r' := RepL.mv m _ _ r
  have r2' := RepL.mv m _ _ r2
  rw [zipD_get]
  cases hl : l[i]? with
  | none => exact ⟨(fun d hd => by cases hd), fun _ => ⟨xs, ys, hq', hq2', .inl (by rw [RepL.length r']; exact List.getElem?_eq_none_iff.mp hl)⟩⟩
  | some x =>
    cases hl2 : l2[i]? with
    | none => exact ⟨(fun d hd => by cases hd), fun _ => ⟨xs, ys, hq', hq2', .inr (by rw [RepL.length r2']; exact List.getElem?_eq_none_iff.mp hl2)⟩⟩
    | some y =>
      refine ⟨fun d hd => ?_, fun h => by cases h⟩
      cases hd
      obtain ⟨v, hv, rv⟩ := r'.get hl
      obtain ⟨v2, hv2, rv2⟩ := r2'.get hl2
      refine ⟨⟨xs, ys, v, v2, hq', hq2', hv, hv2⟩, fun z H'' ⟨T, x', y', e1, hT, e2, e3, e4⟩ => ?_⟩
      subst e1; subst e2
      have e5 : x' = v := Option.some.inj ((e3 xs hq').symm.trans hv)
      have e6 : y' = v2 := Option.some.inj ((e4 ys hq2').symm.trans hv2)
      subst e5; subst e6
      exact R.tup2 hT ⟨_, _, rfl, rv, _, _, rfl, rv2, rfl⟩
def kItems (P : List D → Prop) : Z → Prop
  | .d (.lst l) => P l
  | .d (.lsf l) => P l
  | .d (.tup l) => P l
  | _ => False
def dIt (te : TD) : TIt := fun ds Q E => te ds (fun z ds1 => kItems (fun l => Q l ds1) z) E
theorem pxi_seq {tg : Expr} (he : PX X g W e te) : PXI X g W tg e (dIt te) := by
  refine ⟨fun pins s σ H M ds Q ED I R t hE => ?_⟩
  refine thn (he.run pins s σ H M ds _ ED I R t hE) fun v s1 ⟨z, ds1, M1, x, H1, I1, r1, R1, N1, z1, q1⟩ => ?_
  have list : ∀ (l : List D) (a : Addr) (xs : List V), x = .ref a → RepL X.K (g.own M1 ds1) H1 l xs → ((¬ g.own M1 ds1 a ∧ Rd H1 a (.lst xs)) ∨ WrL X.K a xs) → Q l ds1 → wpAny (model X.prog X.w) X.A (pyIter v) (PIE X pins σ tg (PIQ X g σ M ds H Q)) X.xe s1 := fun l a xs ex r hq q => by
    subst ex
    cases r1
    obtain ⟨its, rv, p, hz⟩ := I1.list (sqL_of hq)
    refine wpAny_pyIter_list p.isList ?_
    refine ⟨s1.heap.objs.size, [s1.heap.objs.size], _, _, H1, rfl, I1.kept (t' := s1.toks) fun b o e => Heap.get?_push_of_some _ e, turn_list a _, ⟨_, Heap.get?_push_size _ rfl, rfl, rfl⟩, fun b hb => ?_, l, ds1, M1, R1, N1, itd_list hq r, q⟩
    have e : b = s1.heap.objs.size := by simpa using hb
    subst e
    exact I1.fpOk (Nat.le_refl _) (I1.hok.fresh (Nat.le_refl _))
  have q1 : kItems (fun l => Q l ds1) z := q1
  unfold kItems at q1
  split at q1
  · obtain ⟨a, xs, ex, r, n, hq⟩ := z1
    exact list _ a xs ex r (.inl ⟨n, .inl hq⟩) q1
  · obtain ⟨a, xs, ex, r, hq⟩ := z1
    exact list _ a xs ex r hq q1
  · obtain ⟨a, xs, ex, r, hq⟩ := z1
    subst ex
    cases r1
    obtain ⟨its, rv, p, hz⟩ := I1.tuple (sqT_of hq)
    refine wpAny_pyIter_tuple (show s1.heap.IsTuple a its.toArray from p) ?_
    refine ⟨s1.heap.objs.size, [s1.heap.objs.size], _, _, H1, rfl, I1.kept (t' := s1.toks) fun b o e => Heap.get?_push_of_some _ e, turn_tuple a _, ⟨_, Heap.get?_push_size _ rfl, rfl, rfl⟩, fun b hb => ?_, _, ds1, M1, R1, N1, itd_tup hq r, q1⟩
    have e : b = s1.heap.objs.size := by simpa using hb
    subst e
    exact I1.fpOk (Nat.le_refl _) (I1.hok.fresh (Nat.le_refl _))
  · exact q1.elim
def kInts1 (P : Int → Prop) : List Z → Prop
  | [.d (.int i)] => P i
  | _ => False
def kInts2 (P : Int → Int → Prop) : List Z → Prop
  | [.d (.int i), .d (.int j)] => P i j
  | _ => False
theorem ints1D {K : PySem.W.Frag} {own : Addr → Prop} {M : List Addr} {H : Hp} {zs : List Z} {vs : List V} {P : Int → Prop} (r : RepZs K own M H zs vs) (h : kInts1 P zs) : ∃ i, vs = [.int i] ∧ P i := by
  unfold kInts1 at h
  split at h
  · obtain ⟨v, rfl, r1⟩ := zs1 r
    cases r1
    exact ⟨_, rfl, h⟩
  · exact h.elim
theorem ints2D {K : PySem.W.Frag} {own : Addr → Prop} {M : List Addr} {H : Hp} {zs : List Z} {vs : List V} {P : Int → Int → Prop} (r : RepZs K own M H zs vs) (h : kInts2 P zs) : ∃ i j, vs = [.int i, .int j] ∧ P i j := by
  unfold kInts2 at h
  split at h
  · obtain ⟨v, u, rfl, r1, r2⟩ := zs2 r
    cases r1; cases r2
    exact ⟨_, _, rfl, h⟩
  · exact h.elim
def dRng1 (ta : TLi) : TIt := fun ds Q E => ta ds (fun zs ds1 => kInts1 (fun j => (-(2 ^ 62) ≤ j ∧ j < 2 ^ 62) ∧ Q (rangeD 0 j.toNat) ds1) zs) E
def dRng2 (ta : TLi) : TIt := fun ds Q E => ta ds (fun zs ds1 => kInts2 (fun i j => (-(2 ^ 62) ≤ i ∧ i < 2 ^ 62 ∧ -(2 ^ 62) ≤ j ∧ j < 2 ^ 62) ∧ Q (rangeD i (j - i).toNat) ds1) zs) E
theorem pxi_range1 {tg a : Expr} {ta : TLi} {p pos : Pos} (hg : Gl X "range") (hm : X.mg "range" = none) (ha : PXA X g W [a] ta) (hs : starEach [a] X.env = [(false, eval a X.env)] := by rfl) : PXI X g W tg (.Call (.Name "range" p) [a] [] pos) (dRng1 ta) := by
  refine .of (pi_range1 hg hm ha.pa hs) fun σ H M ds Q ED R t hE => ?_
  refine liftA_in R t hE fun zs ds1 M1 vs H1 R1 N1 rz q => ?_
  obtain ⟨j, rfl, ⟨h1, h2⟩, q⟩ := ints1D rz q
  exact ⟨j, rfl, h1, h2, _, ds1, M1, R1, N1, itd_range, q⟩
theorem pxi_range2 {tg a b : Expr} {ta : TLi} {p pos : Pos} (hg : Gl X "range") (hm : X.mg "range" = none) (ha : PXA X g W [a, b] ta) (hs : starEach [a, b] X.env = [(false, eval a X.env), (false, eval b X.env)] := by rfl) (hs2 : starEach [b] X.env = [(false, eval b X.env)] := by rfl) :
    PXI X g W tg (.Call (.Name "range" p) [a, b] [] pos) (dRng2 ta) := by
  refine .of (pi_range2 hg hm ha.pa hs hs2) fun σ H M ds Q ED R t hE => ?_
  refine liftA_in R t hE fun zs ds1 M1 vs H1 R1 N1 rz q => ?_
  obtain ⟨i, j, rfl, hb, q⟩ := ints2D rz q
  exact ⟨i, j, rfl, hb, _, ds1, M1, R1, N1, itd_range, q⟩
def kLst1 (P : List D → Prop) : List Z → Prop
  | [.d (.lst l)] => P l
  | [.d (.lsf l)] => P l
  | _ => False
theorem lst1D {K : PySem.W.Frag} {own : Addr → Prop} {M : List Addr} {H : Hp} {zs : List Z} {vs : List V} {P : List D → Prop} (r : RepZs K own M H zs vs) (h : kLst1 P zs) : ∃ l a xs, vs = [.ref a] ∧ RepL K own H l xs ∧ ((¬ own a ∧ Rd H a (.lst xs)) ∨ WrL K a xs) ∧ P l := by
  unfold kLst1 at h
  split at h
  · obtain ⟨v, rfl, a, xs, rfl, r1, n, hq⟩ := zs1 r
    exact ⟨_, a, xs, rfl, r1, .inl ⟨n, .inl hq⟩, h⟩
  · obtain ⟨v, rfl, a, xs, rfl, r1, hq⟩ := zs1 r
    exact ⟨_, a, xs, rfl, r1, hq, h⟩
  · exact h.elim
def dEnum (ta : TLi) : TIt := fun ds Q E => ta ds (fun zs ds1 => kLst1 (fun l => Q (enumD 0 l) ds1) zs) E
theorem pxi_enum {a : Expr} {ta : TLi} {p pos tpos : Pos} {elts : List Expr} {kk : Nat} (hg : Gl X "enumerate") (hm : X.mg "enumerate" = none) (ha : PXA X g W [a] ta) (hs : starEach [a] X.env = [(false, eval a X.env)] := by rfl) :
    PXI X g W (.Tuple elts kk tpos) (.Call (.Name "enumerate" p) [a] [] pos) (dEnum ta) := by
  refine .of (pi_enum hg hm ha.pa hs) fun σ H M ds Q ED R t hE => ?_
  refine liftA_in R t hE fun zs ds1 M1 vs H1 R1 N1 rz q => ?_
  obtain ⟨l, a, xs, rfl, r, hq, q⟩ := lst1D rz q
  exact ⟨a, xs, rfl, sqL_of hq, _, ds1, M1, R1, N1, itd_enum hq r, q⟩
def kLst2 (P : List D → List D → Prop) : List Z → Prop
  | [z, y] => kLst1 (fun l => kLst1 (fun r => P l r) [y]) [z]
  | _ => False
def dZip (ta : TLi) : TIt := fun ds Q E => ta ds (fun zs ds1 => kLst2 (fun l r => Q (zipD l r) ds1) zs) E
theorem pxi_zip {a b : Expr} {ta : TLi} {p pos tpos : Pos} {elts : List Expr} {kk : Nat} (hg : Gl X "zip") (hm : X.mg "zip" = none) (ha : PXA X g W [a, b] ta)
    (hs : starEach [a, b] X.env = (false, eval a X.env) :: starEach [b] X.env := by rfl) (hpl : (backTo pos (starEach [b] X.env)).any (·.1) = false := by rfl) :
    PXI X g W (.Tuple elts kk tpos) (.Call (.Name "zip" p) [a, b] [] pos) (dZip ta) := by
  refine .of (pi_zip hg hm ha.pa hs hpl) fun σ H M ds Q ED R t hE => ?_
  refine liftA_in R t hE fun zs ds1 M1 vs H1 R1 N1 rz q => ?_
  unfold kLst2 at q
  split at q
  · rename_i z y
    obtain ⟨v, r, rfl, h1, h2⟩ := rz
    obtain ⟨u, rfl, h3⟩ := zs1 h2
    have h1' : RepZs X.K (g.own M1 ds1) M1 H1 [z] [v] := ⟨v, [], rfl, h1, rfl⟩
    have h2' : RepZs X.K (g.own M1 ds1) M1 H1 [y] [u] := ⟨u, [], rfl, h3, rfl⟩
    obtain ⟨l, a, xs, e1, r1, hq1, q⟩ := lst1D h1' q
    obtain ⟨l2, a2, ys, e2, r2, hq2, q⟩ := lst1D h2' q
    cases e1; cases e2
    exact ⟨a, a2, xs, ys, rfl, sqL_of hq1, sqL_of hq2, _, ds1, M1, R1, N1, itd_zip hq1 r1 hq2 r2, q⟩
  · exact q.elim
def dLoop (gt : TGd) (tb : TSd) (De : DE) : List D → DS → Prop
  | [], ds => De.nx ds
  | x :: r, ds => gt (.d x) ds fun ds1 => tb { De with nx := dLoop gt tb De r, ct := dLoop gt tb De r, bk := De.nx } ds1
def dFor (ti : TIt) (gt : TGd) (tb : TSd) : TSd := fun De ds => ti ds (fun items ds1 => dLoop gt tb De items ds1) De.er
theorem ND.unpin {pl : List (Addr × Obj)} {P : DS → Prop} {s' : Shared} (h : ND X g (pins ++ pl) M ds H P s') : ND X g pins M ds H P s' := by
  obtain ⟨ds', M', σ', H', I, q⟩ := h
  exact ⟨ds', M', σ', H', I.unpinned, q⟩
theorem pxs_for {tg iter : Expr} {body : List Stmt} {ti : TIt} {gt : TGd} {tb : TSd} (hp : PassesOwn (model X.prog X.w) X.A X.env X.xe) (hc : X.calm = true) (hi : PXI X g W tg iter ti) (hg : PXG X g tg gt) (hb : PXB X g W body tb)
    (hs : ∀ x, foldedSetIterable iter X.env x = pure x := by intro _; rfl) : PXS X g W (.For tg iter body [] pos) (dFor ti gt tb) := by
  refine ⟨fun pins s σ H M ds D I R h hE => ?_⟩
  refine wpAny_For (thn (hi.run pins s σ H M ds _ _ I R h hE.ew) fun v s1 h1 => thn h1 fun itv s2 h2 => ?_) hs
  obtain ⟨it, fp, tn, J, H2, e, I2, T, st2, f2, items, ds2, M2, R2, N2, itd, q⟩ := h2
  subst e
  have stat : ∀ {H' : Hp}, (∀ b ∈ fp, H' b = none) → ∀ b ∈ fp, FpOk X pins H' b := fun hn b hb => ⟨hn b hb, (f2 b hb).2⟩
  refine codeAny_forLoop_any (fun n s' => ∃ i ds' M' σ' H', Inv X pins σ' H' s' ∧ RepS X.K g M' ds' σ' H' ∧ Nxt g M2 ds2 H2 M' ds' H' ∧ tn i s'.heap ∧ (∀ b ∈ fp, H' b = none) ∧ n = items.length - i ∧ dLoop gt tb D (items.drop i) ds') ?_ items.length ⟨0, ds2, M2, σ, H2, I2, R2, .refl, st2, fun b hb => (f2 b hb).1, rfl, q⟩
  rintro n s3 ⟨i, ds3, M3, σ3, H3, I3, R3, N3, st3, fr3, rfl, w3⟩
  obtain ⟨go, stop⟩ := itd g i M3 ds3 σ3 H3 R3 N3.mv
  have NN := N2.trans N3
  cases hi : items[i]? with
  | none =>
    refine wpAny_passesOwn hp (thn (T.done X rfl rfl rfl hc i pins s3 σ3 H3 X.xe I3 (stat fr3) st3 (stop hi)) fun r s4 ⟨hr, I4⟩ => ?_)
    subst hr
    have e : items.drop i = [] := List.drop_eq_nil_of_le (List.getElem?_eq_none_iff.mp hi)
    rw [e] at w3
    exact wpAny_execs_nil ⟨ds3, M3, σ3, H3, I4, R3, NN, w3⟩
  | some d =>
    have hlt : i < items.length := (List.getElem?_eq_some_iff.mp hi).1
    have e : items.drop i = d :: items.drop (i + 1) := by
      rw [List.drop_eq_getElem_cons hlt, (List.getElem?_eq_some_iff.mp hi).2]
    rw [e] at w3
    obtain ⟨go1, go2⟩ := go d hi
    refine wpAny_passesOwn hp (thn (T.item X rfl rfl rfl hc i pins s3 σ3 H3 X.xe I3 (stat fr3) st3 go1) fun r s4 ⟨u, hr, h4⟩ => ?_)
    subst hr
    refine wpAny_passesOwn hp (thn h4 fun _ s5 ⟨x, H5, I5, r5, y5, st5, fr5⟩ => ?_)
    obtain ⟨R5, N5, rd5⟩ := go2 x H5 y5
    have I5' := I5.pinned (stat fr5) (T.obj _ _ st5)
    refine wpAny_passesOwn hp (thn (hg.run _ s5 σ3 H5 M3 ds3 (.d d) x u _ I5' R5 rd5 r5 w3) fun _ s6 ⟨ds6, M6, σ6, H6, I6, R6, N6, q6⟩ => ?_)
    have NE := (NN.trans N5).trans N6
    refine wpAny_passesOwn hp (thn (hb.run _ s6 σ6 H6 M6 ds6 _ I6 R6 q6 (hE.nxt NE)) fun f s7 q7 => ?_)
    have again : ∀ {P : Prop}, ND X g (pins ++ pinsAt fp s5.heap) M6 ds6 H6 (dLoop gt tb D (items.drop (i + 1))) s7 → ∃ m, m < items.length - i ∧ ∃ i ds' M' σ' H', Inv X pins σ' H' s7 ∧ RepS X.K g M' ds' σ' H' ∧ Nxt g M2 ds2 H2 M' ds' H' ∧ tn i s7.heap ∧ (∀ b ∈ fp, H' b = none) ∧ m = items.length - i ∧ dLoop gt tb D (items.drop i) ds' := fun {_} ⟨ds7, M7, σ7, H7, I7, R7, N7, n7⟩ => by
      refine ⟨items.length - (i + 1), by omega, i + 1, ds7, M7, σ7, H7, I7.unpinned, R7, ((N3.trans N5).trans N6).trans N7, T.keep _ _ _ st5 fun b hb o e => (I7.pin (b, o) (List.mem_append_right _ (List.mem_append_right _ (mem_pinsAt hb e)))).1, fun b hb => ?_, rfl, n7⟩
      obtain ⟨o, e, d⟩ := T.obj _ _ st5 b hb
      exact (I7.pin (b, o) (List.mem_append_right _ (List.mem_append_right _ (mem_pinsAt hb e)))).2.1
    cases f with
    | next => exact again (P := True) q7
    | cont => exact again (P := True) q7
    | brk => exact ND.nxt NE (ND.unpin q7)
    | ret v =>
      obtain ⟨z7, ds7, M7, v7, σ7, H7, I7, r7, R7, N7, rz7, q7⟩ := q7
      exact ⟨z7, ds7, M7, v7, σ7, H7, I7.unpinned, r7, R7, NE.trans N7, rz7, q7⟩
end
end L3

set_option Elab.async false
set_option linter.all false
set_option maxRecDepth 100000
set_option maxHeartbeats 1000000
namespace L3
open PySem PySem.Spec PyProof.Rows L2
/-- what a def does to data: the arguments, what is wanted of the answer, what of an exception -/
abbrev SA := List D → (D → Prop) → (EX → Prop) → Prop
/-- .. that is handed a thing to write as its first argument -/
abbrev SB := MC → List D → (D → MC → Prop) → (EX → MC → Prop) → Prop
/-- all that was tracked is as it was -/
def Fr0 (H H' : Hp) : Prop := (∀ b o, H b = some o → (∀ ps, o ≠ .tbl ps) → H' b = some o) ∧ ∀ b ps, H b = some (.tbl ps) → ∃ qs, H' b = some (.tbl qs)
def FrB (a : Addr) (H H' : Hp) : Prop := (∀ b o, H b = some o → b ≠ a → (∀ ps, o ≠ .tbl ps) → H' b = some o) ∧ ∀ b ps, H b = some (.tbl ps) → ∃ qs, H' b = some (.tbl qs)
def OutOk (ow : Addr → Prop) (H : Hp) : Prop := ∀ a, ow a → ∃ o, H a = some o ∧ (∀ ps, o ≠ .tbl ps) ∧ ∀ φ, o ≠ .ext φ
def spA (K : PySem.W.Frag) (T : List (Addr × Str)) (S : SA) : Sp := fun vs H Q E => ∃ (ow : Addr → Prop) (ds : List D) (QD : D → Prop) (ED : EX → Prop),
  OutOk ow H ∧ RepL K ow H ds vs ∧ LamX.Tabs T H ∧ S ds QD ED ∧
  (∀ r v H', QD r → Fr0 H H' → RepD K ow H' r v → LamX.Tabs T H' → Q v H') ∧
  (∀ x cls d H', ED x → Fr0 H H' → RepE K ow H' x cls d → LamX.Tabs T H' → E cls d H')
def ow1 (ow : Addr → Prop) (a : Addr) : Addr → Prop := fun b => ow b ∨ b = a
def spB (K : PySem.W.Frag) (T : List (Addr × Str)) (S : SB) : Sp := fun vs H Q E => ∃ (ow : Addr → Prop) (a : Addr) (vs' : List V) (ds : List D) (c : MC) (QD : D → MC → Prop) (ED : EX → MC → Prop),
  vs = .ref a :: vs' ∧ ¬ ow a ∧ OutOk ow H ∧ RepL K (ow1 ow a) H ds vs' ∧ RepM K (ow1 ow a) [a] H a c ∧ LamX.Tabs T H ∧ S c ds QD ED ∧
  (∀ r c' v H', QD r c' → FrB a H H' → RepD K (ow1 ow a) H' r v → RepM K (ow1 ow a) [a] H' a c' → LamX.Tabs T H' → Q v H') ∧
  (∀ x c' cls d H', ED x c' → FrB a H H' → RepE K (ow1 ow a) H' x cls d → RepM K (ow1 ow a) [a] H' a c' → LamX.Tabs T H' → E cls d H')

section
variable {K : PySem.W.Frag} {T : List (Addr × Str)}
theorem own_nil {ow : Addr → Prop} {T : List (Addr × Str)} {s : List (Option Z)} : G.own ⟨ow, T⟩ [] ⟨s, []⟩ = ow := by
  funext a
  simp only [G.own, ownM, eq_iff_iff]
  exact ⟨fun h => h.elim id fun ⟨n, c, h1, _⟩ => by simp at h1, .inl⟩
theorem own_one {ow : Addr → Prop} {T : List (Addr × Str)} {s : List (Option Z)} {a : Addr} {c : MC} : G.own ⟨ow, T⟩ [a] ⟨s, [some c]⟩ = ow1 ow a := by
  funext b
  simp only [G.own, ownM, eq_iff_iff, ow1]
  refine ⟨fun h => h.elim .inl fun ⟨n, c, h1, h2⟩ => .inr ?_, fun h => h.elim .inl fun e => .inr ⟨0, c, by rw [e]; rfl, rfl⟩⟩
  cases n with
  | zero => exact (Option.some.inj h1).symm
  | succ n => simp at h1
/-- the slots at a def's entry -/
def ent (N : List Str) (ds : List D) : List (Option Z) := (ds.map fun d => some (Z.d d)) ++ List.replicate (N.length - ds.length) none
def entB (N : List Str) (ds : List D) : List (Option Z) := (some (Z.m 0) :: ds.map fun d => some (Z.d d)) ++ List.replicate (N.length - (ds.length + 1)) none
theorem start_len {N : List Str} {vs : List V} (h : vs.length ≤ N.length) : (L2.start N vs).length = N.length := by
  unfold L2.start
  rw [List.length_append, List.length_map, List.length_replicate]; omega
theorem repS_A {ow : Addr → Prop} {H : Hp} {N : List Str} {ds : List D} {vs : List V} (ho : OutOk ow H) (r : RepL K ow H ds vs) (t : LamX.Tabs T H) (hl : vs.length ≤ N.length) : RepS K ⟨ow, T⟩ [] ⟨ent N ds, []⟩ (L2.start N vs) H := by
  have e := RepL.length r
  refine { len := ?_, slot := fun i z h => ?_, mlen := rfl, nd := .nil, apart := fun a h => (nomatch h), obj := fun n c a h => by simp at h, tabs := t, out := ho, ex := fun a h => (nomatch h) }
  · rw [start_len hl]
    show N.length = (ent N ds).length
    unfold ent
    rw [List.length_append, List.length_map, List.length_replicate]; omega
  · have h' : (ent N ds)[i]? = some (some z) := h
    unfold ent at h'
    by_cases hi : i < ds.length
    · rw [List.getElem?_append_left (by simpa using hi), List.getElem?_map] at h'
      cases hd : ds[i]? with
      | none => rw [hd] at h'; cases h'
      | some d =>
        rw [hd] at h'
        cases h'
        obtain ⟨v, h1, h2⟩ := r.get hd
        refine ⟨v, ?_, ?_⟩
        · unfold L2.start
          rw [List.getElem?_append_left (by rw [List.length_map, e]; exact hi), List.getElem?_map, h1]; rfl
        · show RepD K _ H d v
          rw [own_nil]; exact h2
    · rw [List.getElem?_append_right (by simpa using hi), List.getElem?_replicate] at h'
      split at h' <;> cases h'
theorem repS_B {ow : Addr → Prop} {H : Hp} {N : List Str} {ds : List D} {vs : List V} {a : Addr} {c : MC} (na : ¬ ow a) (ho : OutOk ow H) (r : RepL K (ow1 ow a) H ds vs) (rc : RepM K (ow1 ow a) [a] H a c) (t : LamX.Tabs T H) (hl : vs.length + 1 ≤ N.length) : RepS K ⟨ow, T⟩ [a] ⟨entB N ds, [some c]⟩ (L2.start N (.ref a :: vs)) H := by
  have e := RepL.length r
  refine { len := ?_, slot := fun i z h => ?_, mlen := rfl, nd := by simp, apart := fun b h => ?_, obj := fun n c' b h1 h2 => ?_, tabs := t, out := ho, ex := fun b h => ?_ }
  · rw [start_len (by simpa using hl)]
    show N.length = (entB N ds).length
    unfold entB
    rw [List.length_append, List.length_cons, List.length_map, List.length_replicate]; omega
  · have h' : (entB N ds)[i]? = some (some z) := h
    unfold entB at h'
    by_cases hi : i < ds.length + 1
    · rw [List.getElem?_append_left (by simpa using hi)] at h'
      cases i with
      | zero =>
        cases h'
        exact ⟨.ref a, by simp [L2.start], a, rfl, rfl⟩
      | succ i =>
        rw [List.getElem?_cons_succ, List.getElem?_map] at h'
        cases hd : ds[i]? with
        | none => rw [hd] at h'; cases h'
        | some d =>
          rw [hd] at h'
          cases h'
          obtain ⟨v, h1, h2⟩ := r.get hd
          refine ⟨v, ?_, ?_⟩
          · unfold L2.start
            rw [List.getElem?_append_left (by rw [List.length_map, List.length_cons, e]; exact hi), List.getElem?_map, List.getElem?_cons_succ, h1]; rfl
          · show RepD K _ H d v
            rw [own_one]; exact h2
    · rw [List.getElem?_append_right (by simpa using hi), List.getElem?_replicate] at h'
      split at h' <;> cases h'
  · have : b = a := by simpa using h
    subst this
    exact na
  · cases n with
    | zero =>
      cases h1; cases h2
      show RepM K _ _ H a c
      rw [own_one]; exact rc
    | succ n => simp at h2
  · have : b = a := by simpa using h
    subst this
    obtain ⟨o, h1, h2, _, h3⟩ := rc.ex
    exact ⟨o, h1, h2, h3⟩
end
def toD (QD : D → Prop) : QZ := fun z _ => match z with
  | .d r => QD r
  | .m _ => False
def MC.closed : MC → Prop
  | .ins _ _ l => ∃ l' : List D, l = l'.map Z.d
  | _ => True
theorem RepM.shut {K : PySem.W.Frag} {own own' : Addr → Prop} {M M' : List Addr} {H : Hp} {a : Addr} (m : Mv own own' H H) : ∀ {c : MC}, c.closed → RepM K own M H a c → RepM K own' M' H a c
  | .lst l, _, h => by
    obtain ⟨xs, r, e⟩ := h
    exact ⟨xs, RepL.mv m _ _ r, e⟩
  | .dic ks l, _, h => by
    obtain ⟨xs, r, z, e⟩ := h
    exact ⟨xs, RepL.mv m _ _ r, z, e⟩
  | .ins C ns l, hc, h => by
    obtain ⟨l', rfl⟩ := hc
    obtain ⟨dx, xs, r, z, e⟩ := h
    exact ⟨dx, xs, .ofD (RepL.mv m _ _ r.toD), z, e⟩
def toDB (QD : D → MC → Prop) : QZ := fun z ds => match z, ds.w[0]? with
  | .d r, some (some c) => c.closed ∧ QD r c
  | _, _ => False
def toEB (ED : EX → MC → Prop) : QE := fun x ds => match ds.w[0]? with
  | some (some c) => c.closed ∧ ED x c
  | _ => False
/-- the wishes at a body's ends -/
def enA (QD : D → Prop) (ED : EX → Prop) : DE := { nx := fun _ => QD .non, rt := toD QD, er := fun x _ => ED x }
def enB (QD : D → MC → Prop) (ED : EX → MC → Prop) : DE := { nx := fun ds => toDB QD (.d .non) ds, rt := toDB QD, er := toEB ED }
section
variable {P : Program} {w : World} {K : PySem.W.Frag} {mg : Str → Option Value} {base : Heap} {x qual : Str} {params : Arguments} {body : List Stmt} {scope : Scope} {dvs : List V} {kws : List (Str × V)} {f : Addr} {fd : FuncData} {T : List (Addr × Str)}
theorem bodyA {N ps : List Str} {k : Nat} {S : SA} (F : FunD K x qual params body scope dvs kws f fd) (sc : FnScope N ps scope) (len : ∀ ds QD ED, S ds QD ED → ds.length = ps.length)
    (hbody : ∀ (cdv : Value) (A : Around) (outer : List Env) (s : Shared) (H : Hp) (E : XK) (g : G), g.T = T → Room k (A.deeper (envOfC qual scope s.heap.objs.size f cdv)) →
      ∃ t, PXB (cxOf (L2.CX P w) P w K mg base N qual scope f cdv A outer s H E) g (fun cls d _ H => E cls d H) body t ∧ ∀ ds QD ED, S ds QD ED → t (enA QD ED) ⟨ent N ds, []⟩) : FnOk P w K mg base (L2.CX P w) (k + 1) f fd ps (spA K T S) := by
  have hpl : ps.length ≤ N.length := by have := congrArg List.length sc.pre; rw [List.length_take] at this; omega
  refine F.ok sc (fun vs H Q E h => ?_) (fun cdv A outer s H vs Q E hr h => ?_)
  · obtain ⟨ow, ds, QD, ED, _, r, _, hS, _⟩ := h
    rw [RepL.length r]; exact len _ _ _ hS
  · obtain ⟨ow, ds, QD, ED, ho, r, ht, hS, hQ, hE⟩ := h
    obtain ⟨t, hp, hq⟩ := hbody cdv A outer s H E ⟨ow, T⟩ rfl hr
    have hl : vs.length ≤ N.length := by rw [RepL.length r, len _ _ _ hS]; exact hpl
    have R := repS_A (T := T) (N := N) ho r ht hl
    have fr : ∀ {M' : List Addr} {ds' : DS} {H' : Hp}, Nxt ⟨ow, T⟩ [] ⟨ent N ds, []⟩ H M' ds' H' → Fr0 H H' := fun {M' ds' H'} N' => by
      refine ⟨fun b o hb t => ?_, N'.mv.tb⟩
      by_cases hw : ow b
      · rw [N'.out b hw]; exact hb
      · exact N'.mv.keep b o hb (by rw [own_nil]; exact hw) t
    have back : ∀ {M' : List Addr} {ds' : DS} {H' : Hp}, Mv (G.own ⟨ow, T⟩ M' ds') ow H' H' := fun {M' ds' H'} => ⟨fun _ _ h _ _ => h, fun _ ps h => ⟨ps, h⟩, fun b h => .inl (.inl h)⟩
    refine ⟨fun De σ H0 => σ = L2.start N vs ∧ H0 = H ∧ De = { nx := fun _ H' => Q .non H', rt := Q }, ⟨fun pins s1 σ H0 De I hh => ?_⟩, rfl, rfl, rfl⟩
    obtain ⟨rfl, rfl, rfl⟩ := hh
    refine thn (hp.run pins s1 _ _ [] ⟨ent N ds, []⟩ (enA QD ED) I R (hq ds QD ED hS) (fun y ds' M' σ' H' cls d he R' N' re => hE y cls d H' he (fr N') ?_ R'.tabs)) fun fl s2 q => ?_
    · refine ⟨re.1, fun hn => ?_⟩
      obtain ⟨dx, xs, h1, h2, h3, h4, h5⟩ := re.2 hn
      exact ⟨dx, xs, h1, fun z => h2 (.inl z), h3, RepL.mv back _ _ h4, h5⟩
    · cases fl with
      | next =>
        obtain ⟨ds', M', σ', H', I', R', N', q⟩ := q
        exact ⟨σ', H', I', hQ .non .non H' q (fr N') rfl R'.tabs⟩
      | brk => obtain ⟨_, _, _, _, _, _, _, q⟩ := q; exact False.elim q
      | cont => obtain ⟨_, _, _, _, _, _, _, q⟩ := q; exact False.elim q
      | ret u =>
        obtain ⟨z, ds', M', v, σ', H', I', r', R', N', rz, q⟩ := q
        cases z with
        | m n => exact False.elim q
        | d y => exact ⟨v, σ', H', I', r', hQ y v H' q (fr N') (RepD.mv back _ _ rz) R'.tabs⟩
theorem bodyB {N ps : List Str} {k : Nat} {S : SB} (F : FunD K x qual params body scope dvs kws f fd) (sc : FnScope N ps scope) (len : ∀ c ds QD ED, S c ds QD ED → ds.length + 1 = ps.length)
    (hbody : ∀ (cdv : Value) (A : Around) (outer : List Env) (s : Shared) (H : Hp) (E : XK) (g : G), g.T = T → Room k (A.deeper (envOfC qual scope s.heap.objs.size f cdv)) →
      ∃ t, PXB (cxOf (L2.CX P w) P w K mg base N qual scope f cdv A outer s H E) g (fun cls d _ H => E cls d H) body t ∧ ∀ c ds QD ED, S c ds QD ED → t (enB QD ED) ⟨entB N ds, [some c]⟩) : FnOk P w K mg base (L2.CX P w) (k + 1) f fd ps (spB K T S) := by
  have hpl : ps.length ≤ N.length := by have := congrArg List.length sc.pre; rw [List.length_take] at this; omega
  refine F.ok sc (fun vs H Q E h => ?_) (fun cdv A outer s H vs Q E hr h => ?_)
  · obtain ⟨ow, a, vs', ds, c, QD, ED, rfl, _, _, r, _, _, hS, _⟩ := h
    rw [List.length_cons, RepL.length r]; exact len _ _ _ _ hS
  · obtain ⟨ow, a, vs', ds, c, QD, ED, rfl, na, ho, r, rc, ht, hS, hQ, hE⟩ := h
    obtain ⟨t, hp, hq⟩ := hbody cdv A outer s H E ⟨ow, T⟩ rfl hr
    have hl : vs'.length + 1 ≤ N.length := by rw [RepL.length r, len _ _ _ _ hS]; exact hpl
    have R := repS_B (T := T) (N := N) na ho r rc ht hl
    have fr : ∀ {M' : List Addr} {ds' : DS} {H' : Hp}, Nxt ⟨ow, T⟩ [a] ⟨entB N ds, [some c]⟩ H M' ds' H' → FrB a H H' := fun {M' ds' H'} N' => by
      refine ⟨fun b o hb nb t => ?_, N'.mv.tb⟩
      by_cases hw : ow b
      · rw [N'.out b hw]; exact hb
      · exact N'.mv.keep b o hb (by rw [own_one]; exact fun z => z.elim hw nb) t
    have fin : ∀ {M' : List Addr} {ds' : DS} {σ' : L2.St} {H' : Hp} {c' : MC}, RepS K ⟨ow, T⟩ M' ds' σ' H' → Nxt ⟨ow, T⟩ [a] ⟨entB N ds, [some c]⟩ H M' ds' H' → ds'.w[0]? = some (some c') → c'.closed → Mv (G.own ⟨ow, T⟩ M' ds') (ow1 ow a) H' H' ∧ RepM K (ow1 ow a) [a] H' a c' := fun {M' ds' σ' H' c'} R' N' h0 hc => by
      have ha : M'[0]? = some a := pre_get N'.pre rfl
      have m : Mv (G.own ⟨ow, T⟩ M' ds') (ow1 ow a) H' H' := ⟨fun _ _ h _ _ => h, fun _ ps h => ⟨ps, h⟩, fun b h => .inl (h.elim .inl fun e => .inr ⟨0, c', by rw [e]; exact ha, h0⟩)⟩
      exact ⟨m, (R'.obj 0 c' a h0 ha).shut m hc⟩
    refine ⟨fun De σ H0 => σ = L2.start N (.ref a :: vs') ∧ H0 = H ∧ De = { nx := fun _ H' => Q .non H', rt := Q }, ⟨fun pins s1 σ H0 De I hh => ?_⟩, rfl, rfl, rfl⟩
    obtain ⟨rfl, rfl, rfl⟩ := hh
    refine thn (hp.run pins s1 _ _ [a] ⟨entB N ds, [some c]⟩ (enB QD ED) I R (hq c ds QD ED hS) (fun y ds' M' σ' H' cls d he R' N' re => ?_)) fun fl s2 q => ?_
    · have he' : toEB ED y ds' := he
      unfold toEB at he'
      split at he'
      · rename_i c' h0
        obtain ⟨m, rm⟩ := fin R' N' h0 he'.1
        refine hE y c' cls d H' he'.2 (fr N') ⟨re.1, fun hn => ?_⟩ rm R'.tabs
        obtain ⟨dx, xs, h1, h2, h3, h4, h5⟩ := re.2 hn
        exact ⟨dx, xs, h1, fun z => h2 ((m.new dx z).elim id fun q => by rw [h3] at q; cases q), h3, RepL.mv m _ _ h4, h5⟩
      · exact he'.elim
    · cases fl with
      | next =>
        obtain ⟨ds', M', σ', H', I', R', N', q⟩ := q
        have q' : toDB QD (.d .non) ds' := q
        unfold toDB at q'
        split at q'
        · rename_i r' c' e h0
          cases e
          obtain ⟨m, rm⟩ := fin R' N' h0 q'.1
          exact ⟨σ', H', I', hQ .non c' .non H' q'.2 (fr N') rfl rm R'.tabs⟩
        · exact q'.elim
      | brk => obtain ⟨_, _, _, _, _, _, _, q⟩ := q; exact False.elim q
      | cont => obtain ⟨_, _, _, _, _, _, _, q⟩ := q; exact False.elim q
      | ret u =>
        obtain ⟨z, ds', M', v, σ', H', I', r', R', N', rz, q⟩ := q
        have q' : toDB QD z ds' := q
        unfold toDB at q'
        split at q'
        · rename_i y c' h0
          obtain ⟨m, rm⟩ := fin R' N' h0 q'.1
          exact ⟨v, σ', H', I', r', hQ y c' v H' q'.2 (fr N') (RepD.mv m _ _ rz) rm R'.tabs⟩
        · exact q'.elim
end
end L3

set_option Elab.async false
set_option linter.all false
set_option maxRecDepth 100000
set_option maxHeartbeats 1000000
namespace L3
open PySem PySem.Spec PyProof.Rows L2
section
variable {K : PySem.W.Frag} {g : G} {M : List Addr} {ds : DS} {σ : L2.St} {H H' : Hp}
theorem RepS.outOk (R : RepS K g M ds σ H) : OutOk (g.own M ds) H := fun a h => by
  rcases h with h | h
  · exact R.out a h
  · obtain ⟨o, h1, h2, _, h3⟩ := R.own_some h
    exact ⟨o, h1, h2, h3⟩
theorem RepS.fr0 (R : RepS K g M ds σ H) (f : Fr0 H H') (t : LamX.Tabs g.T H') : RepS K g M ds σ H' ∧ Nxt g M ds H M ds H' := R.same f.1 f.2 t
/-- the thing numbered n was written by a callee -/
theorem RepS.frB (R : RepS K g M ds σ H) {n : Nat} {a : Addr} {c c0 : MC} (h0 : ds.w[n]? = some (some c0)) (ha : M[n]? = some a) (f : FrB a H H') (t : LamX.Tabs g.T H') (hc : RepM K (g.own M ds) [a] H' a c) (cl : c.closed) :
    RepS K g M (ds.put n c) σ H' ∧ Nxt g M ds H M (ds.put n c) H' := by
  have la : live M ds.w a := ⟨n, c0, ha, h0⟩
  have own_eq : ∀ b, g.own M (ds.put n c) b → g.own M ds b := fun b h => h.elim .inl fun h => .inr ((live_put h0).mp h)
  have m : Mv (g.own M ds) (g.own M (ds.put n c)) H H' := ⟨fun b u h nb t => f.1 b u h (fun z => nb (.inr (z ▸ la))) t, f.2, fun b h => .inl (own_eq b h)⟩
  have m0 : Mv (g.own M ds) (g.own M (ds.put n c)) H' H' := ⟨fun _ _ h _ _ => h, fun _ ps h => ⟨ps, h⟩, fun b h => .inl (own_eq b h)⟩
  have pr : ∃ more, M = M ++ more := ⟨[], by simp⟩
  have na : ∀ b, g.ow b → b ≠ a := fun b h z => R.apart a (List.mem_of_getElem? ha) (z ▸ h)
  have keep : ∀ b o, H b = some o → b ≠ a → (∀ ps, o ≠ .tbl ps) → H' b = some o := f.1
  refine ⟨{ len := R.len, slot := fun i z h => ?_, mlen := ?_, nd := R.nd, apart := R.apart, obj := fun k x b h1 h2 => ?_, tabs := t, out := fun b h => ?_, ex := fun b h => ?_ }, m, pr, fun b h => ?_⟩
  · obtain ⟨v, h1, h2⟩ := R.slot i z h
    exact ⟨v, h1, h2.mv m pr⟩
  · show M.length = (ds.w.set n (some c)).length
    rw [List.length_set]; exact R.mlen
  · by_cases hk : k = n
    · subst hk
      rw [ha] at h2; cases h2
      have h1' : (ds.w.set k (some c))[k]? = some (some x) := h1
      rw [List.getElem?_set_self (List.getElem?_eq_some_iff.mp h0).1] at h1'
      cases h1'
      exact hc.shut m0 cl
    · have h1' : (ds.w.set n (some c))[k]? = some (some x) := h1
      rw [List.getElem?_set_ne (Ne.symm hk)] at h1'
      have r := R.obj k x b h1' h2
      obtain ⟨o, q1, q2, _⟩ := r.ex
      exact r.mv m pr (by rw [keep b o q1 (fun z => hk (nodup_at R.nd h2 (z ▸ ha))) q2, q1])
  · obtain ⟨u, q1, q2, q3⟩ := R.out b h
    exact ⟨u, keep b u q1 (na b h) q2, q2, q3⟩
  · by_cases hb : b = a
    · subst hb
      obtain ⟨o, q1, q2, _, q3⟩ := hc.ex
      exact ⟨o, q1, q2, q3⟩
    · obtain ⟨u, q1, q2, q3⟩ := R.ex b h
      exact ⟨u, keep b u q1 hb q2, q2, q3⟩
  · obtain ⟨u, q1, q2, q3⟩ := R.out b h
    rw [keep b u q1 (na b h) q2, q1]
end
section
variable {X : Cx} {g : G} {W : WX} {k n : Nat} {f : Addr} {fd : FuncData} {ps : List Str} {T : List (Addr × Str)} {S : SA} {SBt : SB} {x : Str} {p pos apos : Pos} {e : Expr} {es : List Expr} {t : TLi}
theorem run_fnX {pins : List (Addr × Obj)} {σ : L2.St} {H : Hp} {s : Shared} {Q : VK} {us ws : List Value} {kw : List (Str × Value)} {vs : List V} {sp : Sp} (F : FnOk X.prog X.w X.K X.mg X.base (L2.CX X.prog X.w) k f fd ps sp) (hr : Room k X.A) (tk : Takes X W)
    (I : L2.Inv X pins σ H s) (hb : BindsTo s fd ⟨ws, kw⟩ (ps.zip us)) (r : Vals vs us) (h : sp vs H Q (fun cls d H' => W cls d σ H')) : wpAny (model X.prog X.w) X.A (call (.ref f) ws kw) (EP X pins σ Q) X.xe s := by
  refine wpAny_call (codeAny_mono (F.run X.A X.stack s H ⟨ws, kw⟩ us vs Q _ hr I.env0 hb r h) fun r s' hq => ?_)
  cases r with
  | error e => exact tk e s' (XE.of_call I (fun _ _ _ h => h) hq)
  | ok fl =>
    cases fl with
    | ret u => exact I.after hq
    | next => exact False.elim hq
    | brk => exact False.elim hq
    | cont => exact False.elim hq
/-- the promise over data, met in a state -/
theorem spA_in {σ : L2.St} {M : List Addr} {ds : DS} {H : Hp} {l : List D} {vs : List V} {QD : QZ} {ED : QE} (hT : g.T = T) (R : RepS X.K g M ds σ H) (r : RepL X.K (g.own M ds) H l vs) (hE : EW X g W σ M ds H ED) (h : S l (fun y => QD (.d y) ds) (fun y => ED y ds)) :
    spA X.K T S vs H (Mid X g σ M ds H QD) (fun cls d H' => W cls d σ H') := by
  subst hT
  refine ⟨g.own M ds, l, _, _, R.outOk, r, R.tabs, h, fun y v H' q f rv t => ?_, fun y cls d H' q f re t => ?_⟩
  · obtain ⟨R', N⟩ := R.fr0 f t
    exact ⟨.d y, ds, M, R', N, rv, q⟩
  · obtain ⟨R', N⟩ := R.fr0 f t
    exact hE y ds M H' cls d q R' N re
theorem spB_in {σ : L2.St} {M : List Addr} {ds : DS} {H : Hp} {n : Nat} {c : MC} {l : List D} {v : V} {vs : List V} {QD : QZ} {ED : QE} (hT : g.T = T) (R : RepS X.K g M ds σ H) (rm : RepZ X.K (g.own M ds) M H (.m n) v) (r : RepL X.K (g.own M ds) H l vs) (hc : ds.w[n]? = some (some c)) (cl : c.closed) (hE : EW X g W σ M ds H ED)
    (h : SBt c l (fun y c' => c'.closed ∧ QD (.d y) (ds.put n c')) (fun y c' => c'.closed ∧ ED y (ds.put n c'))) :
    spB X.K T SBt (v :: vs) H (Mid X g σ M ds H QD) (fun cls d H' => W cls d σ H') := by
  subst hT
  obtain ⟨a, ha, rfl⟩ := rm
  have la : live M ds.w a := ⟨n, c, ha, hc⟩
  have e : ow1 (fun b => g.own M ds b ∧ b ≠ a) a = g.own M ds := by
    funext b
    simp only [ow1, eq_iff_iff]
    refine ⟨fun h => h.elim (·.1) fun z => .inr (z ▸ la), fun h => ?_⟩
    by_cases hb : b = a
    · exact .inr hb
    · exact .inl ⟨h, hb⟩
  refine ⟨fun b => g.own M ds b ∧ b ≠ a, a, vs, l, c, _, _, rfl, fun z => z.2 rfl, fun b h => R.outOk b h.1, by rw [e]; exact r, by rw [e]; exact (R.obj n c a hc ha).shut .refl cl, R.tabs, h, fun y c' v H' q f rv rc t => ?_, fun y c' cls d H' q f re rc t => ?_⟩
  · rw [e] at rv rc
    obtain ⟨R', N⟩ := R.frB hc ha f t rc q.1
    refine ⟨.d y, ds.put n c', M, R', N, RepD.mv (own' := g.own M (ds.put n c')) ⟨fun _ _ h _ _ => h, fun _ ps h => ⟨ps, h⟩, fun b h => .inl (h.elim .inl fun h => .inr ((live_put hc).mp h))⟩ _ _ rv, q.2⟩
  · rw [e] at re rc
    obtain ⟨R', N⟩ := R.frB hc ha f t rc q.1
    refine hE y (ds.put n c') M H' cls d q.2 R' N ⟨re.1, fun hn => ?_⟩
    obtain ⟨dx, xs, h1, h2, h3, h4, h5⟩ := re.2 hn
    have m : Mv (g.own M ds) (g.own M (ds.put n c')) H' H' := ⟨fun _ _ h _ _ => h, fun _ ps h => ⟨ps, h⟩, fun b h => .inl (h.elim .inl fun h => .inr ((live_put hc).mp h))⟩
    exact ⟨dx, xs, h1, fun z => h2 ((m.new dx z).elim id fun q => by rw [h3] at q; cases q), h3, RepL.mv m _ _ h4, h5⟩
def kA (S : SA) (dvs : List D) (Q : QZ) (E : QE) : List Z → DS → Prop := fun zs ds => match unD zs with
  | some l => S (l ++ dvs) (fun y => Q (.d y) ds) (fun y => E y ds)
  | none => False
def kB (S : SB) (dvs : List D) (Q : QZ) (E : QE) : List Z → DS → Prop := fun zs ds => match zs with
  | .m n :: r => match ds.w[n]?, unD r with
    | some (some c), some l => c.closed ∧ S c (l ++ dvs) (fun y c' => c'.closed ∧ Q (.d y) (ds.put n c')) (fun y c' => c'.closed ∧ E y (ds.put n c'))
    | _, _ => False
  | _ => False
def dCallA (S : SA) (dvs : List D) (t : TLi) : TD := fun ds Q E => t ds (kA S dvs Q E) E
def dCallB (S : SB) (dvs : List D) (t : TLi) : TD := fun ds Q E => t ds (kB S dvs Q E) E
variable {dvs : List D} {dws : List V} {dus : List Value}
theorem px_callA (F : FnOk X.prog X.w X.K X.mg X.base (L2.CX X.prog X.w) k f fd ps (spA X.K T S)) (hT : g.T = T) (hr : Room k X.A) (tk : Takes X W) (hg : Gl X x) (hm : X.mg x = some (.ref f)) (hk : PySem.W.keepIn X.K (.ref f) = true) (hb : Binds X.K fd ps dus) (hd : Vals dws dus) (hdd : ∀ own H, RepL X.K own H dvs dws)
    (ha : PXA X g W (e :: es) t) (hdb : (x == ("__debug__" : Str)) = false := by decide) (he : starEach (e :: es) X.env = (false, eval e X.env) :: starEach es X.env := by rfl) (hpl : (backTo pos (starEach es X.env)).any (·.1) = false := by rfl) :
    PX X g W (.Call (.Name x p) (e :: es) [] pos) (dCallA S dvs t) := by
  refine ⟨fun pins s σ H M ds QD ED I R ht hE => ?_⟩
  refine wpAny_Call_Name_kw (ld_glob I hg hm ?_ hdb)
  refine PySem.W.callWith_K (h₀ := X.base) I.ok.mod.kin hk (thn (ha.run pos pins s σ H M ds _ ED I R ht hE) fun us s1 ⟨zs, ds1, M1, vs, H1, I1, r1, R1, N1, rz, q1⟩ => ⟨I1.kIn, ?_⟩) he hpl
  unfold kA at q1
  split at q1
  · rename_i l el
    obtain rfl := unD_of el
    have sp := spA_in hT R1 (rz.toD.append (hdd _ _)) (hE.nxt N1) q1
    have r2 : Vals (vs ++ dws) (us ++ dus) := r1.append hd
    have hl : (us ++ dus).length = ps.length := by rw [← r2.length]; exact F.len _ _ _ _ sp
    exact thn (run_fnX F hr tk I1 (hb s1 us I1.kIn hl) r2 sp) fun _ _ h => (EPD.of h).nxt N1
  · exact q1.elim
theorem px_callB' (F : FnOk X.prog X.w X.K X.mg X.base (L2.CX X.prog X.w) k f fd ps (spB X.K T SBt)) (hT : g.T = T) (hr : Room k X.A) (tk : Takes X W) (hg : Gl X x) (hm : X.mg x = some (.ref f)) (hk : PySem.W.keepIn X.K (.ref f) = true) (hb : Binds X.K fd ps dus) (hd : Vals dws dus) (hdd : ∀ own H, RepL X.K own H dvs dws)
    (ha : PXA X g W (e :: es) t) (hdb : (x == ("__debug__" : Str)) = false := by decide) (he : starEach (e :: es) X.env = (false, eval e X.env) :: starEach es X.env := by rfl) (hpl : (backTo pos (starEach es X.env)).any (·.1) = false := by rfl) :
    PX X g W (.Call (.Name x p) (e :: es) [] pos) (dCallB SBt dvs t) := by
  refine ⟨fun pins s σ H M ds QD ED I R ht hE => ?_⟩
  refine wpAny_Call_Name_kw (ld_glob I hg hm ?_ hdb)
  refine PySem.W.callWith_K (h₀ := X.base) I.ok.mod.kin hk (thn (ha.run pos pins s σ H M ds _ ED I R ht hE) fun us s1 ⟨zs, ds1, M1, vs, H1, I1, r1, R1, N1, rz, q1⟩ => ⟨I1.kIn, ?_⟩) he hpl
  unfold kB at q1
  split at q1
  · split at q1
    · rename_i c l hc el
      obtain rfl := unD_of el
      obtain ⟨v, vr, rfl, rm, rr⟩ := rz
      have sp := spB_in hT R1 rm (rr.toD.append (hdd _ _)) hc q1.1 (hE.nxt N1) q1.2
      have r2 : Vals (v :: vr ++ dws) (us ++ dus) := r1.append hd
      have hl : (us ++ dus).length = ps.length := by rw [← r2.length]; exact F.len _ _ _ _ sp
      exact thn (run_fnX F hr tk I1 (hb s1 us I1.kIn hl) r2 sp) fun _ _ h => (EPD.of h).nxt N1
    · exact q1.elim
  · exact q1.elim
variable {kws : List Keyword} {tkw : TLi} {ks : List Str}
structure PXK (X : Cx) (g : G) (W : WX) (kws : List Keyword) (t : TLi) : Prop where
  run : ∀ (pos : Pos) (pins : List (Addr × Obj)) (s : Shared) (σ : L2.St) (H : Hp) (M : List Addr) (ds : DS) (QD : List Z → DS → Prop) (ED : QE), Inv X pins σ H s → RepS X.K g M ds σ H → t ds QD ED → EW X g W σ M ds H ED →
    wpAny (model X.prog X.w) X.A (evalAll ((backToKw pos (keywordEach kws X.env)).map (·.2))) (LPD X g pins σ M ds H QD) X.xe s
theorem pxk_nil : PXK X g W [] dNil := ⟨fun _ _ _ _ H M ds QD ED I R h _ => wpAny_evalAll_nil ⟨[], ds, M, [], H, I, .nil, R, .refl, rfl, h⟩⟩
theorem pxk_cons {nm : Option Str} {kpos : Pos} {t : TD} {u : TLi} (ha : PX X g W e t) (hr : PXK X g W kws u) : PXK X g W (⟨nm, e, kpos⟩ :: kws) (dCons t u) := by
  refine ⟨fun pos pins s σ H M ds QD ED I R ht hE => ?_⟩
  show wpAny _ _ (evalAll ((do let v ← eval e X.env; standAt pos; pure v) :: (backToKw pos (keywordEach kws X.env)).map (·.2))) _ _ s
  refine wpAny_evalAll_cons (wpAny_bind (thn (ha.run pins s σ H M ds _ ED I R ht hE) fun vv s1 ⟨x, ds1, M1, v, H1, I1, r1, R1, N1, z1, q1⟩ => wpAny_bind (wpAny_standAt (wpAny_pure ?_))))
  exact thn (hr.run pos pins s1 σ H1 M1 ds1 _ ED I1 R1 q1 (hE.nxt N1)) fun us s2 ⟨xs, ds2, M2, vs, H2, I2, r2, R2, N2, z2, q2⟩ => ⟨x :: xs, ds2, M2, v :: vs, H2, I2, .cons r1 r2, R2, N1.trans N2, ⟨v, vs, rfl, z1.mv N2.mv N2.pre, z2⟩, q2⟩
/-- how n positional values and the keywords' values (names ks) bind: gV puts them, with the defaults, in the parameters' order -/
structure KB (K : PySem.W.Frag) (fd : FuncData) (ps : List Str) (n : Nat) (ks : List Str) (gD : List D → List D → List D) : Prop where
  ex : ∀ (s : Shared) (own : Addr → Prop) (H : Hp) (l m : List D) (vs zs : List V) (us ws : List Value), K.In s.heap → RepL K own H l vs → RepL K own H m zs → Vals vs us → Vals zs ws → us.length = n → ws.length = ks.length →
    ∃ (vs' : List V) (us' : List Value), BindsTo s fd ⟨us, ks.zip ws⟩ (ps.zip us') ∧ RepL K own H (gD l m) vs' ∧ Vals vs' us'
def kKA (n m : Nat) (S : SA) (gD : List D → List D → List D) (Q : QZ) (E : QE) (zs : List Z) : List Z → DS → Prop := fun ys ds => match unD zs, unD ys with
  | some l, some r => (l.length = n ∧ r.length = m) ∧ S (gD l r) (fun y => Q (.d y) ds) (fun y => E y ds)
  | _, _ => False
def dCallK (n m : Nat) (S : SA) (gD : List D → List D → List D) (t tk : TLi) : TD := fun ds Q E => t ds (fun zs ds1 => tk ds1 (kKA n m S gD Q E zs) E) E
theorem px_callK {gD : List D → List D → List D} (F : FnOk X.prog X.w X.K X.mg X.base (L2.CX X.prog X.w) k f fd ps (spA X.K T S)) (hT : g.T = T) (hr : Room k X.A) (tk : Takes X W) (hg : Gl X x) (hm : X.mg x = some (.ref f)) (hk : PySem.W.keepIn X.K (.ref f) = true) (hb : KB X.K fd ps n ks gD)
    (ha : PXA X g W (e :: es) t) (hkw : PXK X g W kws tkw) (hall : (backToKw pos (keywordEach kws X.env)).all (·.1.isSome) = true := by rfl) (hks : (backToKw pos (keywordEach kws X.env)).filterMap (·.1) = ks := by rfl)
    (hdb : (x == ("__debug__" : Str)) = false := by decide) (he : starEach (e :: es) X.env = (false, eval e X.env) :: starEach es X.env := by rfl)
    (hpl : ((backTo pos (starEach (e :: es) X.env)).any (·.1) || (backToKw pos (keywordEach kws X.env)).any (·.1.isNone)) = false := by rfl) :
    PX X g W (.Call (.Name x p) (e :: es) kws pos) (dCallK n ks.length S gD t tkw) := by
  refine ⟨fun pins s σ H M ds QD ED I R ht hE => ?_⟩
  refine wpAny_Call_Name_kw (ld_glob I hg hm ?_ hdb)
  refine PySem.W.callWith_KW (h₀ := X.base) I.ok.mod.kin hk hall (thn (ha.run pos pins s σ H M ds _ ED I R ht hE) fun us s1 ⟨zs, ds1, M1, vs, H1, I1, r1, R1, N1, rz, q1⟩ => ?_) hpl he
  refine thn (hkw.run pos pins s1 σ H1 M1 ds1 _ ED I1 R1 q1 (hE.nxt N1)) fun ws s2 ⟨ys, ds2, M2, vz, H2, I2, r2, R2, N2, ry, q2⟩ => ⟨I2.kIn, ?_⟩
  unfold kKA at q2
  split at q2
  · rename_i l r el er
    obtain rfl := unD_of el
    obtain rfl := unD_of er
    obtain ⟨⟨l1, l2⟩, q2⟩ := q2
    have rl := RepL.mv N2.mv _ _ rz.toD
    have e1 : us.length = n := by rw [← r1.length, RepL.length rl, l1]
    have e2 : ws.length = ks.length := by rw [← r2.length, RepL.length ry.toD, l2]
    obtain ⟨vs', us', hbt, rr, rv⟩ := hb.ex s2 _ H2 l r vs vz us ws I2.kIn rl ry.toD r1 r2 e1 e2
    rw [hks]
    exact thn (run_fnX F hr tk I2 hbt rv (spA_in hT R2 rr ((hE.nxt N1).nxt N2) q2)) fun _ _ h => (EPD.of h).nxt (N1.trans N2)
  · exact q2.elim
end
end L3

set_option Elab.async false
set_option linter.all false
set_option maxRecDepth 100000
set_option maxHeartbeats 1000000
namespace L3
open PySem PySem.Spec PyProof.Rows L2
section
variable {X : Cx} {g : G} {W : WX} {pos : Pos} {st : Stmt} {sts : List Stmt}
def dNever : TSd := fun _ _ => False
theorem pxs_never : PXS X g W st dNever := ⟨fun _ _ _ _ _ _ _ _ _ h _ => h.elim⟩
theorem pxb_never : PXB X g W sts dNever := ⟨fun _ _ _ _ _ _ _ _ _ h _ => h.elim⟩
def dNeverE : TD := fun _ _ _ => False
theorem px_never {e : Expr} : PX X g W e dNeverE := ⟨fun _ _ _ _ _ _ _ _ _ _ h _ => h.elim⟩
/-- the wish of a comprehension's block: no exception leaves it -/
abbrev W0 : WX := fun _ _ _ _ => False
def wipeD (l : List (Option Z)) : List Nat → List (Option Z)
  | [] => l
  | v :: vs => (wipeD l vs).set v none
theorem wipeD_length (l : List (Option Z)) : ∀ vs, (wipeD l vs).length = l.length
  | [] => rfl
  | v :: vs => by unfold wipeD; rw [List.length_set, wipeD_length l vs]
theorem wipeD_some {l : List (Option Z)} {i : Nat} {z : Z} : ∀ {vs : List Nat}, (wipeD l vs)[i]? = some (some z) → l[i]? = some (some z) ∧ i ∉ vs
  | [], h => ⟨h, by simp⟩
  | v :: vs, h => by
    unfold wipeD at h
    by_cases hi : v = i
    · subst hi
      by_cases hv : v < (wipeD l vs).length
      · rw [List.getElem?_set_self hv] at h; cases h
      · rw [List.getElem?_eq_none (by simpa using hv)] at h; cases h
    · rw [List.getElem?_set_ne hi] at h
      obtain ⟨h1, h2⟩ := wipeD_some h
      exact ⟨h1, by simp only [List.mem_cons, not_or]; exact ⟨fun e => hi e.symm, h2⟩⟩
theorem wipe_get {σ : L2.St} {i : Nat} : ∀ {vs : List Nat}, i ∉ vs → (wipe σ vs)[i]? = σ[i]?
  | [], _ => rfl
  | v :: vs, h => by
    unfold wipe
    rw [List.getElem?_set_ne (fun e => h (by simp [e])), wipe_get (fun z => h (List.mem_cons_of_mem _ z))]
theorem wipe_none {σ : L2.St} {i : Nat} : ∀ {vs : List Nat}, i ∈ vs → i < σ.length → (wipe σ vs)[i]? = some none
  | v :: vs, h, hl => by
    unfold wipe
    by_cases e : v = i
    · subst e
      rw [List.getElem?_set_self (by rw [wipe_length]; exact hl)]
    · rw [List.getElem?_set_ne e]
      rcases List.mem_cons.mp h with q | q
      · exact absurd q.symm e
      · exact wipe_none q hl
theorem wipe_ext {σ σ' : L2.St} {vs : List Nat} (hl : σ'.length = σ.length) (h : ∀ i, i ∉ vs → σ'[i]? = σ[i]?) : wipe σ' vs = wipe σ vs := by
  apply List.ext_getElem?
  intro i
  by_cases hi : i ∈ vs
  · by_cases hlt : i < σ.length
    · rw [wipe_none hi (by rw [hl]; exact hlt), wipe_none hi hlt]
    · rw [List.getElem?_eq_none (by rw [wipe_length, hl]; omega), List.getElem?_eq_none (by rw [wipe_length]; omega)]
  · rw [wipe_get hi, wipe_get hi, h i hi]
/-- a target whose names lie among vs -/
structure PXC (X : Cx) (tg : Expr) (vs : List Nat) (gt : TGd) (gl : TG) : Prop where
  pg : PG X tg gl
  sim : ∀ (g : G) (σ : L2.St) (H : Hp) (M : List Addr) (ds : DS) (z : Z) (v : V) (P : DS → Prop) (Q : L2.St → Hp → Prop), RepS X.K g M ds σ H → RepZ X.K (g.own M ds) M H z v → gt z ds P →
    (∀ ds' σ', RepS X.K g M ds' σ' H → ds'.w = ds.w → σ'.length = σ.length → (∀ i, i ∉ vs → σ'[i]? = σ[i]?) → P ds' → Q σ' H) → gl v σ H Q
structure PXCs (X : Cx) (ts : List Expr) (vs : List Nat) (gt : TGsd) (gl : TGs) : Prop where
  pg : PGs X ts gl
  sim : ∀ (g : G) (σ : L2.St) (H : Hp) (M : List Addr) (ds : DS) (l : List D) (xs : List V) (P : DS → Prop) (Q : L2.St → Hp → Prop), RepS X.K g M ds σ H → RepL X.K (g.own M ds) H l xs → gt l ds P →
    (∀ ds' σ', RepS X.K g M ds' σ' H → ds'.w = ds.w → σ'.length = σ.length → (∀ i, i ∉ vs → σ'[i]? = σ[i]?) → P ds' → Q σ' H) → gl xs σ H Q
theorem pxc_name {i : Nat} {x : Str} {vs : List Nat} (hN : X.N.Nodup) (hi : X.N[i]? = some x) (hx : Loc X.env.scope x) (hv : i ∈ vs) (hf : X.fn x = true ∨ X.env.scope.names.lookup x = some .local := by first | exact .inl rfl | exact .inr rfl | assumption) : PXC X (.Name x pos) vs (dgName i) (gName i) :=
  ⟨pg_name hN hi hx hf, fun g σ H M ds z v P Q R rz h hq => hq (ds.set i z) _ (R.set i rz) rfl (by rw [List.length_set]) (fun j hj => by rw [List.getElem?_set_ne (fun e => hj (by rw [← e]; exact hv))]) h⟩
theorem pxcs_nil {vs : List Nat} : PXCs X [] vs dgNil gNil :=
  ⟨pgs_nil, fun g σ H M ds l xs P Q R rl h hq => by
    cases l with
    | cons x l => exact h.elim
    | nil =>
      cases rl
      exact ⟨rfl, hq ds σ R rfl rfl (fun _ _ => rfl) h⟩⟩
theorem pxcs_cons {e : Expr} {es : List Expr} {vs : List Nat} {t : TGd} {u : TGsd} {tl : TG} {ul : TGs} (h1 : PXC X e vs t tl) (h2 : PXCs X es vs u ul)
    (hs : (assignEach (e :: es) X.env).map (·.2) = assign e X.env :: (assignEach es X.env).map (·.2) := by rfl) : PXCs X (e :: es) vs (dgCons t u) (gCons tl ul) :=
  ⟨pgs_cons h1.pg h2.pg hs, fun g σ H M ds l xs P Q R rl h hq => by
    cases l with
    | nil => exact h.elim
    | cons x l =>
      obtain ⟨v, vr, rfl, rx, rl⟩ := rl
      refine ⟨v, vr, rfl, h1.sim g σ H M ds (.d x) v _ _ R rx h fun ds1 σ1 R1 w1 l1 g1 q1 => ?_⟩
      have own : g.own M ds1 = g.own M ds := by unfold G.own; rw [w1]
      exact h2.sim g σ1 H M ds1 l vr P Q R1 (by rw [own]; exact rl) q1 fun ds2 σ2 R2 w2 l2 g2 q2 => hq ds2 σ2 R2 (w2.trans w1) (l2.trans l1) (fun i hi => (g2 i hi).trans (g1 i hi)) q2⟩
def dgTupT (n : Nat) (t : TGsd) : TGd := fun z ds P => match z with
  | .d (.tup l) => l.length = n ∧ t l ds P
  | _ => False
theorem pxc_tup {es : List Expr} {k : Nat} {vs : List Nat} {t : TGsd} {tl : TGs} {n : Nat} (hc : X.calm = true) (h : PXCs X es vs t tl)
    (hn : (assignEach es X.env).length = n := by rfl) (hst : (assignEach es X.env).findIdx? (·.1) = none := by rfl) : PXC X (.Tuple es k pos) vs (dgTupT n t) (gTup X.K n tl) :=
  ⟨pg_tup hc h.pg hn hst, fun g σ H M ds z v P Q R rz hw hq => by
    unfold dgTupT at hw
    split at hw
    · rename_i l
      obtain ⟨a, xs, rfl, rl, hqq⟩ := rz
      exact ⟨a, xs, rfl, sqT_of hqq, by rw [RepL.length rl]; exact hw.1, h.sim g σ H M ds l xs P Q R rl hw.2 hq⟩
    · exact hw.elim⟩
structure PXTs (X : Cx) (T : List (Addr × Str)) (ifs : List Expr) (t : TBo) (tt : TT) : Prop where
  pts : PTs X ifs tt
  sim : ∀ (g : G) (σ : L2.St) (H : Hp) (M : List Addr) (ds : DS) (QD : Bool → DS → Prop), g.T = T → RepS X.K g M ds σ H → t ds QD (fun _ _ => False) → tt σ H (MidT X g σ M ds H QD)
  mono : ∀ (σ : L2.St) (H : Hp) (Q Q' : Bool → Hp → Prop), (∀ b H', Q b H' → Q' b H') → tt σ H Q → tt σ H Q'
def dYes : TBo := fun ds Q _ => Q true ds
theorem pxts_nil {T : List (Addr × Str)} : PXTs X T [] dYes tYes := ⟨pts_nil, fun g σ H M ds QD _ R h => ⟨ds, M, R, .refl, h⟩, fun σ H Q Q' h q => h _ _ q⟩
def tOne (K : PySem.W.Frag) (T : List (Addr × Str)) (t : TBo) : TT := fun σ H Q => ∃ (g : G) (M : List Addr) (ds : DS) (QD : Bool → DS → Prop), g.T = T ∧ RepS K g M ds σ H ∧ t ds QD (fun _ _ => False) ∧ ∀ b H', (∃ ds' M', RepS K g M' ds' σ H' ∧ Nxt g M ds H M' ds' H' ∧ QD b ds') → Q b H'
theorem pxts_one {K : PySem.W.Frag} {T : List (Addr × Str)} {c : Expr} {t : TBo} (hK : X.K = K) (h : ∀ g, g.T = T → PXT X g W0 c t) : PXTs X T [c] t (tOne K T t) := by
  subst hK
  exact ⟨⟨fun pins s σ H Q I ⟨g, M, ds, QD, e, R, ht, q⟩ => (pts_one (h g e).pt).run pins s σ H Q I ⟨M, ds, QD, _, R, ht, fun _ _ _ _ _ _ z => z.elim, q⟩⟩,
    fun g σ H M ds QD e R h => ⟨g, M, ds, QD, e, R, h, fun _ _ q => q⟩, fun σ H Q Q' h ⟨g, M, ds, QD, e, R, ht, q⟩ => ⟨g, M, ds, QD, e, R, ht, fun b H' m => h b H' (q b H' m)⟩⟩
def kD (P : D → Prop) : Z → Prop
  | .d x => P x
  | .m _ => False
/-- the turns of a comprehension: the items left, what is made so far -/
def cLoop (gt : TGd) (tt : TBo) (te : TD) (vs : List Nat) (Q : List D → DS → Prop) : List D → List D → DS → Prop
  | [], acc, ds => Q acc ds
  | x :: r, acc, ds => gt (.d x) ⟨wipeD ds.s vs, ds.w⟩ fun ds1 => tt ds1 (fun b ds2 => (b = true → te ds2 (fun z ds3 => kD (fun y => cLoop gt tt te vs Q r (acc ++ [y]) ⟨ds.s, ds3.w⟩) z) (fun _ _ => False)) ∧ (b = false → cLoop gt tt te vs Q r acc ⟨ds.s, ds2.w⟩)) (fun _ _ => False)
def dLc (ti : TIt) (gt : TGd) (tt : TBo) (te : TD) (vs : List Nat) : TD := fun ds Q E => ti ds (fun items ds1 => items.length < sizeLine ∧ cLoop gt tt te vs (fun acc ds2 => Q (.d (.lst acc)) ds2) items [] ds1) E
def dLcM (ti : TIt) (gt : TGd) (tt : TBo) (te : TD) (vs : List Nat) : TD := fun ds Q E => ti ds (fun items ds1 => items.length < sizeLine ∧ cLoop gt tt te vs (fun acc ds2 => Q (.m ds2.w.length) (ds2.more (.lst acc))) items [] ds1) E
/-- the slots of an elder state over the world of a later one -/
theorem RepS.world {K : PySem.W.Frag} {g : G} {M M2 : List Addr} {ds ds2 : DS} {σ σ2 : L2.St} {H H2 : Hp} (R : RepS K g M ds σ H) (R2 : RepS K g M2 ds2 σ2 H2) (N : Nxt g M ds H M2 ds2 H2) : RepS K g M2 ⟨ds.s, ds2.w⟩ σ H2 :=
  { len := R.len, slot := fun i z h => by
      obtain ⟨v, h1, h2⟩ := R.slot i z h
      exact ⟨v, h1, h2.mv N.mv N.pre⟩
    mlen := R2.mlen, nd := R2.nd, apart := R2.apart, obj := R2.obj, tabs := R2.tabs, out := R2.out, ex := R2.ex }
/-- a thing of the outside is written -/
theorem RepS.outw {K : PySem.W.Frag} {g : G} {M : List Addr} {ds : DS} {σ : L2.St} {H : Hp} {D : Addr} {o : HO} (R : RepS K g M ds σ H) (hD : g.ow D) (ht : ∀ ps, o ≠ .tbl ps) (hx : ∀ φ, o ≠ .ext φ) :
    RepS K g M ds σ (L2.upd H D o) ∧ Mv (g.own M ds) (g.own M ds) H (L2.upd H D o) := by
  obtain ⟨u0, q0, qt, qx⟩ := R.out D hD
  have e : ∀ b, b ≠ D → L2.upd H D o b = H b := fun b h => upd_ne h
  have m : Mv (g.own M ds) (g.own M ds) H (L2.upd H D o) := ⟨fun b u h nb _ => by rw [e b fun z => nb (.inl (z ▸ hD))]; exact h, fun b ps h => ⟨ps, by rw [e b fun z => by rw [z, q0] at h; cases h; exact qt ps rfl]; exact h⟩, fun b h => .inl h⟩
  have pr : ∃ more, M = M ++ more := ⟨[], by simp⟩
  have nM : ∀ a ∈ M, a ≠ D := fun a h z => R.apart a h (z ▸ hD)
  refine ⟨{ len := R.len, slot := fun i z h => ?_, mlen := R.mlen, nd := R.nd, apart := R.apart, obj := fun n c a h1 h2 => (R.obj n c a h1 h2).mv m pr (e a (nM a (List.mem_of_getElem? h2))), tabs := ?_, out := fun a h => ?_, ex := fun a h => ?_ }, m⟩
  · obtain ⟨v, h1, h2⟩ := R.slot i z h
    exact ⟨v, h1, h2.mv m pr⟩
  · intro p hp
    obtain ⟨ps, t1, t2, t3⟩ := R.tabs p hp
    refine ⟨ps, by rw [e _ fun z => by rw [z, q0] at t1; cases t1; exact qt ps rfl]; exact t1, t2, fun pos cv hcv => ?_⟩
    obtain ⟨c', e1, e2⟩ := t3 pos cv hcv
    exact ⟨c', e1, by rw [e _ fun z => by rw [z, q0] at e2; exact qx _ (Option.some.inj e2)]; exact e2⟩
  · by_cases ha : a = D
    · subst ha
      exact ⟨o, upd_same, ht, hx⟩
    · obtain ⟨u, q1, q2⟩ := R.out a h
      exact ⟨u, by rw [e a ha]; exact q1, q2⟩
  · obtain ⟨u, q1, q2⟩ := R.ex a h
    exact ⟨u, by rw [e a (nM a h)]; exact q1, q2⟩
/-- less of the outside -/
theorem RepS.less {K : PySem.W.Frag} {g g' : G} {M : List Addr} {ds : DS} {σ : L2.St} {H : Hp} (R : RepS K g' M ds σ H) (h : ∀ a, g.ow a → g'.ow a) (hT : g'.T = g.T) : RepS K g M ds σ H ∧ Mv (g'.own M ds) (g.own M ds) H H := by
  have m : Mv (g'.own M ds) (g.own M ds) H H := ⟨fun _ _ h _ _ => h, fun _ ps h => ⟨ps, h⟩, fun b z => .inl (z.elim (fun z => .inl (h b z)) .inr)⟩
  have pr : ∃ more, M = M ++ more := ⟨[], by simp⟩
  refine ⟨{ len := R.len, slot := fun i z e => ?_, mlen := R.mlen, nd := R.nd, apart := fun a ha z => R.apart a ha (h a z), obj := fun n c a h1 h2 => (R.obj n c a h1 h2).mv m pr rfl, tabs := by rw [← hT]; exact R.tabs, out := fun a z => R.out a (h a z), ex := R.ex }, m⟩
  obtain ⟨v, h1, h2⟩ := R.slot i z e
  exact ⟨v, h1, h2.mv m pr⟩
/-- more of the outside: a new thing -/
theorem RepS.outn {K : PySem.W.Frag} {g : G} {M : List Addr} {ds : DS} {σ : L2.St} {H : Hp} {D : Addr} {o : HO} (R : RepS K g M ds σ H) (hD : H D = none) (ht : ∀ ps, o ≠ .tbl ps) (hx : ∀ φ, o ≠ .ext φ) :
    RepS K ⟨fun b => g.ow b ∨ b = D, g.T⟩ M ds σ (L2.upd H D o) ∧ Mv (g.own M ds) (G.own ⟨fun b => g.ow b ∨ b = D, g.T⟩ M ds) H (L2.upd H D o) := by
  have e : ∀ b u, H b = some u → L2.upd H D o b = some u := fun b u h => by rw [upd_ne (ne_of_none h hD)]; exact h
  have m : Mv (g.own M ds) (G.own ⟨fun b => g.ow b ∨ b = D, g.T⟩ M ds) H (L2.upd H D o) := ⟨fun b u h _ _ => e b u h, fun b ps h => ⟨ps, e b _ h⟩, fun b h => by
    rcases h with (h | h) | h
    · exact .inl (.inl h)
    · exact .inr (by rw [h]; exact hD)
    · exact .inl (.inr h)⟩
  have pr : ∃ more, M = M ++ more := ⟨[], by simp⟩
  refine ⟨{ len := R.len, slot := fun i z h => ?_, mlen := R.mlen, nd := R.nd, apart := fun a h z => ?_, obj := fun n c a h1 h2 => ?_, tabs := R.tabs.ext e, out := fun a h => ?_, ex := fun a h => ?_ }, m⟩
  · obtain ⟨v, h1, h2⟩ := R.slot i z h
    exact ⟨v, h1, h2.mv m pr⟩
  · rcases z with z | z
    · exact R.apart a h z
    · obtain ⟨u, q, _⟩ := R.ex a h
      rw [z, hD] at q; cases q
  · have r := R.obj n c a h1 h2
    obtain ⟨u, q1, _⟩ := r.ex
    exact r.mv m pr (by rw [e a u q1, q1])
  · rcases h with h | h
    · obtain ⟨u, q1, q2⟩ := R.out a h
      exact ⟨u, e a u q1, q2⟩
    · exact ⟨o, by rw [h]; exact upd_same, ht, hx⟩
  · obtain ⟨u, q1, q2⟩ := R.ex a h
    exact ⟨u, e a u q1, q2⟩
def liftI (X : Cx) (g : G) (W : WX) (ti : TIt) : TI := fun σ H R => ∃ M ds Q ED, RepS X.K g M ds σ H ∧ ti ds Q ED ∧ EW X g W σ M ds H ED ∧ ∀ J H1, PIQ X g σ M ds H Q J H1 → R J H1
theorem PXI.pi {tg iter : Expr} {ti : TIt} (h : PXI X g W tg iter ti) : PI X tg iter (liftI X g W ti) := by
  refine ⟨fun pins s σ H R I q => ?_⟩
  obtain ⟨M, ds, Q, ED, Rs, ht, he, hq⟩ := q
  refine thn (h.run pins s σ H M ds Q ED I Rs ht he) fun v s1 h1 => thn h1 fun itv s2 ⟨it, fp, tn, J, H', e, I', T, t0, f0, pq⟩ => ⟨it, fp, tn, J, H', e, I', T, t0, f0, hq J H' pq⟩
/-- the loop, from the layer below -/
theorem lc_sim {tg : Expr} {ti : TIt} {gt : TGd} {gl : TG} {tt : TBo} {ttl : TT} {te : TD} {vs : List Nat} {ifs : List Expr} {X' : Cx} (hK : X'.K = X.K) (hg : PXC X' tg vs gt gl) (ht : PXTs X' g.T ifs tt ttl)
    {σ : L2.St} {H : Hp} {M : List Addr} {ds : DS} {QL : List D → DS → Prop} {ED : QE} {QQ : VK} (R : RepS X.K g M ds σ H) (h : ti ds (fun items ds1 => items.length < sizeLine ∧ cLoop gt tt te vs QL items [] ds1) ED) (hE : EW X g W σ M ds H ED)
    (hQ : ∀ D acc xs M' ds' H', H' D = some (.lst xs) → RepS X.K ⟨fun b => g.ow b ∨ b = D, g.T⟩ M' ds' σ H' → Nxt g M ds H M' ds' H' → ¬ g.own M' ds' D → RepL X.K (g.own M' ds') H' acc xs → QL acc ds' → QQ (.ref D) H') :
    tLc (liftI X g W ti) gl ttl (fun σ H Q => ∃ g', g'.T = g.T ∧ lift X g' W0 te σ H Q) vs σ H QQ := by
  refine ⟨M, ds, _, ED, R, h, hE, fun J H1 ⟨items, ds1, M1, R1, N1, itd, hlen, q⟩ D hD => ?_⟩
  obtain ⟨R0, m0⟩ := R1.outn (o := .lst []) hD (fun _ z => nomatch z) (fun _ z => nomatch z)
  have nowD : ¬ g.ow D := fun z => by
    obtain ⟨o, q, _⟩ := R1.out D z
    rw [hD] at q; cases q
  refine ⟨fun i m H' => m = items.length - i ∧ i ≤ items.length ∧ ∃ acc xs w' M', H' D = some (.lst xs) ∧ RepS X.K ⟨fun b => g.ow b ∨ b = D, g.T⟩ M' ⟨ds1.s, w'⟩ σ H' ∧ Nxt g M1 ds1 H1 M' ⟨ds1.s, w'⟩ H' ∧
      Mv (g.own M1 ds1) (G.own ⟨fun b => g.ow b ∨ b = D, g.T⟩ M' ⟨ds1.s, w'⟩) H1 H' ∧ RepL X.K (G.own ⟨fun b => g.ow b ∨ b = D, g.T⟩ M' ⟨ds1.s, w'⟩) H' acc xs ∧ acc.length ≤ i ∧ cLoop gt tt te vs QL (items.drop i) acc ⟨ds1.s, w'⟩,
    ⟨_, rfl, Nat.zero_le _, [], [], ds1.w, M1, upd_same, R0, ⟨⟨fun b o h n t => m0.keep b o h n t, m0.tb, fun b h => .inl h⟩, ⟨[], by simp⟩, fun a ha => upd_ne fun z => nowD (z ▸ ha)⟩, m0, rfl, Nat.le_refl _, q⟩, ?_⟩
  rintro i m H' ⟨rfl, hi, acc, xs, w', M', eD, R', N', m', rl, hacc, q⟩
  obtain ⟨go, stop⟩ := itd _ i M' ⟨ds1.s, w'⟩ σ H' R' m'
  cases hit : items[i]? with
  | none =>
    refine .inl ⟨stop hit, ?_⟩
    have e : items.drop i = [] := List.drop_eq_nil_of_le (List.getElem?_eq_none_iff.mp hit)
    rw [e] at q
    have nD : ¬ g.own M' ⟨ds1.s, w'⟩ D := fun z => z.elim nowD fun ⟨n, c, h1, _⟩ => R'.apart D (List.mem_of_getElem? h1) (.inr rfl)
    exact hQ D acc xs M' ⟨ds1.s, w'⟩ H' eD R' (N1.trans N') nD (RepL.mv (R'.less (g := g) (fun a h => .inl h) rfl).2 _ _ rl) q
  | some d =>
    have hlt : i < items.length := (List.getElem?_eq_some_iff.mp hit).1
    have e : items.drop i = d :: items.drop (i + 1) := by
      rw [List.drop_eq_getElem_cons hlt, (List.getElem?_eq_some_iff.mp hit).2]
    rw [e] at q
    obtain ⟨go1, go2⟩ := go d hit
    refine .inr ⟨go1, fun H'' => ∃ m'', m'' = items.length - (i + 1) ∧ i + 1 ≤ items.length ∧ ∃ acc xs w' M', H'' D = some (.lst xs) ∧ RepS X.K ⟨fun b => g.ow b ∨ b = D, g.T⟩ M' ⟨ds1.s, w'⟩ σ H'' ∧ Nxt g M1 ds1 H1 M' ⟨ds1.s, w'⟩ H'' ∧
      Mv (g.own M1 ds1) (G.own ⟨fun b => g.ow b ∨ b = D, g.T⟩ M' ⟨ds1.s, w'⟩) H1 H'' ∧ RepL X.K (G.own ⟨fun b => g.ow b ∨ b = D, g.T⟩ M' ⟨ds1.s, w'⟩) H'' acc xs ∧ acc.length ≤ i + 1 ∧ cLoop gt tt te vs QL (items.drop (i + 1)) acc ⟨ds1.s, w'⟩, fun H'' ⟨m'', h1, h2⟩ => ⟨m'', by omega, h1, h2⟩, fun x H2 hy => ?_⟩
    obtain ⟨R2, N2, rd⟩ := go2 x H2 hy
    have Rw : RepS X'.K ⟨fun b => g.ow b ∨ b = D, g.T⟩ M' ⟨wipeD ds1.s vs, w'⟩ (wipe σ vs) H2 := by
      rw [hK]
      refine R2.weak (by rw [wipe_length, wipeD_length]; exact R2.len) fun j z hz => ?_
      obtain ⟨z1, z2⟩ := wipeD_some hz
      exact ⟨z1, wipe_get z2⟩
    refine hg.sim _ (wipe σ vs) H2 M' ⟨wipeD ds1.s vs, w'⟩ (.d d) x _ _ Rw (by rw [hK]; exact rd) q fun ds3 σ3 R3 w3 l3 a3 q3 => ⟨?_, ?_⟩
    · have e1 : wipe σ3 vs = wipe (wipe σ vs) vs := wipe_ext l3 a3
      rw [e1]
      exact wipe_ext (wipe_length σ vs) fun j hj => wipe_get hj
    · have T := ht.sim ⟨fun b => g.ow b ∨ b = D, g.T⟩ σ3 H2 M' ds3 _ rfl R3 q3
      have own3 : G.own ⟨fun b => g.ow b ∨ b = D, g.T⟩ M' ds3 = G.own ⟨fun b => g.ow b ∨ b = D, g.T⟩ M' ⟨ds1.s, w'⟩ := by
        unfold G.own; rw [w3]
      -- the frame of a turn: from (M', w', H') on
      have step : ∀ {M4 : List Addr} {ds4 : DS} {H4 : Hp}, RepS X.K ⟨fun b => g.ow b ∨ b = D, g.T⟩ M4 ds4 σ3 H4 → Nxt ⟨fun b => g.ow b ∨ b = D, g.T⟩ M' ds3 H2 M4 ds4 H4 →
          H4 D = some (.lst xs) ∧ RepS X.K ⟨fun b => g.ow b ∨ b = D, g.T⟩ M4 ⟨ds1.s, ds4.w⟩ σ H4 ∧ Nxt g M1 ds1 H1 M4 ⟨ds1.s, ds4.w⟩ H4 ∧ Mv (g.own M1 ds1) (G.own ⟨fun b => g.ow b ∨ b = D, g.T⟩ M4 ⟨ds1.s, ds4.w⟩) H1 H4 ∧ RepL X.K (G.own ⟨fun b => g.ow b ∨ b = D, g.T⟩ M4 ⟨ds1.s, ds4.w⟩) H4 acc xs := fun {M4 ds4 H4} R4 N4 => by
        have N3 : Nxt ⟨fun b => g.ow b ∨ b = D, g.T⟩ M' ⟨ds1.s, w'⟩ H2 M4 ds4 H4 := ⟨by have := N4.mv; rw [own3] at this; exact this, N4.pre, N4.out⟩
        have N5 := N2.trans N3
        have mm : Mv (g.own M1 ds1) (G.own ⟨fun b => g.ow b ∨ b = D, g.T⟩ M4 ⟨ds1.s, ds4.w⟩) H1 H4 := m'.trans N5.mv
        refine ⟨(N5.out D (.inr rfl)).trans eD, R'.world R4 N5, ⟨⟨mm.keep, mm.tb, fun b z => mm.new b (z.elim (fun z => .inl (.inl z)) .inr)⟩, ?_, fun a ha => (N5.out a (.inl ha)).trans (N'.out a ha)⟩, mm, RepL.mv N5.mv _ _ rl⟩
        obtain ⟨p1, e1⟩ := N'.pre
        obtain ⟨p2, e2⟩ := N5.pre
        exact ⟨p1 ++ p2, by rw [e2, e1, List.append_assoc]⟩
      refine ht.mono _ _ _ _ (fun b H3 ⟨ds4, M4, R4, N4, qq⟩ => ?_) T
      rw [hK] at R4
      cases b with
      | false =>
        rw [if_neg Bool.false_ne_true]
        obtain ⟨s1, s2, s3, s4, s5⟩ := step R4 N4
        exact ⟨_, rfl, hlt, acc, xs, ds4.w, M4, s1, s2, s3, s4, s5, by omega, qq.2 rfl⟩
      | true =>
        rw [if_pos rfl]
        refine ⟨⟨fun b => g.ow b ∨ b = D, g.T⟩, rfl, M4, ds4, _, _, R4, qq.1 rfl, fun _ _ _ _ _ _ z => z.elim, fun v H5 ⟨z, ds5, M5, R5, N5, rz, q5⟩ => ?_⟩
        obtain ⟨s1, s2, s3, s4, s5⟩ := step R5 (N4.trans N5)
        cases z with
        | m n => exact q5.elim
        | d y =>
          have hx : xs.length = acc.length := RepL.length s5
          refine ⟨xs, s1, by omega, _, rfl, hlt, acc ++ [y], xs ++ [v], ds5.w, M5, upd_same, ?_⟩
          obtain ⟨R6, m6⟩ := s2.outw (o := .lst (xs ++ [v])) (.inr rfl) (fun _ z => nomatch z) (fun _ z => nomatch z)
          have nD1 : H1 D = none := hD
          refine ⟨R6, ⟨⟨fun b o h n t => ?_, fun b ps h => ?_, s3.mv.new⟩, s3.pre, fun a ha => ?_⟩, s4.trans m6, RepL.append (RepL.mv m6 _ _ s5) ?_, by rw [List.length_append, List.length_singleton]; omega, q5⟩
          · rw [upd_ne (ne_of_none h nD1)]
            exact s3.mv.keep b o h n t
          · rw [upd_ne (ne_of_none h nD1)]
            exact s3.mv.tb b ps h
          · rw [upd_ne (fun z : a = D => nowD (z ▸ ha))]
            exact s3.out a ha
          · exact RepL.one (RepD.mv m6 _ _ rz)
theorem pe_any {X' : Cx} {e : Expr} {te : TD} (hK : X'.K = X.K) (h : ∀ g', g'.T = g.T → PX X' g' W0 e te) : PE X' e (fun σ H Q => ∃ g', g'.T = g.T ∧ lift X g' W0 te σ H Q) := by
  refine ⟨fun pins s σ H Q I ⟨g', e1, M, ds, QD, ED, R, ht, hE, hq⟩ => ?_⟩
  refine thn ((h g' e1).run pins s σ H M ds QD ED I (by rw [hK]; exact R) ht fun x ds' M' H' cls d q R' N r => hE x ds' M' H' cls d q (by rw [← hK]; exact R') N (by rw [← hK]; exact r)) fun u s' ⟨z, ds', M', v, H', I', r, R', N, rz, q⟩ => ⟨v, H', I', r, hq v H' ⟨z, ds', M', by rw [← hK]; exact R', N, by rw [← hK]; exact rz, q⟩⟩
/-- a comprehension, as data -/
theorem px_lc {elt tg iter : Expr} {ifs : List Expr} {scope : Scope} {own : List (Str × Nat)} {ti : TIt} {gt : TGd} {gl : TG} {tt : TBo} {ttl : TT} {te : TD} (hc : X.calm = true) (hN : X.N.Nodup) (hi : PXI X g W tg iter ti) (ok : BlkOk X.N X.env.scope scope own)
    (hg : ∀ (s : Shared) (H : Hp) (C : Addr) (cl : List (Str × Addr)) (fp : List Addr), PXC (X.blk s H scope (compEnvC scope cl C X.env) fp) tg (own.map (·.2)) gt gl)
    (ht : ∀ (s : Shared) (H : Hp) (C : Addr) (cl : List (Str × Addr)) (fp : List Addr), PXTs (X.blk s H scope (compEnvC scope cl C X.env) fp) g.T ifs tt ttl)
    (he : ∀ (g' : G) (s : Shared) (H : Hp) (C : Addr) (cl : List (Str × Addr)) (fp : List Addr), g'.T = g.T → PX (X.blk s H scope (compEnvC scope cl C X.env) fp) g' W0 elt te) (hs : ∀ x, foldedSetIterable iter X.env x = pure x := by intro _; rfl) :
    PX X g W (.ListComp elt [⟨tg, iter, ifs, 0⟩] scope pos) (dLc ti gt tt te (own.map (·.2))) := by
  refine .of (pe_lc hc hN hi.pi ok (fun s H C cl fp => (hg s H C cl fp).pg) (fun s H C cl fp => (ht s H C cl fp).pts) (fun s H C cl fp => pe_any (g := g) rfl fun g' e1 => he g' s H C cl fp e1) hs) fun σ H M ds QD ED R h hE => ?_
  refine lc_sim (X' := X.blk X.s_0 (fun _ => none) scope (compEnvC scope [] 0 X.env) []) rfl (hg X.s_0 (fun _ => none) 0 [] []) (ht X.s_0 (fun _ => none) 0 [] []) R h hE fun D acc xs M' ds' H' eD R' N nD rl q => ?_
  obtain ⟨R2, m2⟩ := R'.less (g := g) (fun a h => .inl h) rfl
  exact ⟨.d (.lst acc), ds', M', R2, N, ⟨D, xs, rfl, rl, nD, eD⟩, q⟩
/-- name = [..] on one line, the name a plain local -/
theorem pxs_setLc {i : Nat} {y : Str} {py : Pos} {elt tg iter : Expr} {ifs : List Expr} {scope : Scope} {own : List (Str × Nat)} {spos : Pos} {ti : TIt} {gt : TGd} {gl : TG} {tt : TBo} {ttl : TT} {te : TD} (hc : X.calm = true) (hN : X.N.Nodup) (hy : X.N[i]? = some y) (hyl : X.env.scope.names.lookup y = some .local)
    (hsw : swapsWith (.ListComp elt [⟨tg, iter, ifs, 0⟩] scope pos) (some (.Name y py)) spos.line X.env = pure true) (hi : PXI X g W tg iter ti) (ok : BlkOk X.N X.env.scope scope own)
    (hg : ∀ (s : Shared) (H : Hp) (C : Addr) (cl : List (Str × Addr)) (fp : List Addr), PXC (X.blk s H scope (compEnvC scope cl C X.env) fp) tg (own.map (·.2)) gt gl)
    (ht : ∀ (s : Shared) (H : Hp) (C : Addr) (cl : List (Str × Addr)) (fp : List Addr), PXTs (X.blk s H scope (compEnvC scope cl C X.env) fp) g.T ifs tt ttl)
    (he : ∀ (g' : G) (s : Shared) (H : Hp) (C : Addr) (cl : List (Str × Addr)) (fp : List Addr), g'.T = g.T → PX (X.blk s H scope (compEnvC scope cl C X.env) fp) g' W0 elt te) (hs : ∀ x, foldedSetIterable iter X.env x = pure x := by intro _; rfl) :
    PXS X g W (.Assign [.Name y py] (.ListComp elt [⟨tg, iter, ifs, 0⟩] scope pos) spos) (dAsg (dLc ti gt tt te (own.map (·.2))) (dgName i)) := by
  refine ⟨fun pins s σ H M ds De I R h hE => ?_⟩
  have h0 := (ps_setLc (i := i) hc hN hy hyl hsw hi.pi ok (fun s H C cl fp => (hg s H C cl fp).pg) (fun s H C cl fp => (ht s H C cl fp).pts) (fun s H C cl fp => pe_any (g := g) rfl fun g' e1 => he g' s H C cl fp e1) hs).run pins s σ H
    ⟨fun σ' H' => ∃ ds' M', RepS X.K g M' ds' σ' H' ∧ Nxt g M ds H M' ds' H' ∧ De.nx ds', fun _ _ => False, fun _ _ => False, fun _ _ => False⟩ I
    (lc_sim (X' := X.blk X.s_0 (fun _ => none) scope (compEnvC scope [] 0 X.env) []) rfl (hg X.s_0 (fun _ => none) 0 [] []) (ht X.s_0 (fun _ => none) 0 [] []) R h hE.ew fun D acc xs M' ds' H' eD R' N nD rl q => by
      obtain ⟨R2, m2⟩ := R'.less (g := g) (fun a h => .inl h) rfl
      exact ⟨ds'.set i (.d (.lst acc)), M', R2.set i (z := .d (.lst acc)) ⟨D, xs, rfl, rl, nD, eD⟩, N.trans .set, q⟩)
  refine thn h0 fun f s1 q => ?_
  cases f with
  | next =>
    obtain ⟨σ', H', I', ds', M', R', N', q⟩ := q
    exact ⟨ds', M', σ', H', I', R', N', q⟩
  | brk => obtain ⟨_, _, _, q⟩ := q; exact q.elim
  | cont => obtain ⟨_, _, _, q⟩ := q; exact q.elim
  | ret u => obtain ⟨_, _, _, _, _, q⟩ := q; exact q.elim
end
end L3

set_option Elab.async false
set_option linter.all false
set_option maxRecDepth 100000
set_option maxHeartbeats 1000000
namespace L3
open PySem PySem.Spec PyProof.Rows L2
theorem valV_zip {ks : List Key} (hn : ks.Nodup) : ∀ {xs : List V} {j : Nat} {k : Key} {x : V}, ks[j]? = some k → xs[j]? = some x → valV (ks.zip xs) k = some x := by
  induction ks with
  | nil => intro xs j k x h; simp at h
  | cons a ks ih =>
    intro xs j k x h1 h2
    cases xs with
    | nil => simp at h2
    | cons y xs =>
      cases j with
      | zero =>
        simp at h1 h2
        subst h1; subst h2
        exact valV_pos rfl
      | succ j =>
        have hk : k ∈ ks := List.mem_of_getElem? (by simpa using h1)
        rw [List.zip_cons_cons, valV_neg (fun e => by
          have e' : a = k := e
          rw [e'] at hn
          exact (List.nodup_cons.mp hn).1 hk)]
        exact ih (List.nodup_cons.mp hn).2 (by simpa using h1) (by simpa using h2)
theorem putK_zip {ks : List Key} (hn : ks.Nodup) {xs : List V} {j : Nat} {k : Key} (v : V) (h1 : ks[j]? = some k) (hl : xs.length = ks.length) : putK (ks.zip xs) k v = ks.zip (xs.set j v) := by
  have hj : j < ks.length := (List.getElem?_eq_some_iff.mp h1).1
  have hx : xs[j]? = some xs[j] := List.getElem?_eq_getElem (by omega)
  unfold putK
  rw [valV_any, valV_zip hn h1 hx, Option.isSome_some, if_pos rfl]
  clear hx
  induction ks generalizing xs j with
  | nil => simp at h1
  | cons a ks ih =>
    cases xs with
    | nil => simp at hl
    | cons y xs =>
      have hn' := List.nodup_cons.mp hn
      cases j with
      | zero =>
        simp at h1
        subst h1
        rw [List.zip_cons_cons, List.map_cons, List.set_cons_zero, List.zip_cons_cons]
        congr 1
        · simp
        · have : ∀ p ∈ ks.zip xs, (if p.1 = a then (p.1, v) else p) = p := fun p hp => by
            rw [if_neg]
            intro e
            exact hn'.1 (e ▸ (List.of_mem_zip hp).1)
          rw [List.map_congr_left this, List.map_id']
      | succ j =>
        have hk : k ∈ ks := List.mem_of_getElem? (by simpa using h1)
        rw [List.zip_cons_cons, List.map_cons, List.set_cons_succ, List.zip_cons_cons]
        congr 1
        · rw [if_neg (fun e => by
            have e' : a = k := e
            exact hn'.1 (e' ▸ hk))]
        · exact ih hn'.2 (by simpa using h1) (by simpa using hl) (by simpa using hj)
theorem RepL.set {K : PySem.W.Frag} {own : Addr → Prop} {H : Hp} : ∀ {l : List D} {xs : List V} {d : D} {v : V} (i : Nat), RepL K own H l xs → RepD K own H d v → RepL K own H (l.set i d) (xs.set i v)
  | [], xs, z, v, i, h, hz => by cases h; exact rfl
  | c :: l, xs, z, v, 0, h, hz => by
    obtain ⟨u, r, rfl, h1, h2⟩ := h
    exact ⟨v, r, rfl, hz, h2⟩
  | c :: l, xs, z, v, i + 1, h, hz => by
    obtain ⟨u, r, rfl, h1, h2⟩ := h
    exact ⟨u, r.set i v, rfl, h1, RepL.set i h2 hz⟩
section
variable {X : Cx} {g : G} {W : WX} {pos : Pos} {o value : Expr} {to tv : TD}
def rdDget (j : Nat) (key : Str) (z : Z) (ds : DS) (Q : QZ) : Prop := match z with
  | .m n => match ds.w[n]? with
    | some (some (.dic ks l)) => (ks[j]? = some (.inr key) ∧ ks.Nodup) ∧ (match l[j]? with
      | some x => Q (.d x) ds
      | none => False)
    | _ => False
  | _ => False
def dDget (j : Nat) (key : Str) (to : TD) : TD := fun ds Q E => to ds (fun z ds1 => rdDget j key z ds1 Q) E
theorem px_dgetS {j : Nat} {key : Str} {jj : Nat} {p2 : Pos} (hu : X.A.units + 1 < cLine) (ho : PX X g W o to) : PX X g W (.Subscript o (.Constant (.str key) jj p2) pos) (dDget j key to) := by
  refine .of (pe_dget hu ho.pe pe_str (by intro _ _; rfl)) fun σ H M ds QD ED R ht he => ?_
  refine lift_in R ht he fun z ds1 M1 v H1 R1 N1 rz q => ?_
  show ∃ a v', v = .ref a ∧ DGet H1 a (.str key) (some v') ∧ _
  unfold rdDget at q
  split at q
  · split at q
    · rename_i ks l hw
      obtain ⟨⟨h1, hn⟩, q⟩ := q
      split at q
      · rename_i x hx
        obtain ⟨a, ha, rfl⟩ := rz
        obtain ⟨xs, r, hl, e⟩ := R1.obj _ _ _ hw ha
        obtain ⟨y, hy, ry⟩ := r.get hx
        refine ⟨a, y, rfl, ?_, (Mid.same R1 (z := .d x) ry q).nxt N1⟩
        have := DGet.k (k := .inr key) e
        rw [valV_zip hn h1 hy] at this
        exact this
      · exact q.elim
    · exact q.elim
  · exact q.elim
def rdDput (j : Nat) (key : Str) (x : D) (z : Z) (ds : DS) (P : DS → Prop) : Prop := match z with
  | .m n => match ds.w[n]? with
    | some (some (.dic ks l)) => (ks[j]? = some (.inr key) ∧ ks.Nodup ∧ ks.length < sizeLine) ∧ P (ds.put n (.dic ks (l.set j x)))
    | _ => False
  | _ => False
def dDput (j : Nat) (key : Str) (tv to : TD) : TSd := fun De ds => tv ds (fun y ds1 => kD (fun x => to ds1 (fun z ds2 => rdDput j key x z ds2 De.nx) De.er) y) De.er
theorem pxs_dputS {j : Nat} {key : Str} {jj : Nat} {p2 pos' : Pos} (hu : X.A.units + 1 < cLine) (hv : PX X g W value tv) (ho : PX X g W o to) (hs : swapsWith value (some (.Subscript o (.Constant (.str key) jj p2) pos')) pos.line X.env = pure false := by rfl) :
    PXS X g W (.Assign [.Subscript o (.Constant (.str key) jj p2) pos'] value pos) (dDput j key tv to) := by
  refine ⟨fun pins s σ H M ds De I R h hE => ?_⟩
  have h0 := (ps_dput (X := X) (pos := pos) (pos' := pos') hu ho.pe (pe_str (x := key) (j := jj) (pos := p2)) hv.pe hs).run pins s σ H ⟨fun σ' H' => ∃ ds' M', RepS X.K g M' ds' σ' H' ∧ Nxt g M ds H M' ds' H' ∧ De.nx ds', fun _ _ => False, fun _ _ => False, fun _ _ => False⟩ I
    (lift_in R h hE.ew fun y ds1 M1 v H1 R1 N1 ry q => by
      cases y with
      | m n => exact q.elim
      | d x =>
        refine lift_in R1 q (hE.nxt N1).ew fun z ds2 M2 u H2 R2 N2 rz q2 => ?_
        show ∃ a H4, u = .ref a ∧ DPut H2 a (.str key) v H4 ∧ _
        unfold rdDput at q2
        split at q2
        · split at q2
          · rename_i ks l hw
            obtain ⟨⟨h1, hn, hlt⟩, q2⟩ := q2
            obtain ⟨a, ha, rfl⟩ := rz
            obtain ⟨xs, r, hl, e⟩ := R2.obj _ _ _ hw ha
            have hlx : xs.length = ks.length := by rw [RepL.length r, hl]
            have hp := DPut.k (k := .inr key) (v := v) e (Nat.lt_of_le_of_lt (by rw [List.length_zip]; exact Nat.min_le_left _ _) hlt)
            rw [putK_zip hn v h1 hlx] at hp
            obtain ⟨R3, N3⟩ := R2.put (c := .dic ks (l.set j x)) (o := .dK (ks.zip (xs.set j v))) hw ha (fun _ z => nomatch z) (fun _ z => nomatch z) fun own' m => ⟨xs.set j v, RepL.set j (RepL.mv m _ _ r) (RepD.mv m _ _ (RepD.mv N2.mv _ _ ry)), by rw [List.length_set]; exact hl, upd_same⟩
            exact ⟨a, _, rfl, hp, _, M2, R3, (N1.trans N2).trans N3, q2⟩
          · exact q2.elim
        · exact q2.elim)
  refine thn h0 fun f s1 q => ?_
  cases f with
  | next =>
    obtain ⟨σ', H', I', ds', M', R', N', q⟩ := q
    exact ⟨ds', M', σ', H', I', R', N', q⟩
  | brk => obtain ⟨_, _, _, q⟩ := q; exact q.elim
  | cont => obtain ⟨_, _, _, q⟩ := q; exact q.elim
  | ret u => obtain ⟨_, _, _, _, _, q⟩ := q; exact q.elim
end
section
variable {K : PySem.W.Frag} {g : G} {M : List Addr} {ds : DS} {σ : L2.St} {H H' : Hp}
theorem RepS.moreH (R : RepS K g M ds σ H) {p : Addr} {c : MC} (hp : H p = none) (f : Fr0 H H') (t : LamX.Tabs g.T H') (hc : ∀ own', (∀ b, own' b → g.own M ds b ∨ b = p) → RepM K own' (M ++ [p]) H' p c) :
    RepS K g (M ++ [p]) (ds.more c) σ H' ∧ Nxt g M ds H (M ++ [p]) (ds.more c) H' := by
  have e : ∀ b u, H b = some u → (∀ ps, u ≠ .tbl ps) → H' b = some u := f.1
  have pM : p ∉ M := fun h => by
    obtain ⟨u, q, _⟩ := R.ex p h
    rw [hp] at q; cases q
  have ow : ∀ b, g.own (M ++ [p]) (ds.more c) b → g.own M ds b ∨ b = p := fun b h => by
    rcases h with h | h
    · exact .inl (.inl h)
    · rcases live_more R.mlen h with h | h
      · exact .inl (.inr h)
      · exact .inr h
  have m : Mv (g.own M ds) (g.own (M ++ [p]) (ds.more c)) H H' := ⟨fun b u h _ t => e b u h t, f.2, fun b h => (ow b h).imp id fun z => by rw [z]; exact hp⟩
  have rp := hc _ ow
  obtain ⟨op, hop, ht, _, hx⟩ := rp.ex
  have pr : ∃ more, M ++ [p] = M ++ more := ⟨[p], rfl⟩
  refine ⟨{ len := R.len, slot := fun i z h => ?_, mlen := ?_, nd := ?_, apart := fun a h => ?_, obj := fun n x a h1 h2 => ?_, tabs := t, out := fun a h => ?_, ex := fun a h => ?_ }, m, pr, fun a h => ?_⟩
  · obtain ⟨v, h1, h2⟩ := R.slot i z h
    exact ⟨v, h1, h2.mv m pr⟩
  · show (M ++ [p]).length = (ds.w ++ [some c]).length
    rw [List.length_append, List.length_append, R.mlen]; rfl
  · rw [List.nodup_append]
    refine ⟨R.nd, by simp, fun a ha b hb z => ?_⟩
    have : b = p := by simpa using hb
    subst this
    exact pM (z ▸ ha)
  · rcases List.mem_append.mp h with h | h
    · exact R.apart a h
    · have : a = p := by simpa using h
      subst this
      exact fun z => by
        obtain ⟨u, q, _⟩ := R.out _ z
        rw [hp] at q; cases q
  · rcases get_more h1 with h1 | ⟨h4, h3⟩
    · have hn : n < M.length := by
        obtain ⟨q, _⟩ := List.getElem?_eq_some_iff.mp h1
        rw [R.mlen]; exact q
      rw [List.getElem?_append_left hn] at h2
      have r := R.obj n x a h1 h2
      obtain ⟨u, q1, q2, _⟩ := r.ex
      exact r.mv m pr (by rw [e a u q1 q2, q1])
    · have h3 := Option.some.inj h3
      subst h3
      rw [h4, ← R.mlen, List.getElem?_append_right (Nat.le_refl _), Nat.sub_self] at h2
      have : p = a := Option.some.inj h2
      subst this
      exact rp
  · obtain ⟨u, q1, q2, q3⟩ := R.out a h
    exact ⟨u, e a u q1 q2, q2, q3⟩
  · rcases List.mem_append.mp h with h | h
    · obtain ⟨u, q1, q2, q3⟩ := R.ex a h
      exact ⟨u, e a u q1 q2, q2, q3⟩
    · have : a = p := by simpa using h
      subst this
      exact ⟨op, hop, ht, hx⟩
  · obtain ⟨u, q1, q2, q3⟩ := R.out a h
    rw [e a u q1 q2, q1]
end
/-- .. the promise: new, as told -/
abbrev SC := List D → (MC → Prop) → Prop
def spC (K : PySem.W.Frag) (T : List (Addr × Str)) (S : SC) : Sp := fun vs H Q E => ∃ (ow : Addr → Prop) (ds : List D) (QD : MC → Prop),
  OutOk ow H ∧ RepL K ow H ds vs ∧ LamX.Tabs T H ∧ S ds QD ∧
  (∀ c a H', QD c → Fr0 H H' → H a = none → (∀ own', (∀ b, own' b → ow b ∨ b = a) → RepM K own' [] H' a c) → LamX.Tabs T H' → Q (.ref a) H')
section
variable {X : Cx} {g : G} {W : WX} {k : Nat} {f : Addr} {fd : FuncData} {ps : List Str} {T : List (Addr × Str)} {S : SC} {x : Str} {p pos : Pos} {e : Expr} {es : List Expr} {t : TLi}
def kC (S : SC) (Q : QZ) : List Z → DS → Prop := fun zs ds1 => match unD zs with
  | some l => S l (fun c => c.closed ∧ Q (.m ds1.w.length) (ds1.more c))
  | none => False
def dCallC (S : SC) (t : TLi) : TD := fun ds Q E => t ds (kC S Q) E
theorem px_callC (F : FnOk X.prog X.w X.K X.mg X.base (L2.CX X.prog X.w) k f fd ps (spC X.K T S)) (hT : g.T = T) (hr : Room k X.A) (tk : Takes X W) (hg : Gl X x) (hm : X.mg x = some (.ref f)) (hk : PySem.W.keepIn X.K (.ref f) = true) (hb : Binds X.K fd ps [])
    (ha : PXA X g W (e :: es) t) (hdb : (x == ("__debug__" : Str)) = false := by decide) (he : starEach (e :: es) X.env = (false, eval e X.env) :: starEach es X.env := by rfl) (hpl : (backTo pos (starEach es X.env)).any (·.1) = false := by rfl) :
    PX X g W (.Call (.Name x p) (e :: es) [] pos) (dCallC S t) := by
  subst hT
  refine ⟨fun pins s σ H M ds QD ED I R ht hE => ?_⟩
  refine wpAny_Call_Name_kw (ld_glob I hg hm ?_ hdb)
  refine PySem.W.callWith_K (h₀ := X.base) I.ok.mod.kin hk (thn (ha.run pos pins s σ H M ds _ ED I R ht hE) fun us s1 ⟨zs, ds1, M1, vs, H1, I1, r1, R1, N1, rz, q1⟩ => ⟨I1.kIn, ?_⟩) he hpl
  unfold kC at q1
  split at q1
  · rename_i l el
    obtain rfl := unD_of el
    have sp : spC X.K g.T S vs H1 (Mid X g σ M1 ds1 H1 QD) (fun cls d H' => W cls d σ H') := ⟨g.own M1 ds1, l, _, R1.outOk, rz.toD, R1.tabs, q1, fun c a H' q f hn hc t => by
      obtain ⟨R2, N2⟩ := R1.moreH hn f t fun own' ho => (hc own' ho).shut .refl q.1
      exact ⟨.m ds1.w.length, _, _, R2, N2, ⟨a, by rw [← R1.mlen, List.getElem?_append_right (Nat.le_refl _), Nat.sub_self]; rfl, rfl⟩, q.2⟩⟩
    have hl : (us ++ []).length = ps.length := by rw [List.append_nil, ← r1.length]; exact F.len _ _ _ _ sp
    have b1 := hb s1 us I1.kIn hl
    rw [List.append_nil] at b1
    exact thn (run_fnX F hr tk I1 b1 r1 sp) fun _ _ h => (EPD.of h).nxt N1
  · exact q1.elim
end
def pkey (a b : Str) : List Key := [.inr "cells", .inr a, .inr b]
def pen (ks : List Key) (cells : List Int) (t l : Int) : MC := .dic ks [.lst (cells.map D.int), .int t, .int l]
/-- a pen that k more numbers may be drawn from -/
def PenC (ks : List Key) (k : Nat) (c : MC) : Prop := ∃ cells t l, c = pen ks cells t l ∧ cells.length ≤ 63 ∧ (∀ z ∈ cells, z.natAbs < 2 ^ 1048577) ∧ 0 ≤ t ∧ t + k ≤ 2 ^ 60 ∧ 0 ≤ l ∧ l < 2 ^ 1048577
theorem PenC.closed {ks : List Key} {k : Nat} {c : MC} (h : PenC ks k c) : c.closed := by
  obtain ⟨cells, t, l, rfl, _⟩ := h
  exact True.intro
theorem PenC.le {ks : List Key} {k j : Nat} {c : MC} (h : PenC ks k c) (hj : j ≤ k) : PenC ks j c := by
  obtain ⟨cells, t, l, e, h1, h2, h3, h4, h5⟩ := h
  exact ⟨cells, t, l, e, h1, h2, h3, by omega, h5⟩
/-- def _law_pen: the script's numbers -/
def S_pen (ks : List Key) : SC := fun ds Q => ∃ ns : List Int, ds = [.lsf (ns.map D.int)] ∧ ns.length ≤ 63 ∧ (∀ z ∈ ns, z.natAbs < 2 ^ 1048577) ∧ ∀ c, PenC ks (2 ^ 59) c → Q c
/-- def _law_draw: some number from 0 to many - 1 -/
def S_draw (ks : List Key) : SB := fun c ds Q _ => ∃ (k : Nat) (n : Int), PenC ks k c ∧ 1 ≤ k ∧ ds = [.int n] ∧ 0 < n ∧ n < 2 ^ 64 ∧ ∀ d c', 0 ≤ d → d < n → PenC ks (k - 1) c' → Q (.int d) c'
end L3

set_option Elab.async false
set_option linter.all false
set_option maxRecDepth 100000
set_option maxHeartbeats 1000000
namespace L3
open PySem PySem.Spec PyProof.Rows L2
/-- a def of the program's top, by its promise -/
structure OwnF (P : Program) (w : World) (K : PySem.W.Frag) (mg : Str → Option Value) (base : Heap) (x : Str) (k : Nat) (f : Addr) (fd : FuncData) (ps : List Str) (sp : Sp) : Prop where
  ok : FnOk P w K mg base (L2.CX P w) k f fd ps sp
  g : mg x = some (.ref f)
  kp : PySem.W.keepIn K (.ref f) = true
section
variable {X : Cx} {g : G} {W : WX} {k : Nat} {f : Addr} {fd : FuncData} {ps : List Str} {T : List (Addr × Str)} {S : SA} {Sb : SB} {Sc : SC} {x : Str} {p pos : Pos} {e : Expr} {es : List Expr} {t tkw : TLi} {n : Nat} {ks : List Str} {gD : List D → List D → List D} {kws : List Keyword}
theorem px_own (Go : OwnF X.prog X.w X.K X.mg X.base x k f fd ps (spA X.K T S)) (hb : Binds X.K fd ps []) (hT : g.T = T) (hr : Room k X.A) (tk : Takes X W) (ha : PXA X g W (e :: es) t) (hg : Gl X x := by rfl) (hdb : (x == ("__debug__" : Str)) = false := by decide)
    (he : starEach (e :: es) X.env = (false, eval e X.env) :: starEach es X.env := by rfl) (hpl : (backTo pos (starEach es X.env)).any (·.1) = false := by rfl) : PX X g W (.Call (.Name x p) (e :: es) [] pos) (dCallA S [] t) :=
  px_callA Go.ok hT hr tk hg Go.g Go.kp hb .nil (fun _ _ => rfl) ha hdb he hpl
theorem px_ownB (Go : OwnF X.prog X.w X.K X.mg X.base x k f fd ps (spB X.K T Sb)) (hb : Binds X.K fd ps []) (hT : g.T = T) (hr : Room k X.A) (tk : Takes X W) (ha : PXA X g W (e :: es) t) (hg : Gl X x := by rfl) (hdb : (x == ("__debug__" : Str)) = false := by decide)
    (he : starEach (e :: es) X.env = (false, eval e X.env) :: starEach es X.env := by rfl) (hpl : (backTo pos (starEach es X.env)).any (·.1) = false := by rfl) : PX X g W (.Call (.Name x p) (e :: es) [] pos) (dCallB Sb [] t) :=
  px_callB' Go.ok hT hr tk hg Go.g Go.kp hb .nil (fun _ _ => rfl) ha hdb he hpl
theorem px_ownC (Go : OwnF X.prog X.w X.K X.mg X.base x k f fd ps (spC X.K T Sc)) (hb : Binds X.K fd ps []) (hT : g.T = T) (hr : Room k X.A) (tk : Takes X W) (ha : PXA X g W (e :: es) t) (hg : Gl X x := by rfl) (hdb : (x == ("__debug__" : Str)) = false := by decide)
    (he : starEach (e :: es) X.env = (false, eval e X.env) :: starEach es X.env := by rfl) (hpl : (backTo pos (starEach es X.env)).any (·.1) = false := by rfl) : PX X g W (.Call (.Name x p) (e :: es) [] pos) (dCallC Sc t) :=
  px_callC Go.ok hT hr tk hg Go.g Go.kp hb ha hdb he hpl
theorem px_ownK (Go : OwnF X.prog X.w X.K X.mg X.base x k f fd ps (spA X.K T S)) (hb : KB X.K fd ps n ks gD) (hT : g.T = T) (hr : Room k X.A) (tk : Takes X W) (ha : PXA X g W (e :: es) t) (hkw : PXK X g W kws tkw) (hg : Gl X x := by rfl)
    (hall : (backToKw pos (keywordEach kws X.env)).all (·.1.isSome) = true := by rfl) (hks : (backToKw pos (keywordEach kws X.env)).filterMap (·.1) = ks := by rfl)
    (hdb : (x == ("__debug__" : Str)) = false := by decide) (he : starEach (e :: es) X.env = (false, eval e X.env) :: starEach es X.env := by rfl)
    (hpl : ((backTo pos (starEach (e :: es) X.env)).any (·.1) || (backToKw pos (keywordEach kws X.env)).any (·.1.isNone)) = false := by rfl) : PX X g W (.Call (.Name x p) (e :: es) kws pos) (dCallK n ks.length S gD t tkw) :=
  px_callK Go.ok hT hr tk hg Go.g Go.kp hb ha hkw hall hks hdb he hpl
end
/-- a def with defaults, called with keywords -/
theorem FunD.kb {K : PySem.W.Frag} {x qual : Str} {params : Arguments} {body : List Stmt} {scope : Scope} {dvs : List V} {kws : List (Str × V)} {f : Addr} {fd : FuncData} {ps : List Str} (F : FunD K x qual params body scope dvs kws f fd) (n : Nat) (ks : List Str)
    (gV : List Value → List Value → List Value → List Value) (gD : List D → List D → List D) (hd : dvs ≠ [])
    (h : ∀ (T : Addr) (kV doc pm : Value) (an : Option Addr) (cdv ct : Value) (us its ws : List Value), us.length = n → its.length = dvs.length → ws.length = ks.length →
      ∃ k, bindArgs (PySem.W.fnOf x qual params body scope (.ref T) kV doc pm an cdv ct) ⟨us, ks.zip ws⟩ = seqItems? (.ref T) >>= k ∧ k (some its.toArray) = pure (ps.zip (gV us its ws)))
    (hrep : ∀ (own : Addr → Prop) (H : Hp) (l m : List D) (vs zs : List V) (us its ws : List Value), RepL K own H l vs → RepL K own H m zs → Vals vs us → Vals zs ws → Vals dvs its → us.length = n → ws.length = ks.length → ∃ vs', RepL K own H (gD l m) vs' ∧ Vals vs' (gV us its ws)) : KB K fd ps n ks gD := by
  obtain ⟨oc, od, dV, kV, doc, pm, an, cdv, ct, osl, rfl, lk, hcd, hD, hK⟩ := F.ex
  rcases hD with ⟨e, _⟩ | ⟨_, T, o, its, m, rfl, lT, oT, rT⟩
  · exact absurd e hd
  · refine ⟨fun s own H l m vs zs us ws X rl rm rv rz l1 l2 => ?_⟩
    obtain ⟨vs', h1, h2⟩ := hrep own H l m vs zs us its ws rl rm rv rz rT l1 l2
    obtain ⟨k, e1, e2⟩ := h T kV doc pm an cdv ct us its ws l1 rT.length.symm l2
    refine ⟨vs', _, BindsTo.of_looks fun M => ?_, h1, h2⟩
    rw [e1]
    exact looks_items X lT oT (.of_pure e2)
theorem absI (i : Int) : (if i < 0 then -i else i) = (i.natAbs : Int) := by split <;> omega
theorem wmul {i j : Int} {a b : Nat} (ha : i.natAbs < 2 ^ a) (hb : j.natAbs < 2 ^ b) (h : a + b ≤ 999990) : CMulW i j := by
  by_cases h0 : a = 0
  · subst h0
    have : i = 0 := by omega
    subst this
    have hb' : j.natAbs.log2 ≤ b := by
      by_cases hz : j.natAbs = 0
      · rw [hz]; simp
      · exact Nat.le_of_lt ((Nat.log2_lt hz).mpr hb)
    unfold CMulW
    simp
    omega
  · by_cases h1 : b = 0
    · subst h1
      have : j = 0 := by omega
      subst this
      have hb' : i.natAbs.log2 ≤ a := by
        by_cases hz : i.natAbs = 0
        · rw [hz]; simp
        · exact Nat.le_of_lt ((Nat.log2_lt hz).mpr ha)
      unfold CMulW
      simp
      omega
    · exact wide_mul ha hb (by omega) (by omega) (by omega)
theorem wdiv {j : Int} {b : Nat} (h : 0 < j) (hb : j.natAbs < 2 ^ b) (h9 : b ≤ 9000) : CDivW j j := by
  have hb0 : 0 < b := by
    rcases Nat.eq_zero_or_pos b with z | z
    · subst z; omega
    · exact z
  exact wide_div h hb hb0 h9
theorem CDivW.any {i i' j : Int} (h : CDivW i j) : CDivW i' j := h
end L3

set_option Elab.async false
set_option linter.all false
set_option maxRecDepth 100000
set_option maxHeartbeats 1000000
namespace L3
open PySem PySem.Spec PyProof.Rows L2
theorem mergeK_new : ∀ {more kvs : List (Key × V)}, ((kvs ++ more).map (·.1)).Nodup → mergeK kvs more = kvs ++ more
  | [], kvs, _ => by show kvs = kvs ++ []; simp
  | p :: r, kvs, h => by
    have hv : valV kvs p.1 = none := by
      cases hc : valV kvs p.1 with
      | none => rfl
      | some x =>
        have hany : (valV kvs p.1).isSome = true := by rw [hc]; rfl
        rw [← valV_any, List.any_eq_true] at hany
        obtain ⟨q, hq, e⟩ := hany
        have e' : q.1 = p.1 := by simpa using e
        rw [List.map_append, List.nodup_append] at h
        exact absurd e' (h.2.2 q.1 (List.mem_map_of_mem hq) p.1 (by simp))
    show mergeK (putK kvs p.1 p.2) r = _
    rw [putK_new _ hv, mergeK_new (by simpa using h)]
    simp
section
variable {X : Cx} {g : G} {W : WX} {pos : Pos}
def dVals : List TD → TLi
  | [] => dNil
  | t :: r => dCons t (dVals r)
structure PXD (X : Cx) (g : G) (W : WX) (pos : Pos) (keys : List (Option Expr)) (values : List Expr) (ks : List Str) (ts : List TD) : Prop where
  pps : PPs X pos keys values (List.zipWith (fun k t => (tC (.str k), lift X g W t)) ks ts)
  len : ks.length = ts.length
theorem pxd_nil : PXD X g W pos [] [] [] [] := ⟨pps_nil, rfl⟩
theorem pxd_cons {k : Str} {j : Nat} {p2 : Pos} {v : Expr} {keys : List (Option Expr)} {values : List Expr} {ks : List Str} {t : TD} {ts : List TD} (hv : PX X g W v t) (hr : PXD X g W pos keys values ks ts) :
    PXD X g W pos (some (.Constant (.str k) j p2) :: keys) (v :: values) (k :: ks) (t :: ts) :=
  ⟨pps_cons (pe_str (x := k) (j := j) (pos := p2)) hv.pe hr.pps, by rw [List.length_cons, List.length_cons, hr.len]⟩
theorem pairs_in : ∀ {ks : List Str} {ts : List TD} {σ : L2.St} {H : Hp} {M : List Addr} {ds : DS} {QD : List Z → DS → Prop} {ED : QE} {Q : List (V × V) → Hp → Prop}, ks.length = ts.length → RepS X.K g M ds σ H → dVals ts ds QD ED → EW X g W σ M ds H ED →
    (∀ zs ds' M' vs H', RepS X.K g M' ds' σ H' → Nxt g M ds H M' ds' H' → RepZs X.K (g.own M' ds') M' H' zs vs → zs.length = ks.length → QD zs ds' → Q ((ks.map V.str).zip vs) H') →
    tPairs (List.zipWith (fun k t => (tC (.str k), lift X g W t)) ks ts) σ H Q
  | [], [], σ, H, M, ds, QD, ED, Q, _, R, h, he, hq => by
    show Q [] H
    exact hq [] ds M [] H R .refl rfl rfl h
  | k :: ks, t :: ts, σ, H, M, ds, QD, ED, Q, hl, R, h, he, hq => by
    show tC (.str k) σ H fun x H1 => lift X g W t σ H1 fun y H2 => tPairs _ σ H2 fun ps H3 => Q ((x, y) :: ps) H3
    refine lift_in R (h : t ds _ ED) he fun z ds1 M1 v H1 R1 N1 rz q => ?_
    refine pairs_in (by simpa using hl) R1 q (he.nxt N1) fun zs ds2 M2 vs H2 R2 N2 rzs hlen q2 => ?_
    exact hq (z :: zs) ds2 M2 (v :: vs) H2 R2 (N1.trans N2) ⟨v, vs, rfl, rz.mv N2.mv N2.pre, rzs⟩ (by simpa using hlen) q2
def kDic (n : Nat) (ks : List Str) (Q : QZ) : List Z → DS → Prop := fun zs ds => match unD zs, ds.w[n]? with
  | some l, some (some (.dic [] [])) => Q (.m n) (ds.put n (.dic (ks.map .inr) l))
  | _, _ => False
def dDic (ks : List Str) (ts : List TD) : TD := fun ds Q E => dVals ts (ds.more (.dic [] [])) (kDic ds.w.length ks Q) E
theorem px_dic {keys : List (Option Expr)} {values : List Expr} {ks : List Str} {ts : List TD} (h : PXD X g W pos keys values ks ts) (hn : ks.Nodup := by decide) (hall : keys.all (·.isSome) = true := by rfl) (hl : keys.length = values.length := by rfl) (h0 : keys ≠ [] := by simp)
    (h15 : keys.length ≤ 15 := by decide) (hk15 : ks.length ≤ 15 := by decide) : PX X g W (.Dict keys values pos) (dDic ks ts) := by
  refine .of (pe_disp h.pps hall hl h0 h15) fun σ H M ds QD ED R ht he => ?_
  intro p hp
  obtain ⟨R1, N1⟩ := R.more (c := .dic [] []) (o := .dK []) hp (fun _ z => nomatch z) (by intro φ z; cases z) fun own' m => ⟨[], rfl, rfl, upd_same⟩
  refine pairs_in h.len R1 ht (he.nxt N1) fun zs ds2 M2 vs H2 R2 N2 rzs hlen q => ?_
  unfold kDic at q
  split at q
  · rename_i l el hw
    obtain rfl := unD_of el
    have h0M : (M ++ [p])[ds.w.length]? = some p := by rw [← R.mlen, List.getElem?_append_right (Nat.le_refl _), Nat.sub_self]; rfl
    have hpM : M2[ds.w.length]? = some p := pre_get N2.pre h0M
    obtain ⟨xs, r, hlx, e⟩ := R2.obj _ _ _ hw hpM
    have rl := rzs.toD
    have hvl : vs.length = ks.length := by rw [RepL.length rl]; simpa using hlen
    have hxs : xs = [] := by
      cases xs with
      | nil => rfl
      | cons => have := RepL.length r; simp at this
    have e2 : H2 p = some (.dK []) := by subst hxs; exact e
    have nd : (ks.map (Sum.inr : Str → Key)).Nodup := by
      rw [List.nodup_iff_pairwise_ne, List.pairwise_map]
      exact hn.imp fun h z => h (Sum.inr.inj z)
    have em : mergeK [] ((ks.map (Sum.inr : Str → Key)).zip vs) = (ks.map (Sum.inr : Str → Key)).zip vs := by
      rw [mergeK_new]
      · rfl
      · rw [List.nil_append, List.map_fst_zip (by rw [List.length_map, hvl]; exact Nat.le_refl _)]
        exact nd
    refine ⟨e2, (ks.map (Sum.inr : Str → Key)).zip vs, ?_, ?_, ?_⟩
    · rw [List.zip_map_left, List.zip_map_left, List.map_map]
      rfl
    · rw [List.length_zip, List.length_map]; omega
    · rw [em]
      obtain ⟨R3, N3⟩ := R2.put (c := .dic (ks.map .inr) l) (o := .dK ((ks.map (Sum.inr : Str → Key)).zip vs)) hw hpM (fun _ z => nomatch z) (fun _ z => nomatch z) fun own' m => ⟨vs, RepL.mv m _ _ rl, by rw [List.length_map]; rw [List.length_map] at hlen; omega, upd_same⟩
      exact ⟨.m ds.w.length, _, M2, R3, (N1.trans N2).trans N3, ⟨p, hpM, rfl⟩, q⟩
  · exact q.elim
end
def toDC (QD : MC → Prop) : QZ := fun z ds => match z with
  | .m n => match ds.w[n]? with
    | some (some c) => c.closed ∧ QD c
    | _ => False
  | .d _ => False
def enC (QD : MC → Prop) : DE := { nx := fun _ => False, rt := toDC QD, er := fun _ _ => False }
section
variable {P : Program} {w : World} {K : PySem.W.Frag} {mg : Str → Option Value} {base : Heap} {x qual : Str} {params : Arguments} {body : List Stmt} {scope : Scope} {dvs : List V} {kws : List (Str × V)} {f : Addr} {fd : FuncData} {T : List (Addr × Str)}
theorem bodyC {N ps : List Str} {k : Nat} {S : SC} (F : FunD K x qual params body scope dvs kws f fd) (sc : FnScope N ps scope) (len : ∀ ds QD, S ds QD → ds.length = ps.length)
    (hbody : ∀ (cdv : Value) (A : Around) (outer : List Env) (s : Shared) (H : Hp) (E : XK) (g : G), g.T = T → Room k (A.deeper (envOfC qual scope s.heap.objs.size f cdv)) →
      ∃ t, PXB (cxOf (L2.CX P w) P w K mg base N qual scope f cdv A outer s H E) g (fun cls d _ H => E cls d H) body t ∧ ∀ ds QD, S ds QD → t (enC QD) ⟨ent N ds, []⟩) : FnOk P w K mg base (L2.CX P w) (k + 1) f fd ps (spC K T S) := by
  have hpl : ps.length ≤ N.length := by have := congrArg List.length sc.pre; rw [List.length_take] at this; omega
  refine F.ok sc (fun vs H Q E h => ?_) (fun cdv A outer s H vs Q E hr h => ?_)
  · obtain ⟨ow, ds, QD, _, r, _, hS, _⟩ := h
    rw [RepL.length r]; exact len _ _ hS
  · obtain ⟨ow, ds, QD, ho, r, ht, hS, hQ⟩ := h
    obtain ⟨t, hp, hq⟩ := hbody cdv A outer s H E ⟨ow, T⟩ rfl hr
    have hl : vs.length ≤ N.length := by rw [RepL.length r, len _ _ hS]; exact hpl
    have R := repS_A (T := T) (N := N) ho r ht hl
    have fr : ∀ {M' : List Addr} {ds' : DS} {H' : Hp}, Nxt ⟨ow, T⟩ [] ⟨ent N ds, []⟩ H M' ds' H' → Fr0 H H' := fun {M' ds' H'} N' => by
      refine ⟨fun b o hb t => ?_, N'.mv.tb⟩
      by_cases hw : ow b
      · rw [N'.out b hw]; exact hb
      · exact N'.mv.keep b o hb (by rw [own_nil]; exact hw) t
    refine ⟨fun De σ H0 => σ = L2.start N vs ∧ H0 = H ∧ De = { nx := fun _ H' => Q .non H', rt := Q }, ⟨fun pins s1 σ H0 De I hh => ?_⟩, rfl, rfl, rfl⟩
    obtain ⟨rfl, rfl, rfl⟩ := hh
    refine thn (hp.run pins s1 _ _ [] ⟨ent N ds, []⟩ (enC QD) I R (hq ds QD hS) (fun y ds' M' σ' H' cls d he R' N' re => False.elim he)) fun fl s2 q => ?_
    · cases fl with
      | next => obtain ⟨_, _, _, _, _, _, _, q⟩ := q; exact False.elim q
      | brk => obtain ⟨_, _, _, _, _, _, _, q⟩ := q; exact False.elim q
      | cont => obtain ⟨_, _, _, _, _, _, _, q⟩ := q; exact False.elim q
      | ret u =>
        obtain ⟨z, ds', M', v, σ', H', I', r', R', N', rz, q⟩ := q
        have q' : toDC QD z ds' := q
        unfold toDC at q'
        split at q'
        · rename_i n
          split at q'
          · rename_i c hw
            obtain ⟨a, ha, rfl⟩ := rz
            have rc := R'.obj _ _ _ hw ha
            have na : ¬ ow a := R'.apart a (List.mem_of_getElem? ha)
            have hn : H0 a = none := by
              rcases N'.mv.new a (.inr ⟨n, c, ha, hw⟩) with h | h
              · rw [own_nil] at h; exact absurd h na
              · exact h
            have ex : ∃ o, H' a = some o := by obtain ⟨o, e, _⟩ := rc.ex; exact ⟨o, e⟩
            refine ⟨.ref a, σ', H', I', r', hQ c a H' q'.2 (fr N') hn (fun own' ho' => ?_) R'.tabs⟩
            have m : Mv (G.own ⟨ow, T⟩ M' ds') own' H' H' := ⟨fun _ _ h _ _ => h, fun _ ps h => ⟨ps, h⟩, fun b h => .inl ((ho' b h).elim .inl fun e => .inr ⟨n, c, by rw [e]; exact ha, hw⟩)⟩
            exact rc.shut m q'.1
          · exact q'.elim
        · exact q'.elim
end
end L3

set_option Elab.async false
set_option linter.all false
set_option maxRecDepth 100000
set_option maxHeartbeats 1000000
namespace L3
open PySem PySem.Spec PyProof.Rows L2
mutual
/-- data of at most n layers that == may look at -/
def D.lay : Nat → D → Bool
  | _, .non => true
  | _, .bl _ => true
  | _, .int _ => true
  | _, .str s => PyData.strOk s
  | n + 1, .tup l => lays n l
  | n + 1, .lst l => lays n l
  | n + 1, .lsf l => lays n l
  | _, _ => false
def lays : Nat → List D → Bool
  | _, [] => true
  | n, d :: l => d.lay n && lays n l
end
mutual
theorem lay_ok : ∀ (n : Nat) (d : D), d.lay n = true → d.flat = true ∧ d.pd.canLay0 = true ∧ d.pd.depth ≤ n
  | n, .non, _ => ⟨rfl, by simp [D.pd, PyData.canLay0], by simp [D.pd, PyData.depth]⟩
  | n, .bl _, _ => ⟨rfl, by simp [D.pd, PyData.canLay0], by simp [D.pd, PyData.depth]⟩
  | n, .int _, _ => ⟨rfl, by simp [D.pd, PyData.canLay0], by simp [D.pd, PyData.depth]⟩
  | n, .str s, h => ⟨rfl, by simpa [D.pd, PyData.canLay0, D.lay] using h, by simp [D.pd, PyData.depth]⟩
  | n + 1, .tup l, h => by
    obtain ⟨a, b, c⟩ := lays_ok n l (by simpa [D.lay] using h)
    exact ⟨by simpa [D.flat] using a, by simpa [D.pd, PyData.canLay0] using b, by simpa [D.pd, PyData.depth] using c⟩
  | n + 1, .lst l, h => by
    obtain ⟨a, b, c⟩ := lays_ok n l (by simpa [D.lay] using h)
    exact ⟨by simpa [D.flat] using a, by simpa [D.pd, PyData.canLay0] using b, by simpa [D.pd, PyData.depth] using c⟩
  | n + 1, .lsf l, h => by
    obtain ⟨a, b, c⟩ := lays_ok n l (by simpa [D.lay] using h)
    exact ⟨by simpa [D.flat] using a, by simpa [D.pd, PyData.canLay0] using b, by simpa [D.pd, PyData.depth] using c⟩
  | 0, .tup l, h => by simp [D.lay] at h
  | 0, .lst l, h => by simp [D.lay] at h
  | 0, .lsf l, h => by simp [D.lay] at h
  | _, .ref _, h => by simp [D.lay] at h
  | _, .ty _, h => by simp [D.lay] at h
  | _, .dic _ _, h => by simp [D.lay] at h
  | _, .ins _ _ _, h => by simp [D.lay] at h
theorem lays_ok : ∀ (n : Nat) (l : List D), lays n l = true → flats l = true ∧ PyData.canLayAll0 (pds l) = true ∧ PyData.depthAll (pds l) ≤ n
  | n, [], _ => ⟨rfl, by simp [pds, PyData.canLayAll0], by simp [pds, PyData.depthAll]⟩
  | n, d :: l, h => by
    have h' : (d.lay n && lays n l) = true := by simpa [lays] using h
    rw [Bool.and_eq_true] at h'
    obtain ⟨a, b, c⟩ := lay_ok n d h'.1
    obtain ⟨a2, b2, c2⟩ := lays_ok n l h'.2
    exact ⟨by simp [flats, a, a2], by simp [pds, PyData.canLayAll0, b, b2], by simp only [pds, PyData.depthAll]; omega⟩
end
theorem lay_shaped {n : Nat} {d : D} (h : d.lay n = true) (hn : n ≤ 64) : d.flat = true ∧ SeqAt.shaped d.pd = true := by
  obtain ⟨a, b, c⟩ := lay_ok n d h
  refine ⟨a, ?_⟩
  unfold SeqAt.shaped
  rw [b, Bool.true_and, decide_eq_true_eq]
  omega
theorem lay_eqOk {n m : Nat} {x y : D} (h : x.lay n = true) (h' : y.lay m = true) (hn : n ≤ 64) (hm : m ≤ 64) : eqOk x y :=
  ⟨(lay_shaped h hn).1, (lay_shaped h' hm).1, (lay_shaped h hn).2, (lay_shaped h' hm).2⟩
theorem lays_of {n : Nat} {l : List D} (h : ∀ d ∈ l, d.lay n = true) : lays n l = true := by
  induction l with
  | nil => simp [lays]
  | cons d l ih =>
    simp only [lays, Bool.and_eq_true]
    exact ⟨h d (by simp), ih fun x hx => h x (by simp [hx])⟩
theorem lays_int (n : Nat) (l : List Int) : lays n (l.map D.int) = true := lays_of fun d h => by
  obtain ⟨i, _, rfl⟩ := List.mem_map.mp h
  simp [D.lay]
mutual
/-- data on which == is = : no bools -/
def D.sim : D → Bool
  | .non => true
  | .int _ => true
  | .str _ => true
  | .tup l => sims l
  | .lst l => sims l
  | _ => false
def sims : List D → Bool
  | [] => true
  | d :: l => d.sim && sims l
end
mutual
theorem sim_eqv : ∀ (x y : D), x.sim = true → y.sim = true → (PyData.eqv x.pd y.pd = true ↔ x = y)
  | .non, y, _, hy => by cases y <;> simp [D.sim] at hy <;> simp [D.pd, PyData.eqv]
  | .int i, y, _, hy => by cases y <;> simp [D.sim] at hy <;> simp [D.pd, PyData.eqv]
  | .str i, y, _, hy => by cases y <;> simp [D.sim] at hy <;> simp [D.pd, PyData.eqv]
  | .tup l, y, hx, hy => by
    cases y <;> simp [D.sim] at hy <;> simp [D.pd, PyData.eqv]
    exact sims_eqv l _ (by simpa [D.sim] using hx) hy
  | .lst l, y, hx, hy => by
    cases y <;> simp [D.sim] at hy <;> simp [D.pd, PyData.eqv]
    exact sims_eqv l _ (by simpa [D.sim] using hx) hy
  | .bl _, y, hx, _ => by simp [D.sim] at hx
  | .lsf _, y, hx, _ => by simp [D.sim] at hx
  | .ref _, y, hx, _ => by simp [D.sim] at hx
  | .ty _, y, hx, _ => by simp [D.sim] at hx
  | .dic _ _, y, hx, _ => by simp [D.sim] at hx
  | .ins _ _ _, y, hx, _ => by simp [D.sim] at hx
theorem sims_eqv : ∀ (x y : List D), sims x = true → sims y = true → (PyData.eqvAll (pds x) (pds y) = true ↔ x = y)
  | [], y, _, _ => by cases y <;> simp [pds, PyData.eqvAll]
  | a :: x, y, hx, hy => by
    cases y with
    | nil => simp [pds, PyData.eqvAll]
    | cons b y =>
      simp only [sims, Bool.and_eq_true] at hx hy
      simp only [pds, PyData.eqvAll, Bool.and_eq_true, List.cons.injEq]
      rw [sim_eqv a b hx.1 hy.1, sims_eqv x y hx.2 hy.2]
end
theorem sims_int (l : List Int) : sims (l.map D.int) = true := by
  induction l with
  | nil => simp [sims]
  | cons a l ih => simp [sims, ih, D.sim]
theorem eqv_self {x : D} (h : x.sim = true) : PyData.eqv x.pd x.pd = true := (sim_eqv x x h h).mpr rfl
end L3

set_option Elab.async false
set_option linter.all false
set_option maxRecDepth 100000
set_option maxHeartbeats 1000000
namespace L3
open PySem PySem.Spec PyProof.Rows L2
theorem atI_get {α : Type} {l : List α} {i : Int} (h0 : 0 ≤ i) : atI l i = l[i.toNat]? := by
  unfold atI ixN
  rw [if_pos h0]
  by_cases h : i < l.length
  · rw [if_pos h]; rfl
  · rw [if_neg h, List.getElem?_eq_none (by omega)]; rfl
theorem atI_in {α : Type} {l : List α} {i : Int} (h0 : 0 ≤ i) (h1 : i < l.length) : ∃ y, atI l i = some y ∧ y ∈ l ∧ l[i.toNat]? = some y := by
  rw [atI_get h0]
  have : i.toNat < l.length := by omega
  exact ⟨l[i.toNat], List.getElem?_eq_getElem this, List.getElem_mem this, List.getElem?_eq_getElem this⟩
theorem atI_ints {l : List Int} {i : Int} (h0 : 0 ≤ i) (h1 : i < l.length) : ∃ z ∈ l, atI (l.map D.int) i = some (.int z) := by
  obtain ⟨y, h, hm, _⟩ := atI_in (l := l.map D.int) h0 (by rw [List.length_map]; exact h1)
  obtain ⟨z, hz, rfl⟩ := List.mem_map.mp hm
  exact ⟨z, hz, h⟩
theorem natAbs_mod {i j : Int} (h : 0 < j) : 0 ≤ i % j ∧ i % j < j := ⟨Int.emod_nonneg _ (by omega), Int.emod_lt_of_pos _ h⟩
/-- i has at most n bits -/
def Bd (n : Nat) (i : Int) : Prop := i.natAbs < 2 ^ n
theorem Bd.mono {n m : Nat} {i : Int} (h : Bd n i) (hn : n ≤ m) : Bd m i := Nat.lt_of_lt_of_le h (Nat.pow_le_pow_right (by decide) hn)
theorem Bd.add {n : Nat} {i j : Int} (h : Bd n i) (h' : Bd n j) : Bd (n + 1) (i + j) := by
  unfold Bd at *
  have : 2 ^ (n + 1) = 2 ^ n + 2 ^ n := by omega
  omega
theorem Bd.sub {n : Nat} {i j : Int} (h : Bd n i) (h' : Bd n j) : Bd (n + 1) (i - j) := by
  unfold Bd at *
  have : 2 ^ (n + 1) = 2 ^ n + 2 ^ n := by omega
  omega
theorem Bd.neg {n : Nat} {i : Int} (h : Bd n i) : Bd n (-i) := by unfold Bd at *; omega
theorem Bd.mul {n m : Nat} {i j : Int} (h : Bd n i) (h' : Bd m j) : Bd (n + m) (i * j) := by
  unfold Bd at *
  rw [Int.natAbs_mul, Nat.pow_add]
  exact Nat.mul_lt_mul_of_lt_of_le h (Nat.le_of_lt h') (Nat.pos_of_ne_zero fun z => by rw [z] at h'; omega)
theorem Bd.div {n : Nat} {i j : Int} (h : Bd n i) : Bd n (i / j) := by
  unfold Bd at *
  exact Nat.lt_of_le_of_lt (Int.natAbs_ediv_le_natAbs i j) h
theorem Bd.mod {n : Nat} {i j : Int} (h : Bd n j) (hj : 0 < j) : Bd n (i % j) := by
  unfold Bd at *
  have := natAbs_mod (i := i) hj
  omega
theorem Bd.lt {n : Nat} {i j : Int} (h : Bd n j) (h0 : 0 ≤ i) (h1 : i ≤ j) : Bd n i := by
  unfold Bd at *
  omega
theorem Bd.mulW {n m : Nat} {i j : Int} (h : Bd n i) (h' : Bd m j) (hs : n + m ≤ 999990 := by decide) : CMulW i j := wmul h h' hs
theorem Bd.divW {n : Nat} {i j : Int} (h : Bd n j) (hj : 0 < j) (hs : n ≤ 9000 := by decide) : CDivW i j := wdiv hj h hs
theorem Bd.of {n : Nat} {i : Int} (h : i.natAbs < 2 ^ n) : Bd n i := h
theorem natAbs_ltI {i : Int} {n : Nat} (h : i.natAbs < 2 ^ n) : (i.natAbs : Int) < 2 ^ n := by
  have := Int.ofNat_lt.mpr h
  simpa using this
/-- what is left of a great cell -/
theorem left_lt {i n : Int} {m : Nat} (h : i.natAbs < 2 ^ m) (h1 : (10 : Int) ^ 18 ≤ i.natAbs) : 0 ≤ ((i.natAbs : Int) - 10 ^ 18) / n ∨ n ≤ 0 := by
  by_cases hn : n ≤ 0
  · exact .inr hn
  · exact .inl (Int.ediv_nonneg (by omega) (by omega))
theorem left_lt' {i n : Int} {m : Nat} (h : i.natAbs < 2 ^ m) (h1 : (10 : Int) ^ 18 ≤ i.natAbs) : ((i.natAbs : Int) - 10 ^ 18) / n < 2 ^ m := by
  refine Int.lt_of_le_of_lt (Int.ediv_le_self _ (by omega)) ?_
  have := natAbs_ltI h
  omega
theorem pow18 : CPow 10 18 := by unfold CPow; decide
theorem bd10 {d : Int} {f n : Nat} (h : (d.natAbs : Int) < 10 ^ f) (hn : 4 * f ≤ n) : Bd n d := by
  have h1 : d.natAbs < 10 ^ f := by
    have : ((10 ^ f : Nat) : Int) = (10 : Int) ^ f := by simp
    omega
  have h2 : 10 ^ f ≤ 2 ^ (4 * f) := by
    rw [Nat.pow_mul]
    exact Nat.pow_le_pow_left (by decide) f
  exact Nat.lt_of_lt_of_le (Nat.lt_of_lt_of_le h1 h2) (Nat.pow_le_pow_right (by decide) hn)
theorem ten_le {a b : Nat} (h : a ≤ b) : (10 : Int) ^ a ≤ 10 ^ b := by
  have : (10 : Nat) ^ a ≤ 10 ^ b := Nat.pow_le_pow_right (by decide) h
  exact_mod_cast this
theorem ten3 (i : Nat) : (10 : Int) ^ (3 * (i + 1)) = 1000 * 10 ^ (3 * i) := by
  have : 3 * (i + 1) = 3 * i + 3 := by omega
  rw [this, Int.pow_add, Int.mul_comm]
  rfl
theorem ten_pos (i : Nat) : (0 : Int) < 10 ^ i := Int.pow_pos (by decide)
theorem sz {n : Nat} (h : Nat.ble n 100 = true) : n ≤ sizeLine := Nat.le_trans (Nat.le_of_ble_eq_true h) (by rw [sizeLine_eq]; decide)
theorem sz' {n : Nat} (h : Nat.ble n 100 = true) : n < sizeLine := Nat.lt_of_le_of_lt (Nat.le_of_ble_eq_true h) (by rw [sizeLine_eq]; decide)
theorem lt60 {n : Nat} (h : Nat.ble n 100 = true) : n < 2 ^ 60 := Nat.lt_of_le_of_lt (Nat.le_of_ble_eq_true h) (by decide)
theorem pos1 {n : Nat} (h : Nat.ble 1 n = true) : 0 < n := Nat.le_of_ble_eq_true h
theorem neT {P : Prop} {x y : Int} (e : x = y) (h : (!decide (x = y)) = true) : P := by simp [e] at h
theorem eqF {P : Prop} {x y : Int} (e : x = y) (h : decide (x = y) = false) : P := by simp [e] at h
theorem eqT {P : Prop} {x y : Int} (e : x ≠ y) (h : decide (x = y) = true) : P := by simp [e] at h
theorem dLoop_list {gt : TGd} {tb : TSd} {De : DE} {items : List D} {ds : DS} (I : Nat → DS → Prop) (h0 : I 0 ds)
    (step : ∀ i x ds (N : DS → Prop), items[i]? = some x → I i ds → (∀ ds', I (i + 1) ds' → N ds') → gt (.d x) ds fun ds1 => tb { De with nx := N, ct := N, bk := De.nx } ds1)
    (fin : ∀ ds, I items.length ds → De.nx ds) : dLoop gt tb De items ds := by
  have : ∀ (r : List D) (i : Nat) (ds : DS), items.drop i = r → i ≤ items.length → I i ds → dLoop gt tb De r ds := by
    intro r
    induction r with
    | nil =>
      intro i ds e hi hI
      have hl : items.length ≤ i := by
        have := congrArg List.length e
        rw [List.length_drop] at this
        simp at this; omega
      have : i = items.length := by omega
      subst this
      exact fin ds hI
    | cons x r ih =>
      intro i ds e hi hI
      have hl : i < items.length := by
        have := congrArg List.length e
        rw [List.length_drop, List.length_cons] at this
        omega
      have hx : items[i]? = some x := by
        have := congrArg (·[0]?) e
        simpa using this
      have hr : items.drop (i + 1) = r := by
        rw [← List.tail_drop, e]; rfl
      exact step i x ds _ hx hI fun ds' h => ih (i + 1) ds' hr (by omega) h
  exact this items 0 ds rfl (Nat.zero_le _) h0
theorem rangeD_get {lo : Int} {n i : Nat} {x : D} (h : (rangeD lo n)[i]? = some x) : i < n ∧ x = .int (lo + (i : Nat)) := by
  unfold rangeD at h
  rw [List.getElem?_map] at h
  by_cases hi : i < n
  · rw [List.getElem?_range hi] at h
    exact ⟨hi, (Option.some.inj h).symm⟩
  · rw [List.getElem?_eq_none (by simpa using hi)] at h
    cases h
theorem rangeD_length {lo : Int} {n : Nat} : (rangeD lo n).length = n := by
  unfold rangeD
  rw [List.length_map, List.length_range]
theorem dLoop_rng {gt : TGd} {tb : TSd} {De : DE} {lo : Int} {n : Nat} {ds : DS} (I : Nat → DS → Prop) (h0 : I 0 ds)
    (step : ∀ i ds (N : DS → Prop), i < n → I i ds → (∀ ds', I (i + 1) ds' → N ds') → gt (.d (.int (lo + (i : Nat)))) ds fun ds1 => tb { De with nx := N, ct := N, bk := De.nx } ds1)
    (fin : ∀ ds, I n ds → De.nx ds) : dLoop gt tb De (rangeD lo n) ds :=
  dLoop_list I h0 (fun i x ds N hx hI hN => by
    obtain ⟨h1, rfl⟩ := rangeD_get hx
    exact step i ds N h1 hI hN) (fun ds h => fin ds (by rwa [rangeD_length] at h))
theorem cLoop_list {gt : TGd} {tt : TBo} {te : TD} {vs : List Nat} {Q : List D → DS → Prop} {items : List D} {s0 : List (Option Z)} {w0 : List (Option MC)} (I : Nat → List D → List (Option MC) → Prop) (h0 : I 0 [] w0)
    (step : ∀ i x acc w (N : List D → List (Option MC) → Prop), items[i]? = some x → I i acc w → (∀ acc' w', I (i + 1) acc' w' → N acc' w') →
      gt (.d x) ⟨wipeD s0 vs, w⟩ fun ds1 => tt ds1 (fun b ds2 => (b = true → te ds2 (fun z ds3 => kD (fun y => N (acc ++ [y]) ds3.w) z) (fun _ _ => False)) ∧ (b = false → N acc ds2.w)) (fun _ _ => False))
    (fin : ∀ acc w, I items.length acc w → Q acc ⟨s0, w⟩) : cLoop gt tt te vs Q items [] ⟨s0, w0⟩ := by
  have : ∀ (r : List D) (i : Nat) (acc : List D) (w : List (Option MC)), items.drop i = r → i ≤ items.length → I i acc w → cLoop gt tt te vs Q r acc ⟨s0, w⟩ := by
    intro r
    induction r with
    | nil =>
      intro i acc w e hi hI
      have hl : items.length ≤ i := by
        have := congrArg List.length e
        rw [List.length_drop] at this
        simp at this; omega
      have : i = items.length := by omega
      subst this
      exact fin acc w hI
    | cons x r ih =>
      intro i acc w e hi hI
      have hl : i < items.length := by
        have := congrArg List.length e
        rw [List.length_drop, List.length_cons] at this
        omega
      have hx : items[i]? = some x := by
        have := congrArg (·[0]?) e
        simpa using this
      have hr : items.drop (i + 1) = r := by
        rw [← List.tail_drop, e]; rfl
      exact step i x acc w (fun acc w => cLoop gt tt te vs Q r acc ⟨s0, w⟩) hx hI fun acc' w' h => ih (i + 1) acc' w' hr (by omega) h
  exact this items 0 [] w0 rfl (Nat.zero_le _) h0
/-- .. each item makes its own -/
theorem cLoop_map {gt : TGd} {tt : TBo} {te : TD} {vs : List Nat} {Q : List D → DS → Prop} {items : List D} {s0 : List (Option Z)} {w0 : List (Option MC)} (f : D → D)
    (step : ∀ x acc (N : List D → List (Option MC) → Prop), x ∈ items → N (acc ++ [f x]) w0 →
      gt (.d x) ⟨wipeD s0 vs, w0⟩ fun ds1 => tt ds1 (fun b ds2 => (b = true → te ds2 (fun z ds3 => kD (fun y => N (acc ++ [y]) ds3.w) z) (fun _ _ => False)) ∧ (b = false → N acc ds2.w)) (fun _ _ => False))
    (fin : Q (items.map f) ⟨s0, w0⟩) : cLoop gt tt te vs Q items [] ⟨s0, w0⟩ := by
  refine cLoop_list (fun i acc w => w = w0 ∧ acc = (items.take i).map f) ⟨rfl, rfl⟩ (fun i x acc w N hx hI hN => ?_) (fun acc w h => ?_)
  · obtain ⟨rfl, rfl⟩ := hI
    refine step x _ N (List.mem_of_getElem? hx) (hN _ _ ⟨rfl, ?_⟩)
    rw [List.take_succ, hx]; simp
  · obtain ⟨rfl, rfl⟩ := h
    rw [List.take_length]; exact fin
theorem two_lt {n m : Nat} (h : n < m) : 2 ^ n < 2 ^ m := Nat.pow_lt_pow_right (by decide) h
end L3

set_option Elab.async false
set_option linter.all false
set_option maxRecDepth 100000
set_option maxHeartbeats 2000000
namespace L3
open PySem PySem.Spec PyProof.Rows L2
theorem bits_lt {z : Int} {n : Nat} (h : Builtin.Int.intBits z ≤ n) : z.natAbs < 2 ^ (n + 1) := by
  unfold Builtin.Int.intBits at h
  by_cases h0 : z = 0
  · subst h0; exact Nat.pow_pos (by decide)
  · have e : (z == 0) = false := by simpa using h0
    rw [e] at h
    have h' : z.natAbs.log2 + 1 ≤ n := h
    exact (Nat.log2_lt (by omega)).mp (by omega)
/-- a law, with the script's bits told -/
theorem walk_D {l : PySem.W.OpenLaw} {n k : Nat} {q : Program} {loose : List Str} {XP : (Str → Option Value) → Heap → Prop} {YP : World → Heap → Prop} {d : DefRec} {x : Str}
    (hn : l.most = some n) (hn2 : n ≤ sizeLine) (hdf : d.params.defaults = []) (hr : Room k callerA)
    (F : ∀ (w : World) (mg : Str → Option Value) (fa : Addr) (h : Heap), YP w h → h.Ns mainGlobals mg → mg d.name = some (.ref fa) →
      ∃ (K : PySem.W.Frag) (fd : FuncData) (S : SA) (T : List (Addr × Str)), K.In h ∧ (∀ (s : Shared) (u : Value), BindsTo s fd ⟨[u], []⟩ [(x, u)]) ∧ (∀ H, Only H → LamX.Tabs T H) ∧
        (∀ (ns : List Int), ns.length ≤ n → (∀ z ∈ ns, z.natAbs < 2 ^ 1048577) → S [.lsf (ns.map D.int)] (fun r => r = .bl true) (fun _ => False)) ∧
        ∀ base : Heap, K.In base → base.Ns mainGlobals mg → FnOk l.prog w K mg base (L2.CX l.prog w) k fa fd [x] (spA K T S)) :
    PySem.W.WalkO q loose XP YP l.row.toRowW d [] (fun f vs => PySem.call f vs) := by
  refine Att.attach_callB hn hdf fun w s₀ s₁ mg mb fa o pm cd doc a vs ns G Y ho hd hcd hmg hobj hints hlen hbits hg => ?_
  obtain ⟨K, fd, S, T, KX, hb, hT, hS, hF⟩ := F w mg fa _ Y G.T.g hmg
  refine law_call KX G.T.g G.T.b G.T.builtins G.T.nolimit hg hobj hints (Nat.le_trans hlen hn2) hr hF hb (fun H hO hq => ?_) fun H e s' h => ?_
  · refine ⟨fun _ => False, [.lsf (ns.map D.int)], fun r => r = .bl true, fun _ => False, fun _ h => h.elim, ⟨.ref a, [], rfl, ?_, rfl⟩, hT H hO, hS ns hlen fun z hz => bits_lt (hbits z hz), fun r v H' e _ rv _ => ?_, fun _ _ _ _ h => h.elim⟩
    · refine ⟨a, ns.map V.int, rfl, ?_, ?_⟩
      · clear hq hints hlen hbits
        induction ns with
        | nil => exact rfl
        | cons i r ih => exact ⟨.int i, r.map V.int, rfl, rfl, ih⟩
      · rcases hq with hq | hq
        · exact .inl ⟨fun z => z, hq⟩
        · exact .inr hq
    · subst e; exact rv
  · unfold L2.CX at h
    obtain ⟨_, _, _, _, _, _, _, _, _, _, _, _, z⟩ := h
    exact z
end L3

set_option Elab.async false
set_option linter.all false
set_option maxRecDepth 100000
set_option maxHeartbeats 1000000
namespace L3
open PySem PySem.Spec PyProof.Rows L2
section
variable {X : Cx} {g : G} {W : WX}
/-- what repr answers -/
def showI (i : Int) : Str := toString i
def rdRepr : List Z → DS → QZ → Prop := fun zs ds Q => match zs with
  | [.d (.int i)] => Bd 1920 i ∧ Q (.d (.str (showI i))) ds
  | [.d .non] => Q (.d (.str "None")) ds
  | [.d (.bl b)] => Q (.d (.str (if b then "True" else "False"))) ds
  | _ => False
theorem bd_log {i : Int} {n : Nat} (h : Bd n i) (hn : 0 < n) : i.natAbs.log2 < n := by
  by_cases h0 : i.natAbs = 0
  · rw [h0]; simpa using hn
  · exact (Nat.log2_lt h0).mpr h
theorem call_repr_none : CallR X (.builtin "repr") (fun xs H Q => xs = [.non] ∧ Q (.str "None") H) := by
  intro pins s σ H xs us Q I r h
  obtain ⟨rfl, q⟩ := h
  obtain ⟨u, rfl, hu⟩ := vals1 r
  cases hu
  exact PySem.P.repr_of_none ⟨.str _, H, I.tok _, ⟨_, rfl⟩, q⟩
theorem call_repr_bool : CallR X (.builtin "repr") (fun xs H Q => ∃ b, xs = [.bl b] ∧ Q (.str (if b then "True" else "False")) H) := by
  intro pins s σ H xs us Q I r h
  obtain ⟨b, rfl, q⟩ := h
  obtain ⟨u, rfl, hu⟩ := vals1 r
  cases hu
  refine PySem.P.repr_of_bool ⟨.str _, H, I.tok _, ⟨_, rfl⟩, ?_⟩
  cases b <;> exact q
theorem cd_repr : CallD X g (.builtin "repr") rdRepr := by
  intro pins s σ H M ds zs vs us QD I R rz rv h
  unfold rdRepr at h
  split at h
  · obtain ⟨v, rfl, r1⟩ := zs1 rz
    cases r1
    exact thn (SkE.call_repr_int pins s σ H _ us _ I rv ⟨_, rfl, bd_log h.1 (by decide), Mid.same R (z := .d (.str _)) rfl h.2⟩) fun _ _ z => .of z
  · obtain ⟨v, rfl, r1⟩ := zs1 rz
    cases r1
    exact thn (call_repr_none pins s σ H _ us _ I rv ⟨rfl, Mid.same R (z := .d (.str _)) rfl h⟩) fun _ _ z => .of z
  · obtain ⟨v, rfl, r1⟩ := zs1 rz
    cases r1
    exact thn (call_repr_bool pins s σ H _ us _ I rv ⟨_, rfl, Mid.same R (z := .d (.str _)) rfl h⟩) fun _ _ z => .of z
  · exact h.elim
end
theorem sneT {P : Prop} {x y : Str} (e : x = y) (h : (!decide (x = y)) = true) : P := by simp [e] at h
theorem show0 : showI 0 = ("0" : Str) := by decide +kernel
end L3
namespace L3
open PySem PySem.Spec PyProof.Rows L2
/-- what the unwritten parameters get -/
structure DB (K : PySem.W.Frag) (fd : FuncData) (ps : List Str) (dvs : List D) : Prop where
  ex : ∃ (dus : List Value) (dws : List V), Binds K fd ps dus ∧ Vals dws dus ∧ ∀ own H, RepL K own H dvs dws
theorem px_ownD {X : Cx} {g : G} {W : WX} {k : Nat} {f : Addr} {fd : FuncData} {ps : List Str} {T : List (Addr × Str)} {S : SA} {x : Str} {p pos : Pos} {e : Expr} {es : List Expr} {t : TLi} {dvs : List D}
    (Go : OwnF X.prog X.w X.K X.mg X.base x k f fd ps (spA X.K T S)) (hb : DB X.K fd ps dvs) (hT : g.T = T) (hr : Room k X.A) (tk : Takes X W) (ha : PXA X g W (e :: es) t) (hg : Gl X x := by rfl) (hdb : (x == ("__debug__" : Str)) = false := by decide)
    (he : starEach (e :: es) X.env = (false, eval e X.env) :: starEach es X.env := by rfl) (hpl : (backTo pos (starEach es X.env)).any (·.1) = false := by rfl) : PX X g W (.Call (.Name x p) (e :: es) [] pos) (dCallA S dvs t) := by
  obtain ⟨dus, dws, h1, h2, h3⟩ := hb.ex
  exact px_callA Go.ok hT hr tk hg Go.g Go.kp h1 h2 h3 ha hdb he hpl
theorem FunD.db {K : PySem.W.Frag} {x qual : Str} {params : Arguments} {body : List Stmt} {scope : Scope} {dvs : List V} {f : Addr} {fd : FuncData} {ps : List Str} (F : FunD K x qual params body scope dvs [] f fd) (n j : Nat) (ds : List D) (hd : dvs ≠ []) (hn : n + (dvs.length - j) = ps.length)
    (h : ∀ (T : Addr) (kV doc pm : Value) (an : Option Addr) (cdv ct : Value) (us its : List Value), us.length = n → its.length = dvs.length →
      ∃ k, bindArgs (PySem.W.fnOf x qual params body scope (.ref T) kV doc pm an cdv ct) ⟨us, []⟩ = seqItems? (.ref T) >>= k ∧ k (some its.toArray) = pure (ps.zip (us ++ its.drop j)))
    (hr : ∀ own H, RepL K own H ds (dvs.drop j)) : DB K fd ps ds := by
  obtain ⟨dus, v, b⟩ := FunD.binds1 F n j hd hn h
  exact ⟨dus, _, b, v, hr⟩
end L3

set_option linter.all false
namespace Fs
/-- the sum of f 0 .. f (n - 1) -/
def sm (f : Nat → Int) : Nat → Int
  | 0 => 0
  | n + 1 => sm f n + f n
theorem sm_congr {f h : Nat → Int} : ∀ {n : Nat}, (∀ i, i < n → f i = h i) → sm f n = sm h n
  | 0, _ => rfl
  | n + 1, e => by
    show sm f n + f n = sm h n + h n
    rw [sm_congr fun i hi => e i (by omega), e n (by omega)]
theorem sm_add (f h : Nat → Int) : ∀ n, sm (fun i => f i + h i) n = sm f n + sm h n
  | 0 => rfl
  | n + 1 => by
    show sm _ n + (f n + h n) = sm f n + f n + (sm h n + h n)
    rw [sm_add f h n]; omega
theorem sm_const (c : Int) : ∀ n : Nat, sm (fun _ => c) n = n * c
  | 0 => by simp [sm]
  | n + 1 => by
    show sm _ n + c = _
    rw [sm_const c n, Int.natCast_add, Int.add_mul]; simp
theorem sm_mul (c : Int) (f : Nat → Int) : ∀ n : Nat, sm (fun i => c * f i) n = c * sm f n
  | 0 => by simp [sm]
  | n + 1 => by
    show sm _ n + c * f n = c * (sm f n + f n)
    rw [sm_mul c f n, Int.mul_add]
theorem sm_split (f : Nat → Int) (n : Nat) : ∀ m : Nat, sm f (n + m) = sm f n + sm (fun i => f (n + i)) m
  | 0 => by simp [sm]
  | m + 1 => by
    show sm f (n + m) + f (n + m) = sm f n + (sm _ m + f (n + m))
    rw [sm_split f n m]; omega
theorem sm_head (f : Nat → Int) (n : Nat) : sm f (n + 1) = f 0 + sm (fun i => f (i + 1)) n := by
  have := sm_split f 1 n
  rw [Nat.add_comm 1 n] at this
  rw [this]
  show 0 + f 0 + _ = _
  rw [Int.zero_add]
  congr 1
  exact sm_congr fun i _ => by rw [Nat.add_comm]
theorem sm_rev (f : Nat → Int) : ∀ n : Nat, sm (fun i => f (n - 1 - i)) n = sm f n
  | 0 => rfl
  | n + 1 => by
    rw [sm_head]
    show f (n + 1 - 1 - 0) + sm (fun i => f (n + 1 - 1 - (i + 1))) n = sm f n + f n
    have e : sm (fun i => f (n + 1 - 1 - (i + 1))) n = sm (fun i => f (n - 1 - i)) n := sm_congr fun i _ => by
      rw [show n + 1 - 1 - (i + 1) = n - 1 - i by omega]
    rw [e, sm_rev f n]
    simp [Int.add_comm]
theorem sm_id : ∀ n : Nat, 2 * sm (fun i => (i : Int)) n = n * (n - 1)
  | 0 => rfl
  | n + 1 => by
    show 2 * (sm _ n + (n : Int)) = _
    rw [Int.mul_add, sm_id n, Int.natCast_add]
    have : ((n : Int) + (1 : Nat)) * ((n : Int) + (1 : Nat) - 1) = n * (n - 1) + 2 * n := by
      show ((n : Int) + 1) * ((n : Int) + 1 - 1) = _
      rw [Int.add_sub_cancel, Int.add_mul, Int.mul_sub]
      omega
    rw [this]
theorem sm_id' (n : Nat) : sm (fun i => (i : Int)) n = (n : Int) * (n - 1) / 2 := by
  have := sm_id n
  omega
/-- the sum of (a * i + b) / m, i from 0 to n - 1 -/
def FN (n : Nat) (a b m : Int) : Int := sm (fun i => (a * i + b) / m) n
def FS (n a b m : Int) : Int := FN n.toNat a b m
theorem FN_part (n k : Nat) (a b m : Int) : FN (n + k) a b m = FN n a b m + FN k a (a * n + b) m := by
  unfold FN
  rw [sm_split]
  congr 1
  exact sm_congr fun i _ => by
    rw [Int.natCast_add, Int.mul_add]
    congr 1; omega
theorem FN_more (n : Nat) (a b m i j : Int) (hm : 0 < m) : FN n (a + i * m) (b + j * m) m = FN n a b m + i * ((n : Int) * (n - 1) / 2) + j * n := by
  unfold FN
  have e : ∀ k : Nat, ((a + i * m) * k + (b + j * m)) / m = (a * k + b) / m + (i * k + j) := fun k => by
    have : (a + i * m) * k + (b + j * m) = (a * k + b) + m * (i * k + j) := by
      rw [Int.add_mul, Int.mul_add]
      have h1 : i * m * (k : Int) = m * (i * k) := by rw [Int.mul_comm i m, Int.mul_assoc]
      have h2 : j * m = m * j := Int.mul_comm _ _
      rw [h1, h2]; omega
    rw [this, Int.add_mul_ediv_left _ _ (by omega)]
  rw [sm_congr fun k _ => e k, sm_add, sm_add, sm_mul, sm_const, sm_id']
  rw [Int.mul_comm j n]; omega
theorem FN_rev (n : Nat) (a b m : Int) : FN n (0 - a) (a * (n - 1) + b) m = FN n a b m := by
  unfold FN
  rw [← sm_rev (fun i => (a * (i : Nat) + b) / m) n]
  refine sm_congr fun i hi => ?_
  congr 1
  have : ((n - 1 - i : Nat) : Int) = (n : Int) - 1 - i := by omega
  rw [this, Int.mul_sub, Int.mul_sub, Int.mul_sub, Int.sub_mul]
  omega
theorem FN_scale (n : Nat) (a b m k : Int) (hk : 0 < k) : FN n (a * k) (b * k) (m * k) = FN n a b m := by
  unfold FN
  refine sm_congr fun i _ => ?_
  have : a * k * i + b * k = (a * i + b) * k := by
    rw [Int.add_mul, Int.mul_assoc, Int.mul_comm k i, ← Int.mul_assoc]
  rw [this, Int.mul_ediv_mul_of_pos_left _ _ hk]
theorem neg_div (x m : Int) (hm : 0 < m) : (0 - x) / m = 0 - (x + m - 1) / m := by
  have h1 := Int.mul_ediv_add_emod (x + m - 1) m
  have h2 := Int.emod_nonneg (x + m - 1) (by omega : m ≠ 0)
  have h3 := Int.emod_lt_of_pos (x + m - 1) hm
  have e : 0 - x = (m - 1 - (x + m - 1) % m) + m * (0 - (x + m - 1) / m) := by
    rw [Int.mul_sub]; omega
  rw [e, Int.add_mul_ediv_left _ _ (by omega), Int.ediv_eq_zero_of_lt (by omega) (by omega)]
  omega
theorem FN_neg (n : Nat) (a b m : Int) (hm : 0 < m) : FN n (0 - a) (0 - b) m = 0 - FN n a (b + m - 1) m := by
  unfold FN
  have : sm (fun i => ((0 - a) * (i : Nat) + (0 - b)) / m) n = sm (fun i => (-1) * ((a * (i : Nat) + (b + m - 1)) / m)) n := sm_congr fun i _ => by
    have e : (0 - a) * (i : Int) + (0 - b) = 0 - (a * i + b) := by rw [Int.sub_mul]; omega
    rw [e, neg_div _ _ hm]
    have e2 : a * (i : Int) + b + m - 1 = a * i + (b + m - 1) := by omega
    rw [e2]; omega
  rw [this, sm_mul]; omega
/-- y is the sum of (y + t) / k over t from 0 to k - 1 -/
theorem hermite (y : Int) (k : Nat) (hk : 0 < k) : sm (fun t => (y + t) / (k : Int)) k = y := by
  -- split y = q * k + r
  have hk' : (0 : Int) < k := by omega
  have e := Int.mul_ediv_add_emod y k
  have r0 := Int.emod_nonneg y (by omega : (k : Int) ≠ 0)
  have r1 := Int.emod_lt_of_pos y hk'
  obtain ⟨r, hr⟩ : ∃ r : Nat, y % (k : Int) = r := ⟨(y % (k : Int)).toNat, by omega⟩
  have hrk : r < k := by omega
  have e1 : ∀ t : Nat, (y + t) / (k : Int) = y / k + ((r : Int) + t) / k := fun t => by
    have : y + (t : Int) = ((r : Int) + t) + k * (y / k) := by omega
    rw [this, Int.add_mul_ediv_left _ _ (by omega)]
    omega
  rw [sm_congr fun t _ => e1 t, sm_add, sm_const]
  -- the last r of the k terms are 1
  have e2 : sm (fun t => ((r : Int) + t) / (k : Int)) k = r := by
    have hkk : k = (k - r) + r := by omega
    have : sm (fun t => ((r : Int) + t) / (k : Int)) ((k - r) + r) = r := by
      rw [sm_split]
      have z1 : sm (fun t => ((r : Int) + t) / (k : Int)) (k - r) = sm (fun _ => 0) (k - r) := sm_congr fun t ht => Int.ediv_eq_zero_of_lt (by omega) (by omega)
      have z2 : sm (fun i => ((r : Int) + ((k - r + i : Nat) : Int)) / (k : Int)) r = sm (fun _ => 1) r := sm_congr fun t ht => by
        have : (r : Int) + ((k - r + t : Nat) : Int) = t + k * 1 := by omega
        rw [this, Int.add_mul_ediv_left _ _ (by omega), Int.ediv_eq_zero_of_lt (by omega) (by omega)]
        rfl
      rw [z1, z2, sm_const, sm_const]; omega
    rw [← hkk] at this
    exact this
  rw [e2]; omega
theorem div_div (x m k : Int) (hm : 0 < m) (hk : 0 < k) : x / (k * m) = (x / m) / k := by
  rw [Int.mul_comm, Int.ediv_ediv_of_nonneg (by omega)]
theorem sm_swap (f : Nat → Nat → Int) (n : Nat) : ∀ k : Nat, sm (fun t => sm (fun i => f t i) n) k = sm (fun i => sm (fun t => f t i) k) n
  | 0 => by
    show 0 = sm (fun _ => 0) n
    rw [sm_const]; omega
  | k + 1 => by
    show sm _ k + sm (fun i => f k i) n = _
    rw [sm_swap f n k, ← sm_add]
    rfl
theorem FN_parts (n : Nat) (a b m : Int) (k : Nat) (hm : 0 < m) (hk : 0 < k) : sm (fun t => FN n a (b + t * m) (k * m)) k = FN n a b m := by
  unfold FN
  rw [sm_swap]
  refine sm_congr fun i _ => ?_
  have e : ∀ t : Nat, (a * (i : Int) + (b + t * m)) / (k * m) = ((a * i + b) / m + t) / k := fun t => by
    rw [div_div _ _ _ hm (by omega)]
    have : a * (i : Int) + (b + t * m) = (a * i + b) + m * t := by rw [Int.mul_comm (t : Int) m]; omega
    rw [this, Int.add_mul_ediv_left _ _ (by omega)]
  rw [sm_congr fun t _ => e t, hermite _ _ hk]
theorem FN_last (n : Nat) (a b m : Int) : FN (n + 1) a b m = FN n a b m + (a * n + b) / m := rfl
/-- how many of c 1 .. c N are at most n, weighted: R -/
theorem lattice (a b m : Int) (ha : 0 < a) (hb : 0 ≤ b) (hbm : b < m) (n : Nat) :
    FN n a b m = sm (fun j => (n : Int) - (m * (j + 1) - b + a - 1) / a) ((a * n + b) / m).toNat := by
  induction n with
  | zero =>
    have : (a * ((0 : Nat) : Int) + b) / m = 0 := by
      rw [Int.natCast_zero, Int.mul_zero, Int.zero_add]
      exact Int.ediv_eq_zero_of_lt hb hbm
    rw [this]; rfl
  | succ n ih =>
    rw [FN_last, ih]
    have hm : 0 < m := by omega
    have hN : 0 ≤ (a * (n : Int) + b) / m := Int.ediv_nonneg (by have := Int.mul_nonneg (Int.le_of_lt ha) (Int.natCast_nonneg n); omega) (by omega)
    have hle : (a * (n : Int) + b) / m ≤ (a * ((n + 1 : Nat) : Int) + b) / m := Int.ediv_le_ediv hm (by rw [Int.natCast_add, Int.mul_add]; omega)
    obtain ⟨N, hN'⟩ : ∃ N : Nat, (a * (n : Int) + b) / m = N := ⟨_, (Int.toNat_of_nonneg hN).symm⟩
    obtain ⟨d, hd⟩ : ∃ d : Nat, (a * ((n + 1 : Nat) : Int) + b) / m = N + d := ⟨((a * ((n + 1 : Nat) : Int) + b) / m - N).toNat, by omega⟩
    rw [hN', hd]
    have t1 : ((N : Int)).toNat = N := by omega
    have t2 : ((N : Int) + d).toNat = N + d := by omega
    rw [t1, t2, sm_split]
    have e1 : sm (fun j => ((n + 1 : Nat) : Int) - (m * (j + 1) - b + a - 1) / a) N = sm (fun j => (n : Int) - (m * (j + 1) - b + a - 1) / a) N + N := by
      have : ∀ j : Nat, ((n + 1 : Nat) : Int) - (m * ((j : Int) + 1) - b + a - 1) / a = ((n : Int) - (m * (j + 1) - b + a - 1) / a) + 1 := fun j => by omega
      rw [sm_congr fun j _ => this j, sm_add, sm_const]; omega
    have e2 : sm (fun i => ((n + 1 : Nat) : Int) - (m * (((N + i : Nat) : Int) + 1) - b + a - 1) / a) d = sm (fun _ => 0) d := sm_congr fun i hi => by
      -- c = n + 1
      have q1 : a * (n : Int) + b < m * (((N + i : Nat) : Int) + 1) := by
        have h1 := Int.lt_mul_ediv_self_add (x := a * (n : Int) + b) hm
        rw [hN'] at h1
        have h2 : m * ((N : Int) + 1) ≤ m * (((N + i : Nat) : Int) + 1) := Int.mul_le_mul_of_nonneg_left (by omega) (by omega)
        rw [Int.mul_add, Int.mul_one] at h2
        omega
      have q2 : m * (((N + i : Nat) : Int) + 1) ≤ a * ((n + 1 : Nat) : Int) + b := by
        have h1 := Int.mul_ediv_self_le (x := a * ((n + 1 : Nat) : Int) + b) (k := m) (by omega)
        rw [hd] at h1
        have h2 : m * (((N + i : Nat) : Int) + 1) ≤ m * ((N : Int) + d) := Int.mul_le_mul_of_nonneg_left (by omega) (by omega)
        omega
      have q4 : m * (((N + i : Nat) : Int) + 1) ≤ a * ((n + 1 : Nat) : Int) + b → m * (((N + i : Nat) : Int) + 1) - b - 1 - a * n < a := fun q => by
        have q4 : a * ((n + 1 : Nat) : Int) = a * n + a := by rw [Int.natCast_add, Int.mul_add]; omega
        omega
      have q3 : (m * (((N + i : Nat) : Int) + 1) - b + a - 1) / a = (n : Int) + 1 := by
        have e : m * (((N + i : Nat) : Int) + 1) - b + a - 1 = (m * (((N + i : Nat) : Int) + 1) - b - 1 - a * n) + a * ((n : Int) + 1) := by
          rw [Int.mul_add a]; omega
        rw [e, Int.add_mul_ediv_left _ _ (by omega), Int.ediv_eq_zero_of_lt (by omega) (q4 q2)]
        omega
      rw [q3]; omega
    rw [e1, e2, sm_const]; omega
theorem euclid (a b m : Int) (ha : 0 < a) (hb : 0 ≤ b) (hbm : b < m) (n : Nat) : FN n a b m = FN ((a * n + b) / m).toNat m ((a * n + b) % m) a := by
  have hm : 0 < m := by omega
  rw [lattice a b m ha hb hbm n]
  have hN : 0 ≤ (a * (n : Int) + b) / m := Int.ediv_nonneg (by have := Int.mul_nonneg (Int.le_of_lt ha) (Int.natCast_nonneg n); omega) (by omega)
  obtain ⟨N, hN'⟩ : ∃ N : Nat, (a * (n : Int) + b) / m = N := ⟨_, (Int.toNat_of_nonneg hN).symm⟩
  have hdm := Int.mul_ediv_add_emod (a * (n : Int) + b) m
  rw [hN'] at hdm ⊢
  rw [Int.toNat_natCast]
  unfold FN
  rw [← sm_rev (fun j => (m * (j : Nat) + (a * (n : Int) + b) % m) / a) N]
  refine sm_congr fun j hj => ?_
  have e : ((N - 1 - j : Nat) : Int) = (N : Int) - 1 - j := by omega
  show (n : Int) - (m * ((j : Int) + 1) - b + a - 1) / a = (m * ((N - 1 - j : Nat) : Int) + (a * (n : Int) + b) % m) / a
  rw [e]
  have e2 : m * ((N : Int) - 1 - j) + (a * (n : Int) + b) % m = (0 - (m * (j + 1) - b)) + a * n := by
    rw [Int.mul_sub, Int.mul_sub, Int.mul_add]; omega
  rw [e2, Int.add_mul_ediv_left _ _ (by omega), neg_div _ _ ha]
  have e3 : m * ((j : Int) + 1) - b + a - 1 = m * (j + 1) - b + a - 1 := rfl
  omega
/-- one turn of floor_total -/
theorem FS_turn (n a b m : Int) (hn : 0 < n) (hm : 0 < m) : FS n a b m = n * (n - 1) / 2 * (a / m) + n * (b / m) + FS ((a % m * n + b % m) / m) m ((a % m * n + b % m) % m) (a % m) := by
  obtain ⟨k, rfl⟩ : ∃ k : Nat, n = k := ⟨n.toNat, by omega⟩
  unfold FS
  rw [Int.toNat_natCast]
  have ea := Int.mul_ediv_add_emod a m
  have eb := Int.mul_ediv_add_emod b m
  have e1 : FN k a b m = FN k (a % m + a / m * m) (b % m + b / m * m) m := by
    rw [Int.mul_comm (a / m) m, Int.mul_comm (b / m) m, Int.add_comm (a % m), Int.add_comm (b % m), ea, eb]
  rw [e1, FN_more _ _ _ _ _ _ hm]
  have a0 := Int.emod_nonneg a (by omega : m ≠ 0)
  have a1 := Int.emod_lt_of_pos a hm
  have b0 := Int.emod_nonneg b (by omega : m ≠ 0)
  have b1 := Int.emod_lt_of_pos b hm
  have key : FN k (a % m) (b % m) m = FN ((a % m * (k : Int) + b % m) / m).toNat m ((a % m * (k : Int) + b % m) % m) (a % m) := by
    by_cases h0 : a % m = 0
    · rw [h0, Int.zero_mul, Int.zero_add, Int.ediv_eq_zero_of_lt b0 b1]
      unfold FN
      have : sm (fun i => (0 * (i : Int) + b % m) / m) k = sm (fun _ => 0) k := sm_congr fun i _ => by
        rw [Int.zero_mul, Int.zero_add]; exact Int.ediv_eq_zero_of_lt b0 b1
      rw [this, sm_const]
      show (k : Int) * 0 = 0
      omega
    · exact euclid _ _ _ (by omega) b0 b1 k
  rw [key, Int.mul_comm (a / m), Int.mul_comm (b / m)]
  omega
theorem FS_le (n a b m : Int) (hn : n ≤ 0) : FS n a b m = 0 := by
  unfold FS
  rw [show n.toNat = 0 by omega]; rfl
theorem next_le (n a b m : Int) (hn : 0 < n) (hm : 0 < m) : (a % m * n + b % m) / m ≤ n := by
  have a1 := Int.emod_lt_of_pos a hm
  have b1 := Int.emod_lt_of_pos b hm
  have h : a % m * n ≤ (m - 1) * n := Int.mul_le_mul_of_nonneg_right (by omega) (by omega)
  rw [Int.sub_mul] at h
  have h2 : (a % m * n + b % m) / m < n + 1 := by
    refine Int.ediv_lt_of_lt_mul hm ?_
    rw [Int.add_mul, Int.mul_comm n m]
    omega
  omega
theorem FS_part (n p a b m : Int) (h0 : 0 ≤ p) (h1 : p ≤ n) : FS p a b m + FS (n - p) a (a * p + b) m = FS n a b m := by
  unfold FS
  have e : n.toNat = p.toNat + (n - p).toNat := by omega
  have e2 : ((p.toNat : Nat) : Int) = p := by omega
  rw [e, FN_part, e2]
theorem FS_more (n a b m i j : Int) (hn : 0 ≤ n) (hm : 0 < m) : FS n (a + i * m) (b + j * m) m = FS n a b m + i * (n * (n - 1) / 2) + j * n := by
  unfold FS
  have e2 : ((n.toNat : Nat) : Int) = n := by omega
  rw [FN_more _ _ _ _ _ _ hm, e2]
theorem FS_rev (n a b m : Int) (hn : 0 ≤ n) : FS n (0 - a) (a * (n - 1) + b) m = FS n a b m := by
  unfold FS
  have e2 : ((n.toNat : Nat) : Int) = n := by omega
  have := FN_rev n.toNat a b m
  rwa [e2] at this
theorem FS_scale (n a b m k : Int) (hk : 0 < k) : FS n (a * k) (b * k) (m * k) = FS n a b m := FN_scale _ _ _ _ _ hk
theorem FS_neg (n a b m : Int) (hm : 0 < m) : FS n (0 - a) (0 - b) m = 0 - FS n a (b + m - 1) m := FN_neg _ _ _ _ hm
theorem sum_range (f : Nat → Int) : ∀ n : Nat, ((List.range n).map f).sum = sm f n
  | 0 => rfl
  | n + 1 => by
    rw [List.range_succ, List.map_append, List.sum_append, sum_range f n]
    show sm f n + (f n + 0) = sm f n + f n
    omega
theorem FS_parts (n a b m k : Int) (hm : 0 < m) (hk : 0 < k) : ((List.range k.toNat).map fun t => FS n a (b + (0 + (t : Nat)) * m) (k * m)).sum = FS n a b m := by
  rw [sum_range]
  have e2 : ((k.toNat : Nat) : Int) = k := by omega
  have := FN_parts n.toNat a b m k.toNat hm (by omega)
  rw [e2] at this
  unfold FS
  rw [← this]
  refine sm_congr fun t _ => ?_
  rw [Int.zero_add]
theorem FS_last (n a b m : Int) (hn : 0 < n) : FS n a b m - FS (n - 1) a b m = (a * (n - 1) + b) / m := by
  unfold FS
  have e : n.toNat = (n - 1).toNat + 1 := by omega
  have e2 : (((n - 1).toNat : Nat) : Int) = n - 1 := by omega
  rw [e, FN_last, e2]
  omega
theorem sm_abs (f : Nat → Int) (B : Nat) (n : Nat) (h : ∀ i, i < n → (f i).natAbs ≤ B) : (sm f n).natAbs ≤ n * B := by
  induction n with
  | zero => simp [sm]
  | succ n ih =>
    have h1 := ih fun i hi => h i (by omega)
    have h2 := h n (by omega)
    show (sm f n + f n).natAbs ≤ _
    rw [Nat.add_mul, Nat.one_mul]
    omega
theorem FN_abs (n : Nat) (a b m : Int) (hm : 0 < m) : (FN n a b m).natAbs ≤ n * (a.natAbs * n + b.natAbs) := by
  refine sm_abs _ _ _ fun i hi => ?_
  have h1 : ((a * (i : Int) + b) / m).natAbs ≤ (a * (i : Int) + b).natAbs := Int.natAbs_ediv_le_natAbs _ _
  have h2 : (a * (i : Int) + b).natAbs ≤ (a * (i : Int)).natAbs + b.natAbs := Int.natAbs_add_le _ _
  rw [Int.natAbs_mul, Int.natAbs_natCast] at h2
  have h3 : a.natAbs * i ≤ a.natAbs * n := Nat.mul_le_mul_left _ (by omega)
  omega
theorem FS_abs (n a b m : Int) (hm : 0 < m) : (FS n a b m).natAbs ≤ n.natAbs * (a.natAbs * n.natAbs + b.natAbs) := by
  refine Nat.le_trans (FN_abs n.toNat a b m hm) ?_
  have : n.toNat ≤ n.natAbs := by omega
  exact Nat.mul_le_mul this (Nat.add_le_add_right (Nat.mul_le_mul_left _ this) _)
theorem FS_sum (n : Nat) (a b m : Int) : ((List.range n).map fun t => (a * (t : Nat) + b) / m).sum = FS n a b m := by
  rw [sum_range]
  unfold FS FN
  rw [Int.toNat_natCast]
end Fs

set_option linter.all false
namespace Rl
open Fs
/-- the divisor of a triple -/
def gd (p q : Int) : Int := (Int.gcd p q : Int)
def red (p q c : Int) : Int × Int × Int := (p / gd p q, q / gd p q, c / gd p q)
theorem gd_pos {p q : Int} (hp : 0 ≤ p) (hq : 1 ≤ q) : 0 < gd p q ∧ gd p q ≤ q := by
  have h : Int.gcd p q ≠ 0 := fun z => by
    have := (Int.gcd_eq_zero_iff.mp z).2
    omega
  have h2 : (Int.gcd p q : Int) ∣ q := Int.gcd_dvd_right ..
  unfold gd
  exact ⟨by omega, Int.le_of_dvd (by omega) h2⟩
theorem gd_p (p q : Int) : p = gd p q * (p / gd p q) := (Int.mul_ediv_cancel' (Int.gcd_dvd_left ..)).symm
theorem gd_q (p q : Int) : q = gd p q * (q / gd p q) := (Int.mul_ediv_cancel' (Int.gcd_dvd_right ..)).symm
theorem gd_scale (k p q : Int) (hk : 0 < k) : gd (k * p) (k * q) = k * gd p q := by
  unfold gd
  rw [Int.gcd_mul_left, Int.natCast_mul]
  congr 1
  omega
theorem red_scale (k p q c r : Int) (hk : 0 < k) (hq : 1 ≤ q) (hp : 0 ≤ p) (h0 : 0 ≤ r) (h1 : r < k) : red (k * p) (k * q) (k * c + r) = red p q c := by
  unfold red
  rw [gd_scale k p q hk]
  obtain ⟨hg, _⟩ := gd_pos hp hq
  rw [Int.mul_ediv_mul_of_pos _ _ hk, Int.mul_ediv_mul_of_pos _ _ hk]
  congr 2
  rw [← Int.ediv_ediv_of_nonneg (by omega : 0 ≤ k)]
  congr 1
  rw [Int.add_comm, Int.add_mul_ediv_left _ _ (by omega), Int.ediv_eq_zero_of_lt h0 h1]
  omega
/-- in lowest terms -/
def Ok (p q : Int) : Prop := 0 ≤ p ∧ 1 ≤ q ∧ Int.gcd p q = 1
theorem red_ok {p q : Int} (hp : 0 ≤ p) (hq : 1 ≤ q) : Ok (p / gd p q) (q / gd p q) := by
  obtain ⟨hg, hgq⟩ := gd_pos hp hq
  refine ⟨Int.ediv_nonneg hp (by omega), Int.le_ediv_of_mul_le hg (by omega), ?_⟩
  exact Int.gcd_ediv_gcd_ediv_gcd_of_ne_zero_right (by omega)
theorem red_self {p q : Int} (c : Int) (h : Int.gcd p q = 1) : red p q c = (p, q, c) := by
  unfold red gd
  rw [h]; simp
/-- the parts of a reduced triple -/
theorem red_parts (p q c : Int) (hp : 0 ≤ p) (hq : 1 ≤ q) : ∃ g P Q C r, 0 < g ∧ 0 ≤ r ∧ r < g ∧ p = g * P ∧ q = g * Q ∧ c = g * C + r ∧ Ok P Q ∧ red p q c = (P, Q, C) ∧ g = gd p q := by
  obtain ⟨hg, _⟩ := gd_pos hp hq
  refine ⟨gd p q, p / gd p q, q / gd p q, c / gd p q, c % gd p q, hg, Int.emod_nonneg _ (by omega), Int.emod_lt_of_pos _ hg, gd_p p q, gd_q p q, (Int.mul_ediv_add_emod c (gd p q)).symm, red_ok hp hq, rfl, rfl⟩
theorem Ok.red {P Q C : Int} (h : Ok P Q) : red P Q C = (P, Q, C) := red_self C h.2.2
/-- the counts of a reduced triple -/
theorem cnt_scale (g P Q C r t : Int) (hg : 0 < g) (h0 : 0 ≤ r) (h1 : r < g) : (g * P * t + (g * C + r)) / (g * Q) = (P * t + C) / Q := by
  rw [← Int.ediv_ediv_of_nonneg (by omega : 0 ≤ g)]
  congr 1
  have : g * P * t + (g * C + r) = r + g * (P * t + C) := by rw [Int.mul_add, Int.mul_assoc]; omega
  rw [this, Int.add_mul_ediv_left _ _ (by omega), Int.ediv_eq_zero_of_lt h0 h1]
  omega
theorem cnt_red (p q c t : Int) (hp : 0 ≤ p) (hq : 1 ≤ q) : ((red p q c).1 * t + (red p q c).2.2) / (red p q c).2.1 = (p * t + c) / q := by
  obtain ⟨g, P, Q, C, r, hg, h0, h1, rfl, rfl, rfl, _, e, _⟩ := red_parts p q c hp hq
  rw [e]
  exact (cnt_scale g P Q C r t hg h0 h1).symm
theorem FS_congr {n a b m a' b' m' : Int} (h : ∀ i : Nat, (a * i + b) / m = (a' * i + b') / m') : FS n a b m = FS n a' b' m' := sm_congr fun i _ => h i
/-- sums of the counts of a reduced triple -/
theorem FS_red (n p q c s : Int) (hp : 0 ≤ p) (hq : 1 ≤ q) : FS n (red p q c).1 ((red p q c).1 * s + (red p q c).2.2) (red p q c).2.1 = FS n p (p * s + c) q := by
  refine FS_congr fun i => ?_
  have := cnt_red p q c (i + s) hp hq
  rw [Int.mul_add, Int.mul_add, Int.add_assoc, Int.add_assoc] at this
  exact this
/-- over one cycle -/
theorem FS_cycle (q : Nat) : ∀ p b : Int, 0 < q → 0 ≤ p → Int.gcd p q = 1 → 2 * FS q p b q = 2 * b + (p - 1) * ((q : Int) - 1) := by
  induction q using Nat.strongRecOn with
  | ind q ih =>
    intro p b hq hp hg
    have hq' : (0 : Int) < q := by omega
    rw [FS_turn q p b q hq' hq']
    have a0 := Int.emod_nonneg p (by omega : (q : Int) ≠ 0)
    have a1 := Int.emod_lt_of_pos p hq'
    have b0 := Int.emod_nonneg b (by omega : (q : Int) ≠ 0)
    have b1 := Int.emod_lt_of_pos b hq'
    have e1 : (p % q * (q : Int) + b % q) / q = p % q := by
      rw [Int.add_comm, Int.add_mul_ediv_right _ _ (by omega), Int.ediv_eq_zero_of_lt b0 b1]; omega
    have e2 : (p % q * (q : Int) + b % q) % q = b % q := by
      rw [Int.add_comm, Int.add_mul_emod_self_right, Int.emod_emod_of_dvd _ (Int.dvd_refl _)]
    rw [e1, e2]
    have hev : 2 * ((q : Int) * (q - 1) / 2) = q * (q - 1) := by
      have := sm_id q
      have := sm_id' q
      omega
    have ep := Int.mul_ediv_add_emod p q
    have eb := Int.mul_ediv_add_emod b q
    have hg2 : Int.gcd (q : Int) (p % q) = 1 := by
      have : Int.gcd (q : Int) (p % q) = Int.gcd p q := by
        obtain ⟨m, rfl⟩ := Int.eq_ofNat_of_zero_le hp
        show Nat.gcd q (m % q) = Nat.gcd m q
        rw [Nat.gcd_comm q, ← Nat.gcd_rec, Nat.gcd_comm]
      rw [this, hg]
    obtain ⟨r, hr⟩ : ∃ r : Nat, p % (q : Int) = r := ⟨(p % (q : Int)).toNat, by omega⟩
    rw [hr] at hg2 a1 ep ⊢
    have lhs : 2 * ((q : Int) * (q - 1) / 2 * (p / q) + q * (b / q) + FS r q (b % q) r) = (q * (q - 1)) * (p / q) + 2 * (q * (b / q)) + 2 * FS r q (b % q) r := by
      rw [Int.mul_add, Int.mul_add, ← Int.mul_assoc 2 ((q : Int) * (q - 1) / 2), hev]
    rw [lhs]
    by_cases h0 : r = 0
    · subst h0
      have hq1 : q = 1 := by
        have : Int.gcd (q : Int) ((0 : Nat) : Int) = q := by
          show Int.gcd (q : Int) 0 = q
          rw [Int.gcd_zero_right]; omega
        omega
      subst hq1
      have : FS ((0 : Nat) : Int) ((1 : Nat) : Int) (b % ((1 : Nat) : Int)) ((0 : Nat) : Int) = 0 := FS_le _ _ _ _ (by decide)
      rw [this]
      simp
    · have := ih r (by omega) (q : Int) (b % q) (by omega) (by omega) hg2
      rw [this]
      have e3 : (p - 1) * ((q : Int) - 1) = (q * (p / q) + r - 1) * (q - 1) := by rw [ep]
      rw [e3]
      have e4 : (q : Int) * (q - 1) * (p / q) = q * (p / q) * (q - 1) := by rw [Int.mul_assoc, Int.mul_assoc, Int.mul_comm ((q : Int) - 1)]
      rw [e4, show (q : Int) * (p / q) + r - 1 = q * (p / q) + (r - 1) by omega, Int.add_mul, Int.mul_comm ((q : Int) - 1)]
      omega
theorem cycle (p q b : Int) (h : Ok p q) : FS q p b q = b + (p - 1) * (q - 1) / 2 := by
  obtain ⟨n, rfl⟩ := Int.eq_ofNat_of_zero_le (show 0 ≤ q by have := h.2.1; omega)
  have := FS_cycle n p b (by have := h.2.1; omega) h.1 h.2.2
  omega
/-- mirrored ranges -/
theorem FS_mirror (p q c s t : Int) (hq : 1 ≤ q) (h : s ≤ t) : FS ((1 - s) - (1 - t)) p (p * (1 - t) + (q - 1 - c)) q = 0 - FS (t - s) p (p * s + c) q := by
  have e1 : (1 - s) - (1 - t) = t - s := by omega
  rw [e1, ← FS_rev (t - s) p (p * s + c) q (by omega)]
  have e2 : p * (t - s - 1) + (p * s + c) = p * (t - 1) + c := by
    rw [show t - s - 1 = (t - 1) - s by omega, Int.mul_sub p (t - 1) s]; omega
  rw [e2]
  have := FS_neg (t - s) (0 - p) (p * (t - 1) + c - q + 1) q (by omega)
  rw [show (0 : Int) - (0 - p) = p by omega, show p * (t - 1) + c - q + 1 + q - 1 = p * (t - 1) + c by omega] at this
  rw [← this]
  congr 1
  rw [show (1 - t : Int) = 0 - (t - 1) by omega, Int.mul_sub p 0]
  omega
/-- ranges of blocks -/
theorem FN_blocks (k : Nat) (a b m : Int) : ∀ n : Nat, FN (k * n) a b m = sm (fun j => FN n (k * a) (b + a * j) m) k
  | 0 => by
    show FN (k * 0) a b m = sm (fun j => 0) k
    rw [sm_const, Nat.mul_zero, Int.mul_zero]; rfl
  | n + 1 => by
    rw [Nat.mul_add, Nat.mul_one, FN_part, FN_blocks k a b m n]
    have : sm (fun j => FN (n + 1) (k * a) (b + a * j) m) k = sm (fun j => FN n (k * a) (b + a * (j : Nat)) m + ((k : Int) * a * n + (b + a * (j : Nat))) / m) k := rfl
    rw [this, sm_add]
    congr 1
    unfold FN
    refine sm_congr fun j _ => ?_
    congr 1
    rw [Int.natCast_mul, ← Int.mul_assoc, Int.mul_comm a k]; omega
theorem FS_blocks (n a b m k : Int) (hk : 0 < k) (hn : 0 ≤ n) : ((List.range k.toNat).map fun j => FS n (k * a) (b + a * (j : Nat)) m).sum = FS (k * n) a b m := by
  rw [sum_range]
  obtain ⟨x, rfl⟩ := Int.eq_ofNat_of_zero_le hn
  obtain ⟨y, rfl⟩ := Int.eq_ofNat_of_zero_le (Int.le_of_lt hk)
  unfold FS
  rw [← Int.natCast_mul, Int.toNat_natCast, Int.toNat_natCast, Int.toNat_natCast, FN_blocks]
theorem mul_pos1 {k q : Int} (hk : 1 ≤ k) (hq : 1 ≤ q) : 1 ≤ k * q := by
  have : 0 < k * q := Int.mul_pos (by omega) (by omega)
  omega
theorem FS_next (p q c s m t : Int) (h1 : s ≤ m) (h2 : m ≤ t) : FS (m - s) p (p * s + c) q + FS (t - m) p (p * m + c) q = FS (t - s) p (p * s + c) q := by
  have := FS_part (t - s) (m - s) p (p * s + c) q (by omega) (by omega)
  rw [← this]
  congr 2
  · omega
  · rw [Int.mul_sub]; omega
theorem FS_one (p q c t : Int) : FS (t + 1 - t) p (p * t + c) q = (p * t + c) / q := by
  rw [show t + 1 - t = 1 by omega]
  have := FS_last 1 p (p * t + c) q (by decide)
  have e : FS (1 - 1) p (p * t + c) q = 0 := FS_le _ _ _ _ (by decide)
  rw [e] at this
  simpa using this
theorem thin_sum (p q c s k n : Int) (h : Ok p q) (hk : 1 ≤ k) : ((List.range k.toNat).map fun t : Nat => FS n (red p (k * q) (c + p * 0 + q * (0 + (t : Int)))).1 ((red p (k * q) (c + p * 0 + q * (0 + (t : Int)))).1 * s + (red p (k * q) (c + p * 0 + q * (0 + (t : Int)))).2.2) (red p (k * q) (c + p * 0 + q * (0 + (t : Int)))).2.1).sum = FS n p (p * s + c) q := by
  rw [← FS_parts n p (p * s + c) q k (by have := h.2.1; omega) (by omega)]
  congr 1
  refine List.map_congr_left fun t _ => ?_
  rw [FS_red n p (k * q) _ s h.1 (mul_pos1 hk h.2.1)]
  congr 1
  rw [Int.mul_zero, Int.mul_comm q]; omega
theorem sample_sum (p q c s t k : Int) (h : Ok p q) (hk : 1 ≤ k) (hst : s ≤ t) : FS (k * t - k * s) p (p * (k * s) + c) q = ((List.range k.toNat).map fun j : Nat => FS (t - s) (red (k * p) q (c + p * (0 + (j : Int)) + q * 0)).1 ((red (k * p) q (c + p * (0 + (j : Int)) + q * 0)).1 * s + (red (k * p) q (c + p * (0 + (j : Int)) + q * 0)).2.2) (red (k * p) q (c + p * (0 + (j : Int)) + q * 0)).2.1).sum := by
  rw [← Int.mul_sub, ← FS_blocks (t - s) p (p * (k * s) + c) q k (by omega) (by omega)]
  congr 1
  refine List.map_congr_left fun j _ => ?_
  rw [FS_red (t - s) (k * p) q _ s (Int.mul_nonneg (by omega) h.1) h.2.1]
  congr 1
  rw [Int.mul_zero, Int.zero_add, ← Int.mul_assoc, Int.mul_comm k p]; omega
theorem thin_thin (p q c j k : Int) (h : Ok p q) (hj : 1 ≤ j) (hk : 1 ≤ k) : red (red p (j * q) c).1 (k * (red p (j * q) c).2.1) (red p (j * q) c).2.2 = red p (j * k * q) c := by
  obtain ⟨g, P, Q, C, r, hg, h0, h1, ep, eq, ec, ok, e, _⟩ := red_parts p (j * q) c h.1 (mul_pos1 hj h.2.1)
  rw [e]
  have : j * k * q = g * (k * Q) := by rw [Int.mul_assoc, Int.mul_comm k q, ← Int.mul_assoc, eq, Int.mul_assoc, Int.mul_comm Q k]
  rw [this, ep, ec, red_scale g P (k * Q) C r hg (mul_pos1 hk ok.2.1) ok.1 h0 h1]
theorem sample_sample (p q c j k : Int) (h : Ok p q) (hj : 1 ≤ j) (hk : 1 ≤ k) : red (k * (red (j * p) q c).1) (red (j * p) q c).2.1 (red (j * p) q c).2.2 = red (j * k * p) q c := by
  obtain ⟨g, P, Q, C, r, hg, h0, h1, ep, eq, ec, ok, e, _⟩ := red_parts (j * p) q c (Int.mul_nonneg (by omega) h.1) h.2.1
  rw [e]
  have : j * k * p = g * (k * P) := by rw [Int.mul_assoc, Int.mul_comm k p, ← Int.mul_assoc, ep, Int.mul_assoc, Int.mul_comm P k]
  rw [this, eq, ec, red_scale g (k * P) Q C r hg ok.2.1 (Int.mul_nonneg (by omega) ok.1) h0 h1]
/-- a reduced triple moved -/
theorem red_moved (p q c x y c' : Int) (hp : 0 ≤ p) (hq : 1 ≤ q) (e : c' = c + p * x + q * y) : red p q c' = ((red p q c).1, (red p q c).2.1, (red p q c).2.2 + (red p q c).1 * x + (red p q c).2.1 * y) := by
  obtain ⟨g, P, Q, C, r, hg, h0, h1, ep, eq, ec, ok, er, _⟩ := red_parts p q c hp hq
  rw [er]
  have : c' = g * (C + P * x + Q * y) + r := by
    rw [e, ec, ep, eq, Int.mul_add, Int.mul_add, Int.mul_assoc, Int.mul_assoc]; omega
  rw [this, ep, eq, red_scale g P Q _ r hg ok.2.1 ok.1 h0 h1]
  exact ok.red
theorem red_mirror (p q c c' : Int) (hp : 0 ≤ p) (hq : 1 ≤ q) (e : c' = q - 1 - c) : red p q c' = ((red p q c).1, (red p q c).2.1, (red p q c).2.1 - 1 - (red p q c).2.2) := by
  obtain ⟨g, P, Q, C, r, hg, h0, h1, ep, eq, ec, ok, er, _⟩ := red_parts p q c hp hq
  rw [er]
  have : c' = g * (Q - 1 - C) + (g - 1 - r) := by
    rw [e, ec, eq, Int.mul_sub, Int.mul_sub]; omega
  rw [this, ep, eq, red_scale g P Q _ (g - 1 - r) hg ok.2.1 ok.1 (by omega) (by omega)]
  exact ok.red
theorem thin_sample (p q c k : Int) (h : Ok p q) (hk : 1 ≤ k) : red (red (k * p) q c).1 (k * (red (k * p) q c).2.1) (red (k * p) q c).2.2 = red (k * p) (k * q) c := by
  obtain ⟨g, P, Q, C, r, hg, h0, h1, ep, eq, ec, ok, e, _⟩ := red_parts (k * p) q c (Int.mul_nonneg (by omega) h.1) h.2.1
  rw [e]
  have : k * q = g * (k * Q) := by rw [eq, ← Int.mul_assoc, Int.mul_comm k g, Int.mul_assoc]
  rw [this, ep, ec, red_scale g P (k * Q) C r hg (mul_pos1 hk ok.2.1) ok.1 h0 h1]
theorem cnt_shift (p q c a b t : Int) (hq : 1 ≤ q) : (p * t + (c + p * a + q * b)) / q = (p * (t + a) + c) / q + b := by
  have : p * t + (c + p * a + q * b) = (p * (t + a) + c) + q * b := by rw [Int.mul_add]; omega
  rw [this, Int.add_mul_ediv_left _ _ (by omega)]
theorem cnt_mirror (p q c t : Int) (hq : 1 ≤ q) : (p * t + (q - 1 - c)) / q = 0 - (p * (0 - t) + c) / q := by
  have := neg_div (p * t - c) q (by omega)
  rw [show (0 : Int) - (p * t - c) = p * (0 - t) + c by rw [Int.mul_sub]; omega] at this
  rw [this, show p * t - c + q - 1 = p * t + (q - 1 - c) by omega]
  omega
theorem cnt_thin (p q c k t : Int) (hp : 0 ≤ p) (hq : 1 ≤ q) (hk : 1 ≤ k) : ((red p (k * q) c).1 * t + (red p (k * q) c).2.2) / (red p (k * q) c).2.1 = (p * t + c) / q / k := by
  rw [cnt_red p (k * q) c t hp (mul_pos1 hk hq), Int.mul_comm k q, Int.ediv_ediv_of_nonneg (by omega)]
theorem cnt_sample (p q c k t : Int) (hp : 0 ≤ p) (hq : 1 ≤ q) (hk : 1 ≤ k) : ((red (k * p) q c).1 * t + (red (k * p) q c).2.2) / (red (k * p) q c).2.1 = (p * (k * t) + c) / q := by
  rw [cnt_red (k * p) q c t (Int.mul_nonneg (by omega) hp) hq, Int.mul_comm k p, Int.mul_assoc]
end Rl

set_option Elab.async false
set_option linter.all false
set_option maxRecDepth 100000
set_option maxHeartbeats 4000000

namespace Law
open PySem PySem.Spec PyProof.Rows L2 L3
def topS (i : Nat) : Stmt := PySem.Challenge.pw_leapfit_k05_rules_changed.main.body.getD i (.Pass ⟨0, 0, 0, 0⟩)
abbrev FnP (K : PySem.W.Frag) (x : Str) (st : Stmt) (dvs : List V) (f : Addr) (fd : FuncData) : Prop := FunD K x x (defArgs st) (defBody st) (defScope st) dvs [] f fd
local macro_rules | `(tactic| walk_at "s") => `(tactic| (conv => whnf))
local macro_rules | `(tactic| walk_at "i") => `(tactic| ((conv => whnf); refine And.intro ?_ ?_))
local macro_rules | `(tactic| walk_at "p") => `(tactic| ((conv => whnf); refine And.intro ⟨rfl, by decide⟩ ?_))
local macro_rules | `(tactic| walk_at "q") => `(tactic| ((conv => whnf); refine And.intro ⟨rfl, by decide, by decide⟩ ?_))
structure Gs (mg : Str → Option Value) : Prop where
  z_isinstance : mg "isinstance" = none
  z_bool : mg "bool" = none
  z_int : mg "int" = none
  z_all : mg "all" = none
  z_len : mg "len" = none
  z_tuple : mg "tuple" = none
  z_list : mg "list" = none
  z_abs : mg "abs" = none
  z_range : mg "range" = none
  z_repr : mg "repr" = none
theorem bt_isinstance : bootBuiltins "isinstance" = some (.builtin "isinstance") := by decide +kernel
theorem bt_bool : bootBuiltins "bool" = some (.type "bool") := by decide +kernel
theorem bt_int : bootBuiltins "int" = some (.type "int") := by decide +kernel
theorem bt_all : bootBuiltins "all" = some (.builtin "all") := by decide +kernel
theorem bt_len : bootBuiltins "len" = some (.builtin "len") := by decide +kernel
theorem bt_tuple : bootBuiltins "tuple" = some (.type "tuple") := by decide +kernel
theorem bt_list : bootBuiltins "list" = some (.type "list") := by decide +kernel
theorem bt_abs : bootBuiltins "abs" = some (.builtin "abs") := by decide +kernel
theorem bt_range : bootBuiltins "range" = some (.type "range") := by decide +kernel
theorem bt_repr : bootBuiltins "repr" = some (.builtin "repr") := by decide +kernel
variable {P : Program} {w : World} {K : PySem.W.Frag} {mg : Str → Option Value} {base : Heap} {T : List (Addr × Str)} {f : Addr} {fd : FuncData}

abbrev s_is_integer : Stmt := topS 5
abbrev N_is_integer : List Str := ["value"]
theorem sc_is_integer : FnScope N_is_integer ["value"] (defScope s_is_integer) := ⟨rfl, rfl, rfl, by decide +kernel, rfl, by decide +kernel, by decide +kernel⟩
/-- an integer that is no bool -/
def isI : D → Bool
  | .int _ => true
  | _ => false
def S_is_integer : SA := fun ds Q _ => ∃ x : D, ds = [x] ∧ x.plain = true ∧ Q (.bl (isI x))
theorem binds_is_integer (F : FnP K "is_integer" s_is_integer [] f fd) : Binds K fd ["value"] [] := F.bindsN (ps := ["value"]) fun _ _ _ _ _ _ us hl => match us, hl with | [_], _ => rfl
theorem ok_is_integer (Gz : Gs mg) (F : FnP K "is_integer" s_is_integer [] f fd)  : FnOk P w K mg base (L2.CX P w) 1 f fd ["value"] (spA K T S_is_integer) := by
  refine bodyA F sc_is_integer (fun ds QD ED h => by obtain ⟨x, rfl, _⟩ := h; rfl) (fun cdv A outer s H E g hT hr => ?_)
  have tk := takes_of (X := cxOf (L2.CX P w) P w K mg base N_is_integer "is_integer" (defScope s_is_integer) f cdv A outer s H E) rfl rfl rfl rfl
  have hp := passes_of (X := cxOf (L2.CX P w) P w K mg base N_is_integer "is_integer" (defScope s_is_integer) f cdv A outer s H E) rfl
  have hu := hu_of hr
  refine ⟨_, (pxb_one (pxs_ret (px_and (px_callB cd_isiInt (by rfl) Gz.z_isinstance bt_isinstance (pxa_cons (px_var 0) (pxa_cons (px_ty (by rfl) Gz.z_int bt_int) pxa_nil))) (px_one (px_not (px_callB cd_isiBool (by rfl) Gz.z_isinstance bt_isinstance (pxa_cons (px_var 0) (pxa_cons (px_ty (by rfl) Gz.z_bool bt_bool) pxa_nil)))))))), ?_⟩
  intro ds QD ED h
  obtain ⟨x, rfl, hx, q⟩ := h
  walk_at "s"
  refine ⟨rfl, hx, ?_⟩
  walk_at "i" <;> intro hc
  · walk_at "s"
    refine ⟨rfl, hx, ?_⟩
    cases x <;> first | exact q | cases hc
  · cases x <;> first | exact q | cases hc

abbrev s_need_number : Stmt := topS 10
abbrev N_need_number : List Str := ["value", "least", "most"]
theorem sc_need_number : FnScope N_need_number ["value", "least", "most"] (defScope s_need_number) := ⟨rfl, rfl, rfl, by decide +kernel, rfl, by decide +kernel, by decide +kernel⟩
def okLow (i : Int) (l : D) : Prop := l = .non ∨ ∃ j, l = .int j ∧ j ≤ i
def okHigh (i : Int) (l : D) : Prop := l = .non ∨ ∃ j, l = .int j ∧ i ≤ j
def S_need_number : SA := fun ds Q _ => ∃ (i : Int) (l h : D), ds = [.int i, l, h] ∧ okLow i l ∧ okHigh i h ∧ Q .non
theorem ok_need_number (Gz : Gs mg) (F : FnP K "need_number" s_need_number [.non, .non] f fd) {f_is_integer : Addr} {fd_is_integer : FuncData} (G_is_integer : OwnF P w K mg base "is_integer" 1 f_is_integer fd_is_integer ["value"] (spA K T S_is_integer)) (b_is_integer : Binds K fd_is_integer ["value"] []) : FnOk P w K mg base (L2.CX P w) 2 f fd ["value", "least", "most"] (spA K T S_need_number) := by
  refine bodyA F sc_need_number (fun ds QD ED h => by obtain ⟨i, l, h, rfl, _⟩ := h; rfl) (fun cdv A outer s H E g hT hr => ?_)
  have tk := takes_of (X := cxOf (L2.CX P w) P w K mg base N_need_number "need_number" (defScope s_need_number) f cdv A outer s H E) rfl rfl rfl rfl
  have hp := passes_of (X := cxOf (L2.CX P w) P w K mg base N_need_number "need_number" (defScope s_need_number) f cdv A outer s H E) rfl
  have hu := hu_of hr
  refine ⟨_, (pxb_cons (pxs_if (pxt_not (pxt_val (px_own G_is_integer b_is_integer hT (hr.mono (by decide)) tk (pxa_cons (px_var 0) pxa_nil))))
    (pxb_one pxs_never)
    pxb_nil)
    (pxb_one (pxs_if (PXW.pxt (pxw_or (PXW.pxt (pxw_and (pxt_cmp od_notN (px_var 1) px_non (nomark _)) (pxw_and1 (pxt_cmp od_lt (px_var 0) (px_var 1) (nomark _))))) (pxw_or1 (PXW.pxt (pxw_and (pxt_cmp od_notN (px_var 2) px_non (nomark _)) (pxw_and1 (pxt_cmp od_gt (px_var 0) (px_var 2) (nomark _))))))))
    (pxb_one pxs_never)
    pxb_nil))), ?_⟩
  intro ds QD ED h
  obtain ⟨i, l, u, rfl, hl, hu', q⟩ := h
  walk_at "s"
  refine ⟨_, rfl, rfl, ?_⟩
  walk_at "i" <;> intro hc
  · cases hc
  · rcases hl with rfl | ⟨j, rfl, hl⟩
    · rcases hu' with rfl | ⟨k, rfl, hh⟩
      · walk_at "i" <;> intro hc
        · cases hc
        · walk_at "i" <;> intro hc
          · cases hc
          · walk_at "i" <;> intro hc
            · cases hc
            · walk_at "i" <;> intro hc
              · cases hc
              · exact q
      · walk_at "i" <;> intro hc
        · cases hc
        · walk_at "i" <;> intro hc
          · cases hc
          · walk_at "i" <;> intro hc
            · walk_at "i" <;> intro hc
              · exact absurd (of_decide_eq_true hc) (by omega)
              · exact q
            · cases hc
    · rcases hu' with rfl | ⟨k, rfl, hh⟩
      · walk_at "i" <;> intro hc
        · walk_at "i" <;> intro hc
          · exact absurd (of_decide_eq_true hc) (by omega)
          · walk_at "i" <;> intro hc
            · cases hc
            · walk_at "i" <;> intro hc
              · cases hc
              · exact q
        · cases hc
      · walk_at "i" <;> intro hc
        · walk_at "i" <;> intro hc
          · exact absurd (of_decide_eq_true hc) (by omega)
          · walk_at "i" <;> intro hc
            · walk_at "i" <;> intro hc
              · exact absurd (of_decide_eq_true hc) (by omega)
              · exact q
            · cases hc
        · cases hc
def ruleD (p q c : Int) : D := .tup [.int p, .int q, .int c]
theorem gcd_step {a b : Int} (ha : 0 ≤ a) (hb : 0 < b) : Int.gcd b (a % b) = Int.gcd a b := by
  obtain ⟨m, rfl⟩ := Int.eq_ofNat_of_zero_le ha
  obtain ⟨n, rfl⟩ := Int.eq_ofNat_of_zero_le (Int.le_of_lt hb)
  show Nat.gcd n (m % n) = Nat.gcd m n
  rw [Nat.gcd_comm n, ← Nat.gcd_rec, Nat.gcd_comm]
theorem gcd_z {a : Int} (ha : 0 ≤ a) : ((Int.gcd a 0 : Nat) : Int) = a := by
  rw [Int.gcd_zero_right]; omega

abbrev s_common_divisor : Stmt := topS 6
abbrev N_common_divisor : List Str := ["one", "other"]
theorem sc_common_divisor : FnScope N_common_divisor ["one", "other"] (defScope s_common_divisor) := ⟨rfl, rfl, rfl, by decide +kernel, rfl, by decide +kernel, by decide +kernel⟩
def S_common_divisor : SA := fun ds Q _ => ∃ a b : Int, ds = [.int a, .int b] ∧ 0 ≤ a ∧ 0 ≤ b ∧ Q (.int (Int.gcd a b))
theorem binds_common_divisor (F : FnP K "common_divisor" s_common_divisor [] f fd) : Binds K fd ["one", "other"] [] := F.bindsN (ps := ["one", "other"]) fun _ _ _ _ _ _ us hl => match us, hl with | [_, _], _ => rfl
theorem ok_common_divisor (Gz : Gs mg) (F : FnP K "common_divisor" s_common_divisor [] f fd)  : FnOk P w K mg base (L2.CX P w) 1 f fd ["one", "other"] (spA K T S_common_divisor) := by
  refine bodyA F sc_common_divisor (fun ds QD ED h => by obtain ⟨a, b, rfl, _⟩ := h; rfl) (fun cdv A outer s H E g hT hr => ?_)
  have tk := takes_of (X := cxOf (L2.CX P w) P w K mg base N_common_divisor "common_divisor" (defScope s_common_divisor) f cdv A outer s H E) rfl rfl rfl rfl
  have hp := passes_of (X := cxOf (L2.CX P w) P w K mg base N_common_divisor "common_divisor" (defScope s_common_divisor) f cdv A outer s H E) rfl
  have hu := hu_of hr
  refine ⟨_, (pxb_cons (pxs_while hp (pxt_cmp od_gt (px_var 1) px_int (nomark _))
    (pxb_one (pxs_par (i := 0) (j := 1) rfl sc_common_divisor.nd rfl rfl (by decide) rfl rfl (pxa_cons (px_var 1) (pxa_cons (px_op od_mod (px_var 0) (px_var 1)) pxa_nil)) (by rfl))))
    (pxb_one (pxs_ret (px_var 0)))), ?_⟩
  intro ds QD ED h
  obtain ⟨a, b, rfl, ha, hb, q⟩ := h
  refine ⟨fun k ds => ∃ x y, ds = ⟨[some (.d (.int x)), some (.d (.int y))], []⟩ ∧ 0 ≤ x ∧ 0 ≤ y ∧ k = y.toNat ∧ Int.gcd x y = Int.gcd a b, ⟨_, a, b, rfl, ha, hb, rfl, rfl⟩, ?_⟩
  rintro k ds ⟨x, y, rfl, hx, hy, rfl, e⟩
  walk_at "i" <;> intro hc
  · have hc := of_decide_eq_true hc
    walk_at "s"
    have hm := natAbs_mod (i := x) hc
    exact ⟨hc, _, (by omega : (x % y).toNat < y.toNat), _, _, rfl, hy, hm.1, rfl, (gcd_step hx hc).trans e⟩
  · have hc := of_decide_eq_false hc
    have hy0 : y = 0 := by omega
    subst hy0
    walk_at "s"
    rw [← e, gcd_z hx] at q
    exact q

abbrev s_is_reduced : Stmt := topS 7
abbrev N_is_reduced : List Str := ["p", "q"]
theorem sc_is_reduced : FnScope N_is_reduced ["p", "q"] (defScope s_is_reduced) := ⟨rfl, rfl, rfl, by decide +kernel, rfl, by decide +kernel, by decide +kernel⟩
def S_is_reduced : SA := fun ds Q _ => ∃ p q : Int, ds = [.int p, .int q] ∧ 0 ≤ p ∧ 1 ≤ q ∧ Int.gcd p q = 1 ∧ Q (.bl true)
theorem binds_is_reduced (F : FnP K "is_reduced" s_is_reduced [] f fd) : Binds K fd ["p", "q"] [] := F.bindsN (ps := ["p", "q"]) fun _ _ _ _ _ _ us hl => match us, hl with | [_, _], _ => rfl
theorem ok_is_reduced (Gz : Gs mg) (F : FnP K "is_reduced" s_is_reduced [] f fd) {f_common_divisor : Addr} {fd_common_divisor : FuncData} (G_common_divisor : OwnF P w K mg base "common_divisor" 1 f_common_divisor fd_common_divisor ["one", "other"] (spA K T S_common_divisor)) (b_common_divisor : Binds K fd_common_divisor ["one", "other"] []) : FnOk P w K mg base (L2.CX P w) 2 f fd ["p", "q"] (spA K T S_is_reduced) := by
  refine bodyA F sc_is_reduced (fun ds QD ED h => by obtain ⟨p, q, rfl, _⟩ := h; rfl) (fun cdv A outer s H E g hT hr => ?_)
  have tk := takes_of (X := cxOf (L2.CX P w) P w K mg base N_is_reduced "is_reduced" (defScope s_is_reduced) f cdv A outer s H E) rfl rfl rfl rfl
  have hp := passes_of (X := cxOf (L2.CX P w) P w K mg base N_is_reduced "is_reduced" (defScope s_is_reduced) f cdv A outer s H E) rfl
  have hu := hu_of hr
  refine ⟨_, (pxb_one (pxs_ret (px_and (px_cmp od_ge (px_var 0) px_int (nomark _)) (px_and (px_cmp od_ge (px_var 1) px_int (nomark _)) (px_one (px_cmp (od_eq hr.units) (px_own G_common_divisor b_common_divisor hT (hr.mono (by decide)) tk (pxa_cons (px_var 0) (pxa_cons (px_var 1) pxa_nil))) px_int (nomark _))))))), ?_⟩
  intro ds QD ED h
  obtain ⟨x, y, rfl, hx, hy, e, q⟩ := h
  walk_at "i" <;> intro hc
  · walk_at "i" <;> intro hc
    · walk_at "s"
      refine ⟨x, y, rfl, hx, by omega, ?_⟩
      walk_at "s"
      rw [e]
      exact q
    · exact absurd (of_decide_eq_false hc) (by omega)
  · exact absurd (of_decide_eq_false hc) (by omega)

abbrev s_is_rule : Stmt := topS 8
abbrev N_is_rule : List Str := ["value", "part"]
theorem sc_is_rule : FnScope N_is_rule ["value"] (defScope s_is_rule) := ⟨rfl, rfl, rfl, by decide +kernel, rfl, by decide +kernel, by decide +kernel⟩
def S_is_rule : SA := fun ds Q _ => ∃ p q c : Int, ds = [ruleD p q c] ∧ 0 ≤ p ∧ 1 ≤ q ∧ Int.gcd p q = 1 ∧ Q (.bl true)
theorem binds_is_rule (F : FnP K "is_rule" s_is_rule [] f fd) : Binds K fd ["value"] [] := F.bindsN (ps := ["value"]) fun _ _ _ _ _ _ us hl => match us, hl with | [_], _ => rfl
theorem ok_is_rule (Gz : Gs mg) (F : FnP K "is_rule" s_is_rule [] f fd) {f_is_reduced : Addr} {fd_is_reduced : FuncData} (G_is_reduced : OwnF P w K mg base "is_reduced" 2 f_is_reduced fd_is_reduced ["p", "q"] (spA K T S_is_reduced)) (b_is_reduced : Binds K fd_is_reduced ["p", "q"] []) {f_is_integer : Addr} {fd_is_integer : FuncData} (G_is_integer : OwnF P w K mg base "is_integer" 1 f_is_integer fd_is_integer ["value"] (spA K T S_is_integer)) (b_is_integer : Binds K fd_is_integer ["value"] []) : FnOk P w K mg base (L2.CX P w) 3 f fd ["value"] (spA K T S_is_rule) := by
  refine bodyA F sc_is_rule (fun ds QD ED h => by obtain ⟨p, q, c, rfl, _⟩ := h; rfl) (fun cdv A outer s H E g hT hr => ?_)
  have tk := takes_of (X := cxOf (L2.CX P w) P w K mg base N_is_rule "is_rule" (defScope s_is_rule) f cdv A outer s H E) rfl rfl rfl rfl
  have hp := passes_of (X := cxOf (L2.CX P w) P w K mg base N_is_rule "is_rule" (defScope s_is_rule) f cdv A outer s H E) rfl
  have hu := hu_of hr
  refine ⟨_, (pxb_one (pxs_ret (px_and (px_callB cd_isiTuple (by rfl) Gz.z_isinstance bt_isinstance (pxa_cons (px_var 0) (pxa_cons (px_ty (by rfl) Gz.z_tuple bt_tuple) pxa_nil))) (px_and (px_cmp (od_eq hr.units) (px_callB cd_len (by rfl) Gz.z_len bt_len (pxa_cons (px_var 0) pxa_nil)) px_int (nomark _)) (px_and (px_callB (cd_all rfl) (by rfl) Gz.z_all bt_all (pxa_cons (px_lc (own := [("part", 1)]) rfl sc_is_rule.nd (pxi_seq (px_var 0)) (blkOk_by (N := N_is_rule) (sc := defScope s_is_rule) (by decide +kernel)) (fun _ _ _ _ _ => (pxc_name (i := 1) sc_is_rule.nd rfl (by first | exact .inl rfl | exact .inr rfl) (by decide))) (fun _ _ _ _ _ => pxts_nil) (fun g _ _ _ _ _ hT2 => have hT := hT2.trans hT; have tk := takes0; (px_own G_is_integer b_is_integer hT (hr.mono (by decide)) tk (pxa_cons (px_var 1) pxa_nil)))) pxa_nil)) (px_one (px_own G_is_reduced b_is_reduced hT (hr.mono (by decide)) tk (pxa_cons (px_ixN (k := 0) (px_var 0)) (pxa_cons (px_ixN (k := 1) (px_var 0)) pxa_nil))))))))), ?_⟩
  intro ds QD ED h
  obtain ⟨x, y, z, rfl, hx, hy, e, q⟩ := h
  walk_at "s"
  refine ⟨rfl, rfl, ?_⟩
  walk_at "i" <;> intro hc
  rotate_left
  · cases hc
  walk_at "i" <;> intro hc
  rotate_left
  · cases hc
  walk_at "s"
  refine ⟨sz' rfl, ?_⟩
  walk_at "i" <;> intro hc
  rotate_left
  · cases hc
  walk_at "s"
  refine ⟨_, rfl, rfl, ?_⟩
  walk_at "i" <;> intro hc
  rotate_left
  · cases hc
  walk_at "s"
  refine ⟨_, rfl, rfl, ?_⟩
  walk_at "i" <;> intro hc
  rotate_left
  · cases hc
  walk_at "s"
  refine ⟨_, rfl, rfl, ?_⟩
  walk_at "s"
  refine ⟨[true, true, true], rfl, ?_⟩
  walk_at "i" <;> intro hc
  rotate_left
  · cases hc
  walk_at "s"
  exact ⟨x, y, rfl, hx, hy, e, q⟩

abbrev s_need_rule : Stmt := topS 9
abbrev N_need_rule : List Str := ["value"]
theorem sc_need_rule : FnScope N_need_rule ["value"] (defScope s_need_rule) := ⟨rfl, rfl, rfl, by decide +kernel, rfl, by decide +kernel, by decide +kernel⟩
def S_need_rule : SA := fun ds Q _ => ∃ p q c : Int, ds = [ruleD p q c] ∧ 0 ≤ p ∧ 1 ≤ q ∧ Int.gcd p q = 1 ∧ Q .non
theorem binds_need_rule (F : FnP K "need_rule" s_need_rule [] f fd) : Binds K fd ["value"] [] := F.bindsN (ps := ["value"]) fun _ _ _ _ _ _ us hl => match us, hl with | [_], _ => rfl
theorem ok_need_rule (Gz : Gs mg) (F : FnP K "need_rule" s_need_rule [] f fd) {f_is_rule : Addr} {fd_is_rule : FuncData} (G_is_rule : OwnF P w K mg base "is_rule" 3 f_is_rule fd_is_rule ["value"] (spA K T S_is_rule)) (b_is_rule : Binds K fd_is_rule ["value"] []) : FnOk P w K mg base (L2.CX P w) 4 f fd ["value"] (spA K T S_need_rule) := by
  refine bodyA F sc_need_rule (fun ds QD ED h => by obtain ⟨p, q, c, rfl, _⟩ := h; rfl) (fun cdv A outer s H E g hT hr => ?_)
  have tk := takes_of (X := cxOf (L2.CX P w) P w K mg base N_need_rule "need_rule" (defScope s_need_rule) f cdv A outer s H E) rfl rfl rfl rfl
  have hp := passes_of (X := cxOf (L2.CX P w) P w K mg base N_need_rule "need_rule" (defScope s_need_rule) f cdv A outer s H E) rfl
  have hu := hu_of hr
  refine ⟨_, (pxb_one (pxs_if (pxt_not (pxt_val (px_own G_is_rule b_is_rule hT (hr.mono (by decide)) tk (pxa_cons (px_var 0) pxa_nil))))
    (pxb_one pxs_never)
    pxb_nil)), ?_⟩
  intro ds QD ED h
  obtain ⟨x, y, z, rfl, hx, hy, e, q⟩ := h
  walk_at "s"
  refine ⟨x, y, z, rfl, hx, hy, e, ?_⟩
  walk_at "i" <;> intro hc
  · cases hc
  · exact q

abbrev s_reduced : Stmt := topS 12
abbrev N_reduced : List Str := ["p", "q", "c", "divisor"]
theorem sc_reduced : FnScope N_reduced ["p", "q", "c"] (defScope s_reduced) := ⟨rfl, rfl, rfl, by decide +kernel, rfl, by decide +kernel, by decide +kernel⟩
def S_reduced : SA := fun ds Q _ => ∃ p q c : Int, ds = [.int p, .int q, .int c] ∧ 0 ≤ p ∧ 1 ≤ q ∧ Bd 6000 q ∧ Q (ruleD (Rl.red p q c).1 (Rl.red p q c).2.1 (Rl.red p q c).2.2)
theorem binds_reduced (F : FnP K "reduced" s_reduced [] f fd) : Binds K fd ["p", "q", "c"] [] := F.bindsN (ps := ["p", "q", "c"]) fun _ _ _ _ _ _ us hl => match us, hl with | [_, _, _], _ => rfl
theorem ok_reduced (Gz : Gs mg) (F : FnP K "reduced" s_reduced [] f fd) {f_common_divisor : Addr} {fd_common_divisor : FuncData} (G_common_divisor : OwnF P w K mg base "common_divisor" 1 f_common_divisor fd_common_divisor ["one", "other"] (spA K T S_common_divisor)) (b_common_divisor : Binds K fd_common_divisor ["one", "other"] []) : FnOk P w K mg base (L2.CX P w) 2 f fd ["p", "q", "c"] (spA K T S_reduced) := by
  refine bodyA F sc_reduced (fun ds QD ED h => by obtain ⟨p, q, c, rfl, _⟩ := h; rfl) (fun cdv A outer s H E g hT hr => ?_)
  have tk := takes_of (X := cxOf (L2.CX P w) P w K mg base N_reduced "reduced" (defScope s_reduced) f cdv A outer s H E) rfl rfl rfl rfl
  have hp := passes_of (X := cxOf (L2.CX P w) P w K mg base N_reduced "reduced" (defScope s_reduced) f cdv A outer s H E) rfl
  have hu := hu_of hr
  refine ⟨_, (pxb_cons (pxs_set (i := 3) sc_reduced.nd rfl (by first | exact .inl rfl | exact .inr rfl) (px_own G_common_divisor b_common_divisor hT (hr.mono (by decide)) tk (pxa_cons (px_var 0) (pxa_cons (px_var 1) pxa_nil))))
    (pxb_one (pxs_ret (px_tup (pxa_cons (px_op od_div (px_var 0) (px_var 3)) (pxa_cons (px_op od_div (px_var 1) (px_var 3)) (pxa_cons (px_op od_div (px_var 2) (px_var 3)) pxa_nil))))))), ?_⟩
  intro ds QD ED h
  obtain ⟨p, y, c, rfl, hp0, hy, bq, q⟩ := h
  obtain ⟨hg, hgq⟩ := Rl.gd_pos hp0 hy
  have bg : Bd 6000 (Rl.gd p y) := bq.lt (by omega) hgq
  walk_at "s"
  refine ⟨p, y, rfl, hp0, by omega, ?_⟩
  walk_at "s"
  refine ⟨bg.divW hg, ?_⟩
  walk_at "s"
  refine ⟨bg.divW hg, ?_⟩
  walk_at "s"
  refine ⟨bg.divW hg, ?_⟩
  walk_at "s"
  exact ⟨sz rfl, q⟩

abbrev s_count_at : Stmt := topS 13
abbrev N_count_at : List Str := ["rule", "time", "p", "q", "c"]
theorem sc_count_at : FnScope N_count_at ["rule", "time"] (defScope s_count_at) := ⟨rfl, rfl, rfl, by decide +kernel, rfl, by decide +kernel, by decide +kernel⟩
def S_count_at : SA := fun ds Q _ => ∃ p q c t : Int, ds = [ruleD p q c, .int t] ∧ 1 ≤ q ∧ Bd 6000 p ∧ Bd 6000 q ∧ Bd 6000 t ∧ Q (.int ((p * t + c) / q))
theorem binds_count_at (F : FnP K "count_at" s_count_at [] f fd) : Binds K fd ["rule", "time"] [] := F.bindsN (ps := ["rule", "time"]) fun _ _ _ _ _ _ us hl => match us, hl with | [_, _], _ => rfl
theorem ok_count_at (Gz : Gs mg) (F : FnP K "count_at" s_count_at [] f fd)  : FnOk P w K mg base (L2.CX P w) 1 f fd ["rule", "time"] (spA K T S_count_at) := by
  refine bodyA F sc_count_at (fun ds QD ED h => by obtain ⟨p, q, c, t, rfl, _⟩ := h; rfl) (fun cdv A outer s H E g hT hr => ?_)
  have tk := takes_of (X := cxOf (L2.CX P w) P w K mg base N_count_at "count_at" (defScope s_count_at) f cdv A outer s H E) rfl rfl rfl rfl
  have hp := passes_of (X := cxOf (L2.CX P w) P w K mg base N_count_at "count_at" (defScope s_count_at) f cdv A outer s H E) rfl
  have hu := hu_of hr
  refine ⟨_, (pxb_cons (pxs_asg (px_var 0) (pxg_tup rfl (pxgs_cons (pxg_name (i := 2) sc_count_at.nd rfl (by first | exact .inl rfl | exact .inr rfl)) (pxgs_cons (pxg_name (i := 3) sc_count_at.nd rfl (by first | exact .inl rfl | exact .inr rfl)) (pxgs_cons (pxg_name (i := 4) sc_count_at.nd rfl (by first | exact .inl rfl | exact .inr rfl)) pxgs_nil)))))
    (pxb_one (pxs_ret (px_op od_div (px_op od_add (px_op od_mul (px_var 2) (px_var 1)) (px_var 4)) (px_var 3))))), ?_⟩
  intro ds QD ED h
  obtain ⟨p, y, c, t, rfl, hy, bp, bq, bt, q⟩ := h
  walk_at "s"
  refine ⟨rfl, ?_⟩
  walk_at "s"
  refine ⟨bp.mulW bt, ?_⟩
  walk_at "s"
  refine ⟨bq.divW (by omega), ?_⟩
  exact q

abbrev s_count : Stmt := topS 14
abbrev N_count : List Str := ["rule", "time"]
theorem sc_count : FnScope N_count ["rule", "time"] (defScope s_count) := ⟨rfl, rfl, rfl, by decide +kernel, rfl, by decide +kernel, by decide +kernel⟩
def S_count : SA := fun ds Q _ => ∃ p q c t : Int, ds = [ruleD p q c, .int t] ∧ Rl.Ok p q ∧ Bd 6000 p ∧ Bd 6000 q ∧ Bd 6000 t ∧ Q (.int ((p * t + c) / q))
theorem binds_count (F : FnP K "count" s_count [] f fd) : Binds K fd ["rule", "time"] [] := F.bindsN (ps := ["rule", "time"]) fun _ _ _ _ _ _ us hl => match us, hl with | [_, _], _ => rfl
theorem ok_count (Gz : Gs mg) (F : FnP K "count" s_count [] f fd) {f_count_at : Addr} {fd_count_at : FuncData} (G_count_at : OwnF P w K mg base "count_at" 1 f_count_at fd_count_at ["rule", "time"] (spA K T S_count_at)) (b_count_at : Binds K fd_count_at ["rule", "time"] []) {f_need_number : Addr} {fd_need_number : FuncData} (G_need_number : OwnF P w K mg base "need_number" 2 f_need_number fd_need_number ["value", "least", "most"] (spA K T S_need_number)) {f_need_rule : Addr} {fd_need_rule : FuncData} (G_need_rule : OwnF P w K mg base "need_rule" 4 f_need_rule fd_need_rule ["value"] (spA K T S_need_rule)) (b_need_rule : Binds K fd_need_rule ["value"] []) (D_need_number_1 : DB K fd_need_number ["value", "least", "most"] [.non, .non]) : FnOk P w K mg base (L2.CX P w) 5 f fd ["rule", "time"] (spA K T S_count) := by
  refine bodyA F sc_count (fun ds QD ED h => by obtain ⟨p, q, c, t, rfl, _⟩ := h; rfl) (fun cdv A outer s H E g hT hr => ?_)
  have tk := takes_of (X := cxOf (L2.CX P w) P w K mg base N_count "count" (defScope s_count) f cdv A outer s H E) rfl rfl rfl rfl
  have hp := passes_of (X := cxOf (L2.CX P w) P w K mg base N_count "count" (defScope s_count) f cdv A outer s H E) rfl
  have hu := hu_of hr
  refine ⟨_, (pxb_cons (pxs_expr (px_own G_need_rule b_need_rule hT (hr.mono (by decide)) tk (pxa_cons (px_var 0) pxa_nil)))
    (pxb_cons (pxs_expr (px_ownD G_need_number D_need_number_1 hT (hr.mono (by decide)) tk (pxa_cons (px_var 1) pxa_nil)))
    (pxb_one (pxs_ret (px_own G_count_at b_count_at hT (hr.mono (by decide)) tk (pxa_cons (px_var 0) (pxa_cons (px_var 1) pxa_nil))))))), ?_⟩
  intro ds QD ED h
  obtain ⟨p, y, c, t, rfl, ok, bp, bq, bt, q⟩ := h
  walk_at "s"
  refine ⟨p, y, c, rfl, ok.1, ok.2.1, ok.2.2, ?_⟩
  walk_at "s"
  refine ⟨t, _, _, rfl, .inl rfl, .inl rfl, ?_⟩
  walk_at "s"
  exact ⟨p, y, c, t, rfl, ok.2.1, bp, bq, bt, q⟩

abbrev s_moved : Stmt := topS 15
abbrev N_moved : List Str := ["rule", "time", "amount", "p", "q", "c"]
theorem sc_moved : FnScope N_moved ["rule", "time", "amount"] (defScope s_moved) := ⟨rfl, rfl, rfl, by decide +kernel, rfl, by decide +kernel, by decide +kernel⟩
def S_moved : SA := fun ds Q _ => ∃ p q c t m : Int, ds = [ruleD p q c, .int t, .int m] ∧ Bd 6000 p ∧ Bd 6000 q ∧ Bd 6000 t ∧ Bd 6000 m ∧ Q (ruleD p q (c + p * t + q * m))
theorem binds_moved (F : FnP K "moved" s_moved [] f fd) : Binds K fd ["rule", "time", "amount"] [] := F.bindsN (ps := ["rule", "time", "amount"]) fun _ _ _ _ _ _ us hl => match us, hl with | [_, _, _], _ => rfl
theorem ok_moved (Gz : Gs mg) (F : FnP K "moved" s_moved [] f fd)  : FnOk P w K mg base (L2.CX P w) 1 f fd ["rule", "time", "amount"] (spA K T S_moved) := by
  refine bodyA F sc_moved (fun ds QD ED h => by obtain ⟨p, q, c, t, m, rfl, _⟩ := h; rfl) (fun cdv A outer s H E g hT hr => ?_)
  have tk := takes_of (X := cxOf (L2.CX P w) P w K mg base N_moved "moved" (defScope s_moved) f cdv A outer s H E) rfl rfl rfl rfl
  have hp := passes_of (X := cxOf (L2.CX P w) P w K mg base N_moved "moved" (defScope s_moved) f cdv A outer s H E) rfl
  have hu := hu_of hr
  refine ⟨_, (pxb_cons (pxs_asg (px_var 0) (pxg_tup rfl (pxgs_cons (pxg_name (i := 3) sc_moved.nd rfl (by first | exact .inl rfl | exact .inr rfl)) (pxgs_cons (pxg_name (i := 4) sc_moved.nd rfl (by first | exact .inl rfl | exact .inr rfl)) (pxgs_cons (pxg_name (i := 5) sc_moved.nd rfl (by first | exact .inl rfl | exact .inr rfl)) pxgs_nil)))))
    (pxb_one (pxs_ret (px_tup (pxa_cons (px_var 3) (pxa_cons (px_var 4) (pxa_cons (px_op od_add (px_op od_add (px_var 5) (px_op od_mul (px_var 3) (px_var 1))) (px_op od_mul (px_var 4) (px_var 2))) pxa_nil))))))), ?_⟩
  intro ds QD ED h
  obtain ⟨p, y, c, t, m, rfl, bp, bq, bt, bm, q⟩ := h
  walk_at "s"
  refine ⟨rfl, ?_⟩
  walk_at "s"
  refine ⟨bp.mulW bt, ?_⟩
  walk_at "s"
  refine ⟨bq.mulW bm, ?_⟩
  walk_at "s"
  exact ⟨sz rfl, q⟩

abbrev s_shift_rule : Stmt := topS 16
abbrev N_shift_rule : List Str := ["rule", "time", "amount"]
theorem sc_shift_rule : FnScope N_shift_rule ["rule", "time", "amount"] (defScope s_shift_rule) := ⟨rfl, rfl, rfl, by decide +kernel, rfl, by decide +kernel, by decide +kernel⟩
def S_shift_rule : SA := fun ds Q _ => ∃ p q c t m : Int, ds = [ruleD p q c, .int t, .int m] ∧ Rl.Ok p q ∧ Bd 6000 p ∧ Bd 6000 q ∧ Bd 6000 t ∧ Bd 6000 m ∧ Q (ruleD p q (c + p * t + q * m))
theorem binds_shift_rule (F : FnP K "shift_rule" s_shift_rule [] f fd) : Binds K fd ["rule", "time", "amount"] [] := F.bindsN (ps := ["rule", "time", "amount"]) fun _ _ _ _ _ _ us hl => match us, hl with | [_, _, _], _ => rfl
theorem ok_shift_rule (Gz : Gs mg) (F : FnP K "shift_rule" s_shift_rule [] f fd) {f_moved : Addr} {fd_moved : FuncData} (G_moved : OwnF P w K mg base "moved" 1 f_moved fd_moved ["rule", "time", "amount"] (spA K T S_moved)) (b_moved : Binds K fd_moved ["rule", "time", "amount"] []) {f_need_number : Addr} {fd_need_number : FuncData} (G_need_number : OwnF P w K mg base "need_number" 2 f_need_number fd_need_number ["value", "least", "most"] (spA K T S_need_number)) {f_need_rule : Addr} {fd_need_rule : FuncData} (G_need_rule : OwnF P w K mg base "need_rule" 4 f_need_rule fd_need_rule ["value"] (spA K T S_need_rule)) (b_need_rule : Binds K fd_need_rule ["value"] []) (D_need_number_1 : DB K fd_need_number ["value", "least", "most"] [.non, .non]) : FnOk P w K mg base (L2.CX P w) 5 f fd ["rule", "time", "amount"] (spA K T S_shift_rule) := by
  refine bodyA F sc_shift_rule (fun ds QD ED h => by obtain ⟨p, q, c, t, m, rfl, _⟩ := h; rfl) (fun cdv A outer s H E g hT hr => ?_)
  have tk := takes_of (X := cxOf (L2.CX P w) P w K mg base N_shift_rule "shift_rule" (defScope s_shift_rule) f cdv A outer s H E) rfl rfl rfl rfl
  have hp := passes_of (X := cxOf (L2.CX P w) P w K mg base N_shift_rule "shift_rule" (defScope s_shift_rule) f cdv A outer s H E) rfl
  have hu := hu_of hr
  refine ⟨_, (pxb_cons (pxs_expr (px_own G_need_rule b_need_rule hT (hr.mono (by decide)) tk (pxa_cons (px_var 0) pxa_nil)))
    (pxb_cons (pxs_expr (px_ownD G_need_number D_need_number_1 hT (hr.mono (by decide)) tk (pxa_cons (px_var 1) pxa_nil)))
    (pxb_cons (pxs_expr (px_ownD G_need_number D_need_number_1 hT (hr.mono (by decide)) tk (pxa_cons (px_var 2) pxa_nil)))
    (pxb_one (pxs_ret (px_own G_moved b_moved hT (hr.mono (by decide)) tk (pxa_cons (px_var 0) (pxa_cons (px_var 1) (pxa_cons (px_var 2) pxa_nil))))))))), ?_⟩
  intro ds QD ED h
  obtain ⟨p, y, c, t, m, rfl, ok, bp, bq, bt, bm, q⟩ := h
  walk_at "s"
  refine ⟨p, y, c, rfl, ok.1, ok.2.1, ok.2.2, ?_⟩
  walk_at "s"
  refine ⟨t, _, _, rfl, .inl rfl, .inl rfl, ?_⟩
  walk_at "s"
  refine ⟨m, _, _, rfl, .inl rfl, .inl rfl, ?_⟩
  walk_at "s"
  exact ⟨p, y, c, t, m, rfl, bp, bq, bt, bm, q⟩

abbrev s_mirrored : Stmt := topS 17
abbrev N_mirrored : List Str := ["rule", "p", "q", "c"]
theorem sc_mirrored : FnScope N_mirrored ["rule"] (defScope s_mirrored) := ⟨rfl, rfl, rfl, by decide +kernel, rfl, by decide +kernel, by decide +kernel⟩
def S_mirrored : SA := fun ds Q _ => ∃ p q c : Int, ds = [ruleD p q c] ∧ Q (ruleD p q (q - 1 - c))
theorem binds_mirrored (F : FnP K "mirrored" s_mirrored [] f fd) : Binds K fd ["rule"] [] := F.bindsN (ps := ["rule"]) fun _ _ _ _ _ _ us hl => match us, hl with | [_], _ => rfl
theorem ok_mirrored (Gz : Gs mg) (F : FnP K "mirrored" s_mirrored [] f fd)  : FnOk P w K mg base (L2.CX P w) 1 f fd ["rule"] (spA K T S_mirrored) := by
  refine bodyA F sc_mirrored (fun ds QD ED h => by obtain ⟨p, q, c, rfl, _⟩ := h; rfl) (fun cdv A outer s H E g hT hr => ?_)
  have tk := takes_of (X := cxOf (L2.CX P w) P w K mg base N_mirrored "mirrored" (defScope s_mirrored) f cdv A outer s H E) rfl rfl rfl rfl
  have hp := passes_of (X := cxOf (L2.CX P w) P w K mg base N_mirrored "mirrored" (defScope s_mirrored) f cdv A outer s H E) rfl
  have hu := hu_of hr
  refine ⟨_, (pxb_cons (pxs_asg (px_var 0) (pxg_tup rfl (pxgs_cons (pxg_name (i := 1) sc_mirrored.nd rfl (by first | exact .inl rfl | exact .inr rfl)) (pxgs_cons (pxg_name (i := 2) sc_mirrored.nd rfl (by first | exact .inl rfl | exact .inr rfl)) (pxgs_cons (pxg_name (i := 3) sc_mirrored.nd rfl (by first | exact .inl rfl | exact .inr rfl)) pxgs_nil)))))
    (pxb_one (pxs_ret (px_tup (pxa_cons (px_var 1) (pxa_cons (px_var 2) (pxa_cons (px_op od_sub (px_op od_sub (px_var 2) px_int) (px_var 3)) pxa_nil))))))), ?_⟩
  intro ds QD ED h
  obtain ⟨p, y, c, rfl, q⟩ := h
  walk_at "s"
  refine ⟨rfl, ?_⟩
  walk_at "s"
  exact ⟨sz rfl, q⟩

abbrev s_mirror_rule : Stmt := topS 18
abbrev N_mirror_rule : List Str := ["rule"]
theorem sc_mirror_rule : FnScope N_mirror_rule ["rule"] (defScope s_mirror_rule) := ⟨rfl, rfl, rfl, by decide +kernel, rfl, by decide +kernel, by decide +kernel⟩
def S_mirror_rule : SA := fun ds Q _ => ∃ p q c : Int, ds = [ruleD p q c] ∧ Rl.Ok p q ∧ Q (ruleD p q (q - 1 - c))
theorem binds_mirror_rule (F : FnP K "mirror_rule" s_mirror_rule [] f fd) : Binds K fd ["rule"] [] := F.bindsN (ps := ["rule"]) fun _ _ _ _ _ _ us hl => match us, hl with | [_], _ => rfl
theorem ok_mirror_rule (Gz : Gs mg) (F : FnP K "mirror_rule" s_mirror_rule [] f fd) {f_mirrored : Addr} {fd_mirrored : FuncData} (G_mirrored : OwnF P w K mg base "mirrored" 1 f_mirrored fd_mirrored ["rule"] (spA K T S_mirrored)) (b_mirrored : Binds K fd_mirrored ["rule"] []) {f_need_rule : Addr} {fd_need_rule : FuncData} (G_need_rule : OwnF P w K mg base "need_rule" 4 f_need_rule fd_need_rule ["value"] (spA K T S_need_rule)) (b_need_rule : Binds K fd_need_rule ["value"] []) : FnOk P w K mg base (L2.CX P w) 5 f fd ["rule"] (spA K T S_mirror_rule) := by
  refine bodyA F sc_mirror_rule (fun ds QD ED h => by obtain ⟨p, q, c, rfl, _⟩ := h; rfl) (fun cdv A outer s H E g hT hr => ?_)
  have tk := takes_of (X := cxOf (L2.CX P w) P w K mg base N_mirror_rule "mirror_rule" (defScope s_mirror_rule) f cdv A outer s H E) rfl rfl rfl rfl
  have hp := passes_of (X := cxOf (L2.CX P w) P w K mg base N_mirror_rule "mirror_rule" (defScope s_mirror_rule) f cdv A outer s H E) rfl
  have hu := hu_of hr
  refine ⟨_, (pxb_cons (pxs_expr (px_own G_need_rule b_need_rule hT (hr.mono (by decide)) tk (pxa_cons (px_var 0) pxa_nil)))
    (pxb_one (pxs_ret (px_own G_mirrored b_mirrored hT (hr.mono (by decide)) tk (pxa_cons (px_var 0) pxa_nil))))), ?_⟩
  intro ds QD ED h
  obtain ⟨p, y, c, rfl, ok, q⟩ := h
  walk_at "s"
  refine ⟨p, y, c, rfl, ok.1, ok.2.1, ok.2.2, ?_⟩
  walk_at "s"
  exact ⟨p, y, c, rfl, q⟩

abbrev s_thin_rule : Stmt := topS 19
abbrev N_thin_rule : List Str := ["rule", "k", "p", "q", "c"]
theorem sc_thin_rule : FnScope N_thin_rule ["rule", "k"] (defScope s_thin_rule) := ⟨rfl, rfl, rfl, by decide +kernel, rfl, by decide +kernel, by decide +kernel⟩
def S_thin_rule : SA := fun ds Q _ => ∃ p q c k : Int, ds = [ruleD p q c, .int k] ∧ Rl.Ok p q ∧ 1 ≤ k ∧ Bd 3000 q ∧ Bd 3000 k ∧ Q (ruleD (Rl.red p (k * q) c).1 (Rl.red p (k * q) c).2.1 (Rl.red p (k * q) c).2.2)
theorem binds_thin_rule (F : FnP K "thin_rule" s_thin_rule [] f fd) : Binds K fd ["rule", "k"] [] := F.bindsN (ps := ["rule", "k"]) fun _ _ _ _ _ _ us hl => match us, hl with | [_, _], _ => rfl
theorem ok_thin_rule (Gz : Gs mg) (F : FnP K "thin_rule" s_thin_rule [] f fd) {f_reduced : Addr} {fd_reduced : FuncData} (G_reduced : OwnF P w K mg base "reduced" 2 f_reduced fd_reduced ["p", "q", "c"] (spA K T S_reduced)) (b_reduced : Binds K fd_reduced ["p", "q", "c"] []) {f_need_number : Addr} {fd_need_number : FuncData} (G_need_number : OwnF P w K mg base "need_number" 2 f_need_number fd_need_number ["value", "least", "most"] (spA K T S_need_number)) {f_need_rule : Addr} {fd_need_rule : FuncData} (G_need_rule : OwnF P w K mg base "need_rule" 4 f_need_rule fd_need_rule ["value"] (spA K T S_need_rule)) (b_need_rule : Binds K fd_need_rule ["value"] []) (B_need_number_1_least : KB K fd_need_number ["value", "least", "most"] 1 ["least"] (fun l m => [l.getD 0 .non, m.getD 0 .non, .non])) : FnOk P w K mg base (L2.CX P w) 5 f fd ["rule", "k"] (spA K T S_thin_rule) := by
  refine bodyA F sc_thin_rule (fun ds QD ED h => by obtain ⟨p, q, c, k, rfl, _⟩ := h; rfl) (fun cdv A outer s H E g hT hr => ?_)
  have tk := takes_of (X := cxOf (L2.CX P w) P w K mg base N_thin_rule "thin_rule" (defScope s_thin_rule) f cdv A outer s H E) rfl rfl rfl rfl
  have hp := passes_of (X := cxOf (L2.CX P w) P w K mg base N_thin_rule "thin_rule" (defScope s_thin_rule) f cdv A outer s H E) rfl
  have hu := hu_of hr
  refine ⟨_, (pxb_cons (pxs_expr (px_own G_need_rule b_need_rule hT (hr.mono (by decide)) tk (pxa_cons (px_var 0) pxa_nil)))
    (pxb_cons (pxs_expr (px_ownK G_need_number B_need_number_1_least hT (hr.mono (by decide)) tk (pxa_cons (px_var 1) pxa_nil) (pxk_cons px_int pxk_nil)))
    (pxb_cons (pxs_asg (px_var 0) (pxg_tup rfl (pxgs_cons (pxg_name (i := 2) sc_thin_rule.nd rfl (by first | exact .inl rfl | exact .inr rfl)) (pxgs_cons (pxg_name (i := 3) sc_thin_rule.nd rfl (by first | exact .inl rfl | exact .inr rfl)) (pxgs_cons (pxg_name (i := 4) sc_thin_rule.nd rfl (by first | exact .inl rfl | exact .inr rfl)) pxgs_nil)))))
    (pxb_one (pxs_ret (px_own G_reduced b_reduced hT (hr.mono (by decide)) tk (pxa_cons (px_var 2) (pxa_cons (px_op od_mul (px_var 1) (px_var 3)) (pxa_cons (px_var 4) pxa_nil))))))))), ?_⟩
  intro ds QD ED h
  obtain ⟨p, y, c, k, rfl, ok, hk, bq, bk, q⟩ := h
  have hy := ok.2.1
  walk_at "s"
  refine ⟨p, y, c, rfl, ok.1, ok.2.1, ok.2.2, ?_⟩
  walk_at "s"
  refine ⟨⟨rfl, rfl⟩, k, _, _, rfl, .inr ⟨1, rfl, hk⟩, .inl rfl, ?_⟩
  walk_at "s"
  refine ⟨rfl, ?_⟩
  walk_at "s"
  refine ⟨bk.mulW bq, ?_⟩
  walk_at "s"
  have : 0 < k * y := Int.mul_pos (by omega) (by omega)
  exact ⟨p, k * y, c, rfl, ok.1, by omega, bk.mul bq, q⟩

abbrev s_sample_rule : Stmt := topS 20
abbrev N_sample_rule : List Str := ["rule", "k", "p", "q", "c"]
theorem sc_sample_rule : FnScope N_sample_rule ["rule", "k"] (defScope s_sample_rule) := ⟨rfl, rfl, rfl, by decide +kernel, rfl, by decide +kernel, by decide +kernel⟩
def S_sample_rule : SA := fun ds Q _ => ∃ p q c k : Int, ds = [ruleD p q c, .int k] ∧ Rl.Ok p q ∧ 1 ≤ k ∧ Bd 3000 p ∧ Bd 3000 q ∧ Bd 3000 k ∧ Q (ruleD (Rl.red (k * p) q c).1 (Rl.red (k * p) q c).2.1 (Rl.red (k * p) q c).2.2)
theorem binds_sample_rule (F : FnP K "sample_rule" s_sample_rule [] f fd) : Binds K fd ["rule", "k"] [] := F.bindsN (ps := ["rule", "k"]) fun _ _ _ _ _ _ us hl => match us, hl with | [_, _], _ => rfl
theorem ok_sample_rule (Gz : Gs mg) (F : FnP K "sample_rule" s_sample_rule [] f fd) {f_reduced : Addr} {fd_reduced : FuncData} (G_reduced : OwnF P w K mg base "reduced" 2 f_reduced fd_reduced ["p", "q", "c"] (spA K T S_reduced)) (b_reduced : Binds K fd_reduced ["p", "q", "c"] []) {f_need_number : Addr} {fd_need_number : FuncData} (G_need_number : OwnF P w K mg base "need_number" 2 f_need_number fd_need_number ["value", "least", "most"] (spA K T S_need_number)) {f_need_rule : Addr} {fd_need_rule : FuncData} (G_need_rule : OwnF P w K mg base "need_rule" 4 f_need_rule fd_need_rule ["value"] (spA K T S_need_rule)) (b_need_rule : Binds K fd_need_rule ["value"] []) (B_need_number_1_least : KB K fd_need_number ["value", "least", "most"] 1 ["least"] (fun l m => [l.getD 0 .non, m.getD 0 .non, .non])) : FnOk P w K mg base (L2.CX P w) 5 f fd ["rule", "k"] (spA K T S_sample_rule) := by
  refine bodyA F sc_sample_rule (fun ds QD ED h => by obtain ⟨p, q, c, k, rfl, _⟩ := h; rfl) (fun cdv A outer s H E g hT hr => ?_)
  have tk := takes_of (X := cxOf (L2.CX P w) P w K mg base N_sample_rule "sample_rule" (defScope s_sample_rule) f cdv A outer s H E) rfl rfl rfl rfl
  have hp := passes_of (X := cxOf (L2.CX P w) P w K mg base N_sample_rule "sample_rule" (defScope s_sample_rule) f cdv A outer s H E) rfl
  have hu := hu_of hr
  refine ⟨_, (pxb_cons (pxs_expr (px_own G_need_rule b_need_rule hT (hr.mono (by decide)) tk (pxa_cons (px_var 0) pxa_nil)))
    (pxb_cons (pxs_expr (px_ownK G_need_number B_need_number_1_least hT (hr.mono (by decide)) tk (pxa_cons (px_var 1) pxa_nil) (pxk_cons px_int pxk_nil)))
    (pxb_cons (pxs_asg (px_var 0) (pxg_tup rfl (pxgs_cons (pxg_name (i := 2) sc_sample_rule.nd rfl (by first | exact .inl rfl | exact .inr rfl)) (pxgs_cons (pxg_name (i := 3) sc_sample_rule.nd rfl (by first | exact .inl rfl | exact .inr rfl)) (pxgs_cons (pxg_name (i := 4) sc_sample_rule.nd rfl (by first | exact .inl rfl | exact .inr rfl)) pxgs_nil)))))
    (pxb_one (pxs_ret (px_own G_reduced b_reduced hT (hr.mono (by decide)) tk (pxa_cons (px_op od_mul (px_var 1) (px_var 2)) (pxa_cons (px_var 3) (pxa_cons (px_var 4) pxa_nil))))))))), ?_⟩
  intro ds QD ED h
  obtain ⟨p, y, c, k, rfl, ok, hk, bp, bq, bk, q⟩ := h
  have hy := ok.2.1
  walk_at "s"
  refine ⟨p, y, c, rfl, ok.1, ok.2.1, ok.2.2, ?_⟩
  walk_at "s"
  refine ⟨⟨rfl, rfl⟩, k, _, _, rfl, .inr ⟨1, rfl, hk⟩, .inl rfl, ?_⟩
  walk_at "s"
  refine ⟨rfl, ?_⟩
  walk_at "s"
  refine ⟨bk.mulW bp, ?_⟩
  walk_at "s"
  exact ⟨k * p, y, c, rfl, Int.mul_nonneg (by omega) ok.1, hy, bq.mono (by decide), q⟩
abbrev PK : List Key := pkey "turn" "rest"
theorem cut_pen (ns : List Int) (h : ns.length ≤ 63) : L3.cutD (ns.map D.int) none (some 63) = ns.map D.int := by
  unfold L3.cutD
  simp only [HT.sIx, List.length_map]
  rw [List.drop_zero]
  refine List.take_of_length_le ?_
  rw [List.length_map]
  simp
  omega
theorem prime_at {i : Int} (h0 : 0 ≤ i) (h1 : i < 5) : ∃ p : Int, atI [D.int 2147483647, D.int 2147483629, D.int 2147483587, D.int 2147483579, D.int 2147483563] i = some (.int p) ∧ 0 < p ∧ Bd 31 p := by
  obtain ⟨y, h, hm, _⟩ := atI_in (l := [D.int 2147483647, D.int 2147483629, D.int 2147483587, D.int 2147483579, D.int 2147483563]) h0 h1
  have hm : y = .int 2147483647 ∨ y = .int 2147483629 ∨ y = .int 2147483587 ∨ y = .int 2147483579 ∨ y = .int 2147483563 := by simpa using hm
  rcases hm with rfl | rfl | rfl | rfl | rfl <;> exact ⟨_, h, by decide, by unfold Bd; decide⟩

abbrev s__law_pen : Stmt := topS 22
abbrev N__law_pen : List Str := ["_law_script"]
theorem sc__law_pen : FnScope N__law_pen ["_law_script"] (defScope s__law_pen) := ⟨rfl, rfl, rfl, by decide +kernel, rfl, by decide +kernel, by decide +kernel⟩
abbrev S__law_pen : SC := S_pen PK
theorem binds__law_pen (F : FnP K "_law_pen" s__law_pen [] f fd) : Binds K fd ["_law_script"] [] := F.bindsN (ps := ["_law_script"]) fun _ _ _ _ _ _ us hl => match us, hl with | [_], _ => rfl
theorem ok__law_pen (Gz : Gs mg) (F : FnP K "_law_pen" s__law_pen [] f fd)  : FnOk P w K mg base (L2.CX P w) 1 f fd ["_law_script"] (spC K T S__law_pen) := by
  refine bodyC F sc__law_pen (fun ds QD h => by obtain ⟨ns, rfl, _⟩ := h; rfl) (fun cdv A outer s H E g hT hr => ?_)
  have tk := takes_of (X := cxOf (L2.CX P w) P w K mg base N__law_pen "_law_pen" (defScope s__law_pen) f cdv A outer s H E) rfl rfl rfl rfl
  have hp := passes_of (X := cxOf (L2.CX P w) P w K mg base N__law_pen "_law_pen" (defScope s__law_pen) f cdv A outer s H E) rfl
  have hu := hu_of hr
  refine ⟨_, (pxb_one (pxs_ret (px_dic (pxd_cons (px_callTy cd_list (by rfl) Gz.z_list bt_list (pxa_cons (px_sl1 (px_var 0) px_int) pxa_nil)) (pxd_cons px_int (pxd_cons px_int pxd_nil)))))), ?_⟩
  intro ds QD h
  obtain ⟨ns, rfl, hl, hb, q⟩ := h
  walk_at "s"
  refine ⟨True.intro, ?_⟩
  rw [cut_pen ns hl]
  exact q _ ⟨ns, 0, 0, rfl, hl, hb, by decide, by decide, by decide, by exact Int.pow_pos (by decide)⟩

abbrev s__law_draw : Stmt := topS 23
abbrev N__law_draw : List Str := ["_law_pen_here", "_law_many", "_law_digit", "_law_turn", "_law_cell", "_law_primes", "_law_prime", "_law_drawn"]
theorem sc__law_draw : FnScope N__law_draw ["_law_pen_here", "_law_many"] (defScope s__law_draw) := ⟨rfl, rfl, rfl, by decide +kernel, rfl, by decide +kernel, by decide +kernel⟩
abbrev S__law_draw : SB := S_draw PK
theorem binds__law_draw (F : FnP K "_law_draw" s__law_draw [] f fd) : Binds K fd ["_law_pen_here", "_law_many"] [] := F.bindsN (ps := ["_law_pen_here", "_law_many"]) fun _ _ _ _ _ _ us hl => match us, hl with | [_, _], _ => rfl
theorem ok__law_draw (Gz : Gs mg) (F : FnP K "_law_draw" s__law_draw [] f fd)  : FnOk P w K mg base (L2.CX P w) 1 f fd ["_law_pen_here", "_law_many"] (spB K T S__law_draw) := by
  refine bodyB F sc__law_draw (fun c ds QD ED h => by obtain ⟨k, n, _, _, rfl, _⟩ := h; rfl) (fun cdv A outer s H E g hT hr => ?_)
  have tk := takes_of (X := cxOf (L2.CX P w) P w K mg base N__law_draw "_law_draw" (defScope s__law_draw) f cdv A outer s H E) rfl rfl rfl rfl
  have hp := passes_of (X := cxOf (L2.CX P w) P w K mg base N__law_draw "_law_draw" (defScope s__law_draw) f cdv A outer s H E) rfl
  have hu := hu_of hr
  refine ⟨_, (pxb_cons (pxs_if (pxt_cmp od_gt (px_dgetS (j := 2) hu (px_var 0)) px_int (nomark _))
    (pxb_cons (pxs_set (i := 2) sc__law_draw.nd rfl (by first | exact .inl rfl | exact .inr rfl) (px_op od_mod (px_dgetS (j := 2) hu (px_var 0)) (px_var 1)))
    (pxb_cons (pxs_dputS (j := 2) hu (px_op od_div (px_dgetS (j := 2) hu (px_var 0)) (px_var 1)) (px_var 0))
    (pxb_one (pxs_ret (px_var 2)))))
    pxb_nil)
    (pxb_cons (pxs_set (i := 3) sc__law_draw.nd rfl (by first | exact .inl rfl | exact .inr rfl) (px_dgetS (j := 1) hu (px_var 0)))
    (pxb_cons (pxs_dputS (j := 1) hu (px_op od_add (px_var 3) px_int) (px_var 0))
    (pxb_cons (pxs_set (i := 4) sc__law_draw.nd rfl (by first | exact .inl rfl | exact .inr rfl) (px_op od_add (px_op od_mul px_int (px_var 3)) px_int))
    (pxb_cons (pxs_if (pxt_cmp (od_ne hr.units) (px_dgetS (j := 0) hu (px_var 0)) (px_lst pxa_nil) (nomark _))
    (pxb_one (pxs_set (i := 4) sc__law_draw.nd rfl (by first | exact .inl rfl | exact .inr rfl) (px_ix (px_dgetS (j := 0) hu (px_var 0)) (px_op od_mod (px_var 3) (px_callB cd_len (by rfl) Gz.z_len bt_len (pxa_cons (px_dgetS (j := 0) hu (px_var 0)) pxa_nil))))))
    pxb_nil)
    (pxb_cons (pxs_if (PXW.pxt (pxw_and (pxt_cmp od_lt (px_var 3) (px_callB cd_len (by rfl) Gz.z_len bt_len (pxa_cons (px_dgetS (j := 0) hu (px_var 0)) pxa_nil)) (nomark _)) (pxw_and1 (pxt_cmp od_ge (px_callB cd_abs (by rfl) Gz.z_abs bt_abs (pxa_cons (px_var 4) pxa_nil)) (px_op od_pow px_int px_int) (nomark _)))))
    (pxb_cons (pxs_dputS (j := 2) hu (px_op od_div (px_op od_sub (px_callB cd_abs (by rfl) Gz.z_abs bt_abs (pxa_cons (px_var 4) pxa_nil)) (px_op od_pow px_int px_int)) (px_var 1)) (px_var 0))
    (pxb_one (pxs_ret (px_op od_mod (px_op od_sub (px_callB cd_abs (by rfl) Gz.z_abs bt_abs (pxa_cons (px_var 4) pxa_nil)) (px_op od_pow px_int px_int)) (px_var 1)))))
    pxb_nil)
    (pxb_cons (pxs_set (i := 5) sc__law_draw.nd rfl (by first | exact .inl rfl | exact .inr rfl) (px_lst (pxa_cons px_int (pxa_cons px_int (pxa_cons px_int (pxa_cons px_int (pxa_cons px_int pxa_nil)))))))
    (pxb_cons (pxs_set (i := 6) sc__law_draw.nd rfl (by first | exact .inl rfl | exact .inr rfl) (px_ix (px_var 5) (px_op od_mod (px_var 3) px_int)))
    (pxb_cons (pxs_set (i := 7) sc__law_draw.nd rfl (by first | exact .inl rfl | exact .inr rfl) (px_op od_mod (px_op od_add (px_op od_add (px_op od_mul (px_op od_mod (px_var 4) (px_var 6)) px_int) (px_op od_mul (px_op od_mul px_int (px_var 3)) (px_var 3))) px_int) (px_var 6)))
    (pxb_cons (pxs_set (i := 7) sc__law_draw.nd rfl (by first | exact .inl rfl | exact .inr rfl) (px_op od_mod (px_op od_mul (px_var 7) (px_op od_add (px_var 7) px_int)) (px_ix (px_var 5) (px_op od_mod (px_op od_add (px_var 3) px_int) px_int))))
    (pxb_one (pxs_ret (px_op od_mod (px_op od_div (px_op od_mod (px_op od_mul (px_var 7) (px_var 7)) px_int) px_int) (px_var 1)))))))))))))), ?_⟩
  intro c ds QD ED h
  obtain ⟨k, n, ⟨cells, t, l, rfl, hc, hb, ht0, ht, hl0, hl⟩, hk, rfl, hn0, hn, q⟩ := h
  have hw : CDivW n n := wdiv (b := 64) hn0 (by omega) (by decide)
  have mB : ∀ i j : Int, i.natAbs < 2 ^ 200 → j.natAbs < 2 ^ 200 → CMulW i j := fun i j h1 h2 => wmul h1 h2 (by decide)
  have bt : Bd 61 t := by unfold Bd; omega
  have b16 : Bd 16 48271 := by unfold Bd; decide
  have b16a : Bd 16 40609 := by unfold Bd; decide
  have b31 : Bd 31 69621 := by unfold Bd; decide
  obtain ⟨p1, e1, hp1, bp1⟩ := prime_at (i := t % 5) (by omega) (by omega)
  obtain ⟨p2, e2, hp2, bp2⟩ := prime_at (i := (t + 2) % 5) (by omega) (by omega)
  walk_at "p"
  walk_at "i" <;> intro hc1
  · walk_at "p"
    walk_at "s"
    refine ⟨hn0, ?_⟩
    walk_at "p"
    walk_at "s"
    refine ⟨hw, ?_⟩
    walk_at "q"
    walk_at "s"
    refine ⟨True.intro, q _ _ (Int.emod_nonneg _ (by omega)) (Int.emod_lt_of_pos _ hn0) ⟨cells, t, l / n, rfl, hc, hb, ht0, by omega, Int.ediv_nonneg hl0 (by omega), ?_⟩⟩
    exact Int.lt_of_le_of_lt (Int.ediv_le_self _ hl0) hl
  · walk_at "p"
    walk_at "s"
    walk_at "q"
    walk_at "s"
    refine ⟨mB _ _ (by omega) (by omega), ?_⟩
    walk_at "p"
    walk_at "s"
    refine ⟨by decide, lay_eqOk (n := 1) (m := 1) (by simpa [D.lay] using lays_int 0 cells) (by rfl) (by decide) (by decide), ?_⟩
    walk_at "i" <;> intro hc2
    · walk_at "p"
      walk_at "p"
      walk_at "s"
      have hne : 0 < cells.length := by
        cases cells with
        | nil => exact absurd hc2 (by decide)
        | cons => simp
      refine ⟨by simpa using hne, ?_⟩
      walk_at "s"
      have hm := natAbs_mod (i := t) (j := ((cells.map D.int).length : Int)) (by simpa using hne)
      rw [List.length_map] at hm
      obtain ⟨z, hz, e⟩ := atI_ints (l := cells) hm.1 hm.2
      refine ⟨_, by rw [List.length_map]; exact e, ?_⟩
      have hcell := hb z hz
      clear hm e hz
      walk_at "p"
      walk_at "i" <;> intro hc3
      · walk_at "s"
        refine ⟨pow18, ?_⟩
        walk_at "i" <;> intro hc4
        · rw [absI] at hc4
          have hc4 := of_decide_eq_true hc4
          walk_at "s"
          refine ⟨pow18, ?_⟩
          walk_at "s"
          refine ⟨hw, ?_⟩
          rw [absI]
          walk_at "q"
          walk_at "s"
          refine ⟨pow18, ?_⟩
          walk_at "s"
          refine ⟨hn0, ?_⟩
          rw [absI]
          walk_at "s"
          exact ⟨True.intro, q _ _ (Int.emod_nonneg _ (by omega)) (Int.emod_lt_of_pos _ hn0) ⟨cells, t + 1, _, rfl, hc, hb, by omega, by omega, Int.ediv_nonneg (by omega) (by omega), left_lt' hcell hc4⟩⟩
        · walk_at "s"
          refine ⟨sz rfl, ?_⟩
          walk_at "s"
          refine ⟨(by decide : (0 : Int) < 5), ?_⟩
          walk_at "s"
          refine ⟨_, e1, ?_⟩
          walk_at "s"
          refine ⟨hp1, ?_⟩
          walk_at "s"
          refine ⟨(bp1.mod hp1).mulW b16, ?_⟩
          walk_at "s"
          refine ⟨b16a.mulW bt, ?_⟩
          walk_at "s"
          refine ⟨(b16a.mul bt).mulW bt, ?_⟩
          walk_at "s"
          refine ⟨hp1, ?_⟩
          walk_at "s"
          refine ⟨(bp1.mod hp1).mulW ((bp1.mod hp1).add b31), ?_⟩
          walk_at "s"
          refine ⟨(by decide : (0 : Int) < 5), ?_⟩
          walk_at "s"
          refine ⟨_, e2, ?_⟩
          walk_at "s"
          refine ⟨hp2, ?_⟩
          walk_at "s"
          refine ⟨(bp2.mod hp2).mulW (bp2.mod hp2), ?_⟩
          walk_at "s"
          refine ⟨(by decide : (0 : Int) < 2147483549), ?_⟩
          walk_at "s"
          refine ⟨wdiv (b := 7) (by decide) (by decide) (by decide), ?_⟩
          walk_at "s"
          refine ⟨hn0, ?_⟩
          walk_at "s"
          exact ⟨True.intro, q _ _ (Int.emod_nonneg _ (by omega)) (Int.emod_lt_of_pos _ hn0) ⟨cells, t + 1, _, rfl, hc, hb, by omega, by omega, hl0, hl⟩⟩
      · walk_at "i" <;> intro hc5
        · cases hc5
        · walk_at "s"
          refine ⟨sz rfl, ?_⟩
          walk_at "s"
          refine ⟨(by decide : (0 : Int) < 5), ?_⟩
          walk_at "s"
          refine ⟨_, e1, ?_⟩
          walk_at "s"
          refine ⟨hp1, ?_⟩
          walk_at "s"
          refine ⟨(bp1.mod hp1).mulW b16, ?_⟩
          walk_at "s"
          refine ⟨b16a.mulW bt, ?_⟩
          walk_at "s"
          refine ⟨(b16a.mul bt).mulW bt, ?_⟩
          walk_at "s"
          refine ⟨hp1, ?_⟩
          walk_at "s"
          refine ⟨(bp1.mod hp1).mulW ((bp1.mod hp1).add b31), ?_⟩
          walk_at "s"
          refine ⟨(by decide : (0 : Int) < 5), ?_⟩
          walk_at "s"
          refine ⟨_, e2, ?_⟩
          walk_at "s"
          refine ⟨hp2, ?_⟩
          walk_at "s"
          refine ⟨(bp2.mod hp2).mulW (bp2.mod hp2), ?_⟩
          walk_at "s"
          refine ⟨(by decide : (0 : Int) < 2147483549), ?_⟩
          walk_at "s"
          refine ⟨wdiv (b := 7) (by decide) (by decide) (by decide), ?_⟩
          walk_at "s"
          refine ⟨hn0, ?_⟩
          walk_at "s"
          exact ⟨True.intro, q _ _ (Int.emod_nonneg _ (by omega)) (Int.emod_lt_of_pos _ hn0) ⟨cells, t + 1, _, rfl, hc, hb, by omega, by omega, hl0, hl⟩⟩
    · have hcell : (43 * t + 19 : Int).natAbs < 2 ^ 1048577 := Nat.lt_of_lt_of_le (m := 2 ^ 200) (by omega) (Nat.pow_le_pow_right (by decide) (by decide))
      walk_at "p"
      walk_at "i" <;> intro hc3
      · walk_at "s"
        refine ⟨pow18, ?_⟩
        walk_at "i" <;> intro hc4
        · rw [absI] at hc4
          have hc4 := of_decide_eq_true hc4
          walk_at "s"
          refine ⟨pow18, ?_⟩
          walk_at "s"
          refine ⟨hw, ?_⟩
          rw [absI]
          walk_at "q"
          walk_at "s"
          refine ⟨pow18, ?_⟩
          walk_at "s"
          refine ⟨hn0, ?_⟩
          rw [absI]
          walk_at "s"
          exact ⟨True.intro, q _ _ (Int.emod_nonneg _ (by omega)) (Int.emod_lt_of_pos _ hn0) ⟨cells, t + 1, _, rfl, hc, hb, by omega, by omega, Int.ediv_nonneg (by omega) (by omega), left_lt' hcell hc4⟩⟩
        · walk_at "s"
          refine ⟨sz rfl, ?_⟩
          walk_at "s"
          refine ⟨(by decide : (0 : Int) < 5), ?_⟩
          walk_at "s"
          refine ⟨_, e1, ?_⟩
          walk_at "s"
          refine ⟨hp1, ?_⟩
          walk_at "s"
          refine ⟨(bp1.mod hp1).mulW b16, ?_⟩
          walk_at "s"
          refine ⟨b16a.mulW bt, ?_⟩
          walk_at "s"
          refine ⟨(b16a.mul bt).mulW bt, ?_⟩
          walk_at "s"
          refine ⟨hp1, ?_⟩
          walk_at "s"
          refine ⟨(bp1.mod hp1).mulW ((bp1.mod hp1).add b31), ?_⟩
          walk_at "s"
          refine ⟨(by decide : (0 : Int) < 5), ?_⟩
          walk_at "s"
          refine ⟨_, e2, ?_⟩
          walk_at "s"
          refine ⟨hp2, ?_⟩
          walk_at "s"
          refine ⟨(bp2.mod hp2).mulW (bp2.mod hp2), ?_⟩
          walk_at "s"
          refine ⟨(by decide : (0 : Int) < 2147483549), ?_⟩
          walk_at "s"
          refine ⟨wdiv (b := 7) (by decide) (by decide) (by decide), ?_⟩
          walk_at "s"
          refine ⟨hn0, ?_⟩
          walk_at "s"
          exact ⟨True.intro, q _ _ (Int.emod_nonneg _ (by omega)) (Int.emod_lt_of_pos _ hn0) ⟨cells, t + 1, _, rfl, hc, hb, by omega, by omega, hl0, hl⟩⟩
      · walk_at "i" <;> intro hc5
        · cases hc5
        · walk_at "s"
          refine ⟨sz rfl, ?_⟩
          walk_at "s"
          refine ⟨(by decide : (0 : Int) < 5), ?_⟩
          walk_at "s"
          refine ⟨_, e1, ?_⟩
          walk_at "s"
          refine ⟨hp1, ?_⟩
          walk_at "s"
          refine ⟨(bp1.mod hp1).mulW b16, ?_⟩
          walk_at "s"
          refine ⟨b16a.mulW bt, ?_⟩
          walk_at "s"
          refine ⟨(b16a.mul bt).mulW bt, ?_⟩
          walk_at "s"
          refine ⟨hp1, ?_⟩
          walk_at "s"
          refine ⟨(bp1.mod hp1).mulW ((bp1.mod hp1).add b31), ?_⟩
          walk_at "s"
          refine ⟨(by decide : (0 : Int) < 5), ?_⟩
          walk_at "s"
          refine ⟨_, e2, ?_⟩
          walk_at "s"
          refine ⟨hp2, ?_⟩
          walk_at "s"
          refine ⟨(bp2.mod hp2).mulW (bp2.mod hp2), ?_⟩
          walk_at "s"
          refine ⟨(by decide : (0 : Int) < 2147483549), ?_⟩
          walk_at "s"
          refine ⟨wdiv (b := 7) (by decide) (by decide) (by decide), ?_⟩
          walk_at "s"
          refine ⟨hn0, ?_⟩
          walk_at "s"
          exact ⟨True.intro, q _ _ (Int.emod_nonneg _ (by omega)) (Int.emod_lt_of_pos _ hn0) ⟨cells, t + 1, _, rfl, hc, hb, by omega, by omega, hl0, hl⟩⟩

abbrev s__law_pick : Stmt := topS 24
abbrev N__law_pick : List Str := ["_law_pen_here", "_law_options"]
theorem sc__law_pick : FnScope N__law_pick ["_law_pen_here", "_law_options"] (defScope s__law_pick) := ⟨rfl, rfl, rfl, by decide +kernel, rfl, by decide +kernel, by decide +kernel⟩
def S__law_pick : SB := fun c ds Q _ => ∃ (k : Nat) (l : List D), PenC PK k c ∧ 1 ≤ k ∧ ds = [.lst l] ∧ 0 < l.length ∧ l.length < 2 ^ 60 ∧ ∀ x c', x ∈ l → PenC PK (k - 1) c' → Q x c'
theorem binds__law_pick (F : FnP K "_law_pick" s__law_pick [] f fd) : Binds K fd ["_law_pen_here", "_law_options"] [] := F.bindsN (ps := ["_law_pen_here", "_law_options"]) fun _ _ _ _ _ _ us hl => match us, hl with | [_, _], _ => rfl
theorem ok__law_pick (Gz : Gs mg) (F : FnP K "_law_pick" s__law_pick [] f fd) {f__law_draw : Addr} {fd__law_draw : FuncData} (G__law_draw : OwnF P w K mg base "_law_draw" 1 f__law_draw fd__law_draw ["_law_pen_here", "_law_many"] (spB K T S__law_draw)) (b__law_draw : Binds K fd__law_draw ["_law_pen_here", "_law_many"] []) : FnOk P w K mg base (L2.CX P w) 2 f fd ["_law_pen_here", "_law_options"] (spB K T S__law_pick) := by
  refine bodyB F sc__law_pick (fun c ds QD ED h => by obtain ⟨k, l, _, _, rfl, _⟩ := h; rfl) (fun cdv A outer s H E g hT hr => ?_)
  have tk := takes_of (X := cxOf (L2.CX P w) P w K mg base N__law_pick "_law_pick" (defScope s__law_pick) f cdv A outer s H E) rfl rfl rfl rfl
  have hp := passes_of (X := cxOf (L2.CX P w) P w K mg base N__law_pick "_law_pick" (defScope s__law_pick) f cdv A outer s H E) rfl
  have hu := hu_of hr
  refine ⟨_, (pxb_one (pxs_ret (px_ix (px_var 1) (px_ownB G__law_draw b__law_draw hT (hr.mono (by decide)) tk (pxa_cons (px_var 0) (pxa_cons (px_callB cd_len (by rfl) Gz.z_len bt_len (pxa_cons (px_var 1) pxa_nil)) pxa_nil)))))), ?_⟩
  intro c ds QD ED h
  obtain ⟨k, l, hp', hk, rfl, hl0, hl, q⟩ := h
  walk_at "s"
  refine ⟨hp'.closed, k, _, hp', hk, rfl, by omega, by omega, fun d c' h0 h1 hp2 => ?_⟩
  refine ⟨hp2.closed, ?_⟩
  walk_at "s"
  obtain ⟨y, e, hm, _⟩ := atI_in h0 h1
  exact ⟨y, e, hp2.closed, q y c' hm hp2⟩
theorem ten6 (i : Nat) : (10 : Int) ^ (6 * (i + 1)) = 1000000 * 10 ^ (6 * i) := by
  have : 6 * (i + 1) = 6 * i + 6 := by omega
  rw [this, Int.pow_add, Int.mul_comm]
  rfl
theorem pow6 : CPow 10 6 := by unfold CPow; decide
theorem b106 : Bd 20 ((10 : Int) ^ Int.toNat 6) := by unfold Bd; decide
def RuleOk (p q : Int) : Prop := 0 ≤ p ∧ 1 ≤ q ∧ Int.gcd p q = 1
theorem gcd_pos {p q : Int} (hp : 0 ≤ p) (hq : 1 ≤ q) : 0 < (Int.gcd p q : Int) ∧ (Int.gcd p q : Int) ≤ q := by
  have h : Int.gcd p q ≠ 0 := fun z => by
    have := (Int.gcd_eq_zero_iff.mp z).2
    omega
  have h2 : (Int.gcd p q : Int) ∣ q := Int.gcd_dvd_right ..
  exact ⟨by omega, Int.le_of_dvd (by omega) h2⟩
theorem lowest_ok {p q : Int} (hp : 0 ≤ p) (hq : 1 ≤ q) : RuleOk (p / (Int.gcd p q : Int)) (q / (Int.gcd p q : Int)) := by
  obtain ⟨hg, hgq⟩ := gcd_pos hp hq
  refine ⟨Int.ediv_nonneg hp (by omega), ?_, ?_⟩
  · exact Int.le_ediv_of_mul_le hg (by omega)
  · exact Int.gcd_ediv_gcd_ediv_gcd_of_ne_zero_right (by omega)
theorem ediv_le {p g : Int} (hp : 0 ≤ p) (hg : 0 < g) : p / g ≤ p := Int.ediv_le_self _ hp
theorem natAbs_ediv_le (c g : Int) : (c / g).natAbs ≤ c.natAbs := Int.natAbs_ediv_le_natAbs c g

abbrev s__law_great : Stmt := topS 25
abbrev N__law_great : List Str := ["_law_pen_here", "_law_digits", "_law_result", "_law_k"]
theorem sc__law_great : FnScope N__law_great ["_law_pen_here", "_law_digits"] (defScope s__law_great) := ⟨rfl, rfl, rfl, by decide +kernel, rfl, by decide +kernel, by decide +kernel⟩
def S__law_great : SB := fun c ds Q _ => ∃ k dg : Nat, PenC PK k c ∧ 300 ≤ k ∧ 6 ≤ dg ∧ dg ≤ 600 ∧ ds = [.int dg] ∧ ∀ r c', 0 ≤ r → r < 10 ^ dg → PenC PK (k - 300) c' → Q (.int r) c'
theorem binds__law_great (F : FnP K "_law_great" s__law_great [] f fd) : Binds K fd ["_law_pen_here", "_law_digits"] [] := F.bindsN (ps := ["_law_pen_here", "_law_digits"]) fun _ _ _ _ _ _ us hl => match us, hl with | [_, _], _ => rfl
theorem ok__law_great (Gz : Gs mg) (F : FnP K "_law_great" s__law_great [] f fd) {f__law_draw : Addr} {fd__law_draw : FuncData} (G__law_draw : OwnF P w K mg base "_law_draw" 1 f__law_draw fd__law_draw ["_law_pen_here", "_law_many"] (spB K T S__law_draw)) (b__law_draw : Binds K fd__law_draw ["_law_pen_here", "_law_many"] []) : FnOk P w K mg base (L2.CX P w) 2 f fd ["_law_pen_here", "_law_digits"] (spB K T S__law_great) := by
  refine bodyB F sc__law_great (fun c ds QD ED h => by obtain ⟨k, f, _, _, _, _, rfl, _⟩ := h; rfl) (fun cdv A outer s H E g hT hr => ?_)
  have tk := takes_of (X := cxOf (L2.CX P w) P w K mg base N__law_great "_law_great" (defScope s__law_great) f cdv A outer s H E) rfl rfl rfl rfl
  have hp := passes_of (X := cxOf (L2.CX P w) P w K mg base N__law_great "_law_great" (defScope s__law_great) f cdv A outer s H E) rfl
  have hu := hu_of hr
  refine ⟨_, (pxb_cons (pxs_set (i := 2) sc__law_great.nd rfl (by first | exact .inl rfl | exact .inr rfl) px_int)
    (pxb_cons (pxs_for hp rfl (pxi_range1 (by rfl) Gz.z_range (pxa_cons (px_op od_add px_int (px_ownB G__law_draw b__law_draw hT (hr.mono (by decide)) tk (pxa_cons (px_var 0) (pxa_cons (px_op od_div (px_var 1) px_int) pxa_nil)))) pxa_nil)) (pxg_name (i := 3) sc__law_great.nd rfl (by first | exact .inl rfl | exact .inr rfl))
    (pxb_one (pxs_set (i := 2) sc__law_great.nd rfl (by first | exact .inl rfl | exact .inr rfl) (px_op od_add (px_op od_mul (px_var 2) (px_op od_pow px_int px_int)) (px_ownB G__law_draw b__law_draw hT (hr.mono (by decide)) tk (pxa_cons (px_var 0) (pxa_cons (px_op od_pow px_int px_int) pxa_nil)))))))
    (pxb_one (pxs_ret (px_var 2))))), ?_⟩
  intro c ds QD ED h
  obtain ⟨k, dg, hp', hk, hd6, hd, rfl, q⟩ := h
  walk_at "s"
  refine ⟨wdiv (b := 3) (by decide) (by decide) (by decide), ?_⟩
  walk_at "s"
  refine ⟨hp'.closed, k, _, hp', by omega, rfl, by omega, by omega, fun d c hd0 hd1 hp' => ⟨hp'.closed, ?_⟩⟩
  walk_at "s"
  refine ⟨by omega, ?_⟩
  refine dLoop_rng (fun i ds => ∃ r c' z, ds = ⟨[some (.m 0), some (.d (.int dg)), some (.d (.int r)), z], [some c']⟩ ∧ 0 ≤ r ∧ r < 10 ^ (6 * i) ∧ PenC PK (k - 1 - i) c') ⟨0, c, none, rfl, by decide, by decide, hp'⟩ ?_ ?_
  · rintro i ds N hi ⟨r, c', z, rfl, h0, h1, hp2⟩ hN
    walk_at "s"
    have hi' : i < 101 := by omega
    refine ⟨pow6, ?_⟩
    walk_at "s"
    refine ⟨(bd10 (f := 6 * i) (n := 3000) (by omega) (by omega)).mulW b106, ?_⟩
    walk_at "s"
    refine ⟨pow6, ?_⟩
    walk_at "s"
    refine ⟨hp2.closed, _, _, hp2, by omega, rfl, by decide, by decide, fun d c2 h2 h3 hp3 => ⟨hp3.closed, ?_⟩⟩
    walk_at "s"
    have h3 : d < 1000000 := h3
    refine hN _ ⟨r * 1000000 + d, c2, _, rfl, by omega, ?_, by rw [show k - 1 - (i + 1) = k - 1 - i - 1 by omega]; exact hp3⟩
    rw [ten6]; omega
  · rintro ds ⟨r, c', z, rfl, h0, h1, hp2⟩
    walk_at "s"
    exact ⟨hp2.closed, q _ _ h0 (Int.lt_of_lt_of_le h1 (ten_le (by omega))) (hp2.le (by omega))⟩

abbrev s__law_signed : Stmt := topS 26
abbrev N__law_signed : List Str := ["_law_pen_here", "_law_digits"]
theorem sc__law_signed : FnScope N__law_signed ["_law_pen_here", "_law_digits"] (defScope s__law_signed) := ⟨rfl, rfl, rfl, by decide +kernel, rfl, by decide +kernel, by decide +kernel⟩
def S__law_signed : SB := fun c ds Q _ => ∃ k dg : Nat, PenC PK k c ∧ 400 ≤ k ∧ 6 ≤ dg ∧ dg ≤ 600 ∧ ds = [.int dg] ∧ ∀ (r : Int) c', (r.natAbs : Int) < 10 ^ dg → PenC PK (k - 400) c' → Q (.int r) c'
theorem binds__law_signed (F : FnP K "_law_signed" s__law_signed [] f fd) : Binds K fd ["_law_pen_here", "_law_digits"] [] := F.bindsN (ps := ["_law_pen_here", "_law_digits"]) fun _ _ _ _ _ _ us hl => match us, hl with | [_, _], _ => rfl
theorem ok__law_signed (Gz : Gs mg) (F : FnP K "_law_signed" s__law_signed [] f fd) {f__law_pick : Addr} {fd__law_pick : FuncData} (G__law_pick : OwnF P w K mg base "_law_pick" 2 f__law_pick fd__law_pick ["_law_pen_here", "_law_options"] (spB K T S__law_pick)) (b__law_pick : Binds K fd__law_pick ["_law_pen_here", "_law_options"] []) {f__law_great : Addr} {fd__law_great : FuncData} (G__law_great : OwnF P w K mg base "_law_great" 2 f__law_great fd__law_great ["_law_pen_here", "_law_digits"] (spB K T S__law_great)) (b__law_great : Binds K fd__law_great ["_law_pen_here", "_law_digits"] []) {f__law_draw : Addr} {fd__law_draw : FuncData} (G__law_draw : OwnF P w K mg base "_law_draw" 1 f__law_draw fd__law_draw ["_law_pen_here", "_law_many"] (spB K T S__law_draw)) (b__law_draw : Binds K fd__law_draw ["_law_pen_here", "_law_many"] []) : FnOk P w K mg base (L2.CX P w) 3 f fd ["_law_pen_here", "_law_digits"] (spB K T S__law_signed) := by
  refine bodyB F sc__law_signed (fun c ds QD ED h => by obtain ⟨k, f, _, _, _, _, rfl, _⟩ := h; rfl) (fun cdv A outer s H E g hT hr => ?_)
  have tk := takes_of (X := cxOf (L2.CX P w) P w K mg base N__law_signed "_law_signed" (defScope s__law_signed) f cdv A outer s H E) rfl rfl rfl rfl
  have hp := passes_of (X := cxOf (L2.CX P w) P w K mg base N__law_signed "_law_signed" (defScope s__law_signed) f cdv A outer s H E) rfl
  have hu := hu_of hr
  refine ⟨_, (pxb_one (pxs_ret (px_op od_mul (px_ownB G__law_pick b__law_pick hT (hr.mono (by decide)) tk (pxa_cons (px_var 0) (pxa_cons (px_lst (pxa_cons px_int (pxa_cons (px_un ud_neg px_int) pxa_nil))) pxa_nil))) (px_ownB G__law_pick b__law_pick hT (hr.mono (by decide)) tk (pxa_cons (px_var 0) (pxa_cons (px_lst (pxa_cons (px_ownB G__law_draw b__law_draw hT (hr.mono (by decide)) tk (pxa_cons (px_var 0) (pxa_cons px_int pxa_nil))) (pxa_cons (px_ownB G__law_draw b__law_draw hT (hr.mono (by decide)) tk (pxa_cons (px_var 0) (pxa_cons px_int pxa_nil))) (pxa_cons (px_ownB G__law_great b__law_great hT (hr.mono (by decide)) tk (pxa_cons (px_var 0) (pxa_cons (px_var 1) pxa_nil))) pxa_nil)))) pxa_nil)))))), ?_⟩
  intro c ds QD ED h
  obtain ⟨k, dg, hp, hk, hd6, hd, rfl, q⟩ := h
  walk_at "s"
  refine ⟨sz rfl, ?_⟩
  walk_at "s"
  refine ⟨hp.closed, k, _, hp, by omega, rfl, pos1 rfl, lt60 rfl, fun x c hx hp => ⟨hp.closed, ?_⟩⟩
  have hx : x = .int 1 ∨ x = .int (-1) := by simpa using hx
  obtain ⟨sg, rfl, hsg⟩ : ∃ sg : Int, x = .int sg ∧ (sg = 1 ∨ sg = -1) := by
    rcases hx with rfl | rfl
    · exact ⟨1, rfl, .inl rfl⟩
    · exact ⟨-1, rfl, .inr rfl⟩
  clear hx
  walk_at "s"
  refine ⟨hp.closed, _, _, hp, by omega, rfl, by decide, by decide, fun d1 c h0 h1 hp => ⟨hp.closed, ?_⟩⟩
  walk_at "s"
  refine ⟨hp.closed, _, _, hp, by omega, rfl, by decide, by decide, fun d2 c h2 h3 hp => ⟨hp.closed, ?_⟩⟩
  walk_at "s"
  refine ⟨hp.closed, _, dg, hp, by omega, hd6, hd, rfl, fun d3 c h4 h5 hp => ⟨hp.closed, ?_⟩⟩
  walk_at "s"
  refine ⟨sz rfl, ?_⟩
  walk_at "s"
  refine ⟨hp.closed, _, _, hp, by omega, rfl, pos1 rfl, lt60 rfl, fun x c hx hp => ⟨hp.closed, ?_⟩⟩
  have e6 : (10 : Int) ^ 6 ≤ 10 ^ dg := ten_le hd6
  obtain ⟨v, rfl, hv⟩ : ∃ v : Int, x = .int v ∧ (v.natAbs : Int) < 10 ^ dg := by
    have hx : x = .int d1 ∨ x = .int d2 ∨ x = .int d3 := by simpa using hx
    rcases hx with rfl | rfl | rfl
    · exact ⟨_, rfl, by omega⟩
    · exact ⟨_, rfl, by omega⟩
    · exact ⟨_, rfl, by omega⟩
  walk_at "s"
  refine ⟨Bd.mulW (n := 1) (m := 3000) (by unfold Bd; omega) (bd10 hv (by omega)), ?_⟩
  refine ⟨hp.closed, q _ _ ?_ (hp.le (by omega))⟩
  rcases hsg with rfl | rfl
  · rw [Int.one_mul]; exact hv
  · rw [Int.neg_one_mul, Int.natAbs_neg]; exact hv

abbrev s__law_gcd : Stmt := topS 27
abbrev N__law_gcd : List Str := ["_law_one", "_law_other"]
theorem sc__law_gcd : FnScope N__law_gcd ["_law_one", "_law_other"] (defScope s__law_gcd) := ⟨rfl, rfl, rfl, by decide +kernel, rfl, by decide +kernel, by decide +kernel⟩
def S__law_gcd : SA := fun ds Q _ => ∃ a b : Int, ds = [.int a, .int b] ∧ 0 ≤ a ∧ 0 ≤ b ∧ Q (.int (Int.gcd a b))
theorem binds__law_gcd (F : FnP K "_law_gcd" s__law_gcd [] f fd) : Binds K fd ["_law_one", "_law_other"] [] := F.bindsN (ps := ["_law_one", "_law_other"]) fun _ _ _ _ _ _ us hl => match us, hl with | [_, _], _ => rfl
theorem ok__law_gcd (Gz : Gs mg) (F : FnP K "_law_gcd" s__law_gcd [] f fd)  : FnOk P w K mg base (L2.CX P w) 1 f fd ["_law_one", "_law_other"] (spA K T S__law_gcd) := by
  refine bodyA F sc__law_gcd (fun ds QD ED h => by obtain ⟨a, b, rfl, _⟩ := h; rfl) (fun cdv A outer s H E g hT hr => ?_)
  have tk := takes_of (X := cxOf (L2.CX P w) P w K mg base N__law_gcd "_law_gcd" (defScope s__law_gcd) f cdv A outer s H E) rfl rfl rfl rfl
  have hp := passes_of (X := cxOf (L2.CX P w) P w K mg base N__law_gcd "_law_gcd" (defScope s__law_gcd) f cdv A outer s H E) rfl
  have hu := hu_of hr
  refine ⟨_, (pxb_cons (pxs_while hp (pxt_cmp od_gt (px_var 1) px_int (nomark _))
    (pxb_one (pxs_par (i := 0) (j := 1) rfl sc__law_gcd.nd rfl rfl (by decide) rfl rfl (pxa_cons (px_var 1) (pxa_cons (px_op od_mod (px_var 0) (px_var 1)) pxa_nil)) (by rfl))))
    (pxb_one (pxs_ret (px_var 0)))), ?_⟩
  intro ds QD ED h
  obtain ⟨a, b, rfl, ha, hb, q⟩ := h
  refine ⟨fun k ds => ∃ x y, ds = ⟨[some (.d (.int x)), some (.d (.int y))], []⟩ ∧ 0 ≤ x ∧ 0 ≤ y ∧ k = y.toNat ∧ Int.gcd x y = Int.gcd a b, ⟨_, a, b, rfl, ha, hb, rfl, rfl⟩, ?_⟩
  rintro k ds ⟨x, y, rfl, hx, hy, rfl, e⟩
  walk_at "i" <;> intro hc
  · have hc := of_decide_eq_true hc
    walk_at "s"
    have hm := natAbs_mod (i := x) hc
    exact ⟨hc, _, (by omega : (x % y).toNat < y.toNat), _, _, rfl, hy, hm.1, rfl, (gcd_step hx hc).trans e⟩
  · have hc := of_decide_eq_false hc
    have hy0 : y = 0 := by omega
    subst hy0
    walk_at "s"
    rw [← e, gcd_z hx] at q
    exact q

abbrev s__law_lowest : Stmt := topS 28
abbrev N__law_lowest : List Str := ["_law_p", "_law_q", "_law_c", "_law_both"]
theorem sc__law_lowest : FnScope N__law_lowest ["_law_p", "_law_q", "_law_c"] (defScope s__law_lowest) := ⟨rfl, rfl, rfl, by decide +kernel, rfl, by decide +kernel, by decide +kernel⟩
def S__law_lowest : SA := fun ds Q _ => ∃ p q c : Int, ds = [.int p, .int q, .int c] ∧ 0 ≤ p ∧ 1 ≤ q ∧ Bd 4000 q ∧ Q (ruleD (p / (Int.gcd p q : Int)) (q / (Int.gcd p q : Int)) (c / (Int.gcd p q : Int)))
theorem binds__law_lowest (F : FnP K "_law_lowest" s__law_lowest [] f fd) : Binds K fd ["_law_p", "_law_q", "_law_c"] [] := F.bindsN (ps := ["_law_p", "_law_q", "_law_c"]) fun _ _ _ _ _ _ us hl => match us, hl with | [_, _, _], _ => rfl
theorem ok__law_lowest (Gz : Gs mg) (F : FnP K "_law_lowest" s__law_lowest [] f fd) {f__law_gcd : Addr} {fd__law_gcd : FuncData} (G__law_gcd : OwnF P w K mg base "_law_gcd" 1 f__law_gcd fd__law_gcd ["_law_one", "_law_other"] (spA K T S__law_gcd)) (b__law_gcd : Binds K fd__law_gcd ["_law_one", "_law_other"] []) : FnOk P w K mg base (L2.CX P w) 2 f fd ["_law_p", "_law_q", "_law_c"] (spA K T S__law_lowest) := by
  refine bodyA F sc__law_lowest (fun ds QD ED h => by obtain ⟨p, q, c, rfl, _⟩ := h; rfl) (fun cdv A outer s H E g hT hr => ?_)
  have tk := takes_of (X := cxOf (L2.CX P w) P w K mg base N__law_lowest "_law_lowest" (defScope s__law_lowest) f cdv A outer s H E) rfl rfl rfl rfl
  have hp := passes_of (X := cxOf (L2.CX P w) P w K mg base N__law_lowest "_law_lowest" (defScope s__law_lowest) f cdv A outer s H E) rfl
  have hu := hu_of hr
  refine ⟨_, (pxb_cons (pxs_set (i := 3) sc__law_lowest.nd rfl (by first | exact .inl rfl | exact .inr rfl) (px_own G__law_gcd b__law_gcd hT (hr.mono (by decide)) tk (pxa_cons (px_var 0) (pxa_cons (px_var 1) pxa_nil))))
    (pxb_one (pxs_ret (px_tup (pxa_cons (px_op od_div (px_var 0) (px_var 3)) (pxa_cons (px_op od_div (px_var 1) (px_var 3)) (pxa_cons (px_op od_div (px_var 2) (px_var 3)) pxa_nil))))))), ?_⟩
  intro ds QD ED h
  obtain ⟨p, y, c, rfl, hp0, hy, bq, q⟩ := h
  obtain ⟨hg, hgq⟩ := gcd_pos hp0 hy
  have bg : Bd 4000 (Int.gcd p y : Int) := bq.lt (by omega) hgq
  walk_at "s"
  refine ⟨p, y, rfl, hp0, by omega, ?_⟩
  walk_at "s"
  refine ⟨bg.divW hg, ?_⟩
  walk_at "s"
  refine ⟨bg.divW hg, ?_⟩
  walk_at "s"
  refine ⟨bg.divW hg, ?_⟩
  walk_at "s"
  exact ⟨sz rfl, q⟩

abbrev s__law_rule : Stmt := topS 29
abbrev N__law_rule : List Str := ["_law_pen_here", "_law_most", "_law_q", "_law_p"]
theorem sc__law_rule : FnScope N__law_rule ["_law_pen_here", "_law_most"] (defScope s__law_rule) := ⟨rfl, rfl, rfl, by decide +kernel, rfl, by decide +kernel, by decide +kernel⟩
def S__law_rule : SB := fun c ds Q _ => ∃ (k : Nat) (most : Int), PenC PK k c ∧ 20 ≤ k ∧ ds = [.int most] ∧ 1 ≤ most ∧ most ≤ 10000 ∧ ∀ p q v c', RuleOk p q → q ≤ most → p ≤ 3 * most + 1 → v.natAbs ≤ 3 * most.natAbs → PenC PK (k - 20) c' → Q (ruleD p q v) c'
theorem binds__law_rule (F : FnP K "_law_rule" s__law_rule [] f fd) : Binds K fd ["_law_pen_here", "_law_most"] [] := F.bindsN (ps := ["_law_pen_here", "_law_most"]) fun _ _ _ _ _ _ us hl => match us, hl with | [_, _], _ => rfl
theorem ok__law_rule (Gz : Gs mg) (F : FnP K "_law_rule" s__law_rule [] f fd) {f__law_lowest : Addr} {fd__law_lowest : FuncData} (G__law_lowest : OwnF P w K mg base "_law_lowest" 2 f__law_lowest fd__law_lowest ["_law_p", "_law_q", "_law_c"] (spA K T S__law_lowest)) (b__law_lowest : Binds K fd__law_lowest ["_law_p", "_law_q", "_law_c"] []) {f__law_pick : Addr} {fd__law_pick : FuncData} (G__law_pick : OwnF P w K mg base "_law_pick" 2 f__law_pick fd__law_pick ["_law_pen_here", "_law_options"] (spB K T S__law_pick)) (b__law_pick : Binds K fd__law_pick ["_law_pen_here", "_law_options"] []) {f__law_draw : Addr} {fd__law_draw : FuncData} (G__law_draw : OwnF P w K mg base "_law_draw" 1 f__law_draw fd__law_draw ["_law_pen_here", "_law_many"] (spB K T S__law_draw)) (b__law_draw : Binds K fd__law_draw ["_law_pen_here", "_law_many"] []) : FnOk P w K mg base (L2.CX P w) 3 f fd ["_law_pen_here", "_law_most"] (spB K T S__law_rule) := by
  refine bodyB F sc__law_rule (fun c ds QD ED h => by obtain ⟨k, f, _, _, rfl, _⟩ := h; rfl) (fun cdv A outer s H E g hT hr => ?_)
  have tk := takes_of (X := cxOf (L2.CX P w) P w K mg base N__law_rule "_law_rule" (defScope s__law_rule) f cdv A outer s H E) rfl rfl rfl rfl
  have hp := passes_of (X := cxOf (L2.CX P w) P w K mg base N__law_rule "_law_rule" (defScope s__law_rule) f cdv A outer s H E) rfl
  have hu := hu_of hr
  refine ⟨_, (pxb_cons (pxs_set (i := 2) sc__law_rule.nd rfl (by first | exact .inl rfl | exact .inr rfl) (px_op od_add px_int (px_ownB G__law_draw b__law_draw hT (hr.mono (by decide)) tk (pxa_cons (px_var 0) (pxa_cons (px_var 1) pxa_nil)))))
    (pxb_cons (pxs_set (i := 3) sc__law_rule.nd rfl (by first | exact .inl rfl | exact .inr rfl) (px_ownB G__law_pick b__law_pick hT (hr.mono (by decide)) tk (pxa_cons (px_var 0) (pxa_cons (px_lst (pxa_cons px_int (pxa_cons px_int (pxa_cons (px_ownB G__law_draw b__law_draw hT (hr.mono (by decide)) tk (pxa_cons (px_var 0) (pxa_cons (px_op od_add (px_var 2) px_int) pxa_nil))) (pxa_cons (px_ownB G__law_draw b__law_draw hT (hr.mono (by decide)) tk (pxa_cons (px_var 0) (pxa_cons (px_op od_add (px_var 2) px_int) pxa_nil))) (pxa_cons (px_ownB G__law_draw b__law_draw hT (hr.mono (by decide)) tk (pxa_cons (px_var 0) (pxa_cons (px_op od_mul px_int (px_var 2)) pxa_nil))) (pxa_cons (px_op od_add (px_var 2) px_int) pxa_nil))))))) pxa_nil))))
    (pxb_one (pxs_ret (px_own G__law_lowest b__law_lowest hT (hr.mono (by decide)) tk (pxa_cons (px_var 3) (pxa_cons (px_var 2) (pxa_cons (px_ownB G__law_pick b__law_pick hT (hr.mono (by decide)) tk (pxa_cons (px_var 0) (pxa_cons (px_lst (pxa_cons px_int (pxa_cons (px_ownB G__law_draw b__law_draw hT (hr.mono (by decide)) tk (pxa_cons (px_var 0) (pxa_cons (px_var 2) pxa_nil))) (pxa_cons (px_op od_sub (px_ownB G__law_draw b__law_draw hT (hr.mono (by decide)) tk (pxa_cons (px_var 0) (pxa_cons (px_op od_mul px_int (px_var 2)) pxa_nil))) (px_op od_mul px_int (px_var 2))) pxa_nil)))) pxa_nil))) pxa_nil)))))))), ?_⟩
  intro c ds QD ED h
  obtain ⟨k, most, hp, hk, rfl, hm1, hm2, q⟩ := h
  walk_at "s"
  refine ⟨hp.closed, _, _, hp, by omega, rfl, by omega, by omega, fun d c h0 h1 hp => ⟨hp.closed, ?_⟩⟩
  walk_at "s"
  refine ⟨hp.closed, _, _, hp, by omega, rfl, by omega, by omega, fun d1 c h2 h3 hp => ⟨hp.closed, ?_⟩⟩
  walk_at "s"
  refine ⟨hp.closed, _, _, hp, by omega, rfl, by omega, by omega, fun d2 c h4 h5 hp => ⟨hp.closed, ?_⟩⟩
  have bq : Bd 20 (1 + d) := by unfold Bd; omega
  have b3 : Bd 3 3 := by unfold Bd; decide
  have b6 : Bd 3 6 := by unfold Bd; decide
  walk_at "s"
  refine ⟨b3.mulW bq, ?_⟩
  walk_at "s"
  refine ⟨hp.closed, _, _, hp, by omega, rfl, by omega, by omega, fun d3 c h6 h7 hp => ⟨hp.closed, ?_⟩⟩
  walk_at "s"
  refine ⟨sz rfl, ?_⟩
  walk_at "s"
  refine ⟨hp.closed, _, _, hp, by omega, rfl, pos1 rfl, lt60 rfl, fun x c hx hp => ⟨hp.closed, ?_⟩⟩
  obtain ⟨p, rfl, hp0, hp1⟩ : ∃ p : Int, x = .int p ∧ 0 ≤ p ∧ p ≤ 3 * (1 + d) := by
    have hx : x = .int 0 ∨ x = .int 1 ∨ x = .int d1 ∨ x = .int d2 ∨ x = .int d3 ∨ x = .int (1 + d + 1) := by simpa using hx
    rcases hx with rfl | rfl | rfl | rfl | rfl | rfl <;> exact ⟨_, rfl, by omega, by omega⟩
  clear hx
  walk_at "s"
  refine ⟨hp.closed, _, _, hp, by omega, rfl, by omega, by omega, fun d4 c h8 h9 hp => ⟨hp.closed, ?_⟩⟩
  walk_at "s"
  refine ⟨b6.mulW bq, ?_⟩
  walk_at "s"
  refine ⟨hp.closed, _, _, hp, by omega, rfl, by omega, by omega, fun d5 c ha hb hp => ⟨hp.closed, ?_⟩⟩
  walk_at "s"
  refine ⟨b3.mulW bq, ?_⟩
  walk_at "s"
  refine ⟨sz rfl, ?_⟩
  walk_at "s"
  refine ⟨hp.closed, _, _, hp, by omega, rfl, pos1 rfl, lt60 rfl, fun x c hx hp => ⟨hp.closed, ?_⟩⟩
  obtain ⟨v, rfl, hv⟩ : ∃ v : Int, x = .int v ∧ (v.natAbs : Int) ≤ 3 * (1 + d) := by
    have hx : x = .int 0 ∨ x = .int d4 ∨ x = .int (d5 - 3 * (1 + d)) := by simpa using hx
    rcases hx with rfl | rfl | rfl <;> exact ⟨_, rfl, by omega⟩
  clear hx
  walk_at "s"
  refine ⟨_, _, _, rfl, hp0, by omega, bq.mono (by decide), ?_⟩
  have lo := lowest_ok hp0 (show 1 ≤ 1 + d by omega)
  obtain ⟨hg, hgq⟩ := gcd_pos hp0 (show 1 ≤ 1 + d by omega)
  have e1 := ediv_le (p := p) hp0 hg
  have e2 := ediv_le (p := 1 + d) (by omega) hg
  have e3 := natAbs_ediv_le v (Int.gcd p (1 + d) : Int)
  exact ⟨hp.closed, q _ _ _ _ lo (by omega) (by omega) (by omega) (hp.le (by omega))⟩

abbrev s__law_far_rule : Stmt := topS 30
abbrev N__law_far_rule : List Str := ["_law_pen_here", "_law_digits", "_law_q", "_law_p"]
theorem sc__law_far_rule : FnScope N__law_far_rule ["_law_pen_here", "_law_digits"] (defScope s__law_far_rule) := ⟨rfl, rfl, rfl, by decide +kernel, rfl, by decide +kernel, by decide +kernel⟩
def S__law_far_rule : SB := fun c ds Q _ => ∃ k dg : Nat, PenC PK k c ∧ 1500 ≤ k ∧ 6 ≤ dg ∧ dg ≤ 600 ∧ ds = [.int dg] ∧ ∀ p q v c', RuleOk p q → q ≤ 10 ^ dg → p ≤ 10 ^ dg + 1 → (v.natAbs : Int) < 10 ^ dg → PenC PK (k - 1500) c' → Q (ruleD p q v) c'
theorem binds__law_far_rule (F : FnP K "_law_far_rule" s__law_far_rule [] f fd) : Binds K fd ["_law_pen_here", "_law_digits"] [] := F.bindsN (ps := ["_law_pen_here", "_law_digits"]) fun _ _ _ _ _ _ us hl => match us, hl with | [_, _], _ => rfl
theorem ok__law_far_rule (Gz : Gs mg) (F : FnP K "_law_far_rule" s__law_far_rule [] f fd) {f__law_lowest : Addr} {fd__law_lowest : FuncData} (G__law_lowest : OwnF P w K mg base "_law_lowest" 2 f__law_lowest fd__law_lowest ["_law_p", "_law_q", "_law_c"] (spA K T S__law_lowest)) (b__law_lowest : Binds K fd__law_lowest ["_law_p", "_law_q", "_law_c"] []) {f__law_signed : Addr} {fd__law_signed : FuncData} (G__law_signed : OwnF P w K mg base "_law_signed" 3 f__law_signed fd__law_signed ["_law_pen_here", "_law_digits"] (spB K T S__law_signed)) (b__law_signed : Binds K fd__law_signed ["_law_pen_here", "_law_digits"] []) {f__law_pick : Addr} {fd__law_pick : FuncData} (G__law_pick : OwnF P w K mg base "_law_pick" 2 f__law_pick fd__law_pick ["_law_pen_here", "_law_options"] (spB K T S__law_pick)) (b__law_pick : Binds K fd__law_pick ["_law_pen_here", "_law_options"] []) {f__law_great : Addr} {fd__law_great : FuncData} (G__law_great : OwnF P w K mg base "_law_great" 2 f__law_great fd__law_great ["_law_pen_here", "_law_digits"] (spB K T S__law_great)) (b__law_great : Binds K fd__law_great ["_law_pen_here", "_law_digits"] []) : FnOk P w K mg base (L2.CX P w) 4 f fd ["_law_pen_here", "_law_digits"] (spB K T S__law_far_rule) := by
  refine bodyB F sc__law_far_rule (fun c ds QD ED h => by obtain ⟨k, f, _, _, _, _, rfl, _⟩ := h; rfl) (fun cdv A outer s H E g hT hr => ?_)
  have tk := takes_of (X := cxOf (L2.CX P w) P w K mg base N__law_far_rule "_law_far_rule" (defScope s__law_far_rule) f cdv A outer s H E) rfl rfl rfl rfl
  have hp := passes_of (X := cxOf (L2.CX P w) P w K mg base N__law_far_rule "_law_far_rule" (defScope s__law_far_rule) f cdv A outer s H E) rfl
  have hu := hu_of hr
  refine ⟨_, (pxb_cons (pxs_set (i := 2) sc__law_far_rule.nd rfl (by first | exact .inl rfl | exact .inr rfl) (px_op od_add px_int (px_ownB G__law_great b__law_great hT (hr.mono (by decide)) tk (pxa_cons (px_var 0) (pxa_cons (px_var 1) pxa_nil)))))
    (pxb_cons (pxs_set (i := 3) sc__law_far_rule.nd rfl (by first | exact .inl rfl | exact .inr rfl) (px_ownB G__law_pick b__law_pick hT (hr.mono (by decide)) tk (pxa_cons (px_var 0) (pxa_cons (px_lst (pxa_cons (px_ownB G__law_great b__law_great hT (hr.mono (by decide)) tk (pxa_cons (px_var 0) (pxa_cons (px_var 1) pxa_nil))) (pxa_cons (px_op od_mod (px_ownB G__law_great b__law_great hT (hr.mono (by decide)) tk (pxa_cons (px_var 0) (pxa_cons (px_var 1) pxa_nil))) (px_op od_add (px_var 2) px_int)) (pxa_cons px_int (pxa_cons (px_op od_add (px_var 2) px_int) (pxa_cons px_int pxa_nil)))))) pxa_nil))))
    (pxb_one (pxs_ret (px_own G__law_lowest b__law_lowest hT (hr.mono (by decide)) tk (pxa_cons (px_var 3) (pxa_cons (px_var 2) (pxa_cons (px_ownB G__law_signed b__law_signed hT (hr.mono (by decide)) tk (pxa_cons (px_var 0) (pxa_cons (px_var 1) pxa_nil))) pxa_nil)))))))), ?_⟩
  intro c ds QD ED h
  obtain ⟨k, dg, hp, hk, hd6, hd, rfl, q⟩ := h
  walk_at "s"
  refine ⟨hp.closed, _, dg, hp, by omega, hd6, hd, rfl, fun d c h0 h1 hp => ⟨hp.closed, ?_⟩⟩
  walk_at "s"
  refine ⟨hp.closed, _, dg, hp, by omega, hd6, hd, rfl, fun d1 c h2 h3 hp => ⟨hp.closed, ?_⟩⟩
  walk_at "s"
  refine ⟨hp.closed, _, dg, hp, by omega, hd6, hd, rfl, fun d2 c h4 h5 hp => ⟨hp.closed, ?_⟩⟩
  walk_at "s"
  refine ⟨(by omega : 0 < 1 + d + 1), ?_⟩
  walk_at "s"
  refine ⟨sz rfl, ?_⟩
  walk_at "s"
  refine ⟨hp.closed, _, _, hp, by omega, rfl, pos1 rfl, lt60 rfl, fun x c hx hp => ⟨hp.closed, ?_⟩⟩
  have e6 : (10 : Int) ^ 6 ≤ 10 ^ dg := ten_le hd6
  have hm := natAbs_mod (i := d2) (j := 1 + d + 1) (by omega)
  obtain ⟨p, rfl, hp0, hp1⟩ : ∃ p : Int, x = .int p ∧ 0 ≤ p ∧ p ≤ 10 ^ dg + 1 := by
    have hx : x = .int d1 ∨ x = .int (d2 % (1 + d + 1)) ∨ x = .int 1 ∨ x = .int (1 + d + 1) ∨ x = .int 0 := by simpa using hx
    rcases hx with rfl | rfl | rfl | rfl | rfl <;> exact ⟨_, rfl, by omega, by omega⟩
  clear hx
  walk_at "s"
  refine ⟨hp.closed, _, dg, hp, by omega, hd6, hd, rfl, fun v c hv hp => ⟨hp.closed, ?_⟩⟩
  walk_at "s"
  have bq : Bd 3000 (1 + d) := (show Bd 2500 1 from Nat.lt_of_lt_of_le (m := 2 ^ 1) (by decide) (Nat.pow_le_pow_right (by decide) (by decide))).add (bd10 (f := dg) (by omega) (by omega)) |>.mono (by decide)
  refine ⟨_, _, _, rfl, hp0, by omega, bq.mono (by decide), ?_⟩
  have lo := lowest_ok hp0 (show 1 ≤ 1 + d by omega)
  obtain ⟨hg, hgq⟩ := gcd_pos hp0 (show 1 ≤ 1 + d by omega)
  have e1 := ediv_le (p := p) hp0 hg
  have e2 := ediv_le (p := 1 + d) (by omega) hg
  have e3 := natAbs_ediv_le v (Int.gcd p (1 + d) : Int)
  exact ⟨hp.closed, q _ _ _ _ lo (by omega) (by omega) (by omega) (hp.le (by omega))⟩

abbrev s__law_tally : Stmt := topS 31
abbrev N__law_tally : List Str := ["_law_rule_here", "_law_time"]
theorem sc__law_tally : FnScope N__law_tally ["_law_rule_here", "_law_time"] (defScope s__law_tally) := ⟨rfl, rfl, rfl, by decide +kernel, rfl, by decide +kernel, by decide +kernel⟩
def S__law_tally : SA := fun ds Q _ => ∃ p q c t : Int, ds = [ruleD p q c, .int t] ∧ 1 ≤ q ∧ Bd 4000 p ∧ Bd 4000 q ∧ Bd 4000 t ∧ Q (.int ((p * t + c) / q))
theorem binds__law_tally (F : FnP K "_law_tally" s__law_tally [] f fd) : Binds K fd ["_law_rule_here", "_law_time"] [] := F.bindsN (ps := ["_law_rule_here", "_law_time"]) fun _ _ _ _ _ _ us hl => match us, hl with | [_, _], _ => rfl
theorem ok__law_tally (Gz : Gs mg) (F : FnP K "_law_tally" s__law_tally [] f fd)  : FnOk P w K mg base (L2.CX P w) 1 f fd ["_law_rule_here", "_law_time"] (spA K T S__law_tally) := by
  refine bodyA F sc__law_tally (fun ds QD ED h => by obtain ⟨p, q, c, t, rfl, _⟩ := h; rfl) (fun cdv A outer s H E g hT hr => ?_)
  have tk := takes_of (X := cxOf (L2.CX P w) P w K mg base N__law_tally "_law_tally" (defScope s__law_tally) f cdv A outer s H E) rfl rfl rfl rfl
  have hp := passes_of (X := cxOf (L2.CX P w) P w K mg base N__law_tally "_law_tally" (defScope s__law_tally) f cdv A outer s H E) rfl
  have hu := hu_of hr
  refine ⟨_, (pxb_one (pxs_ret (px_op od_div (px_op od_add (px_op od_mul (px_ixN (k := 0) (px_var 0)) (px_var 1)) (px_ixN (k := 2) (px_var 0))) (px_ixN (k := 1) (px_var 0))))), ?_⟩
  intro ds QD ED h
  obtain ⟨p, y, c, t, rfl, hy, bp, bq, bt, q⟩ := h
  walk_at "s"
  refine ⟨bp.mulW bt, ?_⟩
  walk_at "s"
  refine ⟨bq.divW (by omega), ?_⟩
  exact q
theorem neD {P : Prop} {x y : D} (e : x = y) (h : x.sim = true) (hc : (!PyData.eqv x.pd y.pd) = true) : P := by
  subst e
  rw [eqv_self h] at hc
  cases hc

abbrev s__law_is_int : Stmt := topS 32
abbrev N__law_is_int : List Str := ["_law_thing"]
theorem sc__law_is_int : FnScope N__law_is_int ["_law_thing"] (defScope s__law_is_int) := ⟨rfl, rfl, rfl, by decide +kernel, rfl, by decide +kernel, by decide +kernel⟩
def S__law_is_int : SA := fun ds Q _ => ∃ x : D, ds = [x] ∧ x.plain = true ∧ Q (.bl (isI x))
theorem binds__law_is_int (F : FnP K "_law_is_int" s__law_is_int [] f fd) : Binds K fd ["_law_thing"] [] := F.bindsN (ps := ["_law_thing"]) fun _ _ _ _ _ _ us hl => match us, hl with | [_], _ => rfl
theorem ok__law_is_int (Gz : Gs mg) (F : FnP K "_law_is_int" s__law_is_int [] f fd)  : FnOk P w K mg base (L2.CX P w) 1 f fd ["_law_thing"] (spA K T S__law_is_int) := by
  refine bodyA F sc__law_is_int (fun ds QD ED h => by obtain ⟨x, rfl, _⟩ := h; rfl) (fun cdv A outer s H E g hT hr => ?_)
  have tk := takes_of (X := cxOf (L2.CX P w) P w K mg base N__law_is_int "_law_is_int" (defScope s__law_is_int) f cdv A outer s H E) rfl rfl rfl rfl
  have hp := passes_of (X := cxOf (L2.CX P w) P w K mg base N__law_is_int "_law_is_int" (defScope s__law_is_int) f cdv A outer s H E) rfl
  have hu := hu_of hr
  refine ⟨_, (pxb_one (pxs_ret (px_and (px_callB cd_isiInt (by rfl) Gz.z_isinstance bt_isinstance (pxa_cons (px_var 0) (pxa_cons (px_ty (by rfl) Gz.z_int bt_int) pxa_nil))) (px_one (px_not (px_callB cd_isiBool (by rfl) Gz.z_isinstance bt_isinstance (pxa_cons (px_var 0) (pxa_cons (px_ty (by rfl) Gz.z_bool bt_bool) pxa_nil)))))))), ?_⟩
  intro ds QD ED h
  obtain ⟨x, rfl, hx, q⟩ := h
  walk_at "s"
  refine ⟨rfl, hx, ?_⟩
  walk_at "i" <;> intro hc
  · walk_at "s"
    refine ⟨rfl, hx, ?_⟩
    cases x <;> first | exact q | cases hc
  · cases x <;> first | exact q | cases hc

abbrev s__law_is_rule : Stmt := topS 33
abbrev N__law_is_rule : List Str := ["_law_thing", "_law_one"]
theorem sc__law_is_rule : FnScope N__law_is_rule ["_law_thing"] (defScope s__law_is_rule) := ⟨rfl, rfl, rfl, by decide +kernel, rfl, by decide +kernel, by decide +kernel⟩
def S__law_is_rule : SA := fun ds Q _ => ∃ p q c : Int, ds = [ruleD p q c] ∧ RuleOk p q ∧ Q (.bl true)
theorem binds__law_is_rule (F : FnP K "_law_is_rule" s__law_is_rule [] f fd) : Binds K fd ["_law_thing"] [] := F.bindsN (ps := ["_law_thing"]) fun _ _ _ _ _ _ us hl => match us, hl with | [_], _ => rfl
theorem ok__law_is_rule (Gz : Gs mg) (F : FnP K "_law_is_rule" s__law_is_rule [] f fd) {f__law_gcd : Addr} {fd__law_gcd : FuncData} (G__law_gcd : OwnF P w K mg base "_law_gcd" 1 f__law_gcd fd__law_gcd ["_law_one", "_law_other"] (spA K T S__law_gcd)) (b__law_gcd : Binds K fd__law_gcd ["_law_one", "_law_other"] []) {f__law_is_int : Addr} {fd__law_is_int : FuncData} (G__law_is_int : OwnF P w K mg base "_law_is_int" 1 f__law_is_int fd__law_is_int ["_law_thing"] (spA K T S__law_is_int)) (b__law_is_int : Binds K fd__law_is_int ["_law_thing"] []) : FnOk P w K mg base (L2.CX P w) 2 f fd ["_law_thing"] (spA K T S__law_is_rule) := by
  refine bodyA F sc__law_is_rule (fun ds QD ED h => by obtain ⟨p, q, c, rfl, _⟩ := h; rfl) (fun cdv A outer s H E g hT hr => ?_)
  have tk := takes_of (X := cxOf (L2.CX P w) P w K mg base N__law_is_rule "_law_is_rule" (defScope s__law_is_rule) f cdv A outer s H E) rfl rfl rfl rfl
  have hp := passes_of (X := cxOf (L2.CX P w) P w K mg base N__law_is_rule "_law_is_rule" (defScope s__law_is_rule) f cdv A outer s H E) rfl
  have hu := hu_of hr
  refine ⟨_, (pxb_cons (pxs_if (PXW.pxt (pxw_or (pxt_not (pxt_val (px_callB cd_isiTuple (by rfl) Gz.z_isinstance bt_isinstance (pxa_cons (px_var 0) (pxa_cons (px_ty (by rfl) Gz.z_tuple bt_tuple) pxa_nil))))) (pxw_or (pxt_cmp (od_ne hr.units) (px_callB cd_len (by rfl) Gz.z_len bt_len (pxa_cons (px_var 0) pxa_nil)) px_int (nomark _)) (pxw_or1 (pxt_cmp (od_ne hr.units) (px_lc (own := [("_law_one", 1)]) rfl sc__law_is_rule.nd (pxi_seq (px_var 0)) (blkOk_by (N := N__law_is_rule) (sc := defScope s__law_is_rule) (by decide +kernel)) (fun _ _ _ _ _ => (pxc_name (i := 1) sc__law_is_rule.nd rfl (by first | exact .inl rfl | exact .inr rfl) (by decide))) (fun _ _ _ _ _ => pxts_one (K := K) rfl (fun g hT2 => have hT := hT2.trans hT; have tk := takes0; (pxt_not (pxt_val (px_own G__law_is_int b__law_is_int hT (hr.mono (by decide)) tk (pxa_cons (px_var 1) pxa_nil)))))) (fun g _ _ _ _ _ hT2 => have hT := hT2.trans hT; (px_var 1))) (px_lst pxa_nil) (nomark _))))))
    (pxb_one (pxs_ret px_bl))
    pxb_nil)
    (pxb_one (pxs_ret (px_and (px_cmp od_ge (px_ixN (k := 0) (px_var 0)) px_int (nomark _)) (px_and (px_cmp od_ge (px_ixN (k := 1) (px_var 0)) px_int (nomark _)) (px_one (px_cmp (od_eq hr.units) (px_own G__law_gcd b__law_gcd hT (hr.mono (by decide)) tk (pxa_cons (px_ixN (k := 0) (px_var 0)) (pxa_cons (px_ixN (k := 1) (px_var 0)) pxa_nil))) px_int (nomark _)))))))), ?_⟩
  intro ds QD ED h
  obtain ⟨p, y, c, rfl, ok, q⟩ := h
  have h0 := ok.1
  have h1 := ok.2.1
  walk_at "s"
  refine ⟨rfl, rfl, ?_⟩
  walk_at "i" <;> intro hc
  · cases hc
  clear hc
  walk_at "i" <;> intro hc
  · cases hc
  clear hc
  walk_at "s"
  refine ⟨sz' rfl, ?_⟩
  walk_at "s"
  refine ⟨_, rfl, rfl, ?_⟩
  walk_at "i" <;> intro hc
  · cases hc
  clear hc
  walk_at "s"
  refine ⟨_, rfl, rfl, ?_⟩
  walk_at "i" <;> intro hc
  · cases hc
  clear hc
  walk_at "s"
  refine ⟨_, rfl, rfl, ?_⟩
  walk_at "i" <;> intro hc
  · cases hc
  clear hc
  walk_at "s"
  refine ⟨sz rfl, ?_⟩
  walk_at "s"
  refine ⟨lay_eqOk (n := 1) (m := 1) rfl rfl (by decide) (by decide), ?_⟩
  walk_at "i" <;> intro hc
  · exact neD rfl rfl hc
  clear hc
  walk_at "i" <;> intro hc
  rotate_left
  · exact absurd (of_decide_eq_false hc) (by omega)
  clear hc
  walk_at "i" <;> intro hc
  rotate_left
  · exact absurd (of_decide_eq_false hc) (by omega)
  clear hc
  walk_at "s"
  refine ⟨p, y, rfl, h0, by omega, ?_⟩
  walk_at "s"
  have e : (decide (((Int.gcd p y : Nat) : Int) = 1)) = true := by rw [ok.2.2]; rfl
  rw [← e] at q
  exact q

abbrev s__law_due : Stmt := topS 34
abbrev N__law_due : List Str := ["_law_rule_here", "_law_road", "_law_a", "_law_b", "_law_time"]
theorem sc__law_due : FnScope N__law_due ["_law_rule_here", "_law_road", "_law_a", "_law_b", "_law_time"] (defScope s__law_due) := ⟨rfl, rfl, rfl, by decide +kernel, rfl, by decide +kernel, by decide +kernel⟩
def S__law_due : SA := fun ds Q _ => ∃ (p q c road a b t : Int), ds = [ruleD p q c, .int road, .int a, .int b, .int t] ∧ 1 ≤ q ∧ (0 < b ∨ road ≠ 2) ∧ Bd 3000 p ∧ Bd 3000 q ∧ Bd 3000 c ∧ Bd 2000 a ∧ Bd 2000 b ∧ Bd 2000 t ∧
  Q (.int (if road = 0 then (p * (t + a) + c) / q + b else if road = 1 then 0 - (p * (0 - t) + c) / q else if road = 2 then (p * t + c) / q / b else (p * (b * t) + c) / q))
theorem binds__law_due (F : FnP K "_law_due" s__law_due [] f fd) : Binds K fd ["_law_rule_here", "_law_road", "_law_a", "_law_b", "_law_time"] [] := F.bindsN (ps := ["_law_rule_here", "_law_road", "_law_a", "_law_b", "_law_time"]) fun _ _ _ _ _ _ us hl => match us, hl with | [_, _, _, _, _], _ => rfl
theorem ok__law_due (Gz : Gs mg) (F : FnP K "_law_due" s__law_due [] f fd) {f__law_tally : Addr} {fd__law_tally : FuncData} (G__law_tally : OwnF P w K mg base "_law_tally" 1 f__law_tally fd__law_tally ["_law_rule_here", "_law_time"] (spA K T S__law_tally)) (b__law_tally : Binds K fd__law_tally ["_law_rule_here", "_law_time"] []) : FnOk P w K mg base (L2.CX P w) 2 f fd ["_law_rule_here", "_law_road", "_law_a", "_law_b", "_law_time"] (spA K T S__law_due) := by
  refine bodyA F sc__law_due (fun ds QD ED h => by obtain ⟨p, q, c, r, a, b, t, rfl, _⟩ := h; rfl) (fun cdv A outer s H E g hT hr => ?_)
  have tk := takes_of (X := cxOf (L2.CX P w) P w K mg base N__law_due "_law_due" (defScope s__law_due) f cdv A outer s H E) rfl rfl rfl rfl
  have hp := passes_of (X := cxOf (L2.CX P w) P w K mg base N__law_due "_law_due" (defScope s__law_due) f cdv A outer s H E) rfl
  have hu := hu_of hr
  refine ⟨_, (pxb_cons (pxs_if (pxt_cmp (od_eq hr.units) (px_var 1) px_int (nomark _))
    (pxb_one (pxs_ret (px_op od_add (px_own G__law_tally b__law_tally hT (hr.mono (by decide)) tk (pxa_cons (px_var 0) (pxa_cons (px_op od_add (px_var 4) (px_var 2)) pxa_nil))) (px_var 3))))
    pxb_nil)
    (pxb_cons (pxs_if (pxt_cmp (od_eq hr.units) (px_var 1) px_int (nomark _))
    (pxb_one (pxs_ret (px_op od_sub px_int (px_own G__law_tally b__law_tally hT (hr.mono (by decide)) tk (pxa_cons (px_var 0) (pxa_cons (px_op od_sub px_int (px_var 4)) pxa_nil))))))
    pxb_nil)
    (pxb_cons (pxs_if (pxt_cmp (od_eq hr.units) (px_var 1) px_int (nomark _))
    (pxb_one (pxs_ret (px_op od_div (px_own G__law_tally b__law_tally hT (hr.mono (by decide)) tk (pxa_cons (px_var 0) (pxa_cons (px_var 4) pxa_nil))) (px_var 3))))
    pxb_nil)
    (pxb_one (pxs_ret (px_own G__law_tally b__law_tally hT (hr.mono (by decide)) tk (pxa_cons (px_var 0) (pxa_cons (px_op od_mul (px_var 3) (px_var 4)) pxa_nil)))))))), ?_⟩
  intro ds QD ED h
  obtain ⟨p, y, v, r, a, b, t, rfl, hy, hb, bp, bq, bv, ba, bb, bt, q⟩ := h
  have b0 : Bd 2000 0 := Bd.mono (n := 1) (by unfold Bd; decide) (by decide)
  walk_at "i" <;> intro hc
  · rw [if_pos (of_decide_eq_true hc)] at q
    walk_at "s"
    exact ⟨p, y, v, _, rfl, hy, bp.mono (by decide), bq.mono (by decide), (bt.add ba).mono (by decide), q⟩
  have h0 := of_decide_eq_false hc
  rw [if_neg h0] at q
  clear hc
  walk_at "i" <;> intro hc
  · rw [if_pos (of_decide_eq_true hc)] at q
    walk_at "s"
    exact ⟨p, y, v, _, rfl, hy, bp.mono (by decide), bq.mono (by decide), (b0.sub bt).mono (by decide), q⟩
  have h1 := of_decide_eq_false hc
  rw [if_neg h1] at q
  clear hc
  walk_at "i" <;> intro hc
  · have h2 := of_decide_eq_true hc
    rw [if_pos h2] at q
    have hb : 0 < b := hb.resolve_right (fun z => z h2)
    walk_at "s"
    refine ⟨p, y, v, _, rfl, hy, bp.mono (by decide), bq.mono (by decide), bt.mono (by decide), ?_⟩
    walk_at "s"
    exact ⟨bb.divW hb, q⟩
  have h2 := of_decide_eq_false hc
  rw [if_neg h2] at q
  clear hc
  walk_at "s"
  refine ⟨bb.mulW bt, ?_⟩
  walk_at "s"
  exact ⟨p, y, v, _, rfl, hy, bp.mono (by decide), bq.mono (by decide), (bb.mul bt).mono (by decide), q⟩
abbrev SL : SA := fun ds Q _ => ∃ ns : List Int, ds = [.lsf (ns.map D.int)] ∧ ns.length ≤ 63 ∧ (∀ z ∈ ns, z.natAbs < 2 ^ 1048577) ∧ Q (.bl true)


abbrev s_law : Stmt := topS 35
abbrev N_law : List Str := ["_law_script", "_law_pen_here", "_law_turn", "_law_rule_here", "_law_a", "_law_b", "_law_found", "_law_road", "_law_time", "_law_due_here"]
theorem sc_law : FnScope N_law ["_law_script"] (defScope s_law) := ⟨rfl, rfl, rfl, by decide +kernel, rfl, by decide +kernel, by decide +kernel⟩
abbrev S_law : SA := SL
theorem binds_law (F : FnP K "law" s_law [] f fd) : Binds K fd ["_law_script"] [] := F.bindsN (ps := ["_law_script"]) fun _ _ _ _ _ _ us hl => match us, hl with | [_], _ => rfl
theorem ok_law (Gz : Gs mg) (F : FnP K "law" s_law [] f fd) {f__law_signed : Addr} {fd__law_signed : FuncData} (G__law_signed : OwnF P w K mg base "_law_signed" 3 f__law_signed fd__law_signed ["_law_pen_here", "_law_digits"] (spB K T S__law_signed)) (b__law_signed : Binds K fd__law_signed ["_law_pen_here", "_law_digits"] []) {f__law_draw : Addr} {fd__law_draw : FuncData} (G__law_draw : OwnF P w K mg base "_law_draw" 1 f__law_draw fd__law_draw ["_law_pen_here", "_law_many"] (spB K T S__law_draw)) (b__law_draw : Binds K fd__law_draw ["_law_pen_here", "_law_many"] []) {f_count : Addr} {fd_count : FuncData} (G_count : OwnF P w K mg base "count" 5 f_count fd_count ["rule", "time"] (spA K T S_count)) (b_count : Binds K fd_count ["rule", "time"] []) {f__law_tally : Addr} {fd__law_tally : FuncData} (G__law_tally : OwnF P w K mg base "_law_tally" 1 f__law_tally fd__law_tally ["_law_rule_here", "_law_time"] (spA K T S__law_tally)) (b__law_tally : Binds K fd__law_tally ["_law_rule_here", "_law_time"] []) {f__law_due : Addr} {fd__law_due : FuncData} (G__law_due : OwnF P w K mg base "_law_due" 2 f__law_due fd__law_due ["_law_rule_here", "_law_road", "_law_a", "_law_b", "_law_time"] (spA K T S__law_due)) (b__law_due : Binds K fd__law_due ["_law_rule_here", "_law_road", "_law_a", "_law_b", "_law_time"] []) {f__law_is_rule : Addr} {fd__law_is_rule : FuncData} (G__law_is_rule : OwnF P w K mg base "_law_is_rule" 2 f__law_is_rule fd__law_is_rule ["_law_thing"] (spA K T S__law_is_rule)) (b__law_is_rule : Binds K fd__law_is_rule ["_law_thing"] []) {f_sample_rule : Addr} {fd_sample_rule : FuncData} (G_sample_rule : OwnF P w K mg base "sample_rule" 5 f_sample_rule fd_sample_rule ["rule", "k"] (spA K T S_sample_rule)) (b_sample_rule : Binds K fd_sample_rule ["rule", "k"] []) {f_thin_rule : Addr} {fd_thin_rule : FuncData} (G_thin_rule : OwnF P w K mg base "thin_rule" 5 f_thin_rule fd_thin_rule ["rule", "k"] (spA K T S_thin_rule)) (b_thin_rule : Binds K fd_thin_rule ["rule", "k"] []) {f_mirror_rule : Addr} {fd_mirror_rule : FuncData} (G_mirror_rule : OwnF P w K mg base "mirror_rule" 5 f_mirror_rule fd_mirror_rule ["rule"] (spA K T S_mirror_rule)) (b_mirror_rule : Binds K fd_mirror_rule ["rule"] []) {f_shift_rule : Addr} {fd_shift_rule : FuncData} (G_shift_rule : OwnF P w K mg base "shift_rule" 5 f_shift_rule fd_shift_rule ["rule", "time", "amount"] (spA K T S_shift_rule)) (b_shift_rule : Binds K fd_shift_rule ["rule", "time", "amount"] []) {f__law_pick : Addr} {fd__law_pick : FuncData} (G__law_pick : OwnF P w K mg base "_law_pick" 2 f__law_pick fd__law_pick ["_law_pen_here", "_law_options"] (spB K T S__law_pick)) (b__law_pick : Binds K fd__law_pick ["_law_pen_here", "_law_options"] []) {f__law_great : Addr} {fd__law_great : FuncData} (G__law_great : OwnF P w K mg base "_law_great" 2 f__law_great fd__law_great ["_law_pen_here", "_law_digits"] (spB K T S__law_great)) (b__law_great : Binds K fd__law_great ["_law_pen_here", "_law_digits"] []) {f__law_far_rule : Addr} {fd__law_far_rule : FuncData} (G__law_far_rule : OwnF P w K mg base "_law_far_rule" 4 f__law_far_rule fd__law_far_rule ["_law_pen_here", "_law_digits"] (spB K T S__law_far_rule)) (b__law_far_rule : Binds K fd__law_far_rule ["_law_pen_here", "_law_digits"] []) {f__law_rule : Addr} {fd__law_rule : FuncData} (G__law_rule : OwnF P w K mg base "_law_rule" 3 f__law_rule fd__law_rule ["_law_pen_here", "_law_most"] (spB K T S__law_rule)) (b__law_rule : Binds K fd__law_rule ["_law_pen_here", "_law_most"] []) {f__law_pen : Addr} {fd__law_pen : FuncData} (G__law_pen : OwnF P w K mg base "_law_pen" 1 f__law_pen fd__law_pen ["_law_script"] (spC K T S__law_pen)) (b__law_pen : Binds K fd__law_pen ["_law_script"] []) : FnOk P w K mg base (L2.CX P w) 6 f fd ["_law_script"] (spA K T S_law) := by
  refine bodyA F sc_law (fun ds QD ED h => by obtain ⟨ns, rfl, _⟩ := h; rfl) (fun cdv A outer s H E g hT hr => ?_)
  have tk := takes_of (X := cxOf (L2.CX P w) P w K mg base N_law "law" (defScope s_law) f cdv A outer s H E) rfl rfl rfl rfl
  have hp := passes_of (X := cxOf (L2.CX P w) P w K mg base N_law "law" (defScope s_law) f cdv A outer s H E) rfl
  have hu := hu_of hr
  refine ⟨_, (pxb_cons (pxs_set (i := 1) sc_law.nd rfl (by first | exact .inl rfl | exact .inr rfl) (px_ownC G__law_pen b__law_pen hT (hr.mono (by decide)) tk (pxa_cons (px_var 0) pxa_nil)))
    (pxb_cons (pxs_for hp rfl (pxi_range1 (by rfl) Gz.z_range (pxa_cons px_int pxa_nil)) (pxg_name (i := 2) sc_law.nd rfl (by first | exact .inl rfl | exact .inr rfl))
    (pxb_cons (pxs_set (i := 3) sc_law.nd rfl (by first | exact .inl rfl | exact .inr rfl) (px_ownB G__law_pick b__law_pick hT (hr.mono (by decide)) tk (pxa_cons (px_var 1) (pxa_cons (px_lst (pxa_cons (px_ownB G__law_rule b__law_rule hT (hr.mono (by decide)) tk (pxa_cons (px_var 1) (pxa_cons px_int pxa_nil))) (pxa_cons (px_ownB G__law_far_rule b__law_far_rule hT (hr.mono (by decide)) tk (pxa_cons (px_var 1) (pxa_cons px_int pxa_nil))) pxa_nil))) pxa_nil))))
    (pxb_cons (pxs_par (i := 4) (j := 5) rfl sc_law.nd rfl rfl (by decide) rfl rfl (pxa_cons (px_ownB G__law_signed b__law_signed hT (hr.mono (by decide)) tk (pxa_cons (px_var 1) (pxa_cons px_int pxa_nil))) (pxa_cons (px_op od_add px_int (px_ownB G__law_pick b__law_pick hT (hr.mono (by decide)) tk (pxa_cons (px_var 1) (pxa_cons (px_lst (pxa_cons (px_ownB G__law_draw b__law_draw hT (hr.mono (by decide)) tk (pxa_cons (px_var 1) (pxa_cons px_int pxa_nil))) (pxa_cons (px_op od_sub (px_ixN (k := 1) (px_var 3)) px_int) (pxa_cons (px_ownB G__law_great b__law_great hT (hr.mono (by decide)) tk (pxa_cons (px_var 1) (pxa_cons px_int pxa_nil))) pxa_nil)))) pxa_nil)))) pxa_nil)) (by rfl))
    (pxb_cons (pxs_set (i := 6) sc_law.nd rfl (by first | exact .inl rfl | exact .inr rfl) (px_lst (pxa_cons (px_own G_shift_rule b_shift_rule hT (hr.mono (by decide)) tk (pxa_cons (px_var 3) (pxa_cons (px_var 4) (pxa_cons (px_op od_sub px_int (px_var 5)) pxa_nil)))) (pxa_cons (px_own G_mirror_rule b_mirror_rule hT (hr.mono (by decide)) tk (pxa_cons (px_var 3) pxa_nil)) (pxa_cons (px_own G_thin_rule b_thin_rule hT (hr.mono (by decide)) tk (pxa_cons (px_var 3) (pxa_cons (px_var 5) pxa_nil))) (pxa_cons (px_own G_sample_rule b_sample_rule hT (hr.mono (by decide)) tk (pxa_cons (px_var 3) (pxa_cons (px_var 5) pxa_nil))) pxa_nil))))))
    (pxb_one (pxs_for hp rfl (pxi_range1 (by rfl) Gz.z_range (pxa_cons px_int pxa_nil)) (pxg_name (i := 7) sc_law.nd rfl (by first | exact .inl rfl | exact .inr rfl))
    (pxb_cons (pxs_if (pxt_not (pxt_val (px_own G__law_is_rule b__law_is_rule hT (hr.mono (by decide)) tk (pxa_cons (px_ix (px_var 6) (px_var 7)) pxa_nil))))
    (pxb_one (pxs_ret px_bl))
    pxb_nil)
    (pxb_one (pxs_for hp rfl (pxi_seq (px_lst (pxa_cons px_int (pxa_cons px_int (pxa_cons (px_un ud_neg px_int) (pxa_cons (px_op od_sub (px_ownB G__law_draw b__law_draw hT (hr.mono (by decide)) tk (pxa_cons (px_var 1) (pxa_cons px_int pxa_nil))) px_int) (pxa_cons (px_ownB G__law_signed b__law_signed hT (hr.mono (by decide)) tk (pxa_cons (px_var 1) (pxa_cons px_int pxa_nil))) (pxa_cons (px_op od_sub (px_op od_mul (px_ixN (k := 1) (px_var 3)) (px_ownB G__law_signed b__law_signed hT (hr.mono (by decide)) tk (pxa_cons (px_var 1) (pxa_cons px_int pxa_nil)))) px_int) pxa_nil)))))))) (pxg_name (i := 8) sc_law.nd rfl (by first | exact .inl rfl | exact .inr rfl))
    (pxb_cons (pxs_set (i := 9) sc_law.nd rfl (by first | exact .inl rfl | exact .inr rfl) (px_own G__law_due b__law_due hT (hr.mono (by decide)) tk (pxa_cons (px_var 3) (pxa_cons (px_var 7) (pxa_cons (px_var 4) (pxa_cons (px_ifExp (pxt_cmp (od_eq hr.units) (px_var 7) px_int (nomark _)) (px_op od_sub px_int (px_var 5)) (px_var 5)) (pxa_cons (px_var 8) pxa_nil)))))))
    (pxb_cons (pxs_if (pxt_cmp (od_ne hr.units) (px_own G__law_tally b__law_tally hT (hr.mono (by decide)) tk (pxa_cons (px_ix (px_var 6) (px_var 7)) (pxa_cons (px_var 8) pxa_nil))) (px_var 9) (nomark _))
    (pxb_one (pxs_ret px_bl))
    pxb_nil)
    (pxb_one (pxs_if (pxt_cmp (od_ne hr.units) (px_callB cd_repr (by rfl) Gz.z_repr bt_repr (pxa_cons (px_own G_count b_count hT (hr.mono (by decide)) tk (pxa_cons (px_ix (px_var 6) (px_var 7)) (pxa_cons (px_var 8) pxa_nil))) pxa_nil)) (px_callB cd_repr (by rfl) Gz.z_repr bt_repr (pxa_cons (px_var 9) pxa_nil)) (nomark _))
    (pxb_one (pxs_ret px_bl))
    pxb_nil)))))))))))))
    (pxb_one (pxs_ret px_bl)))), ?_⟩
  intro ds QD ED h
  obtain ⟨ns, rfl, hl, hb, q⟩ := h
  walk_at "s"
  refine ⟨ns, rfl, hl, hb, fun c hp0 => ⟨hp0.closed, ?_⟩⟩
  walk_at "s"
  refine ⟨by decide, ?_⟩
  refine dLoop_rng (fun i ds => ∃ c' z0 z2 z3 z4 z5 z6 z7 z8 z9, ds = ⟨[z0, some (.m 0), z2, z3, z4, z5, z6, z7, z8, z9], [some c']⟩ ∧ PenC PK (2 ^ 59 - 200000 * i) c') ⟨c, _, _, _, _, _, _, _, _, _, rfl, hp0⟩ ?_ ?_
  rotate_left
  · rintro ds ⟨c, z0, z2, z3, z4, z5, z6, z7, z8, z9, rfl, hp⟩
    exact q
  rintro i ds N hi ⟨c, z0, z2, z3, z4, z5, z6, z7, z8, z9, rfl, hp⟩ hN
  have hi : i < 6 := hi
  have hbig : (2 : Nat) ^ 59 = 576460752303423488 := by decide
  have hN : ∀ c' z2 z3 z4 z5 z6 z7 z8 z9, PenC PK (2 ^ 59 - 200000 * (i + 1)) c' → N ⟨[z0, some (.m 0), z2, z3, z4, z5, z6, z7, z8, z9], [some c']⟩ := fun c' z2 z3 z4 z5 z6 z7 z8 z9 h => hN _ ⟨c', _, _, _, _, _, _, _, _, _, rfl, h⟩
  walk_at "s"
  refine ⟨hp.closed, _, _, hp, by omega, rfl, by decide, by decide, fun p1 q1 v1 c h1 h2 h3 h4 hp => ⟨hp.closed, ?_⟩⟩
  walk_at "s"
  refine ⟨hp.closed, _, 60, hp, by omega, by decide, by decide, rfl, fun p2 q2 v2 c k1 k2 k3 k4 hp => ⟨hp.closed, ?_⟩⟩
  walk_at "s"
  refine ⟨sz rfl, ?_⟩
  walk_at "s"
  refine ⟨hp.closed, _, _, hp, by omega, rfl, pos1 rfl, lt60 rfl, fun x c hx hp => ⟨hp.closed, ?_⟩⟩
  obtain ⟨p, y, v, rfl, ok, bp, bq, bv⟩ : ∃ p y v, x = ruleD p y v ∧ RuleOk p y ∧ Bd 250 p ∧ Bd 250 y ∧ Bd 250 v := by
    have hx : x = ruleD p1 q1 v1 ∨ x = ruleD p2 q2 v2 := by simpa using hx
    rcases hx with rfl | rfl
    · have a1 := h1.1; have a2 := h1.2.1
      exact ⟨_, _, _, rfl, h1, by unfold Bd; omega, by unfold Bd; omega, by unfold Bd; omega⟩
    · have a1 := k1.1; have a2 := k1.2.1
      have e : (10 : Int) ^ 60 = 1000000000000000000000000000000000000000000000000000000000000 := by decide
      exact ⟨_, _, _, rfl, k1, by unfold Bd; omega, by unfold Bd; omega, by unfold Bd; omega⟩
  clear h1 h2 h3 h4 k1 k2 k3 k4 hx
  have hy := ok.2.1
  walk_at "s"
  refine ⟨hp.closed, _, 30, hp, by omega, by decide, by decide, rfl, fun a c ab hp => ⟨hp.closed, ?_⟩⟩
  have ab : Bd 120 a := bd10 ab (by decide)
  walk_at "s"
  refine ⟨hp.closed, _, _, hp, by omega, rfl, by decide, by decide, fun dx c dx0 dx1 hp => ⟨hp.closed, ?_⟩⟩
  walk_at "s"
  refine ⟨hp.closed, _, 30, hp, by omega, by decide, by decide, rfl, fun dy c dy0 dy1 hp => ⟨hp.closed, ?_⟩⟩
  walk_at "s"
  refine ⟨sz rfl, ?_⟩
  walk_at "s"
  refine ⟨hp.closed, _, _, hp, by omega, rfl, pos1 rfl, lt60 rfl, fun x c hx hp => ⟨hp.closed, ?_⟩⟩
  obtain ⟨w, rfl, hw, bw⟩ : ∃ w : Int, x = .int w ∧ 0 ≤ w ∧ Bd 250 w := by
    have hx : x = .int dx ∨ x = .int (y - 1) ∨ x = .int dy := by simpa using hx
    rcases hx with rfl | rfl | rfl
    · exact ⟨_, rfl, dx0, Bd.mono (n := 7) (by unfold Bd; omega) (by decide)⟩
    · exact ⟨_, rfl, by omega, bq.lt (by omega) (by omega)⟩
    · exact ⟨_, rfl, dy0, bd10 (f := 30) (by omega) (by decide)⟩
  clear hx
  have bb : Bd 251 (1 + w) := Bd.add (n := 250) (Bd.mono (n := 1) (by unfold Bd; decide) (by decide)) bw
  have hb1 : 1 ≤ 1 + w := by omega
  have b1 : Bd 1 1 := by unfold Bd; decide
  have b0 : Bd 1 0 := by unfold Bd; decide
  have nn : 0 ≤ (1 + w) * p := Int.mul_nonneg (by omega) ok.1
  walk_at "s"
  refine ⟨_, _, _, _, _, rfl, ok, bp.mono (by decide), bq.mono (by decide), ab.mono (by decide), (Bd.sub (n := 251) (b0.mono (by decide)) bb).mono (by decide), ?_⟩
  walk_at "s"
  refine ⟨_, _, _, rfl, ok, ?_⟩
  walk_at "s"
  refine ⟨_, _, _, _, rfl, ok, hb1, bq.mono (by decide), bb.mono (by decide), ?_⟩
  walk_at "s"
  refine ⟨_, _, _, _, rfl, ok, hb1, bp.mono (by decide), bq.mono (by decide), bb.mono (by decide), ?_⟩
  walk_at "s"
  refine ⟨sz rfl, ?_⟩
  walk_at "s"
  refine ⟨by decide, ?_⟩
  have due : ∀ i : Nat, i < 4 → ∃ P Q C : Int, atI [ruleD p y (v + p * a + y * (0 - (1 + w))), ruleD p y (y - 1 - v), ruleD (Rl.red p ((1 + w) * y) v).1 (Rl.red p ((1 + w) * y) v).2.1 (Rl.red p ((1 + w) * y) v).2.2, ruleD (Rl.red ((1 + w) * p) y v).1 (Rl.red ((1 + w) * p) y v).2.1 (Rl.red ((1 + w) * p) y v).2.2] (0 + (i : Int)) = some (ruleD P Q C) ∧ Rl.Ok P Q ∧ Bd 520 P ∧ Bd 520 Q ∧ Bd 520 C ∧
      ∀ t : Int, (P * t + C) / Q = if 0 + (i : Int) = 0 then (p * (t + a) + v) / y + (if 0 + (i : Int) = 0 then 0 - (1 + w) else 1 + w) else if 0 + (i : Int) = 1 then 0 - (p * (0 - t) + v) / y else if 0 + (i : Int) = 2 then (p * t + v) / y / (if 0 + (i : Int) = 0 then 0 - (1 + w) else 1 + w) else (p * ((if 0 + (i : Int) = 0 then 0 - (1 + w) else 1 + w) * t) + v) / y := by
    intro i hi
    rcases (by omega : i = 0 ∨ i = 1 ∨ i = 2 ∨ i = 3) with rfl | rfl | rfl | rfl
    · refine ⟨_, _, _, rfl, ok, bp.mono (by decide), bq.mono (by decide), (((bv.mono (by decide : 250 ≤ 503)).add ((bp.mul ab).mono (by decide))).mono (by decide : 504 ≤ 505) |>.add ((bq.mul (Bd.sub (n := 251) (b0.mono (by decide)) bb)).mono (by decide))).mono (by decide), fun t => ?_⟩
      rw [if_pos (by rfl), if_pos (by rfl)]
      exact Rl.cnt_shift p y v a _ t hy
    · refine ⟨_, _, _, rfl, ok, bp.mono (by decide), bq.mono (by decide), ((bq.sub (b1.mono (by decide))).sub (bv.mono (by decide))).mono (by decide), fun t => ?_⟩
      rw [if_neg (by decide), if_pos (by rfl)]
      exact Rl.cnt_mirror p y v t hy
    · refine ⟨_, _, _, rfl, Rl.red_ok ok.1 (Rl.mul_pos1 hb1 hy), (bp.div).mono (by decide), ((bb.mul bq).div).mono (by decide), (bv.div).mono (by decide), fun t => ?_⟩
      rw [if_neg (by decide), if_neg (by decide), if_pos (by rfl), if_neg (by decide)]
      exact Rl.cnt_thin p y v _ t ok.1 hy hb1
    · refine ⟨_, _, _, rfl, Rl.red_ok nn hy, ((bb.mul bp).div).mono (by decide), (bq.div).mono (by decide), (bv.div).mono (by decide), fun t => ?_⟩
      rw [if_neg (by decide), if_neg (by decide), if_neg (by decide), if_neg (by decide)]
      exact Rl.cnt_sample p y v _ t ok.1 hy hb1
  generalize [ruleD p y (v + p * a + y * (0 - (1 + w))), ruleD p y (y - 1 - v), ruleD (Rl.red p ((1 + w) * y) v).1 (Rl.red p ((1 + w) * y) v).2.1 (Rl.red p ((1 + w) * y) v).2.2, ruleD (Rl.red ((1 + w) * p) y v).1 (Rl.red ((1 + w) * p) y v).2.1 (Rl.red ((1 + w) * p) y v).2.2] = found at due
  refine dLoop_rng (fun j ds => ∃ c' z7 z8 z9 z2, ds = ⟨[z0, some (.m 0), z2, some (.d (ruleD p y v)), some (.d (.int a)), some (.d (.int (1 + w))), some (.d (.lst found)), z7, z8, z9], [some c']⟩ ∧ PenC PK (2 ^ 59 - 200000 * i - 20000 - 2000 * j) c') ⟨_, _, _, _, _, rfl, hp.le (by omega)⟩ ?_ ?_
  rotate_left
  · rintro ds ⟨c, z7, z8, z9, z2, rfl, hp⟩
    exact hN _ _ _ _ _ _ _ _ _ (hp.le (by omega))
  rintro j ds N' hj ⟨c, z7, z8, z9, z2, rfl, hp⟩ hN'
  have hj : j < 4 := hj
  obtain ⟨P, Q, C, e, okP, bP, bQ, bC, hd⟩ := due j hj
  have hQ := okP.2.1
  clear due
  walk_at "s"
  refine ⟨_, e, ?_⟩
  walk_at "s"
  refine ⟨P, Q, C, rfl, okP, ?_⟩
  walk_at "i" <;> intro hc
  · cases hc
  clear hc
  walk_at "s"
  refine ⟨hp.closed, _, _, hp, by omega, rfl, by decide, by decide, fun d1 c d10 d11 hp => ⟨hp.closed, ?_⟩⟩
  walk_at "s"
  refine ⟨hp.closed, _, 60, hp, by omega, by decide, by decide, rfl, fun t1 c t1b hp => ⟨hp.closed, ?_⟩⟩
  have t1b : Bd 240 t1 := bd10 t1b (by decide)
  walk_at "s"
  refine ⟨hp.closed, _, 12, hp, by omega, by decide, by decide, rfl, fun t2 c t2b hp => ⟨hp.closed, ?_⟩⟩
  have t2b : Bd 48 t2 := bd10 t2b (by decide)
  walk_at "s"
  refine ⟨bq.mulW t2b, ?_⟩
  walk_at "s"
  refine ⟨sz rfl, ?_⟩
  have hit : ∀ x ∈ [D.int 0, D.int 1, D.int (-1), D.int (d1 - 49), D.int t1, D.int (y * t2 - 1)], ∃ t : Int, x = .int t ∧ Bd 310 t := by
    intro x hx
    have hx : x = .int 0 ∨ x = .int 1 ∨ x = .int (-1) ∨ x = .int (d1 - 49) ∨ x = .int t1 ∨ x = .int (y * t2 - 1) := by simpa using hx
    rcases hx with rfl | rfl | rfl | rfl | rfl | rfl
    · exact ⟨_, rfl, Bd.mono (n := 1) (by unfold Bd; decide) (by decide)⟩
    · exact ⟨_, rfl, Bd.mono (n := 1) (by unfold Bd; decide) (by decide)⟩
    · exact ⟨_, rfl, Bd.mono (n := 1) (by unfold Bd; decide) (by decide)⟩
    · exact ⟨_, rfl, Bd.mono (n := 8) (by unfold Bd; omega) (by decide)⟩
    · exact ⟨_, rfl, t1b.mono (by decide)⟩
    · exact ⟨_, rfl, ((bq.mul t2b).sub (b1.mono (by decide))).mono (by decide)⟩
  generalize [D.int 0, D.int 1, D.int (-1), D.int (d1 - 49), D.int t1, D.int (y * t2 - 1)] = items at hit ⊢
  walk_at "s"
  refine dLoop_list (fun _ ds => ∃ z8 z9 z2, ds = ⟨[z0, some (.m 0), z2, some (.d (ruleD p y v)), some (.d (.int a)), some (.d (.int (1 + w))), some (.d (.lst found)), some (.d (.int (0 + (j : Int)))), z8, z9], [some c]⟩) ⟨_, _, _, rfl⟩ ?_ ?_
  rotate_left
  · rintro ds ⟨z8, z9, z2, rfl⟩
    exact hN' _ ⟨_, _, _, _, _, rfl, hp.le (by omega)⟩
  rintro k x ds N2 hx ⟨z8, z9, z2, rfl⟩ hN2
  obtain ⟨t, rfl, bt⟩ := hit x (List.mem_of_getElem? hx)
  have hdt := hd t
  have bcn : Bd 1000 ((P * t + C) / Q) := ((bP.mul bt).add (bC.mono (by decide))).div.mono (by decide)
  rw [hdt] at bcn
  walk_at "i" <;> intro hc
  · have hc := of_decide_eq_true hc
    rw [if_pos hc, if_pos hc] at hdt bcn
    walk_at "s"
    refine ⟨p, y, v, _, a, _, t, rfl, hy, .inr (by omega), bp.mono (by decide), bq.mono (by decide), bv.mono (by decide), ab.mono (by decide), (Bd.sub (n := 251) (b0.mono (by decide)) bb).mono (by decide), bt.mono (by decide), ?_⟩
    rw [if_pos hc]
    rw [← hdt] at bcn ⊢
    walk_at "s"
    refine ⟨_, e, ?_⟩
    walk_at "s"
    refine ⟨P, Q, C, t, rfl, hQ, bP.mono (by decide), bQ.mono (by decide), bt.mono (by decide), ?_⟩
    walk_at "i"
    · intro h; exact neT rfl h
    intro h; clear h
    walk_at "s"
    refine ⟨_, e, ?_⟩
    walk_at "s"
    refine ⟨P, Q, C, t, rfl, okP, bP.mono (by decide), bQ.mono (by decide), bt.mono (by decide), ?_⟩
    walk_at "s"
    refine ⟨bcn.mono (by decide), ?_⟩
    walk_at "s"
    refine ⟨bcn.mono (by decide), ?_⟩
    walk_at "i"
    · intro h; exact sneT rfl h
    intro h; clear h
    exact hN2 _ ⟨_, _, _, rfl⟩
  · have hc := of_decide_eq_false hc
    rw [if_neg hc, if_neg hc] at hdt bcn
    walk_at "s"
    refine ⟨p, y, v, _, a, _, t, rfl, hy, .inl (by omega), bp.mono (by decide), bq.mono (by decide), bv.mono (by decide), ab.mono (by decide), bb.mono (by decide), bt.mono (by decide), ?_⟩
    rw [if_neg hc]
    rw [← hdt] at bcn ⊢
    walk_at "s"
    refine ⟨_, e, ?_⟩
    walk_at "s"
    refine ⟨P, Q, C, t, rfl, hQ, bP.mono (by decide), bQ.mono (by decide), bt.mono (by decide), ?_⟩
    walk_at "i"
    · intro h; exact neT rfl h
    intro h; clear h
    walk_at "s"
    refine ⟨_, e, ?_⟩
    walk_at "s"
    refine ⟨P, Q, C, t, rfl, okP, bP.mono (by decide), bQ.mono (by decide), bt.mono (by decide), ?_⟩
    walk_at "s"
    refine ⟨bcn.mono (by decide), ?_⟩
    walk_at "s"
    refine ⟨bcn.mono (by decide), ?_⟩
    walk_at "i"
    · intro h; exact sneT rfl h
    intro h; clear h
    exact hN2 _ ⟨_, _, _, rfl⟩
theorem DB_need_number_1 (F : FnP K "need_number" s_need_number [.non, .non] f fd) : DB K fd ["value", "least", "most"] [.non, .non] := FunD.db F 1 0 _ (by simp) rfl (fun T kV doc pm an cdv ct us its h1 h2 => by
  match us, its, h1, h2 with
  | [_], [_, _], _, _ => exact ⟨_, rfl, rfl⟩) (fun own H => ⟨_, _, rfl, rfl, ⟨_, _, rfl, rfl, rfl⟩⟩)
theorem KB_need_number_1_least (F : FnP K "need_number" s_need_number [.non, .non] f fd) : KB K fd ["value", "least", "most"] 1 ["least"] (fun l m => [l.getD 0 .non, m.getD 0 .non, .non]) := by
  refine FunD.kb F 1 ["least"] (fun us its ws => [us.getD 0 .none, ws.getD 0 .none, its.getD 1 .none]) _ (by simp) (fun T kV doc pm an cdv ct us its ws h1 h2 h3 => ?_) (fun own H l m vs zs us its ws rl rm rv rz rd h1 h2 => ?_)
  · match us, its, ws, h1, h2, h3 with
    | [u0], [i0, i1], [w0], _, _, _ => exact ⟨_, rfl, rfl⟩
  · have e1 := RepL.length rl
    have e2 := RepL.length rm
    have e3 := rv.length
    have e4 := rz.length
    have e5 := rd.length
    have h2 : ws.length = 1 := h2
    have e6 : l.length = 1 := by omega
    have e7 : m.length = 1 := by omega
    obtain ⟨x0, rfl⟩ : ∃ x0, l = [x0] := by
      match l, e6 with
      | [x0], _ => exact ⟨x0, rfl⟩
    obtain ⟨y0, rfl⟩ : ∃ y0, m = [y0] := by
      match m, e7 with
      | [y0], _ => exact ⟨y0, rfl⟩
    obtain ⟨v0, r0, rfl, a0, rl⟩ := rl
    cases rl
    obtain ⟨z0, q0, rfl, b0, rm⟩ := rm
    cases rm
    rcases rv with _ | ⟨c0, rv⟩
    rcases rv with _ | _
    rcases rz with _ | ⟨d0, rz⟩
    rcases rz with _ | _
    rcases rd with _ | ⟨g0, rd⟩
    rcases rd with _ | ⟨g1, rd⟩
    rcases rd with _ | _
    exact ⟨_, ⟨_, _, rfl, a0, ⟨_, _, rfl, b0, ⟨_, _, rfl, rfl, rfl⟩⟩⟩, .cons c0 (.cons d0 (.cons g1 (.nil)))⟩
def d_is_integer : He.DefD := ⟨("is_integer", none), "is_integer", "is_integer", defArgs s_is_integer, defBody s_is_integer, defScope s_is_integer, [], []⟩
def d_need_number : He.DefD := ⟨("need_number", none), "need_number", "need_number", defArgs s_need_number, defBody s_need_number, defScope s_need_number, [.non, .non], []⟩
def d_common_divisor : He.DefD := ⟨("common_divisor", none), "common_divisor", "common_divisor", defArgs s_common_divisor, defBody s_common_divisor, defScope s_common_divisor, [], []⟩
def d_is_reduced : He.DefD := ⟨("is_reduced", none), "is_reduced", "is_reduced", defArgs s_is_reduced, defBody s_is_reduced, defScope s_is_reduced, [], []⟩
def d_is_rule : He.DefD := ⟨("is_rule", none), "is_rule", "is_rule", defArgs s_is_rule, defBody s_is_rule, defScope s_is_rule, [], []⟩
def d_need_rule : He.DefD := ⟨("need_rule", none), "need_rule", "need_rule", defArgs s_need_rule, defBody s_need_rule, defScope s_need_rule, [], []⟩
def d_reduced : He.DefD := ⟨("reduced", none), "reduced", "reduced", defArgs s_reduced, defBody s_reduced, defScope s_reduced, [], []⟩
def d_count_at : He.DefD := ⟨("count_at", none), "count_at", "count_at", defArgs s_count_at, defBody s_count_at, defScope s_count_at, [], []⟩
def d_count : He.DefD := ⟨("count", none), "count", "count", defArgs s_count, defBody s_count, defScope s_count, [], []⟩
def d_moved : He.DefD := ⟨("moved", none), "moved", "moved", defArgs s_moved, defBody s_moved, defScope s_moved, [], []⟩
def d_shift_rule : He.DefD := ⟨("shift_rule", none), "shift_rule", "shift_rule", defArgs s_shift_rule, defBody s_shift_rule, defScope s_shift_rule, [], []⟩
def d_mirrored : He.DefD := ⟨("mirrored", none), "mirrored", "mirrored", defArgs s_mirrored, defBody s_mirrored, defScope s_mirrored, [], []⟩
def d_mirror_rule : He.DefD := ⟨("mirror_rule", none), "mirror_rule", "mirror_rule", defArgs s_mirror_rule, defBody s_mirror_rule, defScope s_mirror_rule, [], []⟩
def d_thin_rule : He.DefD := ⟨("thin_rule", none), "thin_rule", "thin_rule", defArgs s_thin_rule, defBody s_thin_rule, defScope s_thin_rule, [], []⟩
def d_sample_rule : He.DefD := ⟨("sample_rule", none), "sample_rule", "sample_rule", defArgs s_sample_rule, defBody s_sample_rule, defScope s_sample_rule, [], []⟩
def d__law_pen : He.DefD := ⟨("_law_pen", none), "_law_pen", "_law_pen", defArgs s__law_pen, defBody s__law_pen, defScope s__law_pen, [], []⟩
def d__law_draw : He.DefD := ⟨("_law_draw", none), "_law_draw", "_law_draw", defArgs s__law_draw, defBody s__law_draw, defScope s__law_draw, [], []⟩
def d__law_pick : He.DefD := ⟨("_law_pick", none), "_law_pick", "_law_pick", defArgs s__law_pick, defBody s__law_pick, defScope s__law_pick, [], []⟩
def d__law_great : He.DefD := ⟨("_law_great", none), "_law_great", "_law_great", defArgs s__law_great, defBody s__law_great, defScope s__law_great, [], []⟩
def d__law_signed : He.DefD := ⟨("_law_signed", none), "_law_signed", "_law_signed", defArgs s__law_signed, defBody s__law_signed, defScope s__law_signed, [], []⟩
def d__law_gcd : He.DefD := ⟨("_law_gcd", none), "_law_gcd", "_law_gcd", defArgs s__law_gcd, defBody s__law_gcd, defScope s__law_gcd, [], []⟩
def d__law_lowest : He.DefD := ⟨("_law_lowest", none), "_law_lowest", "_law_lowest", defArgs s__law_lowest, defBody s__law_lowest, defScope s__law_lowest, [], []⟩
def d__law_rule : He.DefD := ⟨("_law_rule", none), "_law_rule", "_law_rule", defArgs s__law_rule, defBody s__law_rule, defScope s__law_rule, [], []⟩
def d__law_far_rule : He.DefD := ⟨("_law_far_rule", none), "_law_far_rule", "_law_far_rule", defArgs s__law_far_rule, defBody s__law_far_rule, defScope s__law_far_rule, [], []⟩
def d__law_tally : He.DefD := ⟨("_law_tally", none), "_law_tally", "_law_tally", defArgs s__law_tally, defBody s__law_tally, defScope s__law_tally, [], []⟩
def d__law_is_int : He.DefD := ⟨("_law_is_int", none), "_law_is_int", "_law_is_int", defArgs s__law_is_int, defBody s__law_is_int, defScope s__law_is_int, [], []⟩
def d__law_is_rule : He.DefD := ⟨("_law_is_rule", none), "_law_is_rule", "_law_is_rule", defArgs s__law_is_rule, defBody s__law_is_rule, defScope s__law_is_rule, [], []⟩
def d__law_due : He.DefD := ⟨("_law_due", none), "_law_due", "_law_due", defArgs s__law_due, defBody s__law_due, defScope s__law_due, [], []⟩
def d_law : He.DefD := ⟨("law", none), "law", "law", defArgs s_law, defBody s_law, defScope s_law, [], []⟩
def fn : List He.DefD := [d_is_integer, d_need_number, d_common_divisor, d_is_reduced, d_is_rule, d_need_rule, d_reduced, d_count_at, d_count, d_moved, d_shift_rule, d_mirrored, d_mirror_rule, d_thin_rule, d_sample_rule, d__law_pen, d__law_draw, d__law_pick, d__law_great, d__law_signed, d__law_gcd, d__law_lowest, d__law_rule, d__law_far_rule, d__law_tally, d__law_is_int, d__law_is_rule, d__law_due, d_law]
def fa : List He.Fa := [.glo "is_integer", .glo "need_number", .glo "common_divisor", .glo "is_reduced", .glo "is_rule", .glo "need_rule", .glo "reduced", .glo "count_at", .glo "count", .glo "moved", .glo "shift_rule", .glo "mirrored", .glo "mirror_rule", .glo "thin_rule", .glo "sample_rule", .glo "_law_pen", .glo "_law_draw", .glo "_law_pick", .glo "_law_great", .glo "_law_signed", .glo "_law_gcd", .glo "_law_lowest", .glo "_law_rule", .glo "_law_far_rule", .glo "_law_tally", .glo "_law_is_int", .glo "_law_is_rule", .glo "_law_due", .glo "law", .free "isinstance", .free "bool", .free "int", .free "all", .free "len", .free "tuple", .free "list", .free "abs", .free "range", .free "repr"]
abbrev R : PySem.W.OpenRow := PySem.W.OpenLaw.row PySem.Challenge.rw_leapfit_k05_rules_changed
abbrev hk : PySem.W.Hook := He.hookD 4 fa fn
def ob (s : PySem.W.SharedT) : He.AlD := He.obsDG 4 fa fn (HandSHeadRun.getT s)
theorem ob_eq (s : PySem.W.SharedT) : ob s = hk.obs s.abs := He.obsDG_eq (HandSHeadRun.getT_eq s)
def names0 : List Str := ["LeapfitError", "InvalidRule", "InvalidNumber", "is_integer", "common_divisor", "is_reduced", "is_rule", "need_rule", "need_number", "reduced", "count_at", "count", "moved", "shift_rule", "mirrored", "mirror_rule", "thin_rule", "sample_rule", "_law_pen", "_law_draw", "_law_pick", "_law_great", "_law_signed", "_law_gcd", "_law_lowest", "_law_rule", "_law_far_rule", "_law_tally", "_law_is_int", "_law_is_rule"]
def names1 : List Str := ["_law_due"]
abbrev names : List Str := names0 ++ names1
theorem run (w : World) : HandSHeadRun.RunEq R (PySem.W.view R.prog [35]) hk ob 4000 names w := by
  intro os
  kernel_rfl
theorem facts {P : Program} {w : World} {K : PySem.W.Frag} {h : Heap} {mg : Str → Option Value} {f : Addr} (X : K.In h) (G : h.Ns mainGlobals mg) (hfa : mg ("law" : Str) = some (.ref f)) (c : He.SaysD fa fn K) :
    ∃ fd : FuncData, (∀ (s : Shared) (v : Value), BindsTo s fd ⟨[v], []⟩ [("_law_script", v)]) ∧ ∀ base : Heap, K.In base → base.Ns mainGlobals mg → FnOk P w K mg base (L2.CX P w) 6 f fd ["_law_script"] (spA K [] S_law) := by
  obtain ⟨fd_is_integer, F_is_integer⟩ := c.def_ 0 (d := d_is_integer) rfl
  obtain ⟨fd_need_number, F_need_number⟩ := c.def_ 1 (d := d_need_number) rfl
  obtain ⟨fd_common_divisor, F_common_divisor⟩ := c.def_ 2 (d := d_common_divisor) rfl
  obtain ⟨fd_is_reduced, F_is_reduced⟩ := c.def_ 3 (d := d_is_reduced) rfl
  obtain ⟨fd_is_rule, F_is_rule⟩ := c.def_ 4 (d := d_is_rule) rfl
  obtain ⟨fd_need_rule, F_need_rule⟩ := c.def_ 5 (d := d_need_rule) rfl
  obtain ⟨fd_reduced, F_reduced⟩ := c.def_ 6 (d := d_reduced) rfl
  obtain ⟨fd_count_at, F_count_at⟩ := c.def_ 7 (d := d_count_at) rfl
  obtain ⟨fd_count, F_count⟩ := c.def_ 8 (d := d_count) rfl
  obtain ⟨fd_moved, F_moved⟩ := c.def_ 9 (d := d_moved) rfl
  obtain ⟨fd_shift_rule, F_shift_rule⟩ := c.def_ 10 (d := d_shift_rule) rfl
  obtain ⟨fd_mirrored, F_mirrored⟩ := c.def_ 11 (d := d_mirrored) rfl
  obtain ⟨fd_mirror_rule, F_mirror_rule⟩ := c.def_ 12 (d := d_mirror_rule) rfl
  obtain ⟨fd_thin_rule, F_thin_rule⟩ := c.def_ 13 (d := d_thin_rule) rfl
  obtain ⟨fd_sample_rule, F_sample_rule⟩ := c.def_ 14 (d := d_sample_rule) rfl
  obtain ⟨fd__law_pen, F__law_pen⟩ := c.def_ 15 (d := d__law_pen) rfl
  obtain ⟨fd__law_draw, F__law_draw⟩ := c.def_ 16 (d := d__law_draw) rfl
  obtain ⟨fd__law_pick, F__law_pick⟩ := c.def_ 17 (d := d__law_pick) rfl
  obtain ⟨fd__law_great, F__law_great⟩ := c.def_ 18 (d := d__law_great) rfl
  obtain ⟨fd__law_signed, F__law_signed⟩ := c.def_ 19 (d := d__law_signed) rfl
  obtain ⟨fd__law_gcd, F__law_gcd⟩ := c.def_ 20 (d := d__law_gcd) rfl
  obtain ⟨fd__law_lowest, F__law_lowest⟩ := c.def_ 21 (d := d__law_lowest) rfl
  obtain ⟨fd__law_rule, F__law_rule⟩ := c.def_ 22 (d := d__law_rule) rfl
  obtain ⟨fd__law_far_rule, F__law_far_rule⟩ := c.def_ 23 (d := d__law_far_rule) rfl
  obtain ⟨fd__law_tally, F__law_tally⟩ := c.def_ 24 (d := d__law_tally) rfl
  obtain ⟨fd__law_is_int, F__law_is_int⟩ := c.def_ 25 (d := d__law_is_int) rfl
  obtain ⟨fd__law_is_rule, F__law_is_rule⟩ := c.def_ 26 (d := d__law_is_rule) rfl
  obtain ⟨fd__law_due, F__law_due⟩ := c.def_ 27 (d := d__law_due) rfl
  obtain ⟨fd_law, F_law⟩ := c.def_ 28 (d := d_law) rfl
  have e := hfa.symm.trans (He.glo_ok X G (c.fact 28 (f := .glo "law") rfl))
  cases e
  have bb := FunD.bindsA (ps := ["_law_script"]) F_law fun _ _ _ _ _ _ us hl => match us, hl with | [_], _ => rfl
  refine ⟨fd_law, fun s v => bb s [v] rfl, fun base _ _ => ?_⟩
  have Gz : Gs mg := ⟨He.free_ok X G (c.fact 29 (f := .free "isinstance") rfl), He.free_ok X G (c.fact 30 (f := .free "bool") rfl), He.free_ok X G (c.fact 31 (f := .free "int") rfl), He.free_ok X G (c.fact 32 (f := .free "all") rfl), He.free_ok X G (c.fact 33 (f := .free "len") rfl), He.free_ok X G (c.fact 34 (f := .free "tuple") rfl), He.free_ok X G (c.fact 35 (f := .free "list") rfl), He.free_ok X G (c.fact 36 (f := .free "abs") rfl), He.free_ok X G (c.fact 37 (f := .free "range") rfl), He.free_ok X G (c.fact 38 (f := .free "repr") rfl)⟩
  have b_is_integer := binds_is_integer F_is_integer
  have G_is_integer : OwnF P w K mg base "is_integer" 1 _ fd_is_integer ["value"] (spA K [] S_is_integer) := ⟨ok_is_integer Gz F_is_integer , He.glo_ok X G (c.fact 0 (f := .glo "is_integer") rfl), F_is_integer.kp⟩
  have D_need_number_1 := DB_need_number_1 F_need_number
  have B_need_number_1_least := KB_need_number_1_least F_need_number
  have G_need_number : OwnF P w K mg base "need_number" 2 _ fd_need_number ["value", "least", "most"] (spA K [] S_need_number) := ⟨ok_need_number Gz F_need_number G_is_integer b_is_integer, He.glo_ok X G (c.fact 1 (f := .glo "need_number") rfl), F_need_number.kp⟩
  have b_common_divisor := binds_common_divisor F_common_divisor
  have G_common_divisor : OwnF P w K mg base "common_divisor" 1 _ fd_common_divisor ["one", "other"] (spA K [] S_common_divisor) := ⟨ok_common_divisor Gz F_common_divisor , He.glo_ok X G (c.fact 2 (f := .glo "common_divisor") rfl), F_common_divisor.kp⟩
  have b_is_reduced := binds_is_reduced F_is_reduced
  have G_is_reduced : OwnF P w K mg base "is_reduced" 2 _ fd_is_reduced ["p", "q"] (spA K [] S_is_reduced) := ⟨ok_is_reduced Gz F_is_reduced G_common_divisor b_common_divisor, He.glo_ok X G (c.fact 3 (f := .glo "is_reduced") rfl), F_is_reduced.kp⟩
  have b_is_rule := binds_is_rule F_is_rule
  have G_is_rule : OwnF P w K mg base "is_rule" 3 _ fd_is_rule ["value"] (spA K [] S_is_rule) := ⟨ok_is_rule Gz F_is_rule G_is_reduced b_is_reduced G_is_integer b_is_integer, He.glo_ok X G (c.fact 4 (f := .glo "is_rule") rfl), F_is_rule.kp⟩
  have b_need_rule := binds_need_rule F_need_rule
  have G_need_rule : OwnF P w K mg base "need_rule" 4 _ fd_need_rule ["value"] (spA K [] S_need_rule) := ⟨ok_need_rule Gz F_need_rule G_is_rule b_is_rule, He.glo_ok X G (c.fact 5 (f := .glo "need_rule") rfl), F_need_rule.kp⟩
  have b_reduced := binds_reduced F_reduced
  have G_reduced : OwnF P w K mg base "reduced" 2 _ fd_reduced ["p", "q", "c"] (spA K [] S_reduced) := ⟨ok_reduced Gz F_reduced G_common_divisor b_common_divisor, He.glo_ok X G (c.fact 6 (f := .glo "reduced") rfl), F_reduced.kp⟩
  have b_count_at := binds_count_at F_count_at
  have G_count_at : OwnF P w K mg base "count_at" 1 _ fd_count_at ["rule", "time"] (spA K [] S_count_at) := ⟨ok_count_at Gz F_count_at , He.glo_ok X G (c.fact 7 (f := .glo "count_at") rfl), F_count_at.kp⟩
  have b_count := binds_count F_count
  have G_count : OwnF P w K mg base "count" 5 _ fd_count ["rule", "time"] (spA K [] S_count) := ⟨ok_count Gz F_count G_count_at b_count_at G_need_number G_need_rule b_need_rule D_need_number_1, He.glo_ok X G (c.fact 8 (f := .glo "count") rfl), F_count.kp⟩
  have b_moved := binds_moved F_moved
  have G_moved : OwnF P w K mg base "moved" 1 _ fd_moved ["rule", "time", "amount"] (spA K [] S_moved) := ⟨ok_moved Gz F_moved , He.glo_ok X G (c.fact 9 (f := .glo "moved") rfl), F_moved.kp⟩
  have b_shift_rule := binds_shift_rule F_shift_rule
  have G_shift_rule : OwnF P w K mg base "shift_rule" 5 _ fd_shift_rule ["rule", "time", "amount"] (spA K [] S_shift_rule) := ⟨ok_shift_rule Gz F_shift_rule G_moved b_moved G_need_number G_need_rule b_need_rule D_need_number_1, He.glo_ok X G (c.fact 10 (f := .glo "shift_rule") rfl), F_shift_rule.kp⟩
  have b_mirrored := binds_mirrored F_mirrored
  have G_mirrored : OwnF P w K mg base "mirrored" 1 _ fd_mirrored ["rule"] (spA K [] S_mirrored) := ⟨ok_mirrored Gz F_mirrored , He.glo_ok X G (c.fact 11 (f := .glo "mirrored") rfl), F_mirrored.kp⟩
  have b_mirror_rule := binds_mirror_rule F_mirror_rule
  have G_mirror_rule : OwnF P w K mg base "mirror_rule" 5 _ fd_mirror_rule ["rule"] (spA K [] S_mirror_rule) := ⟨ok_mirror_rule Gz F_mirror_rule G_mirrored b_mirrored G_need_rule b_need_rule, He.glo_ok X G (c.fact 12 (f := .glo "mirror_rule") rfl), F_mirror_rule.kp⟩
  have b_thin_rule := binds_thin_rule F_thin_rule
  have G_thin_rule : OwnF P w K mg base "thin_rule" 5 _ fd_thin_rule ["rule", "k"] (spA K [] S_thin_rule) := ⟨ok_thin_rule Gz F_thin_rule G_reduced b_reduced G_need_number G_need_rule b_need_rule B_need_number_1_least, He.glo_ok X G (c.fact 13 (f := .glo "thin_rule") rfl), F_thin_rule.kp⟩
  have b_sample_rule := binds_sample_rule F_sample_rule
  have G_sample_rule : OwnF P w K mg base "sample_rule" 5 _ fd_sample_rule ["rule", "k"] (spA K [] S_sample_rule) := ⟨ok_sample_rule Gz F_sample_rule G_reduced b_reduced G_need_number G_need_rule b_need_rule B_need_number_1_least, He.glo_ok X G (c.fact 14 (f := .glo "sample_rule") rfl), F_sample_rule.kp⟩
  have b__law_pen := binds__law_pen F__law_pen
  have G__law_pen : OwnF P w K mg base "_law_pen" 1 _ fd__law_pen ["_law_script"] (spC K [] S__law_pen) := ⟨ok__law_pen Gz F__law_pen , He.glo_ok X G (c.fact 15 (f := .glo "_law_pen") rfl), F__law_pen.kp⟩
  have b__law_draw := binds__law_draw F__law_draw
  have G__law_draw : OwnF P w K mg base "_law_draw" 1 _ fd__law_draw ["_law_pen_here", "_law_many"] (spB K [] S__law_draw) := ⟨ok__law_draw Gz F__law_draw , He.glo_ok X G (c.fact 16 (f := .glo "_law_draw") rfl), F__law_draw.kp⟩
  have b__law_pick := binds__law_pick F__law_pick
  have G__law_pick : OwnF P w K mg base "_law_pick" 2 _ fd__law_pick ["_law_pen_here", "_law_options"] (spB K [] S__law_pick) := ⟨ok__law_pick Gz F__law_pick G__law_draw b__law_draw, He.glo_ok X G (c.fact 17 (f := .glo "_law_pick") rfl), F__law_pick.kp⟩
  have b__law_great := binds__law_great F__law_great
  have G__law_great : OwnF P w K mg base "_law_great" 2 _ fd__law_great ["_law_pen_here", "_law_digits"] (spB K [] S__law_great) := ⟨ok__law_great Gz F__law_great G__law_draw b__law_draw, He.glo_ok X G (c.fact 18 (f := .glo "_law_great") rfl), F__law_great.kp⟩
  have b__law_signed := binds__law_signed F__law_signed
  have G__law_signed : OwnF P w K mg base "_law_signed" 3 _ fd__law_signed ["_law_pen_here", "_law_digits"] (spB K [] S__law_signed) := ⟨ok__law_signed Gz F__law_signed G__law_pick b__law_pick G__law_great b__law_great G__law_draw b__law_draw, He.glo_ok X G (c.fact 19 (f := .glo "_law_signed") rfl), F__law_signed.kp⟩
  have b__law_gcd := binds__law_gcd F__law_gcd
  have G__law_gcd : OwnF P w K mg base "_law_gcd" 1 _ fd__law_gcd ["_law_one", "_law_other"] (spA K [] S__law_gcd) := ⟨ok__law_gcd Gz F__law_gcd , He.glo_ok X G (c.fact 20 (f := .glo "_law_gcd") rfl), F__law_gcd.kp⟩
  have b__law_lowest := binds__law_lowest F__law_lowest
  have G__law_lowest : OwnF P w K mg base "_law_lowest" 2 _ fd__law_lowest ["_law_p", "_law_q", "_law_c"] (spA K [] S__law_lowest) := ⟨ok__law_lowest Gz F__law_lowest G__law_gcd b__law_gcd, He.glo_ok X G (c.fact 21 (f := .glo "_law_lowest") rfl), F__law_lowest.kp⟩
  have b__law_rule := binds__law_rule F__law_rule
  have G__law_rule : OwnF P w K mg base "_law_rule" 3 _ fd__law_rule ["_law_pen_here", "_law_most"] (spB K [] S__law_rule) := ⟨ok__law_rule Gz F__law_rule G__law_lowest b__law_lowest G__law_pick b__law_pick G__law_draw b__law_draw, He.glo_ok X G (c.fact 22 (f := .glo "_law_rule") rfl), F__law_rule.kp⟩
  have b__law_far_rule := binds__law_far_rule F__law_far_rule
  have G__law_far_rule : OwnF P w K mg base "_law_far_rule" 4 _ fd__law_far_rule ["_law_pen_here", "_law_digits"] (spB K [] S__law_far_rule) := ⟨ok__law_far_rule Gz F__law_far_rule G__law_lowest b__law_lowest G__law_signed b__law_signed G__law_pick b__law_pick G__law_great b__law_great, He.glo_ok X G (c.fact 23 (f := .glo "_law_far_rule") rfl), F__law_far_rule.kp⟩
  have b__law_tally := binds__law_tally F__law_tally
  have G__law_tally : OwnF P w K mg base "_law_tally" 1 _ fd__law_tally ["_law_rule_here", "_law_time"] (spA K [] S__law_tally) := ⟨ok__law_tally Gz F__law_tally , He.glo_ok X G (c.fact 24 (f := .glo "_law_tally") rfl), F__law_tally.kp⟩
  have b__law_is_int := binds__law_is_int F__law_is_int
  have G__law_is_int : OwnF P w K mg base "_law_is_int" 1 _ fd__law_is_int ["_law_thing"] (spA K [] S__law_is_int) := ⟨ok__law_is_int Gz F__law_is_int , He.glo_ok X G (c.fact 25 (f := .glo "_law_is_int") rfl), F__law_is_int.kp⟩
  have b__law_is_rule := binds__law_is_rule F__law_is_rule
  have G__law_is_rule : OwnF P w K mg base "_law_is_rule" 2 _ fd__law_is_rule ["_law_thing"] (spA K [] S__law_is_rule) := ⟨ok__law_is_rule Gz F__law_is_rule G__law_gcd b__law_gcd G__law_is_int b__law_is_int, He.glo_ok X G (c.fact 26 (f := .glo "_law_is_rule") rfl), F__law_is_rule.kp⟩
  have b__law_due := binds__law_due F__law_due
  have G__law_due : OwnF P w K mg base "_law_due" 2 _ fd__law_due ["_law_rule_here", "_law_road", "_law_a", "_law_b", "_law_time"] (spA K [] S__law_due) := ⟨ok__law_due Gz F__law_due G__law_tally b__law_tally, He.glo_ok X G (c.fact 27 (f := .glo "_law_due") rfl), F__law_due.kp⟩
  exact ok_law Gz F_law G__law_signed b__law_signed G__law_draw b__law_draw G_count b_count G__law_tally b__law_tally G__law_due b__law_due G__law_is_rule b__law_is_rule G_sample_rule b_sample_rule G_thin_rule b_thin_rule G_mirror_rule b_mirror_rule G_shift_rule b_shift_rule G__law_pick b__law_pick G__law_great b__law_great G__law_far_rule b__law_far_rule G__law_rule b__law_rule G__law_pen b__law_pen
end Law
open PySem PySem.W PySem.Calls PyProof.Rows
set_option maxHeartbeats 0 in
theorem PySem.Challenge.cw_leapfit_k05_rules_changed_holds : PySem.Challenge.rw_leapfit_k05_rules_changed.Holds := by
  w_on; o_law
  refine HandSHeadRun.head_any (r := Law.R) (q := view Law.R.prog [35]) (H := Law.hk) (ob := Law.ob) (M := 4000) (loose := Law.names) (d := HandSHeadRun.topDef Law.R.prog 35) (kwd := []) Law.ob_eq
    (by kernel_rfl) (fun s => by kernel_rfl) Law.run (by kernel_rfl) (by kernel_rfl) (by kernel_rfl) (by rfl)
    (by first | assumption | decide +kernel) (by decide +kernel) ⟨rfl, rfl, rfl, rfl, rfl, by decide +kernel⟩ ?hw ?hc
  case hw => w_witness2
  case hc =>
    refine L3.walk_D (l := PySem.Challenge.rw_leapfit_k05_rules_changed) (n := 63) (k := 6) (x := "_law_script") rfl (by decide) (by kernel_rfl) ⟨rfl, by decide, by decide⟩ fun w mg fa h Y G hmg0 => ?_
    obtain ⟨K, KX, c⟩ := Y
    have hmg : mg ("law" : PySem.Str) = some (.ref fa) := by
      have e : (HandSHeadRun.topDef Law.R.prog 35).name = ("law" : PySem.Str) := by kernel_rfl
      rw [← e]
      exact hmg0
    obtain ⟨fd, hb, hF⟩ := Law.facts (P := PySem.Challenge.rw_leapfit_k05_rules_changed.prog) (w := w) KX G hmg c
    exact ⟨K, fd, Law.S_law, [], KX, hb, fun H _ p hp => absurd hp (by simp), fun ns hl hb => ⟨ns, rfl, hl, hb, rfl⟩, hF⟩
