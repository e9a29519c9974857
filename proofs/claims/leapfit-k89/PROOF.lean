import PyProof.Rows.All
import Wide.All
import OpenK.AllK
import Wide.FinOn
import PySem.Challenge.RW_leapfit_k89_texts_that_are_no_rules_or_r
import HandS.ForMost
import HandS.Exc
import HandS.Wide
import HandS.ExcInit
import HandS.WordsExc
import HandS.Lambda
import HandS.HeadHook1
import HandS.IsInst
import KE.KUnpack
import HandS.NoneIn
import HandS.Style
import HandS.Defaults
import HandS.Comp
import HandS.Iter
import HandS.Dict
import HandS.EndBits
import HandS.HeadEnd
import HandS.Head2
import HandS.HeadHook2
import HandS.RaiseMore
import PyProof.CallFns
import HandS.HeadHook4
import HandS.ForExc
import HandS.TryMany
import HandS.ExcField
import HandS.ExcIs
import HandS.ClsMeth
import KE.KExcIs
import KE.KNest
import HandS.EndTab
import PyProof.ReprReads
import PyProof.ReprBulk
import PyProof.ReprHeadsEmpty
import PyProof.StrHeap
import HandS.SetFor
import KE.GoesEnum
import KE.KAssignIn
import PyProof.Rows.RuleB_pow
import HandS.SortInts
import KE.LtData
import HandS.DeepEq
import KE.SortData
import KE.DataMinMax
import PyProof.Rows.CallKwBuiltin
import HandS.Strs
import HandS.More
import HandS.Conv
import PyProof.SeqIndex
import KE.DataCmp
import HandS.ListItems
import HandS.List
import HandS.TupMul
import HandS.TupAny
import PyProof.Rows.IntBool
import KE.SortKeyHeap
import HandS.ExcValue
import HandS.RevRange
import HandS.Zip
import HandS.FStr
import HandS.Codes
import PyProof.StrOps2
set_option Elab.async false
set_option linter.all false
set_option maxRecDepth 100000
namespace L3
open PySem PySem.Spec PyProof.Rows L2

inductive D where
  | non | bl (b : Bool) | int (i : Int) | str (s : Str) | ref (a : Addr) | ty (n : String)
  | tup (l : List D) | lst (l : List D) | lsf (l : List D) | dic (ks : List Key) (l : List D) | ins (C : Str) (ns : List Str) (l : List D)
  | exn (C : Nat) (a : Addr) (d : Option Addr) (fs : List Str) (l : List D) | exo (C : Nat) (a : Addr) (d : Option Addr) (fs : List Str) (l : List D) | cod (q : Str) (c : Addr)
  deriving Inhabited
inductive Z where
  | d (x : D) | m (n : Nat)
  deriving Inhabited
inductive MC where
  | lst (l : List D) | dic (ks : List Key) (l : List D) | ins (C : Str) (ns : List Str) (l : List Z)
structure DS where
  s : List (Option Z)
  w : List (Option MC)

/-- the package's errors by numbers -/
def exNames : List Str := ["InvalidRule", "InvalidNumber", "InvalidRate", "InvalidCounts", "InvalidWitness", "TooMany", "IndexOutOfRange", "NotFitting", "NotPossible", "DuplicateMoment", "UnknownMoment", "UnknownName", "InvalidRecord", "InvalidPrice", "ParseError", "CommandError", "NoRule", "Fitting", "Unbounded", "NoEvents", "LeapfitError"]
def exName (n : Nat) : Str := exNames.getD n "LeapfitError"
/-- at a: an exception of the class cls, caught and held, its dict d -/
def exV (cls : Value) (a : Addr) (d : Option Addr) : HO := .ext fun h => ∃ oe : Obj, h.get? a = some oe ∧ Zc cls d oe ∧ ∃ vs, oe.data = .fields vs
def WrL (K : PySem.W.Frag) (a : Addr) (xs : List V) : Prop :=
  ∃ (o : Obj) (its : Array Value) (n : Nat), K.lookup a = some o ∧ o.cls = .type "list" ∧ o.dict = none ∧ o.data = .seq its n ∧ its.size ≤ sizeLine ∧ Vals xs its.toList
def WrT (K : PySem.W.Frag) (a : Addr) (xs : List V) : Prop :=
  ∃ (o : Obj) (its : Array Value) (n : Nat), K.lookup a = some o ∧ o.cls = .type "tuple" ∧ o.data = .seq its n ∧ its.size ≤ sizeLine ∧ Vals xs its.toList

section
variable (K : PySem.W.Frag) (own : Addr → Prop) (H : Hp)
mutual
def RepD : D → V → Prop
  | .non, v => v = .non
  | .bl b, v => v = .bl b
  | .int i, v => v = .int i
  | .str s, v => v = .str s
  | .ref a, v => v = .ref a
  | .ty n, v => v = .ty n
  | .tup l, v => ∃ a xs, v = .ref a ∧ RepL l xs ∧ ((¬ own a ∧ Rd H a (.tup xs)) ∨ WrT K a xs)
  | .lst l, v => ∃ a xs, v = .ref a ∧ RepL l xs ∧ ¬ own a ∧ H a = some (.lst xs)
  | .lsf l, v => ∃ a xs, v = .ref a ∧ RepL l xs ∧ ((¬ own a ∧ Rd H a (.lst xs)) ∨ WrL K a xs)
  | .dic ks l, v => ∃ a xs, v = .ref a ∧ RepL l xs ∧ ks.length = l.length ∧ ¬ own a ∧ H a = some (.dK (ks.zip xs))
  | .ins C ns l, v => ∃ a dx xs, v = .ref a ∧ RepL l xs ∧ ns.length = l.length ∧ ¬ own a ∧ H a = some (.ins (He.ga K C) dx (ns.zip xs))
  | .exn C a d fs l, v => v = .ref a ∧ ∃ xs, RepL l xs ∧ fs.length = l.length ∧ (fs = [] → d = none) ∧ (fs ≠ [] → ∃ dx, d = some dx ∧ ¬ own dx ∧ H dx = some (.xd (fs.zip xs)))
  | .exo C a d fs l, v => v = .ref a ∧ ∃ xs, RepL l xs ∧ fs.length = l.length ∧ (fs = [] → d = none) ∧ (fs ≠ [] → ∃ dx, d = some dx ∧ ¬ own dx ∧ H dx = some (.xd (fs.zip xs))) ∧ ¬ own a ∧ H a = some (exV (.ref (He.ga K (exName C))) a d)
  | .cod q c, v => v = .ref c ∧ ¬ own c ∧ H c = some (LamX.CodeO c q)
def RepL : List D → List V → Prop
  | [], xs => xs = []
  | d :: l, xs => ∃ v r, xs = v :: r ∧ RepD d v ∧ RepL l r
end
end

/-- what may change between two states -/
structure Mv (own own' : Addr → Prop) (H H' : Hp) : Prop where
  keep : ∀ b o, H b = some o → ¬ own b → (∀ ps, o ≠ .tbl ps) → H' b = some o
  tb : ∀ b ps, H b = some (.tbl ps) → ∃ qs, H' b = some (.tbl qs)
  new : ∀ b, own' b → own b ∨ H b = none
theorem Mv.refl {own : Addr → Prop} {H : Hp} : Mv own own H H := ⟨fun _ _ h _ _ => h, fun _ ps h => ⟨ps, h⟩, fun _ h => .inl h⟩
theorem Mv.trans {o1 o2 o3 : Addr → Prop} {H1 H2 H3 : Hp} (a : Mv o1 o2 H1 H2) (b : Mv o2 o3 H2 H3) : Mv o1 o3 H1 H3 := by
  have nn : ∀ c, H2 c = none → o1 c ∨ H1 c = none := fun c z => by
    by_cases hc : o1 c
    · exact .inl hc
    · cases e : H1 c with
      | none => exact .inr rfl
      | some o =>
        by_cases ht : ∃ ps, o = .tbl ps
        · obtain ⟨ps, rfl⟩ := ht
          obtain ⟨qs, q⟩ := a.tb c ps e
          rw [z] at q; cases q
        · have q := a.keep c o e hc fun ps h => ht ⟨ps, h⟩
          rw [z] at q; cases q
  refine ⟨fun c o h n t => ?_, fun c ps h => ?_, fun c h => ?_⟩
  · refine b.keep c o (a.keep c o h n t) (fun z => ?_) t
    rcases a.new c z with z | z
    · exact n z
    · rw [h] at z; cases z
  · obtain ⟨qs, q⟩ := a.tb c ps h
    exact b.tb c qs q
  · rcases b.new c h with z | z
    · exact a.new c z
    · exact nn c z
section
variable {K : PySem.W.Frag} {own own' : Addr → Prop} {H H' : Hp}
theorem Mv.rd (m : Mv own own' H H') {a : Addr} {u : HO} (hu : ∀ ps, u ≠ .tbl ps) (n : ¬ own a) (h : Rd H a u) : Rd H' a u := by
  rcases h with h | ⟨o, h⟩
  · exact .inl (m.keep _ _ h n hu)
  · exact .inr ⟨o, m.keep _ _ h n fun ps z => by cases z⟩
theorem Mv.nown (m : Mv own own' H H') {a : Addr} (n : ¬ own a) (h : H a ≠ none) : ¬ own' a := fun z => by
  rcases m.new a z with z | z
  · exact n z
  · exact h z
theorem rd_ne {a : Addr} {u : HO} (h : Rd H a u) : H a ≠ none := fun z => by
  rcases h with h | ⟨o, h⟩ <;> rw [z] at h <;> cases h
mutual
theorem RepD.mv (m : Mv own own' H H') : ∀ (d : D) (v : V), RepD K own H d v → RepD K own' H' d v
  | .non, v, h => h
  | .bl b, v, h => h
  | .int i, v, h => h
  | .str s, v, h => h
  | .ref a, v, h => h
  | .ty n, v, h => h
  | .tup l, v, h => by
    obtain ⟨a, xs, e, r, q⟩ := h
    refine ⟨a, xs, e, RepL.mv m l xs r, ?_⟩
    rcases q with ⟨n, q⟩ | q
    · exact .inl ⟨m.nown n (rd_ne q), m.rd (fun ps z => by cases z) n q⟩
    · exact .inr q
  | .lst l, v, h => by
    obtain ⟨a, xs, e, r, n, q⟩ := h
    exact ⟨a, xs, e, RepL.mv m l xs r, m.nown n (by rw [q]; simp), m.keep _ _ q n fun ps z => by cases z⟩
  | .lsf l, v, h => by
    obtain ⟨a, xs, e, r, q⟩ := h
    refine ⟨a, xs, e, RepL.mv m l xs r, ?_⟩
    rcases q with ⟨n, q⟩ | q
    · exact .inl ⟨m.nown n (rd_ne q), m.rd (fun ps z => by cases z) n q⟩
    · exact .inr q
  | .dic ks l, v, h => by
    obtain ⟨a, xs, e, r, z, n, q⟩ := h
    exact ⟨a, xs, e, RepL.mv m l xs r, z, m.nown n (by rw [q]; simp), m.keep _ _ q n fun ps z => by cases z⟩
  | .ins C ns l, v, h => by
    obtain ⟨a, dx, xs, e, r, z, n, q⟩ := h
    exact ⟨a, dx, xs, e, RepL.mv m l xs r, z, m.nown n (by rw [q]; simp), m.keep _ _ q n fun ps z => by cases z⟩
  | .exn C a d fs l, v, h => by
    obtain ⟨e, xs, r, z, z0, q⟩ := h
    refine ⟨e, xs, RepL.mv m l xs r, z, z0, fun hf => ?_⟩
    obtain ⟨dx, e1, n, q⟩ := q hf
    exact ⟨dx, e1, m.nown n (by rw [q]; simp), m.keep _ _ q n fun ps z => by cases z⟩
  | .exo C a d fs l, v, h => by
    obtain ⟨e, xs, r, z, z0, q, n', q'⟩ := h
    refine ⟨e, xs, RepL.mv m l xs r, z, z0, fun hf => ?_, m.nown n' (by rw [q']; simp), m.keep _ _ q' n' fun ps z => by unfold exV at z; cases z⟩
    obtain ⟨dx, e1, n, q⟩ := q hf
    exact ⟨dx, e1, m.nown n (by rw [q]; simp), m.keep _ _ q n fun ps z => by cases z⟩
  | .cod q c, v, h => ⟨h.1, m.nown h.2.1 (by rw [h.2.2]; simp), m.keep _ _ h.2.2 h.2.1 fun ps => LamX.codeO_ne ps⟩
theorem RepL.mv (m : Mv own own' H H') : ∀ (l : List D) (xs : List V), RepL K own H l xs → RepL K own' H' l xs
  | [], xs, h => h
  | d :: l, xs, h => by
    obtain ⟨v, r, e, h1, h2⟩ := h
    exact ⟨v, r, e, RepD.mv m d v h1, RepL.mv m l r h2⟩
end
theorem RepL.length : ∀ {l : List D} {xs : List V}, RepL K own H l xs → xs.length = l.length
  | [], xs, h => by cases h; rfl
  | d :: l, xs, h => by
    obtain ⟨v, r, rfl, h1, h2⟩ := h
    simp [RepL.length h2]
theorem RepL.get : ∀ {l : List D} {xs : List V} {i : Nat} {d : D}, RepL K own H l xs → l[i]? = some d → ∃ v, xs[i]? = some v ∧ RepD K own H d v
  | [], xs, i, d, h, e => by simp at e
  | c :: l, xs, 0, d, h, e => by
    obtain ⟨v, r, rfl, h1, h2⟩ := h
    simp at e; subst e
    exact ⟨v, rfl, h1⟩
  | c :: l, xs, i + 1, d, h, e => by
    obtain ⟨v, r, rfl, h1, h2⟩ := h
    obtain ⟨u, q1, q2⟩ := RepL.get (i := i) h2 (by simpa using e)
    exact ⟨u, by simpa using q1, q2⟩
theorem RepL.got : ∀ {l : List D} {xs : List V} {i : Nat} {v : V}, RepL K own H l xs → xs[i]? = some v → ∃ d, l[i]? = some d ∧ RepD K own H d v
  | [], xs, i, v, h, e => by cases h; simp at e
  | c :: l, xs, 0, v, h, e => by
    obtain ⟨u, r, rfl, h1, h2⟩ := h
    simp at e; subst e
    exact ⟨c, rfl, h1⟩
  | c :: l, xs, i + 1, v, h, e => by
    obtain ⟨u, r, rfl, h1, h2⟩ := h
    obtain ⟨d, q1, q2⟩ := RepL.got (i := i) h2 (by simpa using e)
    exact ⟨d, by simpa using q1, q2⟩
theorem RepL.append : ∀ {l l' : List D} {xs ys : List V}, RepL K own H l xs → RepL K own H l' ys → RepL K own H (l ++ l') (xs ++ ys)
  | [], l', xs, ys, h, h' => by cases h; exact h'
  | c :: l, l', xs, ys, h, h' => by
    obtain ⟨u, r, rfl, h1, h2⟩ := h
    exact ⟨u, r ++ ys, rfl, h1, RepL.append h2 h'⟩
theorem RepL.take : ∀ {l : List D} {xs : List V} (n : Nat), RepL K own H l xs → RepL K own H (l.take n) (xs.take n)
  | l, xs, 0, h => by simp; rfl
  | [], xs, n + 1, h => by cases h; rfl
  | c :: l, xs, n + 1, h => by
    obtain ⟨u, r, rfl, h1, h2⟩ := h
    exact ⟨u, r.take n, rfl, h1, RepL.take n h2⟩
theorem RepL.drop : ∀ {l : List D} {xs : List V} (n : Nat), RepL K own H l xs → RepL K own H (l.drop n) (xs.drop n)
  | l, xs, 0, h => h
  | [], xs, n + 1, h => by cases h; rfl
  | c :: l, xs, n + 1, h => by
    obtain ⟨u, r, rfl, h1, h2⟩ := h
    exact RepL.drop n h2
theorem RepL.one {d : D} {v : V} (h : RepD K own H d v) : RepL K own H [d] [v] := ⟨v, [], rfl, h, rfl⟩
theorem RepL.ints : ∀ {l : List Int} {xs : List V}, RepL K own H (l.map D.int) xs → xs = l.map V.int
  | [], xs, h => h
  | i :: l, xs, h => by
    obtain ⟨u, r, rfl, h1, h2⟩ := h
    have e : u = .int i := h1
    rw [e, RepL.ints h2]; rfl
theorem RepL.ofInts : ∀ (l : List Int), RepL K own H (l.map D.int) (l.map V.int)
  | [] => rfl
  | i :: l => ⟨.int i, l.map V.int, rfl, rfl, RepL.ofInts l⟩
end

/-- the addresses of mutable things that live -/
def live (M : List Addr) (w : List (Option MC)) (a : Addr) : Prop := ∃ (n : Nat) (c : MC), M[n]? = some a ∧ w[n]? = some (some c)
def ownM (Ow : Addr → Prop) (M : List Addr) (w : List (Option MC)) (a : Addr) : Prop := Ow a ∨ live M w a
def RepZ (K : PySem.W.Frag) (own : Addr → Prop) (M : List Addr) (H : Hp) : Z → V → Prop
  | .d x, v => RepD K own H x v
  | .m n, v => ∃ a, M[n]? = some a ∧ v = .ref a
def RepZs (K : PySem.W.Frag) (own : Addr → Prop) (M : List Addr) (H : Hp) : List Z → List V → Prop
  | [], xs => xs = []
  | d :: l, xs => ∃ v r, xs = v :: r ∧ RepZ K own M H d v ∧ RepZs K own M H l r
def RepM (K : PySem.W.Frag) (own : Addr → Prop) (M : List Addr) (H : Hp) (a : Addr) : MC → Prop
  | .lst l => ∃ xs, RepL K own H l xs ∧ H a = some (.lst xs)
  | .dic ks l => ∃ xs, RepL K own H l xs ∧ ks.length = l.length ∧ H a = some (.dK (ks.zip xs))
  | .ins C ns l => ∃ dx xs, RepZs K own M H l xs ∧ ns.length = l.length ∧ H a = some (.ins (He.ga K C) dx (ns.zip xs))
/-- the outer frame of a walk: what lives outside, the code tables -/
structure G where
  ow : Addr → Prop
  T : List (Addr × Str)
  gh : List (D × V)
def G.own (g : G) (M : List Addr) (ds : DS) : Addr → Prop := ownM g.ow M ds.w
structure RepS (K : PySem.W.Frag) (g : G) (M : List Addr) (ds : DS) (σ : L2.St) (H : Hp) : Prop where
  len : σ.length = ds.s.length
  slot : ∀ (i : Nat) (z : Z), ds.s[i]? = some (some z) → ∃ v, σ[i]? = some (some v) ∧ RepZ K (g.own M ds) M H z v
  mlen : M.length = ds.w.length
  nd : M.Nodup
  apart : ∀ a ∈ M, ¬ g.ow a
  obj : ∀ (n : Nat) (c : MC) (a : Addr), ds.w[n]? = some (some c) → M[n]? = some a → RepM K (g.own M ds) M H a c
  tabs : LamX.Tabs g.T H
  gh : ∀ p ∈ g.gh, RepD K (g.own M ds) H p.1 p.2
  out : ∀ a, g.ow a → ∃ o, H a = some o ∧ (∀ ps, o ≠ .tbl ps) ∧ ∀ φ, o ≠ .ext φ
  ex : ∀ a ∈ M, ∃ o, H a = some o ∧ (∀ ps, o ≠ .tbl ps) ∧ ∀ φ, o ≠ .ext φ
/-- from one state to a later one -/
structure Nxt (g : G) (M : List Addr) (ds : DS) (H : Hp) (M' : List Addr) (ds' : DS) (H' : Hp) : Prop where
  mv : Mv (g.own M ds) (g.own M' ds') H H'
  pre : ∃ more, M' = M ++ more
  out : ∀ a, g.ow a → H' a = H a
theorem Nxt.refl {g : G} {M : List Addr} {ds : DS} {H : Hp} : Nxt g M ds H M ds H := ⟨.refl, ⟨[], by simp⟩, fun _ _ => rfl⟩
theorem Nxt.trans {g : G} {M1 M2 M3 : List Addr} {d1 d2 d3 : DS} {H1 H2 H3 : Hp} (a : Nxt g M1 d1 H1 M2 d2 H2) (b : Nxt g M2 d2 H2 M3 d3 H3) : Nxt g M1 d1 H1 M3 d3 H3 := by
  refine ⟨a.mv.trans b.mv, ?_, fun c h => (b.out c h).trans (a.out c h)⟩
  obtain ⟨m1, e1⟩ := a.pre
  obtain ⟨m2, e2⟩ := b.pre
  exact ⟨m1 ++ m2, by rw [e2, e1, List.append_assoc]⟩
theorem pre_get {M M' : List Addr} {n : Nat} {a : Addr} (p : ∃ more, M' = M ++ more) (h : M[n]? = some a) : M'[n]? = some a := by
  obtain ⟨more, rfl⟩ := p
  rw [List.getElem?_append_left]
  · exact h
  · obtain ⟨z, _⟩ := List.getElem?_eq_some_iff.mp h; exact z
section
variable {K : PySem.W.Frag} {own own' : Addr → Prop} {M M' : List Addr} {H H' : Hp}
theorem RepZ.mv (m : Mv own own' H H') (p : ∃ more, M' = M ++ more) : ∀ {z : Z} {v : V}, RepZ K own M H z v → RepZ K own' M' H' z v
  | .d x, v, h => RepD.mv m x v h
  | .m n, v, h => by
    obtain ⟨a, e1, e2⟩ := h
    exact ⟨a, pre_get p e1, e2⟩
theorem RepZs.mv (m : Mv own own' H H') (p : ∃ more, M' = M ++ more) : ∀ {l : List Z} {xs : List V}, RepZs K own M H l xs → RepZs K own' M' H' l xs
  | [], xs, h => h
  | d :: l, xs, h => by
    obtain ⟨v, r, e, h1, h2⟩ := h
    exact ⟨v, r, e, RepZ.mv m p h1, RepZs.mv m p h2⟩
theorem RepZs.length : ∀ {l : List Z} {xs : List V}, RepZs K own M H l xs → xs.length = l.length
  | [], xs, h => by cases h; rfl
  | d :: l, xs, h => by
    obtain ⟨v, r, rfl, h1, h2⟩ := h
    simp [RepZs.length h2]
theorem RepZs.get : ∀ {l : List Z} {xs : List V} {i : Nat} {d : Z}, RepZs K own M H l xs → l[i]? = some d → ∃ v, xs[i]? = some v ∧ RepZ K own M H d v
  | [], xs, i, d, h, e => by simp at e
  | c :: l, xs, 0, d, h, e => by
    obtain ⟨v, r, rfl, h1, h2⟩ := h
    simp at e; subst e
    exact ⟨v, rfl, h1⟩
  | c :: l, xs, i + 1, d, h, e => by
    obtain ⟨v, r, rfl, h1, h2⟩ := h
    obtain ⟨u, q1, q2⟩ := RepZs.get (i := i) h2 (by simpa using e)
    exact ⟨u, by simpa using q1, q2⟩
theorem RepZs.append : ∀ {l l' : List Z} {xs ys : List V}, RepZs K own M H l xs → RepZs K own M H l' ys → RepZs K own M H (l ++ l') (xs ++ ys)
  | [], l', xs, ys, h, h' => by cases h; exact h'
  | c :: l, l', xs, ys, h, h' => by
    obtain ⟨u, r, rfl, h1, h2⟩ := h
    exact ⟨u, r ++ ys, rfl, h1, RepZs.append h2 h'⟩
theorem RepZs.set : ∀ {l : List Z} {xs : List V} {z : Z} {v : V} (i : Nat), RepZs K own M H l xs → RepZ K own M H z v → RepZs K own M H (l.set i z) (xs.set i v)
  | [], xs, z, v, i, h, hz => by cases h; exact rfl
  | c :: l, xs, z, v, 0, h, hz => by
    obtain ⟨u, r, rfl, h1, h2⟩ := h
    exact ⟨v, r, rfl, hz, h2⟩
  | c :: l, xs, z, v, i + 1, h, hz => by
    obtain ⟨u, r, rfl, h1, h2⟩ := h
    exact ⟨u, r.set i v, rfl, h1, RepZs.set i h2 hz⟩
theorem RepZs.ofD : ∀ {l : List D} {xs : List V}, RepL K own H l xs → RepZs K own M H (l.map Z.d) xs
  | [], xs, h => h
  | d :: l, xs, h => by
    obtain ⟨v, r, e, h1, h2⟩ := h
    exact ⟨v, r, e, h1, RepZs.ofD h2⟩
theorem RepZs.toD : ∀ {l : List D} {xs : List V}, RepZs K own M H (l.map Z.d) xs → RepL K own H l xs
  | [], xs, h => h
  | d :: l, xs, h => by
    obtain ⟨v, r, e, h1, h2⟩ := h
    exact ⟨v, r, e, h1, RepZs.toD h2⟩
theorem RepM.mv (m : Mv own own' H H') (p : ∃ more, M' = M ++ more) {a : Addr} (ha : H' a = H a) : ∀ {c : MC}, RepM K own M H a c → RepM K own' M' H' a c
  | .lst l, h => by
    obtain ⟨xs, r, e⟩ := h
    exact ⟨xs, RepL.mv m _ _ r, by rw [ha]; exact e⟩
  | .dic ks l, h => by
    obtain ⟨xs, r, z, e⟩ := h
    exact ⟨xs, RepL.mv m _ _ r, z, by rw [ha]; exact e⟩
  | .ins C ns l, h => by
    obtain ⟨dx, xs, r, z, e⟩ := h
    exact ⟨dx, xs, r.mv m p, z, by rw [ha]; exact e⟩
theorem RepM.ex {a : Addr} : ∀ {c : MC}, RepM K own M H a c → ∃ o, H a = some o ∧ (∀ ps, o ≠ .tbl ps) ∧ (∀ xs, o ≠ .tup xs) ∧ ∀ φ, o ≠ .ext φ
  | .lst l, h => by
    obtain ⟨xs, r, e⟩ := h
    exact ⟨_, e, (fun _ z => nomatch z), (fun _ z => nomatch z), (fun _ z => nomatch z)⟩
  | .dic ks l, h => by
    obtain ⟨xs, r, z, e⟩ := h
    exact ⟨_, e, (fun _ z => nomatch z), (fun _ z => nomatch z), (fun _ z => nomatch z)⟩
  | .ins C ns l, h => by
    obtain ⟨dx, xs, r, z, e⟩ := h
    exact ⟨_, e, (fun _ z => nomatch z), (fun _ z => nomatch z), (fun _ z => nomatch z)⟩
end
section
variable {K : PySem.W.Frag} {g : G} {M : List Addr} {ds : DS} {σ : L2.St} {H H' : Hp}
/-- everything that was tracked is as it was (but the tables): the state stands -/
theorem RepS.same (R : RepS K g M ds σ H) (e : ∀ b o, H b = some o → (∀ ps, o ≠ .tbl ps) → H' b = some o) (tb : ∀ b ps, H b = some (.tbl ps) → ∃ qs, H' b = some (.tbl qs)) (T : LamX.Tabs g.T H') : RepS K g M ds σ H' ∧ Nxt g M ds H M ds H' := by
  have m : Mv (g.own M ds) (g.own M ds) H H' := ⟨fun b o h _ t => e b o h t, tb, fun _ h => .inl h⟩
  have p : ∃ more, M = M ++ more := ⟨[], by simp⟩
  refine ⟨{ len := R.len, slot := fun i z h => ?_, mlen := R.mlen, nd := R.nd, apart := R.apart, obj := fun n c a h1 h2 => ?_, tabs := T, gh := fun p hp => RepD.mv m _ _ (R.gh p hp), out := fun a h => ?_, ex := fun a h => ?_ }, m, p, fun a h => ?_⟩
  · obtain ⟨v, h1, h2⟩ := R.slot i z h
    exact ⟨v, h1, h2.mv m p⟩
  · have r := R.obj n c a h1 h2
    obtain ⟨o, q1, q2, _⟩ := r.ex
    exact r.mv m p (by rw [e a o q1 q2, q1])
  · obtain ⟨o, q1, q2, q3⟩ := R.out a h
    exact ⟨o, e a o q1 q2, q2, q3⟩
  · obtain ⟨o, q1, q2, q3⟩ := R.ex a h
    exact ⟨o, e a o q1 q2, q2, q3⟩
  · obtain ⟨o, q1, q2, q3⟩ := R.out a h
    rw [e a o q1 q2, q1]
/-- a new thing that is not told -/
theorem RepS.upd (R : RepS K g M ds σ H) {p : Addr} {o : HO} (hp : H p = none) : RepS K g M ds σ (upd H p o) ∧ Nxt g M ds H M ds (upd H p o) := by
  have e : ∀ b u, H b = some u → L2.upd H p o b = some u := fun b u h => by rw [upd_ne (ne_of_none h hp)]; exact h
  exact R.same (fun b u h _ => e b u h) (fun b ps h => ⟨ps, e b _ h⟩) (R.tabs.ext e)
theorem RepS.own_ne (R : RepS K g M ds σ H) {p : Addr} (hp : H p = none) : ¬ live M ds.w p := fun ⟨n, c, h1, h2⟩ => by
  obtain ⟨o, q, _⟩ := (R.obj n c p h2 h1).ex
  rw [hp] at q; cases q
theorem RepS.own_none (R : RepS K g M ds σ H) {p : Addr} (hp : H p = none) : ¬ g.own M ds p := fun z => by
  rcases z with z | z
  · obtain ⟨o, q, _⟩ := R.out p z
    rw [hp] at q; cases q
  · exact R.own_ne hp z
theorem RepS.own_some (R : RepS K g M ds σ H) {p : Addr} (h : live M ds.w p) : ∃ o, H p = some o ∧ (∀ ps, o ≠ .tbl ps) ∧ (∀ xs, o ≠ .tup xs) ∧ ∀ φ, o ≠ .ext φ := by
  obtain ⟨n, c, h1, h2⟩ := h
  exact (R.obj n c p h2 h1).ex
theorem live_more {M : List Addr} {w : List (Option MC)} {p b : Addr} {c : MC} (hl : M.length = w.length) (h : live (M ++ [p]) (w ++ [some c]) b) : live M w b ∨ b = p := by
  obtain ⟨n, x, h1, h2⟩ := h
  by_cases hn : n < M.length
  · rw [List.getElem?_append_left hn] at h1
    rw [List.getElem?_append_left (by omega)] at h2
    exact .inl ⟨n, x, h1, h2⟩
  · have z : n = M.length := by
      obtain ⟨q, _⟩ := List.getElem?_eq_some_iff.mp h1
      rw [List.length_append, List.length_singleton] at q
      omega
    subst z
    rw [List.getElem?_append_right (Nat.le_refl _), Nat.sub_self] at h1
    exact .inr (Option.some.inj h1).symm
theorem get_more {α : Type} {w : List α} {n : Nat} {c x : α} (h : (w ++ [c])[n]? = some x) : w[n]? = some x ∨ (n = w.length ∧ x = c) := by
  by_cases hn : n < w.length
  · rw [List.getElem?_append_left hn] at h
    exact .inl h
  · have z : n = w.length := by
      obtain ⟨q, _⟩ := List.getElem?_eq_some_iff.mp h
      rw [List.length_append, List.length_singleton] at q
      omega
    subst z
    rw [List.getElem?_append_right (Nat.le_refl _), Nat.sub_self] at h
    exact .inr ⟨rfl, (Option.some.inj h).symm⟩
/-- a new thing that will be written: it gets a number -/
def DS.more (ds : DS) (c : MC) : DS := ⟨ds.s, ds.w ++ [some c]⟩
theorem RepS.more (R : RepS K g M ds σ H) {p : Addr} {o : HO} {c : MC} (hp : H p = none) (ht : ∀ ps, o ≠ .tbl ps) (hx : ∀ φ, o ≠ .ext φ)
    (hc : ∀ own', Mv (g.own M ds) own' H (L2.upd H p o) → RepM K own' (M ++ [p]) (L2.upd H p o) p c) :
    RepS K g (M ++ [p]) (ds.more c) σ (L2.upd H p o) ∧ Nxt g M ds H (M ++ [p]) (ds.more c) (L2.upd H p o) := by
  have e : ∀ b u, H b = some u → L2.upd H p o b = some u := fun b u h => by rw [upd_ne (ne_of_none h hp)]; exact h
  have pM : p ∉ M := fun h => by
    obtain ⟨u, q, _⟩ := R.ex p h
    rw [hp] at q; cases q
  have m : Mv (g.own M ds) (g.own (M ++ [p]) (ds.more c)) H (L2.upd H p o) := ⟨fun b u h _ _ => e b u h, fun b ps h => ⟨ps, e b _ h⟩, fun b h => by
    rcases h with h | h
    · exact .inl (.inl h)
    · rcases live_more R.mlen h with h | h
      · exact .inl (.inr h)
      · exact .inr (by rw [h]; exact hp)⟩
  have pr : ∃ more, M ++ [p] = M ++ more := ⟨[p], rfl⟩
  refine ⟨{ len := R.len, slot := fun i z h => ?_, mlen := ?_, nd := ?_, apart := fun a h => ?_, obj := fun n x a h1 h2 => ?_, gh := fun p hp => RepD.mv m _ _ (R.gh p hp), tabs := R.tabs.ext e, out := fun a h => ?_, ex := fun a h => ?_ }, m, pr, fun a h => ?_⟩
  · obtain ⟨v, h1, h2⟩ := R.slot i z h
    exact ⟨v, h1, h2.mv m pr⟩
  · show (M ++ [p]).length = (ds.w ++ [some c]).length
    rw [List.length_append, List.length_append, R.mlen]; rfl
  · rw [List.nodup_append]
    refine ⟨R.nd, by simp, fun a ha b hb z => ?_⟩
    have : b = p := by simpa using hb
    subst this
    exact pM (z ▸ ha)
  · rcases List.mem_append.mp h with h | h
    · exact R.apart a h
    · have : a = p := by simpa using h
      subst this
      exact fun z => by
        obtain ⟨u, q, _⟩ := R.out _ z
        rw [hp] at q; cases q
  · rcases get_more h1 with h1 | ⟨h4, h3⟩
    · have hn : n < M.length := by
        obtain ⟨q, _⟩ := List.getElem?_eq_some_iff.mp h1
        rw [R.mlen]; exact q
      rw [List.getElem?_append_left hn] at h2
      have r := R.obj n x a h1 h2
      obtain ⟨u, q1, q2, _⟩ := r.ex
      exact r.mv m pr (by rw [e a u q1, q1])
    · have h3 := Option.some.inj h3
      subst h3
      rw [h4, ← R.mlen, List.getElem?_append_right (Nat.le_refl _), Nat.sub_self] at h2
      have : p = a := Option.some.inj h2
      subst this
      exact hc _ m
  · obtain ⟨u, q1, q2, q3⟩ := R.out a h
    exact ⟨u, e a u q1, q2, q3⟩
  · rcases List.mem_append.mp h with h | h
    · obtain ⟨u, q1, q2, q3⟩ := R.ex a h
      exact ⟨u, e a u q1, q2, q3⟩
    · have : a = p := by simpa using h
      subst this
      exact ⟨o, upd_same, ht, hx⟩
  · obtain ⟨u, q1, q2, q3⟩ := R.out a h
    rw [e a u q1, q1]
/-- the thing numbered n is written -/
def DS.put (ds : DS) (n : Nat) (c : MC) : DS := ⟨ds.s, ds.w.set n (some c)⟩
theorem nodup_at {l : List Addr} (hN : l.Nodup) {i j : Nat} {x : Addr} (a : l[i]? = some x) (b : l[j]? = some x) : i = j := by
  obtain ⟨h1, e1⟩ := List.getElem?_eq_some_iff.mp a
  obtain ⟨h2, e2⟩ := List.getElem?_eq_some_iff.mp b
  exact (List.getElem_inj hN).mp (e1.trans e2.symm)
theorem live_put {M : List Addr} {w : List (Option MC)} {n : Nat} {c c0 : MC} (h0 : w[n]? = some (some c0)) {b : Addr} : live M (w.set n (some c)) b ↔ live M w b := by
  constructor
  · rintro ⟨k, x, h1, h2⟩
    by_cases hk : k = n
    · subst hk
      exact ⟨k, c0, h1, h0⟩
    · rw [List.getElem?_set_ne (Ne.symm hk)] at h2
      exact ⟨k, x, h1, h2⟩
  · rintro ⟨k, x, h1, h2⟩
    by_cases hk : k = n
    · subst hk
      have hl : k < w.length := (List.getElem?_eq_some_iff.mp h0).1
      exact ⟨k, c, h1, by rw [List.getElem?_set_self hl]⟩
    · exact ⟨k, x, h1, by rw [List.getElem?_set_ne (Ne.symm hk)]; exact h2⟩
theorem RepS.put (R : RepS K g M ds σ H) {n : Nat} {a : Addr} {o : HO} {c c0 : MC} (h0 : ds.w[n]? = some (some c0)) (ha : M[n]? = some a) (ht : ∀ ps, o ≠ .tbl ps) (hx : ∀ φ, o ≠ .ext φ)
    (hc : ∀ own', Mv (g.own M ds) own' H (L2.upd H a o) → RepM K own' M (L2.upd H a o) a c) :
    RepS K g M (ds.put n c) σ (L2.upd H a o) ∧ Nxt g M ds H M (ds.put n c) (L2.upd H a o) := by
  have la : live M ds.w a := ⟨n, c0, ha, h0⟩
  have e : ∀ b, b ≠ a → L2.upd H a o b = H b := fun b h => upd_ne h
  obtain ⟨u0, q0, qt, qx⟩ := (R.obj n c0 a h0 ha).ex
  have m : Mv (g.own M ds) (g.own M (ds.put n c)) H (L2.upd H a o) := by
    refine ⟨fun b u h nb _ => ?_, fun b ps h => ⟨ps, ?_⟩, fun b h => .inl ?_⟩
    · rw [e b fun z => nb (.inr (z ▸ la))]; exact h
    · rw [e b fun z => by rw [z, q0] at h; cases h; exact qt ps rfl]; exact h
    · rcases h with h | h
      · exact .inl h
      · exact .inr ((live_put h0).mp h)
  have pr : ∃ more, M = M ++ more := ⟨[], by simp⟩
  have na : ∀ b, g.ow b → b ≠ a := fun b h z => R.apart a (List.mem_of_getElem? ha) (z ▸ h)
  refine ⟨{ len := R.len, slot := fun i z h => ?_, mlen := ?_, nd := R.nd, apart := R.apart, obj := fun k x b h1 h2 => ?_, gh := fun p hp => RepD.mv m _ _ (R.gh p hp), tabs := ?_, out := fun b h => ?_, ex := fun b h => ?_ }, m, pr, fun b h => e b (na b h)⟩
  · obtain ⟨v, h1, h2⟩ := R.slot i z h
    exact ⟨v, h1, h2.mv m pr⟩
  · show M.length = (ds.w.set n (some c)).length
    rw [List.length_set]; exact R.mlen
  · by_cases hk : k = n
    · subst hk
      rw [ha] at h2; cases h2
      have hl : k < ds.w.length := (List.getElem?_eq_some_iff.mp h0).1
      have h1' : (ds.w.set k (some c))[k]? = some (some x) := h1
      rw [List.getElem?_set_self hl] at h1'
      cases h1'
      exact hc _ m
    · have h1' : (ds.w.set n (some c))[k]? = some (some x) := h1
      rw [List.getElem?_set_ne (Ne.symm hk)] at h1'
      have r := R.obj k x b h1' h2
      exact r.mv m pr (e b fun z => hk (nodup_at R.nd h2 (z ▸ ha)))
  · intro p hp
    obtain ⟨ps, t1, t2, t3⟩ := R.tabs p hp
    refine ⟨ps, by rw [e _ fun z => by rw [z, q0] at t1; cases t1; exact qt ps rfl]; exact t1, t2, fun pos cv hcv => ?_⟩
    obtain ⟨c', e1, e2⟩ := t3 pos cv hcv
    exact ⟨c', e1, by rw [e _ fun z => by rw [z, q0] at e2; exact qx.2 _ (Option.some.inj e2)]; exact e2⟩
  · obtain ⟨u, q1, q2, q3⟩ := R.out b h
    exact ⟨u, by rw [e b (na b h)]; exact q1, q2, q3⟩
  · by_cases hb : b = a
    · subst hb
      exact ⟨o, upd_same, ht, hx⟩
    · obtain ⟨u, q1, q2, q3⟩ := R.ex b h
      exact ⟨u, by rw [e b hb]; exact q1, q2, q3⟩
/-- a slot is set -/
def DS.set (ds : DS) (i : Nat) (z : Z) : DS := ⟨ds.s.set i (some z), ds.w⟩
theorem RepS.set (R : RepS K g M ds σ H) (i : Nat) {z : Z} {v : V} (r : RepZ K (g.own M ds) M H z v) : RepS K g M (ds.set i z) (σ.set i (some v)) H := by
  refine { len := by show (σ.set i _).length = (ds.s.set i _).length; rw [List.length_set, List.length_set]; exact R.len, slot := fun j y h => ?_, mlen := R.mlen, nd := R.nd, apart := R.apart, obj := R.obj, tabs := R.tabs, gh := R.gh, out := R.out, ex := R.ex }
  have h' : (ds.s.set i (some z))[j]? = some (some y) := h
  by_cases hj : j = i
  · subst hj
    have hl : j < ds.s.length := by
      obtain ⟨q, _⟩ := List.getElem?_eq_some_iff.mp h'
      rw [List.length_set] at q; exact q
    rw [List.getElem?_set_self hl] at h'
    cases h'
    exact ⟨v, by rw [List.getElem?_set_self (by rw [R.len]; exact hl)], r⟩
  · rw [List.getElem?_set_ne (Ne.symm hj)] at h'
    obtain ⟨u, h1, h2⟩ := R.slot j y h'
    exact ⟨u, by rw [List.getElem?_set_ne (Ne.symm hj)]; exact h1, h2⟩
theorem Nxt.set {i : Nat} {z : Z} : Nxt g M ds H M (ds.set i z) H := ⟨⟨fun _ _ h _ _ => h, fun _ ps h => ⟨ps, h⟩, fun _ h => .inl h⟩, ⟨[], by simp⟩, fun _ _ => rfl⟩
/-- less is told of the slots -/
theorem RepS.weak (R : RepS K g M ds σ H) {l : List (Option Z)} {σ' : L2.St} (hl : σ'.length = l.length) (h : ∀ (i : Nat) z, l[i]? = some (some z) → ds.s[i]? = some (some z) ∧ σ'[i]? = σ[i]?) : RepS K g M ⟨l, ds.w⟩ σ' H :=
  { len := hl, slot := fun i z e => by
      obtain ⟨h1, h2⟩ := h i z e
      obtain ⟨v, q1, q2⟩ := R.slot i z h1
      exact ⟨v, by rw [h2]; exact q1, q2⟩
    mlen := R.mlen, nd := R.nd, apart := R.apart, obj := R.obj, tabs := R.tabs, gh := R.gh, out := R.out, ex := R.ex }
/-- the thing numbered n is never written again: it is data from now on -/
def frzZ (n : Nat) (x : D) : Option Z → Option Z
  | some (.m k) => match Nat.beq k n with
    | true => some (.d x)
    | false => some (.m k)
  | z => z
def DS.frz (ds : DS) (n : Nat) (x : D) : DS := ⟨ds.s.map (frzZ n x), ds.w.set n none⟩
def MC.dat : MC → D → Prop
  | .lst l, x => x = .lst l
  | .dic ks l, x => x = .dic ks l
  | .ins C ns zs, x => ∃ l, x = .ins C ns l ∧ zs = l.map Z.d
theorem RepM.dat {own : Addr → Prop} {M : List Addr} {H : Hp} {a : Addr} (na : ¬ own a) : ∀ {c : MC} {x : D}, RepM K own M H a c → c.dat x → RepD K own H x (.ref a)
  | .lst zs, x, h, q => by
    cases q
    obtain ⟨xs, r, e⟩ := h
    exact ⟨a, xs, rfl, r, na, e⟩
  | .dic ks zs, x, h, q => by
    cases q
    obtain ⟨xs, r, z, e⟩ := h
    exact ⟨a, xs, rfl, r, z, na, e⟩
  | .ins C ns zs, x, h, q => by
    obtain ⟨l, rfl, rfl⟩ := q
    obtain ⟨dx, xs, r, z, e⟩ := h
    exact ⟨a, dx, xs, rfl, r.toD, by rw [z, List.length_map], na, e⟩
theorem RepS.frz (R : RepS K g M ds σ H) {n : Nat} {a : Addr} {c : MC} {x : D} (h0 : ds.w[n]? = some (some c)) (ha : M[n]? = some a) (hx : c.dat x) :
    RepS K g M (ds.frz n x) σ H ∧ Nxt g M ds H M (ds.frz n x) H ∧ RepD K (g.own M (ds.frz n x)) H x (.ref a) := by
  have lv : ∀ b, live M (ds.w.set n none) b → live M ds.w b ∧ b ≠ a := fun b ⟨k, y, h1, h2⟩ => by
    by_cases hk : k = n
    · subst hk
      rw [List.getElem?_set_self (List.getElem?_eq_some_iff.mp h0).1] at h2
      cases h2
    · rw [List.getElem?_set_ne (Ne.symm hk)] at h2
      exact ⟨⟨k, y, h1, h2⟩, fun z => hk (nodup_at R.nd h1 (z ▸ ha))⟩
  have m : Mv (g.own M ds) (g.own M (ds.frz n x)) H H := ⟨fun _ _ h _ _ => h, fun _ ps h => ⟨ps, h⟩, fun b h => .inl (h.elim .inl fun z => .inr (lv b z).1)⟩
  have pr : ∃ more, M = M ++ more := ⟨[], by simp⟩
  have no : ¬ g.own M (ds.frz n x) a := fun z => z.elim (R.apart a (List.mem_of_getElem? ha)) fun z => (lv a z).2 rfl
  have rx : RepD K (g.own M (ds.frz n x)) H x (.ref a) := ((R.obj n c a h0 ha).mv m pr rfl).dat no hx
  refine ⟨{ len := ?_, slot := fun i z h => ?_, mlen := ?_, nd := R.nd, apart := R.apart, obj := fun k y b h1 h2 => ?_, gh := fun p hp => RepD.mv m _ _ (R.gh p hp), tabs := R.tabs, out := R.out, ex := R.ex }, ⟨m, pr, fun _ _ => rfl⟩, rx⟩
  · show σ.length = (ds.s.map _).length
    rw [List.length_map]; exact R.len
  · have h' : (ds.s.map (frzZ n x))[i]? = some (some z) := h
    rw [List.getElem?_map] at h'
    cases e : ds.s[i]? with
    | none => rw [e] at h'; cases h'
    | some oz =>
      rw [e] at h'
      have h'' : frzZ n x oz = some z := Option.some.inj h'
      cases oz with
      | none => cases h''
      | some y =>
        obtain ⟨v, q1, q2⟩ := R.slot i y e
        cases y with
        | d y => cases h''; exact ⟨v, q1, q2.mv m pr⟩
        | m k =>
          cases hk : Nat.beq k n with
          | true =>
            have : k = n := Nat.eq_of_beq_eq_true hk
            subst this
            simp only [frzZ, hk] at h''
            cases h''
            obtain ⟨b, hb, rfl⟩ := q2
            rw [ha] at hb; cases hb
            exact ⟨_, q1, rx⟩
          | false =>
            simp only [frzZ, hk] at h''
            cases h''
            exact ⟨v, q1, q2.mv m pr⟩
  · show M.length = (ds.w.set n none).length
    rw [List.length_set]; exact R.mlen
  · have h1' : (ds.w.set n none)[k]? = some (some y) := h1
    by_cases hk : k = n
    · subst hk
      rw [List.getElem?_set_self (List.getElem?_eq_some_iff.mp h0).1] at h1'
      cases h1'
    · rw [List.getElem?_set_ne (Ne.symm hk)] at h1'
      exact (R.obj k y b h1' h2).mv m pr rfl
end
end L3

set_option Elab.async false
set_option linter.all false
set_option maxRecDepth 100000
set_option maxHeartbeats 4000000
namespace L3
open PySem PySem.Spec PyProof.Rows L2

/-- an exception as data: its class, its attributes -/
structure EX where
  cls : Nat
  fs : List Str
  vals : List D
abbrev QZ := Z → DS → Prop
abbrev QE := EX → DS → Prop
abbrev TD := DS → QZ → QE → Prop
abbrev TBo := DS → (Bool → DS → Prop) → QE → Prop
abbrev TLi := DS → (List Z → DS → Prop) → QE → Prop
def RepE (K : PySem.W.Frag) (own : Addr → Prop) (H : Hp) (x : EX) (cls : Value) (d : Option Addr) : Prop :=
  cls = .ref (He.ga K (exName x.cls)) ∧ ∀ a, RepD K own H (.exn x.cls a d x.fs x.vals) (.ref a)

section
variable (X : Cx) (g : G) (W : WX)
def EPD (pins : List (Addr × Obj)) (σ : L2.St) (M : List Addr) (ds : DS) (H : Hp) (QD : QZ) (u : Value) (s' : Shared) : Prop :=
  ∃ z ds' M' v H', Inv X pins σ H' s' ∧ RelV v u ∧ RepS X.K g M' ds' σ H' ∧ Nxt g M ds H M' ds' H' ∧ RepZ X.K (g.own M' ds') M' H' z v ∧ QD z ds'
def TPD (pins : List (Addr × Obj)) (σ : L2.St) (M : List Addr) (ds : DS) (H : Hp) (QD : Bool → DS → Prop) (b : Bool) (s' : Shared) : Prop :=
  ∃ ds' M' H', Inv X pins σ H' s' ∧ RepS X.K g M' ds' σ H' ∧ Nxt g M ds H M' ds' H' ∧ QD b ds'
def LPD (pins : List (Addr × Obj)) (σ : L2.St) (M : List Addr) (ds : DS) (H : Hp) (QD : List Z → DS → Prop) (us : List Value) (s' : Shared) : Prop :=
  ∃ zs ds' M' vs H', Inv X pins σ H' s' ∧ Vals vs us ∧ RepS X.K g M' ds' σ H' ∧ Nxt g M ds H M' ds' H' ∧ RepZs X.K (g.own M' ds') M' H' zs vs ∧ QD zs ds'
def EW (σ : L2.St) (M : List Addr) (ds : DS) (H : Hp) (ED : QE) : Prop :=
  ∀ x ds' M' H' cls d, ED x ds' → RepS X.K g M' ds' σ H' → Nxt g M ds H M' ds' H' → RepE X.K (g.own M' ds') H' x cls d → W cls d σ H'
structure PX (e : Expr) (t : TD) : Prop where
  run : ∀ (pins : List (Addr × Obj)) (s : Shared) (σ : L2.St) (H : Hp) (M : List Addr) (ds : DS) (QD : QZ) (ED : QE), Inv X pins σ H s → RepS X.K g M ds σ H → t ds QD ED → EW X g W σ M ds H ED →
    wpAny (model X.prog X.w) X.A (eval e X.env) (EPD X g pins σ M ds H QD) X.xe s
structure PXT (e : Expr) (t : TBo) : Prop where
  run : ∀ (pins : List (Addr × Obj)) (s : Shared) (σ : L2.St) (H : Hp) (M : List Addr) (ds : DS) (QD : Bool → DS → Prop) (ED : QE), Inv X pins σ H s → RepS X.K g M ds σ H → t ds QD ED → EW X g W σ M ds H ED →
    wpAny (model X.prog X.w) X.A (isTrue e X.env (eval e X.env)) (TPD X g pins σ M ds H QD) X.xe s
structure PXW (e : Expr) (t : TBo) : Prop where
  run : ∀ (whole : Sem Value) (pins : List (Addr × Obj)) (s : Shared) (σ : L2.St) (H : Hp) (M : List Addr) (ds : DS) (QD : Bool → DS → Prop) (ED : QE), Inv X pins σ H s → RepS X.K g M ds σ H → t ds QD ED → EW X g W σ M ds H ED →
    wpAny (model X.prog X.w) X.A (isTrue e X.env whole) (TPD X g pins σ M ds H QD) X.xe s
structure PXA (es : List Expr) (t : TLi) : Prop where
  run : ∀ (pos : Pos) (pins : List (Addr × Obj)) (s : Shared) (σ : L2.St) (H : Hp) (M : List Addr) (ds : DS) (QD : List Z → DS → Prop) (ED : QE), Inv X pins σ H s → RepS X.K g M ds σ H → t ds QD ED → EW X g W σ M ds H ED →
    wpAny (model X.prog X.w) X.A (spliced (backTo pos (starEach es X.env))) (LPD X g pins σ M ds H QD) X.xe s
/-- a two-place operation on values -/
def OpD (f : Value → Value → Sem Value) (rd : Z → Z → DS → QZ → Prop) : Prop :=
  ∀ (pins : List (Addr × Obj)) (s : Shared) (σ : L2.St) (H : Hp) (M : List Addr) (ds : DS) (x y : Z) (v u : V) (vv uu : Value) (QD : QZ), Inv X pins σ H s → RepS X.K g M ds σ H → RepZ X.K (g.own M ds) M H x v → RelV v vv →
    RepZ X.K (g.own M ds) M H y u → RelV u uu → rd x y ds QD → wpAny (model X.prog X.w) X.A (f vv uu) (EPD X g pins σ M ds H QD) X.xe s
def UnD (f : Value → Sem Value) (rd : Z → DS → QZ → Prop) : Prop :=
  ∀ (pins : List (Addr × Obj)) (s : Shared) (σ : L2.St) (H : Hp) (M : List Addr) (ds : DS) (x : Z) (v : V) (vv : Value) (QD : QZ), Inv X pins σ H s → RepS X.K g M ds σ H → RepZ X.K (g.own M ds) M H x v → RelV v vv →
    rd x ds QD → wpAny (model X.prog X.w) X.A (f vv) (EPD X g pins σ M ds H QD) X.xe s
def CallD (f : Value) (rd : List Z → DS → QZ → Prop) : Prop :=
  ∀ (pins : List (Addr × Obj)) (s : Shared) (σ : L2.St) (H : Hp) (M : List Addr) (ds : DS) (zs : List Z) (vs : List V) (us : List Value) (QD : QZ), Inv X pins σ H s → RepS X.K g M ds σ H → RepZs X.K (g.own M ds) M H zs vs → Vals vs us →
    rd zs ds QD → wpAny (model X.prog X.w) X.A (call f us) (EPD X g pins σ M ds H QD) X.xe s
/-- the wish from the layer below -/
def Mid (σ : L2.St) (M : List Addr) (ds : DS) (H : Hp) (QD : QZ) (v : V) (H' : Hp) : Prop :=
  ∃ z ds' M', RepS X.K g M' ds' σ H' ∧ Nxt g M ds H M' ds' H' ∧ RepZ X.K (g.own M' ds') M' H' z v ∧ QD z ds'
end

section
variable {X : Cx} {g : G} {W : WX} {pins : List (Addr × Obj)} {σ : L2.St} {M M1 : List Addr} {ds ds1 : DS} {H H1 : Hp} {s : Shared} {QD : QZ} {ED : QE}
theorem EW.nxt (h : EW X g W σ M ds H ED) (N : Nxt g M ds H M1 ds1 H1) : EW X g W σ M1 ds1 H1 ED := fun x ds' M' H' cls d e R N' r => h x ds' M' H' cls d e R (N.trans N') r
theorem EPD.of {u : Value} {s' : Shared} (h : EP X pins σ (Mid X g σ M ds H QD) u s') : EPD X g pins σ M ds H QD u s' := by
  obtain ⟨v, H', I, r, z, ds', M', R, N, rz, q⟩ := h
  exact ⟨z, ds', M', v, H', I, r, R, N, rz, q⟩
theorem OpD.of {f : Value → Value → Sem Value} {r : R2} {rd : Z → Z → DS → QZ → Prop} (ho : OpR X f r)
    (h : ∀ (σ : L2.St) (H : Hp) (M : List Addr) (ds : DS) (x y : Z) (v u : V) (QD : QZ), RepS X.K g M ds σ H → RepZ X.K (g.own M ds) M H x v → RepZ X.K (g.own M ds) M H y u → rd x y ds QD → r v u H (Mid X g σ M ds H QD)) : OpD X g f rd :=
  fun pins s σ H M ds x y v u vv uu QD I R rx vx ry vy q => thn (ho pins s σ H v u vv uu _ I vx vy (h σ H M ds x y v u QD R rx ry q)) fun _ _ z => .of z
theorem UnD.of {f : Value → Sem Value} {r : V → Hp → VK → Prop} {rd : Z → DS → QZ → Prop} (ho : UnR X f r)
    (h : ∀ (σ : L2.St) (H : Hp) (M : List Addr) (ds : DS) (x : Z) (v : V) (QD : QZ), RepS X.K g M ds σ H → RepZ X.K (g.own M ds) M H x v → rd x ds QD → r v H (Mid X g σ M ds H QD)) : UnD X g f rd :=
  fun pins s σ H M ds x v vv QD I R rx vx q => thn (ho pins s σ H v vv _ I vx (h σ H M ds x v QD R rx q)) fun _ _ z => .of z
theorem CallD.of {f : Value} {r : List V → Hp → VK → Prop} {rd : List Z → DS → QZ → Prop} (ho : CallR X f r)
    (h : ∀ (σ : L2.St) (H : Hp) (M : List Addr) (ds : DS) (zs : List Z) (vs : List V) (QD : QZ), RepS X.K g M ds σ H → RepZs X.K (g.own M ds) M H zs vs → rd zs ds QD → r vs H (Mid X g σ M ds H QD)) : CallD X g f rd :=
  fun pins s σ H M ds zs vs us QD I R rx vx q => thn (ho pins s σ H vs us _ I vx (h σ H M ds zs vs QD R rx q)) fun _ _ z => .of z
/-- the same state, a value -/
theorem Mid.same (R : RepS X.K g M ds σ H) {z : Z} {v : V} (r : RepZ X.K (g.own M ds) M H z v) (q : QD z ds) : Mid X g σ M ds H QD v H := ⟨z, ds, M, R, .refl, r, q⟩
/-- a new tuple or list, never written -/
theorem Mid.tup (R : RepS X.K g M ds σ H) {l : List D} {xs : List V} {p : Addr} (hp : H p = none) (r : RepL X.K (g.own M ds) H l xs) (q : QD (.d (.tup l)) ds) : Mid X g σ M ds H QD (.ref p) (L2.upd H p (.tup xs)) := by
  obtain ⟨R', N⟩ := R.upd (o := .tup xs) hp
  exact ⟨.d (.tup l), ds, M, R', N, ⟨p, xs, rfl, RepL.mv N.mv _ _ r, .inl ⟨R.own_none hp, .inl upd_same⟩⟩, q⟩
theorem Mid.lst (R : RepS X.K g M ds σ H) {l : List D} {xs : List V} {p : Addr} (hp : H p = none) (r : RepL X.K (g.own M ds) H l xs) (q : QD (.d (.lst l)) ds) : Mid X g σ M ds H QD (.ref p) (L2.upd H p (.lst xs)) := by
  obtain ⟨R', N⟩ := R.upd (o := .lst xs) hp
  exact ⟨.d (.lst l), ds, M, R', N, ⟨p, xs, rfl, RepL.mv N.mv _ _ r, R.own_none hp, upd_same⟩, q⟩
/-- a new list that will be written -/
theorem Mid.mlst (R : RepS X.K g M ds σ H) {l : List D} {xs : List V} {p : Addr} (hp : H p = none) (r : RepL X.K (g.own M ds) H l xs) (q : QD (.m ds.w.length) (ds.more (.lst l))) : Mid X g σ M ds H QD (.ref p) (L2.upd H p (.lst xs)) := by
  obtain ⟨R', N⟩ := R.more (o := .lst xs) (c := .lst l) hp (fun _ z => nomatch z) (fun _ z => nomatch z) fun own' m => ⟨xs, RepL.mv m _ _ r, upd_same⟩
  exact ⟨.m ds.w.length, _, _, R', N, ⟨p, by rw [← R.mlen, List.getElem?_append_right (Nat.le_refl _), Nat.sub_self]; rfl, rfl⟩, q⟩
end

section
variable {X : Cx} {g : G} {W : WX} {pos : Pos}
def dVar (i : Nat) : TD := fun ds Q _ => match ds.s[i]? with
  | some (some z) => Q z ds
  | _ => False
theorem px_var (i : Nat) {x : Str} (hN : X.N[i]? = some x := by rfl) (hv : Vis X.env.scope x := by first | exact Or.inl rfl | exact Or.inr (Or.inl rfl) | exact Or.inr (Or.inr rfl)) (hd : (x == ("__debug__" : Str)) = false := by decide)
    (hcd : (x == ("__classdict__" : Str)) = false := by decide) : PX X g W (.Name x pos) (dVar i) := by
  refine ⟨fun pins s σ H M ds QD ED I R t _ => ?_⟩
  unfold dVar at t
  split at t
  · rename_i z e
    obtain ⟨v, h1, h2⟩ := R.slot i z e
    exact thn ((pe_var hN hv hd hcd).run pins s σ H (Mid X g σ M ds H QD) I ⟨v, h1, .same R h2 t⟩) fun _ _ z => .of z
  · exact t.elim
/-- .. read for good: what was written so far is data now -/
def dVarF (i : Nat) : TD := fun ds Q _ => match ds.s[i]? with
  | some (some (.d x)) => Q (.d x) ds
  | some (some (.m n)) => match ds.w[n]? with
    | some (some (.lst l)) => Q (.d (.lst l)) (ds.frz n (.lst l))
    | some (some (.dic ks l)) => Q (.d (.dic ks l)) (ds.frz n (.dic ks l))
    | some (some (.ins C ns l)) => ∃ l', l = l'.map Z.d ∧ Q (.d (.ins C ns l')) (ds.frz n (.ins C ns l'))
    | _ => False
  | _ => False
theorem px_varF (i : Nat) {x : Str} (hN : X.N[i]? = some x := by rfl) (hv : Vis X.env.scope x := by first | exact Or.inl rfl | exact Or.inr (Or.inl rfl) | exact Or.inr (Or.inr rfl)) (hd : (x == ("__debug__" : Str)) = false := by decide)
    (hcd : (x == ("__classdict__" : Str)) = false := by decide) : PX X g W (.Name x pos) (dVarF i) := by
  refine ⟨fun pins s σ H M ds QD ED I R t _ => ?_⟩
  have go : ∀ {n : Nat} {c : MC} {x' : D}, ds.s[i]? = some (some (.m n)) → ds.w[n]? = some (some c) → c.dat x' → QD (.d x') (ds.frz n x') → wpAny (model X.prog X.w) X.A (eval (.Name x pos) X.env) (EPD X g pins σ M ds H QD) X.xe s := fun {n c x'} e1 e2 hx q => by
    obtain ⟨v, h1, a, ha, rfl⟩ := R.slot i _ e1
    obtain ⟨R', N, rx⟩ := R.frz e2 ha hx
    exact thn ((pe_var hN hv hd hcd).run pins s σ H (Mid X g σ M ds H QD) I ⟨_, h1, .d x', _, M, R', N, rx, q⟩) fun _ _ z => .of z
  unfold dVarF at t
  split at t
  · rename_i y e
    obtain ⟨v, h1, h2⟩ := R.slot i _ e
    exact thn ((pe_var hN hv hd hcd).run pins s σ H (Mid X g σ M ds H QD) I ⟨v, h1, .same R h2 t⟩) fun _ _ z => .of z
  · rename_i n e
    split at t
    · rename_i l e2; exact go e e2 rfl t
    · rename_i ks l e2; exact go e e2 rfl t
    · rename_i C ns l e2
      obtain ⟨l', rfl, t⟩ := t
      exact go e e2 ⟨l', rfl, rfl⟩ t
    · exact t.elim
  · exact t.elim
def dC (x : D) : TD := fun ds Q _ => Q (.d x) ds
theorem px_c {e : Expr} {x : D} {v : V} (h : PE X e (tC v)) (hx : ∀ K own H, RepD K own H x v) : PX X g W e (dC x) :=
  ⟨fun pins s σ H M ds QD ED I R t _ => thn (h.run pins s σ H (Mid X g σ M ds H QD) I (.same R (z := .d x) (hx _ _ _) t)) fun _ _ z => .of z⟩
theorem px_int {i j} : PX X g W (.Constant (.int i) j pos) (dC (.int i)) := px_c pe_int fun _ _ _ => rfl
theorem px_bl {b j} : PX X g W (.Constant (.bool b) j pos) (dC (.bl b)) := px_c pe_bl fun _ _ _ => rfl
theorem px_non {j} : PX X g W (.Constant .none j pos) (dC .non) := px_c pe_non fun _ _ _ => rfl
theorem px_str {x j} : PX X g W (.Constant (.str x) j pos) (dC (.str x)) := px_c pe_str fun _ _ _ => rfl
/-- a global of the program as a value -/
theorem px_glob {x : Str} {a : Addr} (hg : Gl X x) (hm : X.mg x = some (.ref a)) (hd : (x == ("__debug__" : Str)) = false := by decide) : PX X g W (.Name x pos) (dC (.ref a)) := px_c (pe_glob (v := .ref a) hg hm rfl hd) fun _ _ _ => rfl
theorem px_globT {x : Str} {a : Addr} {l : List D} {xs : List V} (hg : Gl X x) (hm : X.mg x = some (.ref a)) (ht : WrT X.K a xs) (hl : ∀ own H, RepL X.K own H l xs) (hd : (x == ("__debug__" : Str)) = false := by decide) : PX X g W (.Name x pos) (dC (.tup l)) :=
  ⟨fun pins s σ H M ds QD ED I R t _ => thn ((pe_glob (v := .ref a) hg hm rfl hd).run pins s σ H (Mid X g σ M ds H QD) I (.same R (z := .d (.tup l)) ⟨a, xs, rfl, hl _ _, .inr ht⟩ t)) fun _ _ z => .of z⟩
theorem px_globI {x : Str} {i : Int} {tk : Tok} (hg : Gl X x) (hm : X.mg x = some (.int i tk)) (hd : (x == ("__debug__" : Str)) = false := by decide) : PX X g W (.Name x pos) (dC (.int i)) := px_c (pe_glob (v := .int i) hg hm ⟨_, rfl⟩ hd) fun _ _ _ => rfl
theorem px_globS {x : Str} {i : Str} {tk : Tok} (hg : Gl X x) (hm : X.mg x = some (.str i tk)) (hd : (x == ("__debug__" : Str)) = false := by decide) : PX X g W (.Name x pos) (dC (.str i)) := px_c (pe_glob (v := .str i) hg hm ⟨_, rfl⟩ hd) fun _ _ _ => rfl
theorem px_ty {x : Str} {n : String} (hg : Gl X x) (hm : X.mg x = none) (hv : bootBuiltins x = some (.type n)) (hn : x ≠ "__name__" := by decide) (hd : (x == ("__debug__" : Str)) = false := by decide) : PX X g W (.Name x pos) (dC (.ty n)) := px_c (pe_bltn (v := .ty n) hg hm hv rfl hn hd) fun _ _ _ => rfl

variable {a b c : Expr}
def dOp (rd : Z → Z → DS → QZ → Prop) (ta tb : TD) : TD := fun ds Q E => ta ds (fun x ds1 => tb ds1 (fun y ds2 => rd x y ds2 Q) E) E
theorem px_bin {ta tb : TD} (ha : PX X g W a ta) (hb : PX X g W b tb) {pins : List (Addr × Obj)} {σ : L2.St} {M : List Addr} {ds : DS} {H : Hp} {s : Shared} {ED : QE} {α : Type} {PD : α → Shared → Prop} {f : Value → Value → Sem α} (I : Inv X pins σ H s) (R : RepS X.K g M ds σ H)
    {R2 : Z → Z → DS → Prop} (t : ta ds (fun x ds1 => tb ds1 (fun y ds2 => R2 x y ds2) ED) ED) (he : EW X g W σ M ds H ED)
    (hf : ∀ vv uu s2 x y v u M2 ds2 H2, Inv X pins σ H2 s2 → RepS X.K g M2 ds2 σ H2 → Nxt g M ds H M2 ds2 H2 → RepZ X.K (g.own M2 ds2) M2 H2 x v → RelV v vv → RepZ X.K (g.own M2 ds2) M2 H2 y u → RelV u uu → R2 x y ds2 → wpAny (model X.prog X.w) X.A (f vv uu) PD X.xe s2) :
    wpAny (model X.prog X.w) X.A (eval a X.env) (fun v s₁ => wpAny (model X.prog X.w) X.A (eval b X.env) (fun u s₂ => wpAny (model X.prog X.w) X.A (f v u) PD X.xe s₂) X.xe s₁) X.xe s := by
  refine thn (ha.run pins s σ H M ds _ ED I R t he) fun vv s1 ⟨x, ds1, M1, v, H1, I1, r1, R1, N1, z1, q1⟩ => ?_
  refine thn (hb.run pins s1 σ H1 M1 ds1 _ ED I1 R1 q1 (he.nxt N1)) fun uu s2 ⟨y, ds2, M2, u, H2, I2, r2, R2, N2, z2, q2⟩ => ?_
  exact hf vv uu s2 x y v u M2 ds2 H2 I2 R2 (N1.trans N2) (z1.mv N2.mv N2.pre) r1 z2 r2 q2
theorem EPD.nxt {pins : List (Addr × Obj)} {σ : L2.St} {M M1 : List Addr} {ds ds1 : DS} {H H1 : Hp} {QD : QZ} {u : Value} {s' : Shared} (N : Nxt g M ds H M1 ds1 H1) (h : EPD X g pins σ M1 ds1 H1 QD u s') : EPD X g pins σ M ds H QD u s' := by
  obtain ⟨z, ds', M', v, H', I, r, R, N', rz, q⟩ := h
  exact ⟨z, ds', M', v, H', I, r, R, N.trans N', rz, q⟩
theorem TPD.nxt {pins : List (Addr × Obj)} {σ : L2.St} {M M1 : List Addr} {ds ds1 : DS} {H H1 : Hp} {QD : Bool → DS → Prop} {u : Bool} {s' : Shared} (N : Nxt g M ds H M1 ds1 H1) (h : TPD X g pins σ M1 ds1 H1 QD u s') : TPD X g pins σ M ds H QD u s' := by
  obtain ⟨ds', M', H', I, R, N', q⟩ := h
  exact ⟨ds', M', H', I, R, N.trans N', q⟩
theorem px_op {op : Operator} {rd : Z → Z → DS → QZ → Prop} {ta tb : TD} (ho : OpD X g (binaryOp op) rd) (ha : PX X g W a ta) (hb : PX X g W b tb) : PX X g W (.BinOp a op b pos) (dOp rd ta tb) :=
  ⟨fun pins s σ H M ds QD ED I R t he => wpAny_BinOp (px_bin ha hb I R t he fun vv uu s2 x y v u M2 ds2 H2 I2 R2 N z1 r1 z2 r2 q => thn (ho pins s2 σ H2 M2 ds2 x y v u vv uu QD I2 R2 z1 r1 z2 r2 q) fun _ _ h => h.nxt N)⟩
theorem px_cmp {op : CmpOp} {rd : Z → Z → DS → QZ → Prop} {ta tb : TD} (ho : OpD X g (compareOp op) rd) (ha : PX X g W a ta) (hb : PX X g W b tb) (hm : behindInMarks op b = false) : PX X g W (.Compare a [op] [b] pos) (dOp rd ta tb) :=
  ⟨fun pins s σ H M ds QD ED I R t he => wpAny_Compare1 (px_bin ha hb I R t he fun vv uu s2 x y v u M2 ds2 H2 I2 R2 N z1 r1 z2 r2 q => thn (ho pins s2 σ H2 M2 ds2 x y v u vv uu QD I2 R2 z1 r1 z2 r2 q) fun _ _ h => h.nxt N) hm⟩
def bB (Q : Bool → DS → Prop) : QZ := fun z ds => match z with
  | .d (.bl b) => Q b ds
  | _ => False
theorem bB_of {X : Cx} {g : G} {pins : List (Addr × Obj)} {σ : L2.St} {M : List Addr} {ds : DS} {H : Hp} {Q : Bool → DS → Prop} {u : Value} {s' : Shared} (h : EPD X g pins σ M ds H (bB Q) u s') : ∃ b, u = .bool b ∧ TPD X g pins σ M ds H Q b s' := by
  obtain ⟨z, ds', M', v, H', I, r, R, N, rz, q⟩ := h
  cases z with
  | m n => exact q.elim
  | d x =>
    cases x with
    | bl b =>
      have e : v = .bl b := rz
      subst e
      exact ⟨b, r, ds', M', H', I, R, N, q⟩
    | _ => exact q.elim
def dT (t : TD) : TBo := fun ds Q E => t ds (bB Q) E
theorem pxt_cmp {op : CmpOp} {rd : Z → Z → DS → QZ → Prop} {ta tb : TD} (ho : OpD X g (compareOp op) rd) (ha : PX X g W a ta) (hb : PX X g W b tb) (hm : behindInMarks op b = false) : PXT X g W (.Compare a [op] [b] pos) (dT (dOp rd ta tb)) :=
  ⟨fun pins s σ H M ds QD ED I R t he => wpAny_isTrue_Compare1 (px_bin (f := fun v u => compareOp op v u) ha hb I R t he fun vv uu s2 x y v u M2 ds2 H2 I2 R2 N z1 r1 z2 r2 q => thn (ho pins s2 σ H2 M2 ds2 x y v u vv uu _ I2 R2 z1 r1 z2 r2 q) fun c s3 h => by
    obtain ⟨k, rfl, h2⟩ := bB_of h
    exact wpAny_truthy_bool (TPD.nxt N h2)) hm⟩
def dUn (rd : Z → DS → QZ → Prop) (ta : TD) : TD := fun ds Q E => ta ds (fun x ds1 => rd x ds1 Q) E
theorem px_un {op : UnaryOp} {rd : Z → DS → QZ → Prop} {ta : TD} (ho : UnD X g (unaryOp op) rd) (ha : PX X g W a ta) : PX X g W (.UnaryOp op a pos) (dUn rd ta) :=
  ⟨fun pins s σ H M ds QD ED I R t he => UnaryOp_ (thn (ha.run pins s σ H M ds _ ED I R t he) fun vv s1 ⟨x, ds1, M1, v, H1, I1, r1, R1, N1, z1, q1⟩ => thn (ho pins s1 σ H1 M1 ds1 x v vv QD I1 R1 z1 r1 q1) fun _ _ h => h.nxt N1)⟩
end
end L3

set_option Elab.async false
set_option linter.all false
set_option maxRecDepth 100000
set_option maxHeartbeats 4000000
namespace L3
open PySem PySem.Spec PyProof.Rows L2
section
variable {X : Cx} {g : G} {W : WX} {pos : Pos}
def rdII (f : Int → Int → D) : Z → Z → DS → QZ → Prop := fun x y ds Q => match x, y with
  | .d (.int i), .d (.int j) => Q (.d (f i j)) ds
  | _, _ => False
def rdIIc (C : Int → Int → Prop) (f : Int → Int → D) : Z → Z → DS → QZ → Prop := fun x y ds Q => match x, y with
  | .d (.int i), .d (.int j) => C i j ∧ Q (.d (f i j)) ds
  | _, _ => False
theorem rdII_inv {f : Int → Int → D} {x y : Z} {ds : DS} {Q : QZ} (h : rdII f x y ds Q) : ∃ i j, x = .d (.int i) ∧ y = .d (.int j) ∧ Q (.d (f i j)) ds := by
  unfold rdII at h
  split at h
  · exact ⟨_, _, rfl, rfl, h⟩
  · exact h.elim
theorem rdIIc_inv {C : Int → Int → Prop} {f : Int → Int → D} {x y : Z} {ds : DS} {Q : QZ} (h : rdIIc C f x y ds Q) : ∃ i j, x = .d (.int i) ∧ y = .d (.int j) ∧ C i j ∧ Q (.d (f i j)) ds := by
  unfold rdIIc at h
  split at h
  · exact ⟨_, _, rfl, rfl, h.1, h.2⟩
  · exact h.elim
theorem od_ii {fn : Value → Value → Sem Value} {gv : Int → Int → V} {f : Int → Int → D} (ho : OpR X fn (rI0 gv)) (hf : ∀ K own H i j, RepD K own H (f i j) (gv i j)) : OpD X g fn (rdII f) :=
  .of ho fun σ H M ds x y v u QD R rx ry h => by
    obtain ⟨i, j, rfl, rfl, q⟩ := rdII_inv h
    exact ⟨i, j, rx, ry, .same R (z := .d (f i j)) (hf _ _ _ _ _) q⟩
theorem od_iic {fn : Value → Value → Sem Value} {C : Int → Int → Prop} {gv : Int → Int → V} {f : Int → Int → D} (ho : OpR X fn (rI C gv)) (hf : ∀ K own H i j, RepD K own H (f i j) (gv i j)) : OpD X g fn (rdIIc C f) :=
  .of ho fun σ H M ds x y v u QD R rx ry h => by
    obtain ⟨i, j, rfl, rfl, c, q⟩ := rdIIc_inv h
    exact ⟨i, j, rx, ry, c, .same R (z := .d (f i j)) (hf _ _ _ _ _) q⟩
theorem od_sub : OpD X g (binaryOp .Sub) (rdII fun i j => .int (i - j)) := od_ii op_sub fun _ _ _ _ _ => rfl
theorem od_addI : OpD X g (binaryOp .Add) (rdII fun i j => .int (i + j)) := od_ii op_add fun _ _ _ _ _ => rfl
theorem od_mulI : OpD X g (binaryOp .Mult) (rdIIc CMulW fun i j => .int (i * j)) := od_iic op_mulW fun _ _ _ _ _ => rfl
theorem od_div : OpD X g (binaryOp .FloorDiv) (rdIIc CDivW fun i j => .int (i / j)) := od_iic op_fdivW fun _ _ _ _ _ => rfl
theorem od_mod : OpD X g (binaryOp .Mod) (rdIIc (fun _ j => 0 < j) fun i j => .int (i % j)) := od_iic op_mod fun _ _ _ _ _ => rfl
theorem od_pow : OpD X g (binaryOp .Pow) (rdIIc CPow fun i j => .int (i ^ j.toNat)) := od_iic op_pow fun _ _ _ _ _ => rfl
theorem od_lt : OpD X g (compareOp .Lt) (rdII fun i j => .bl (decide (i < j))) := od_ii op_lt fun _ _ _ _ _ => rfl
theorem od_le : OpD X g (compareOp .LtE) (rdII fun i j => .bl (decide (i ≤ j))) := od_ii op_le fun _ _ _ _ _ => rfl
theorem od_gt : OpD X g (compareOp .Gt) (rdII fun i j => .bl (decide (j < i))) := od_ii op_gt fun _ _ _ _ _ => rfl
theorem od_ge : OpD X g (compareOp .GtE) (rdII fun i j => .bl (decide (j ≤ i))) := od_ii op_ge fun _ _ _ _ _ => rfl
def rdAdd : Z → Z → DS → QZ → Prop := fun x y ds Q => match x, y with
  | .d (.int i), .d (.int j) => Q (.d (.int (i + j))) ds
  | .d (.str a), .d (.str b) => a.length + b.length ≤ sizeLine ∧ Q (.d (.str (a ++ b))) ds
  | .d (.lst a), .d (.lst b) => a.length + b.length ≤ sizeLine ∧ Q (.d (.lst (a ++ b))) ds
  | .d (.tup (a :: as)), .d (.tup (b :: bs)) => (a :: as).length + (b :: bs).length ≤ sizeLine ∧ Q (.d (.tup ((a :: as) ++ (b :: bs)))) ds
  | _, _ => False
theorem sqT_of {K : PySem.W.Frag} {own : Addr → Prop} {H : Hp} {a : Addr} {xs : List V} (h : (¬ own a ∧ Rd H a (.tup xs)) ∨ WrT K a xs) : SqT K H a xs := h.elim (fun z => .inl z.2) .inr
theorem sqL_of {K : PySem.W.Frag} {own : Addr → Prop} {H : Hp} {a : Addr} {xs : List V} (h : (¬ own a ∧ Rd H a (.lst xs)) ∨ WrL K a xs) : SqL K H a xs := h.elim (fun z => .inl z.2) .inr
theorem od_add : OpD X g (binaryOp .Add) rdAdd := by
  intro pins s σ H M ds x y v u vv uu QD I R rx vx ry vy h
  unfold rdAdd at h
  split at h
  · exact od_addI pins s σ H M ds _ _ v u vv uu QD I R rx vx ry vy h
  · exact thn (op_add_str pins s σ H v u vv uu _ I vx vy ⟨_, _, rx, ry, h.1, .same R (z := .d (.str _)) rfl h.2⟩) fun _ _ z => .of z
  · obtain ⟨a, xs, rfl, r1, _, h1⟩ := rx
    obtain ⟨b, ys, rfl, r2, _, h2⟩ := ry
    exact thn (op_cat pins s σ H _ _ vv uu _ I vx vy ⟨a, b, xs, ys, rfl, rfl, h1, h2, by rw [RepL.length r1, RepL.length r2]; exact h.1, fun p hp => .lst R hp (r1.append r2) h.2⟩) fun _ _ z => .of z
  · obtain ⟨a, xs, rfl, r1, h1⟩ := rx
    obtain ⟨b, ys, rfl, r2, h2⟩ := ry
    have n1 : xs ≠ [] := fun z => by
      have := RepL.length r1
      rw [z] at this; cases this
    have n2 : ys ≠ [] := fun z => by
      have := RepL.length r2
      rw [z] at this; cases this
    exact thn (op_catT pins s σ H _ _ vv uu _ I vx vy ⟨a, b, xs, ys, rfl, rfl, sqT_of h1, sqT_of h2, n1, by rw [RepL.length r1, RepL.length r2]; exact h.1, fun z => absurd z n2, fun _ p hp => .tup R hp (r1.append r2) h.2⟩) fun _ _ z => .of z
  · exact h.elim
/-- * of ints, a list times an int -/
def rdMul : Z → Z → DS → QZ → Prop := fun x y ds Q => match x, y with
  | .d (.int i), .d (.int j) => CMulW i j ∧ Q (.d (.int (i * j))) ds
  | .d (.lst l), .d (.int j) => (-(2 ^ 63) ≤ j ∧ j < 2 ^ 63 ∧ l.length * j.toNat ≤ sizeLine) ∧ Q (.d (.lst (List.replicate j.toNat l).flatten)) ds
  | _, _ => False
theorem RepL.rep {K : PySem.W.Frag} {own : Addr → Prop} {H : Hp} {l : List D} {xs : List V} (r : RepL K own H l xs) : ∀ n : Nat, RepL K own H (List.replicate n l).flatten (List.replicate n xs).flatten
  | 0 => rfl
  | n + 1 => by
    rw [List.replicate_succ, List.replicate_succ, List.flatten_cons, List.flatten_cons]
    exact RepL.append r (RepL.rep r n)
theorem od_mul : OpD X g (binaryOp .Mult) rdMul := by
  intro pins s σ H M ds x y v u vv uu QD I R rx vx ry vy h
  unfold rdMul at h
  split at h
  · exact od_mulI pins s σ H M ds _ _ v u vv uu QD I R rx vx ry vy h
  · obtain ⟨a, xs, rfl, r1, _, h1⟩ := rx
    obtain ⟨⟨c1, c2, c3⟩, h⟩ := h
    exact thn (op_rep pins s σ H _ _ vv uu _ I vx vy ⟨a, _, xs, rfl, ry, h1, c1, c2, by rw [RepL.length r1]; exact c3, fun p hp => .lst R hp (RepL.rep r1 _) h⟩) fun _ _ z => .of z
  · exact h.elim
def rdNeg : Z → DS → QZ → Prop := fun x ds Q => match x with
  | .d (.int i) => Q (.d (.int (-i))) ds
  | _ => False
theorem ud_neg : UnD X g (unaryOp .USub) rdNeg := .of un_neg fun σ H M ds x v QD R rx h => by
  unfold rdNeg at h
  split at h
  · exact ⟨_, rx, .same R (z := .d (.int _)) rfl h⟩
  · exact h.elim
mutual
def D.pd : D → PyData
  | .bl b => .bool b
  | .int i => .int i
  | .str s => .str s
  | .tup l => .tuple (pds l)
  | .lst l => .list (pds l)
  | .lsf l => .list (pds l)
  | _ => .none
def pds : List D → List PyData
  | [] => []
  | d :: l => d.pd :: pds l
end
mutual
/-- data that == looks at -/
def D.flat : D → Bool
  | .non => true
  | .bl _ => true
  | .int _ => true
  | .str _ => true
  | .tup l => flats l
  | .lst l => flats l
  | .lsf l => flats l
  | _ => false
def flats : List D → Bool
  | [] => true
  | d :: l => d.flat && flats l
end
mutual
theorem RepD.dp {K : PySem.W.Frag} {own : Addr → Prop} {H : Hp} : ∀ (d : D) (v : V), d.flat = true → RepD K own H d v → Dp K H v d.pd
  | .non, v, _, h => by cases h; exact .non
  | .bl b, v, _, h => by cases h; exact .bl b
  | .int i, v, _, h => by cases h; exact .int i
  | .str i, v, _, h => by cases h; exact .str i
  | .tup l, v, f, h => by
    obtain ⟨a, xs, rfl, r, q⟩ := h
    exact .tup (sqT_of q) (RepL.dp l xs f r)
  | .lst l, v, f, h => by
    obtain ⟨a, xs, rfl, r, n, q⟩ := h
    exact .lst (.of q) (RepL.dp l xs f r)
  | .lsf l, v, f, h => by
    obtain ⟨a, xs, rfl, r, q⟩ := h
    exact .lst (sqL_of q) (RepL.dp l xs f r)
  | .ref a, v, f, h => by cases f
  | .ty a, v, f, h => by cases f
  | .dic ks l, v, f, h => by cases f
  | .ins C ns l, v, f, h => by cases f
  | .exn _ _ _ _ _, v, f, h => by cases f
  | .exo _ _ _ _ _, v, f, h => by cases f
  | .cod _ _, v, f, h => by cases f
theorem RepL.dp {K : PySem.W.Frag} {own : Addr → Prop} {H : Hp} : ∀ (l : List D) (xs : List V), flats l = true → RepL K own H l xs → DpAll K H xs (pds l)
  | [], xs, _, h => by cases h; exact .nil
  | d :: l, xs, f, h => by
    obtain ⟨v, r, rfl, h1, h2⟩ := h
    have f' : (d.flat && flats l) = true := f
    rw [Bool.and_eq_true] at f'
    exact .cons (RepD.dp d v f'.1 h1) (RepL.dp l r f'.2 h2)
end
theorem dVI (i j : Int) : decide (V.int i = V.int j) = decide (i = j) := by
  by_cases h : i = j <;> simp [h]
theorem dVS (i j : Str) : decide (V.str i = V.str j) = decide (i = j) := by
  by_cases h : i = j <;> simp [h]
def eqOk (x y : D) : Prop := x.flat = true ∧ y.flat = true ∧ SeqAt.shaped x.pd = true ∧ SeqAt.shaped y.pd = true
def rdEq : Z → Z → DS → QZ → Prop := fun x y ds Q => match x, y with
  | .d (.int i), .d (.int j) => Q (.d (.bl (decide (i = j)))) ds
  | .d (.str i), .d (.str j) => Q (.d (.bl (decide (i = j)))) ds
  | .d x, .d y => eqOk x y ∧ Q (.d (.bl (PyData.eqv x.pd y.pd))) ds
  | _, _ => False
def rdNe : Z → Z → DS → QZ → Prop := fun x y ds Q => match x, y with
  | .d (.int i), .d (.int j) => Q (.d (.bl (!decide (i = j)))) ds
  | .d (.str i), .d (.str j) => Q (.d (.bl (!decide (i = j)))) ds
  | .d x, .d y => eqOk x y ∧ Q (.d (.bl (!PyData.eqv x.pd y.pd))) ds
  | _, _ => False
theorem od_eq (hu : X.A.units + 64 < cLine) : OpD X g (compareOp .Eq) rdEq := by
  intro pins s σ H M ds x y v u vv uu QD I R rx vx ry vy h
  unfold rdEq at h
  split at h
  · cases rx; cases ry
    exact thn (op_eq pins s σ H _ _ vv uu _ I vx vy ⟨rfl, .same R (z := .d (.bl _)) rfl (by rw [dVI]; exact h)⟩) fun _ _ z => .of z
  · cases rx; cases ry
    exact thn (op_eq pins s σ H _ _ vv uu _ I vx vy ⟨rfl, .same R (z := .d (.bl _)) rfl (by rw [dVS]; exact h)⟩) fun _ _ z => .of z
  · obtain ⟨⟨f1, f2, s1, s2⟩, h⟩ := h
    exact thn (op_eqD hu pins s σ H _ _ vv uu _ I vx vy ⟨_, _, RepD.dp _ _ f1 rx, RepD.dp _ _ f2 ry, s1, s2, .same R (z := .d (.bl _)) rfl h⟩) fun _ _ z => .of z
  · exact h.elim
theorem od_ne (hu : X.A.units + 64 < cLine) : OpD X g (compareOp .NotEq) rdNe := by
  intro pins s σ H M ds x y v u vv uu QD I R rx vx ry vy h
  unfold rdNe at h
  split at h
  · cases rx; cases ry
    exact thn (op_ne pins s σ H _ _ vv uu _ I vx vy ⟨rfl, .same R (z := .d (.bl _)) rfl (by rw [dVI]; exact h)⟩) fun _ _ z => .of z
  · cases rx; cases ry
    exact thn (op_ne pins s σ H _ _ vv uu _ I vx vy ⟨rfl, .same R (z := .d (.bl _)) rfl (by rw [dVS]; exact h)⟩) fun _ _ z => .of z
  · obtain ⟨⟨f1, f2, s1, s2⟩, h⟩ := h
    exact thn (op_neD hu pins s σ H _ _ vv uu _ I vx vy ⟨_, _, RepD.dp _ _ f1 rx, RepD.dp _ _ f2 ry, s1, s2, .same R (z := .d (.bl _)) rfl h⟩) fun _ _ z => .of z
  · exact h.elim
def D.isN : D → Bool
  | .non => true
  | _ => false
theorem RepD.isN {K : PySem.W.Frag} {own : Addr → Prop} {H : Hp} : ∀ {d : D} {v : V}, RepD K own H d v → decide (v = .non) = d.isN
  | .non, v, h => by cases h; rfl
  | .bl b, v, h => by cases h; rfl
  | .int i, v, h => by cases h; rfl
  | .str i, v, h => by cases h; rfl
  | .tup l, v, h => by obtain ⟨a, xs, rfl, _⟩ := h; rfl
  | .lst l, v, h => by obtain ⟨a, xs, rfl, _⟩ := h; rfl
  | .lsf l, v, h => by obtain ⟨a, xs, rfl, _⟩ := h; rfl
  | .ref a, v, h => by cases h; rfl
  | .ty a, v, h => by cases h; rfl
  | .dic ks l, v, h => by obtain ⟨a, xs, rfl, _⟩ := h; rfl
  | .ins C ns l, v, h => by obtain ⟨a, dx, xs, rfl, _⟩ := h; rfl
  | .exn _ _ _ _ _, v, h => by obtain ⟨rfl, _⟩ := h; rfl
  | .exo _ _ _ _ _, v, h => by obtain ⟨rfl, _⟩ := h; rfl
  | .cod _ _, v, h => by obtain ⟨rfl, _⟩ := h; rfl
def rdIsN : Z → Z → DS → QZ → Prop := fun x y ds Q => match x, y with
  | .d x, .d .non => Q (.d (.bl x.isN)) ds
  | _, _ => False
def rdNotN : Z → Z → DS → QZ → Prop := fun x y ds Q => match x, y with
  | .d x, .d .non => Q (.d (.bl (!x.isN))) ds
  | _, _ => False
theorem od_isN : OpD X g (compareOp .Is) rdIsN := .of op_isN fun σ H M ds x y v u QD R rx ry h => by
  unfold rdIsN at h
  split at h
  · exact ⟨ry, .same R (z := .d (.bl _)) (by show V.bl _ = V.bl _; rw [RepD.isN rx]) h⟩
  · exact h.elim
theorem od_notN : OpD X g (compareOp .IsNot) rdNotN := .of op_notN fun σ H M ds x y v u QD R rx ry h => by
  unfold rdNotN at h
  split at h
  · exact ⟨ry, .same R (z := .d (.bl _)) (by show V.bl _ = V.bl _; rw [RepD.isN rx]) h⟩
  · exact h.elim

end
section
variable {X : Cx} {g : G} {W : WX} {pos : Pos} {a b c : Expr} {rest : List Expr}
def rdTru (x : Z) (ds : DS) (Q : Bool → DS → Prop) : Prop := match x with
  | .d .non => Q false ds
  | .d (.bl k) => Q k ds
  | .d (.int i) => Q (i != 0) ds
  | .d (.str s) => s.length ≤ sizeLine ∧ Q ((s.length : Int) != 0) ds
  | .d (.tup l) => Q (!l.isEmpty) ds
  | .d (.lst l) => Q (!l.isEmpty) ds
  | .d (.lsf l) => Q (!l.isEmpty) ds
  | .m n => match ds.w[n]? with
    | some (some (.lst l)) => Q (!l.isEmpty) ds
    | some (some (.dic ks l)) => Q (!l.isEmpty) ds
    | _ => False
  | _ => False
theorem RepL.emp {K : PySem.W.Frag} {own : Addr → Prop} {H : Hp} {l : List D} {xs : List V} (r : RepL K own H l xs) : xs.isEmpty = l.isEmpty := by
  have := RepL.length r
  cases l <;> cases xs <;> simp at this ⊢
theorem tru_d {pins : List (Addr × Obj)} {s : Shared} {σ : L2.St} {H : Hp} {M : List Addr} {ds : DS} {x : Z} {v : V} {vv : Value} {QD : Bool → DS → Prop} (I : L2.Inv X pins σ H s) (R : RepS X.K g M ds σ H) (rx : RepZ X.K (g.own M ds) M H x v) (vx : L2.RelV v vv)
    (h : rdTru x ds QD) : wpAny (model X.prog X.w) X.A (truthy vv) (TPD X g pins σ M ds H QD) X.xe s := by
  have go : ∀ k, TruV X.K v H k → QD k ds → wpAny (model X.prog X.w) X.A (truthy vv) (TPD X g pins σ M ds H QD) X.xe s := fun k hk q =>
    thn (tru_ok pins s σ H v vv (fun k' H' => k' = k ∧ H' = H) I vx ⟨k, hk, rfl, rfl⟩) fun k' s' ⟨H', I', e1, e2⟩ => by
      subst e1; subst e2
      exact ⟨ds, M, _, I', R, .refl, q⟩
  unfold rdTru at h
  split at h
  · cases rx; exact go _ rfl h
  · cases rx; exact go _ rfl h
  · cases rx; exact go _ rfl h
  · cases rx; exact go _ ⟨h.1, rfl⟩ h.2
  · obtain ⟨p, xs, rfl, r, q⟩ := rx
    exact go _ (.inr (.inl ⟨xs, sqT_of q, by rw [RepL.emp r]⟩)) h
  · obtain ⟨p, xs, rfl, r, n, q⟩ := rx
    exact go _ (.inl ⟨xs, .of q, by rw [RepL.emp r]⟩) h
  · obtain ⟨p, xs, rfl, r, q⟩ := rx
    exact go _ (.inl ⟨xs, sqL_of q, by rw [RepL.emp r]⟩) h
  · obtain ⟨p, hp, rfl⟩ := rx
    split at h
    · rename_i l e
      obtain ⟨xs, r, q⟩ := R.obj _ _ _ e hp
      exact go _ (.inl ⟨xs, .of q, by rw [RepL.emp r]⟩) h
    · rename_i ks l e
      obtain ⟨xs, r, z, q⟩ := R.obj _ _ _ e hp
      refine go _ (.inr (.inr ⟨_, q, ?_⟩)) h
      have h1 := RepL.length r
      cases ks <;> cases l <;> cases xs <;> simp at z h1 ⊢
    · exact h.elim
  · exact h.elim
def dTr (t : TD) : TBo := fun ds Q E => t ds (fun z ds1 => rdTru z ds1 Q) E
/-- any expression whose test is its value's truth -/
theorem pxt_val {e : Expr} {t : TD} (h : PX X g W e t) (he : ∀ whole, isTrue e X.env whole = (do let v ← whole; standAt e.pos; holding [v] (truthy v)) := by intro _; rfl) : PXT X g W e (dTr t) :=
  ⟨fun pins s σ H M ds QD ED I R t he' => isTrue_plain (thn (h.run pins s σ H M ds _ ED I R t he') fun vv s1 ⟨z, ds1, M1, v, H1, I1, r1, R1, N1, z1, q1⟩ => thn (tru_d I1 R1 z1 r1 q1) fun _ _ h => h.nxt N1) (he _)⟩
theorem PXW.pxt {e : Expr} {t : TBo} (h : PXW X g W e t) : PXT X g W e t := ⟨h.run _⟩
def dAndT (t u : TBo) : TBo := fun ds Q E => t ds (fun c ds1 => (c = true → u ds1 Q E) ∧ (c = false → Q false ds1)) E
def dOrT (t u : TBo) : TBo := fun ds Q E => t ds (fun c ds1 => (c = true → Q true ds1) ∧ (c = false → u ds1 Q E)) E
def dNotT (t : TBo) : TBo := fun ds Q E => t ds (fun c ds1 => Q (!c) ds1) E
variable {tA tB' : TBo}
theorem pxw_and1 (ha : PXT X g W a tA) : PXW X g W (.BoolOp .And [a] pos) tA :=
  ⟨fun wh pins s σ H M ds QD ED I R t he => isTrue_and (thn (ha.run pins s σ H M ds QD ED I R t he) fun c s1 e => by
    cases c with
    | true => exact isTrue_and_nil e
    | false => exact e)⟩
theorem pxw_or1 (ha : PXT X g W a tA) : PXW X g W (.BoolOp .Or [a] pos) tA :=
  ⟨fun wh pins s σ H M ds QD ED I R t he => isTrue_or (thn (ha.run pins s σ H M ds QD ED I R t he) fun c s1 e => by
    cases c with
    | false => exact isTrue_or_nil e
    | true => exact e)⟩
theorem pxw_and (ha : PXT X g W a tA) (hb : PXW X g W (.BoolOp .And (b :: rest) pos) tB') : PXW X g W (.BoolOp .And (a :: b :: rest) pos) (dAndT tA tB') :=
  ⟨fun wh pins s σ H M ds QD ED I R t he => isTrue_and (thn (ha.run pins s σ H M ds _ ED I R t he) fun c s1 ⟨ds1, M1, H1, I1, R1, N1, q1⟩ => by
    cases c with
    | true => exact thn (hb.run wh pins s1 σ H1 M1 ds1 QD ED I1 R1 (q1.1 rfl) (he.nxt N1)) fun _ _ h => h.nxt N1
    | false => exact ⟨ds1, M1, H1, I1, R1, N1, q1.2 rfl⟩)⟩
theorem pxw_or (ha : PXT X g W a tA) (hb : PXW X g W (.BoolOp .Or (b :: rest) pos) tB') : PXW X g W (.BoolOp .Or (a :: b :: rest) pos) (dOrT tA tB') :=
  ⟨fun wh pins s σ H M ds QD ED I R t he => isTrue_or (thn (ha.run pins s σ H M ds _ ED I R t he) fun c s1 ⟨ds1, M1, H1, I1, R1, N1, q1⟩ => by
    cases c with
    | true => exact ⟨ds1, M1, H1, I1, R1, N1, q1.1 rfl⟩
    | false => exact thn (hb.run wh pins s1 σ H1 M1 ds1 QD ED I1 R1 (q1.2 rfl) (he.nxt N1)) fun _ _ h => h.nxt N1)⟩
theorem pxt_not (ha : PXT X g W a tA) : PXT X g W (.UnaryOp .Not a pos) (dNotT tA) :=
  ⟨fun pins s σ H M ds QD ED I R t he => isTrue_not (thn (ha.run pins s σ H M ds _ ED I R t he) fun c s1 h => h)⟩
variable {ta tb : TD}
def kBl (P : Bool → Prop) : Z → Prop
  | .d (.bl c) => P c
  | _ => False
def dAndV (ta tb : TD) : TD := fun ds Q E => ta ds (fun z ds1 => kBl (fun c => (c = true → tb ds1 Q E) ∧ (c = false → Q (.d (.bl false)) ds1)) z) E
def dOrV (ta tb : TD) : TD := fun ds Q E => ta ds (fun z ds1 => kBl (fun c => (c = true → Q (.d (.bl true)) ds1) ∧ (c = false → tb ds1 Q E)) z) E
def dNotV (t : TBo) : TD := fun ds Q E => t ds (fun c ds1 => Q (.d (.bl (!c))) ds1) E
theorem px_one {op} (h : PX X g W a ta) : PX X g W (.BoolOp op [a] pos) ta := ⟨fun pins s σ H M ds QD ED I R t he => BoolOp_one (h.run pins s σ H M ds QD ED I R t he)⟩
theorem blD {K : PySem.W.Frag} {own : Addr → Prop} {M : List Addr} {H : Hp} {x : Z} {v : V} {vv : Value} {P : Bool → Prop} (rx : RepZ K own M H x v) (vx : L2.RelV v vv) (h : kBl P x) : ∃ c, x = .d (.bl c) ∧ vv = .bool c ∧ P c := by
  unfold kBl at h
  split at h
  · rename_i c
    have e : v = .bl c := rx
    subst e
    exact ⟨c, rfl, vx, h⟩
  · exact h.elim
theorem px_and (ha : PX X g W a ta) (hb : PX X g W (.BoolOp .And (b :: rest) pos) tb) : PX X g W (.BoolOp .And (a :: b :: rest) pos) (dAndV ta tb) :=
  ⟨fun pins s σ H M ds QD ED I R t he => BoolOp_and (thn (ha.run pins s σ H M ds _ ED I R t he) fun vv s1 ⟨z, ds1, M1, v, H1, I1, r1, R1, N1, z1, q1⟩ => by
    obtain ⟨c, rfl, rfl, q1⟩ := blD (P := fun c => (c = true → tb ds1 QD ED) ∧ (c = false → QD (.d (.bl false)) ds1)) z1 r1 q1
    refine wpAny_truthy_bool ?_
    cases c with
    | true => exact thn (hb.run pins s1 σ H1 M1 ds1 QD ED I1 R1 (q1.1 rfl) (he.nxt N1)) fun _ _ h => h.nxt N1
    | false => exact ⟨.d (.bl false), ds1, M1, .bl false, H1, I1, rfl, R1, N1, rfl, q1.2 rfl⟩)⟩
theorem px_or (ha : PX X g W a ta) (hb : PX X g W (.BoolOp .Or (b :: rest) pos) tb) : PX X g W (.BoolOp .Or (a :: b :: rest) pos) (dOrV ta tb) :=
  ⟨fun pins s σ H M ds QD ED I R t he => BoolOp_or (thn (ha.run pins s σ H M ds _ ED I R t he) fun vv s1 ⟨z, ds1, M1, v, H1, I1, r1, R1, N1, z1, q1⟩ => by
    obtain ⟨c, rfl, rfl, q1⟩ := blD (P := fun c => (c = true → QD (.d (.bl true)) ds1) ∧ (c = false → tb ds1 QD ED)) z1 r1 q1
    refine wpAny_truthy_bool ?_
    cases c with
    | true => exact ⟨.d (.bl true), ds1, M1, .bl true, H1, I1, rfl, R1, N1, rfl, q1.1 rfl⟩
    | false => exact thn (hb.run pins s1 σ H1 M1 ds1 QD ED I1 R1 (q1.2 rfl) (he.nxt N1)) fun _ _ h => h.nxt N1)⟩
theorem px_not (ha : PX X g W a ta) : PX X g W (.UnaryOp .Not a pos) (dNotV (dTr ta)) :=
  ⟨fun pins s σ H M ds QD ED I R t he => UnaryOp_ (thn (ha.run pins s σ H M ds _ ED I R t he) fun vv s1 ⟨z, ds1, M1, v, H1, I1, r1, R1, N1, z1, q1⟩ =>
    not_of (thn (tru_d I1 R1 z1 r1 q1) fun c s2 ⟨ds2, M2, H2, I2, R2, N2, q2⟩ => ⟨.d (.bl (!c)), ds2, M2, .bl (!c), H2, I2, rfl, R2, N1.trans N2, rfl, q2⟩))⟩
def dIf (t : TBo) (ta tb : TD) : TD := fun ds Q E => t ds (fun c ds1 => (c = true → ta ds1 Q E) ∧ (c = false → tb ds1 Q E)) E
theorem px_ifExp (hc : PXT X g W c tA) (ha : PX X g W a ta) (hb : PX X g W b tb) : PX X g W (.IfExp c a b pos) (dIf tA ta tb) :=
  ⟨fun pins s σ H M ds QD ED I R t he => wpAny_IfExp (thn (hc.run pins s σ H M ds _ ED I R t he) fun d s1 ⟨ds1, M1, H1, I1, R1, N1, q1⟩ => by
    cases d with
    | true => exact thn (ha.run pins s1 σ H1 M1 ds1 QD ED I1 R1 (q1.1 rfl) (he.nxt N1)) fun _ _ h => h.nxt N1
    | false => exact thn (hb.run pins s1 σ H1 M1 ds1 QD ED I1 R1 (q1.2 rfl) (he.nxt N1)) fun _ _ h => h.nxt N1)⟩
variable {rd rd' : Z → Z → DS → QZ → Prop} {tc : TD}
def dChain (rd rd' : Z → Z → DS → QZ → Prop) (ta tb tc : TD) : TD := fun ds Q E => ta ds (fun x ds1 => tb ds1 (fun y ds2 => rd x y ds2 fun z ds3 => kBl (fun k => (k = true → tc ds3 (fun w ds4 => rd' y w ds4 Q) E) ∧ (k = false → Q (.d (.bl false)) ds3)) z) E) E
theorem px_chain {op op' : CmpOp} (ho : OpD X g (compareOp op) rd) (ho' : OpD X g (compareOp op') rd') (ha : PX X g W a ta) (hb : PX X g W b tb) (hc : PX X g W c tc)
    (hm : lastMarks [op, op'] [b, c] = false := by with_unfolding_all rfl) : PX X g W (.Compare a [op, op'] [b, c] pos) (dChain rd rd' ta tb tc) := by
  refine ⟨fun pins s σ H M ds QD ED I R t he => ?_⟩
  refine Compare_chain (thn (ha.run pins s σ H M ds _ ED I R t he) fun vv s1 ⟨x, ds1, M1, v, H1, I1, r1, R1, N1, z1, q1⟩ => chain_link (thn (hb.run pins s1 σ H1 M1 ds1 _ ED I1 R1 q1 (he.nxt N1)) fun uu s2 ⟨y, ds2, M2, u, H2, I2, r2, R2, N2, z2, q2⟩ =>
    thn (ho pins s2 σ H2 M2 ds2 x y v u vv uu _ I2 R2 (z1.mv N2.mv N2.pre) r1 z2 r2 q2) fun d s3 ⟨z, ds3, M3, w, H3, I3, r3, R3, N3, z3, q3⟩ => ?_)) hm
  obtain ⟨k, rfl, rfl, q3⟩ := blD (P := fun k => (k = true → tc ds3 (fun w ds4 => rd' y w ds4 QD) ED) ∧ (k = false → QD (.d (.bl false)) ds3)) z3 r3 q3
  refine wpAny_truthy_bool ?_
  have N := (N1.trans N2).trans N3
  cases k with
  | false => exact ite_ff ⟨.d (.bl false), ds3, M3, .bl false, H3, I3, rfl, R3, N, rfl, q3.2 rfl⟩
  | true => exact ite_tt (chain_last (thn (hc.run pins s3 σ H3 M3 ds3 _ ED I3 R3 (q3.1 rfl) (he.nxt N)) fun w' s4 ⟨z', ds4, M4, w, H4, I4, r4, R4, N4, z4, q4⟩ =>
      thn (ho' pins s4 σ H4 M4 ds4 y z' u w uu w' QD I4 R4 ((z2.mv N3.mv N3.pre).mv N4.mv N4.pre) r2 z4 r4 q4) fun _ _ h => h.nxt (N.trans N4)))
theorem pxt_chain {op op' : CmpOp} (ho : OpD X g (compareOp op) rd) (ho' : OpD X g (compareOp op') rd') (ha : PX X g W a ta) (hb : PX X g W b tb) (hc : PX X g W c tc)
    (hm : lastMarks [op, op'] [b, c] = false := by with_unfolding_all rfl) : PXT X g W (.Compare a [op, op'] [b, c] pos) (dT (dChain rd rd' ta tb tc)) := by
  refine ⟨fun pins s σ H M ds QD ED I R t he => ?_⟩
  refine isTrue_chain (thn (ha.run pins s σ H M ds _ ED I R t he) fun vv s1 ⟨x, ds1, M1, v, H1, I1, r1, R1, N1, z1, q1⟩ => test_link (thn (hb.run pins s1 σ H1 M1 ds1 _ ED I1 R1 q1 (he.nxt N1)) fun uu s2 ⟨y, ds2, M2, u, H2, I2, r2, R2, N2, z2, q2⟩ =>
    thn (ho pins s2 σ H2 M2 ds2 x y v u vv uu _ I2 R2 (z1.mv N2.mv N2.pre) r1 z2 r2 q2) fun d s3 ⟨z, ds3, M3, w, H3, I3, r3, R3, N3, z3, q3⟩ => ?_)) hm
  obtain ⟨k, rfl, rfl, q3⟩ := blD (P := fun k => (k = true → tc ds3 (fun w ds4 => rd' y w ds4 (bB QD)) ED) ∧ (k = false → (bB QD) (.d (.bl false)) ds3)) z3 r3 q3
  refine wpAny_truthy_bool ?_
  have N := (N1.trans N2).trans N3
  cases k with
  | false => exact ite_ff ⟨ds3, M3, H3, I3, R3, N, q3.2 rfl⟩
  | true => exact ite_tt (test_last (thn (hc.run pins s3 σ H3 M3 ds3 _ ED I3 R3 (q3.1 rfl) (he.nxt N)) fun w' s4 ⟨z', ds4, M4, w, H4, I4, r4, R4, N4, z4, q4⟩ =>
      thn (ho' pins s4 σ H4 M4 ds4 y z' u w uu w' _ I4 R4 ((z2.mv N3.mv N3.pre).mv N4.mv N4.pre) r2 z4 r4 q4) fun d5 s5 h => by
        obtain ⟨k2, rfl, h2⟩ := bB_of h
        exact wpAny_truthy_bool (TPD.nxt (N.trans N4) h2)))
variable {e : Expr} {es : List Expr}
def dNil : TLi := fun ds Q _ => Q [] ds
def dCons (t : TD) (u : TLi) : TLi := fun ds Q E => t ds (fun x ds1 => u ds1 (fun xs ds2 => Q (x :: xs) ds2) E) E
theorem pxa_nil : PXA X g W [] dNil := ⟨fun pos pins s σ H M ds QD ED I R t _ => Calls.spliced_nil ⟨[], ds, M, [], H, I, .nil, R, .refl, rfl, t⟩⟩
theorem pxa_cons {t : TD} {u : TLi} (ha : PX X g W e t) (hr : PXA X g W es u) (hs : starEach (e :: es) X.env = (false, eval e X.env) :: starEach es X.env := by rfl) : PXA X g W (e :: es) (dCons t u) := by
  refine ⟨fun pos pins s σ H M ds QD ED I R t he => ?_⟩
  rw [hs]
  show wpAny _ _ (spliced ((false, eval e X.env) :: backTo pos (starEach es X.env))) _ _ s
  refine Calls.spliced_cons (thn (ha.run pins s σ H M ds _ ED I R t he) fun vv s1 ⟨x, ds1, M1, v, H1, I1, r1, R1, N1, z1, q1⟩ => ?_)
  exact thn (hr.run pos pins s1 σ H1 M1 ds1 _ ED I1 R1 q1 (he.nxt N1)) fun us s2 ⟨xs, ds2, M2, vs, H2, I2, r2, R2, N2, z2, q2⟩ => ⟨x :: xs, ds2, M2, v :: vs, H2, I2, .cons r1 r2, R2, N1.trans N2, ⟨v, vs, rfl, z1.mv N2.mv N2.pre, z2⟩, q2⟩
def unD : List Z → Option (List D)
  | [] => some []
  | .d x :: l => match unD l with
    | some r => some (x :: r)
    | none => none
  | .m _ :: _ => none
theorem unD_of : ∀ {l : List Z} {r : List D}, unD l = some r → l = r.map Z.d
  | [], r, h => by cases h; rfl
  | .d x :: l, r, h => by
    unfold unD at h
    split at h
    · rename_i r' e
      cases h
      rw [unD_of e]; rfl
    · cases h
  | .m n :: l, r, h => by cases h
def kTup (Q : QZ) : List Z → DS → Prop := fun zs ds => match unD zs with
  | some l => l.length ≤ sizeLine ∧ Q (.d (.tup l)) ds
  | none => False
def kLst (Q : QZ) : List Z → DS → Prop := fun zs ds => match unD zs with
  | some l => l.length ≤ sizeLine ∧ Q (.d (.lst l)) ds
  | none => False
def kLstM (Q : QZ) : List Z → DS → Prop := fun zs ds => match unD zs with
  | some l => l.length ≤ sizeLine ∧ Q (.m ds.w.length) (ds.more (.lst l))
  | none => False
def dTup (t : TLi) : TD := fun ds Q E => t ds (kTup Q) E
def dLst (t : TLi) : TD := fun ds Q E => t ds (kLst Q) E
def dLstM (t : TLi) : TD := fun ds Q E => t ds (kLstM Q) E
theorem px_tup {x1} {t : TLi} (h : PXA X g W es t) : PX X g W (.Tuple es x1 pos) (dTup t) := by
  refine ⟨fun pins s σ H M ds QD ED I R t he => ?_⟩
  refine wpAny_Tuple_spliced (thn (h.run pos pins s σ H M ds _ ED I R t he) fun us s1 ⟨zs, ds1, M1, xs, H1, I1, r, R1, N1, rz, q⟩ => ?_)
  unfold kTup at q
  split at q
  · rename_i l el
    obtain rfl := unD_of el
    have rl := rz.toD
    have hf : H1 s1.heap.objs.size = none := I1.hok.fresh (Nat.le_refl _)
    have hl : us.length ≤ sizeLine := by rw [← r.length, RepL.length rl]; exact q.1
    refine ⟨hl, ?_⟩
    obtain ⟨R2, N2⟩ := R1.upd (o := .tup xs) hf
    refine ⟨.d (.tup l), ds1, M1, .ref s1.heap.objs.size, L2.upd H1 s1.heap.objs.size (.tup xs), I1.laid (t' := s1.toks) (fun b u e => Heap.get?_push_of_some _ e) (Nat.le_refl _) ?_, rfl, R2, N1.trans N2, ⟨_, xs, rfl, RepL.mv N2.mv _ _ rl, .inl ⟨R1.own_none hf, .inl upd_same⟩⟩, q.2⟩
    exact ⟨by rw [r.length]; exact hl, us, r, ⟨_, Heap.get?_push_size _ rfl, rfl, _, rfl⟩⟩
  · exact q.elim
theorem px_lst {t : TLi} (h : PXA X g W es t) : PX X g W (.List es pos) (dLst t) := by
  refine ⟨fun pins s σ H M ds QD ED I R t he => ?_⟩
  refine wpAny_List_spliced (thn (h.run pos pins s σ H M ds _ ED I R t he) fun us s1 ⟨zs, ds1, M1, xs, H1, I1, r, R1, N1, rz, q⟩ => ?_)
  unfold kLst at q
  split at q
  · rename_i l el
    obtain rfl := unD_of el
    have rl := rz.toD
    have hf : H1 s1.heap.objs.size = none := I1.hok.fresh (Nat.le_refl _)
    have hl : us.length ≤ sizeLine := by rw [← r.length, RepL.length rl]; exact q.1
    refine ⟨hl, ?_⟩
    obtain ⟨R2, N2⟩ := R1.upd (o := .lst xs) hf
    refine ⟨.d (.lst l), ds1, M1, .ref s1.heap.objs.size, L2.upd H1 s1.heap.objs.size (.lst xs), I1.laid (t' := s1.toks) (fun b u e => Heap.get?_push_of_some _ e) (Nat.le_refl _) ?_, rfl, R2, N1.trans N2, ⟨_, xs, rfl, RepL.mv N2.mv _ _ rl, R1.own_none hf, upd_same⟩, q.2⟩
    exact ⟨by rw [r.length]; exact hl, us, 0, r, Heap.get?_push_size _ rfl⟩
  · exact q.elim
theorem px_lstM {t : TLi} (h : PXA X g W es t) : PX X g W (.List es pos) (dLstM t) := by
  refine ⟨fun pins s σ H M ds QD ED I R t he => ?_⟩
  refine wpAny_List_spliced (thn (h.run pos pins s σ H M ds _ ED I R t he) fun us s1 ⟨zs, ds1, M1, xs, H1, I1, r, R1, N1, rz, q⟩ => ?_)
  unfold kLstM at q
  split at q
  · rename_i l el
    obtain rfl := unD_of el
    have rl := rz.toD
    have hf : H1 s1.heap.objs.size = none := I1.hok.fresh (Nat.le_refl _)
    have hl : us.length ≤ sizeLine := by rw [← r.length, RepL.length rl]; exact q.1
    refine ⟨hl, ?_⟩
    have md := Mid.mlst (X := X) (QD := QD) R1 hf rl q.2
    obtain ⟨z, ds2, M2, R2, N2, z2, q2⟩ := md
    refine ⟨z, ds2, M2, .ref s1.heap.objs.size, L2.upd H1 s1.heap.objs.size (.lst xs), I1.laid (t' := s1.toks) (fun b u e => Heap.get?_push_of_some _ e) (Nat.le_refl _) ?_, rfl, R2, N1.trans N2, z2, q2⟩
    exact ⟨by rw [r.length]; exact hl, us, 0, r, Heap.get?_push_size _ rfl⟩
  · exact q.elim
end
end L3

set_option Elab.async false
set_option linter.all false
set_option maxRecDepth 100000
set_option maxHeartbeats 4000000
namespace L3
open PySem PySem.Spec PyProof.Rows L2
section
variable (X : Cx) (g : G) (W : WX)
def MidL (σ : L2.St) (M : List Addr) (ds : DS) (H : Hp) (QD : List Z → DS → Prop) (vs : List V) (H' : Hp) : Prop :=
  ∃ zs ds' M', RepS X.K g M' ds' σ H' ∧ Nxt g M ds H M' ds' H' ∧ RepZs X.K (g.own M' ds') M' H' zs vs ∧ QD zs ds'
def MidT (σ : L2.St) (M : List Addr) (ds : DS) (H : Hp) (QD : Bool → DS → Prop) (b : Bool) (H' : Hp) : Prop :=
  ∃ ds' M', RepS X.K g M' ds' σ H' ∧ Nxt g M ds H M' ds' H' ∧ QD b ds'
def lift (t : TD) : TE := fun σ H Q => ∃ M ds QD ED, RepS X.K g M ds σ H ∧ t ds QD ED ∧ EW X g W σ M ds H ED ∧ ∀ v H', Mid X g σ M ds H QD v H' → Q v H'
def liftA (t : TLi) : TA := fun σ H Q => ∃ M ds QD ED, RepS X.K g M ds σ H ∧ t ds QD ED ∧ EW X g W σ M ds H ED ∧ ∀ v H', MidL X g σ M ds H QD v H' → Q v H'
def liftT (t : TBo) : TT := fun σ H Q => ∃ M ds QD ED, RepS X.K g M ds σ H ∧ t ds QD ED ∧ EW X g W σ M ds H ED ∧ ∀ b H', MidT X g σ M ds H QD b H' → Q b H'
end
section
variable {X : Cx} {g : G} {W : WX} {pos : Pos} {e : Expr} {es : List Expr}
theorem PX.pe {t : TD} (h : PX X g W e t) : PE X e (lift X g W t) := by
  refine ⟨fun pins s σ H Q I q => ?_⟩
  obtain ⟨M, ds, QD, ED, R, ht, he, hq⟩ := q
  exact thn (h.run pins s σ H M ds QD ED I R ht he) fun u s' ⟨z, ds', M', v, H', I', r, R', N, rz, q⟩ => ⟨v, H', I', r, hq v H' ⟨z, ds', M', R', N, rz, q⟩⟩
theorem PXA.pa {t : TLi} (h : PXA X g W es t) : PA X es (liftA X g W t) := by
  refine ⟨fun pos pins s σ H Q I q => ?_⟩
  obtain ⟨M, ds, QD, ED, R, ht, he, hq⟩ := q
  exact thn (h.run pos pins s σ H M ds QD ED I R ht he) fun u s' ⟨z, ds', M', v, H', I', r, R', N, rz, q⟩ => ⟨v, H', I', r, hq v H' ⟨z, ds', M', R', N, rz, q⟩⟩
theorem PXT.pt {t : TBo} (h : PXT X g W e t) : PT X e (liftT X g W t) := by
  refine ⟨fun pins s σ H Q I q => ?_⟩
  obtain ⟨M, ds, QD, ED, R, ht, he, hq⟩ := q
  exact thn (h.run pins s σ H M ds QD ED I R ht he) fun u s' ⟨ds', M', H', I', R', N, q⟩ => ⟨H', I', hq u H' ⟨ds', M', R', N, q⟩⟩
theorem PX.of {t : TD} {te : TE} (h : PE X e te) (hs : ∀ (σ : L2.St) (H : Hp) (M : List Addr) (ds : DS) (QD : QZ) (ED : QE), RepS X.K g M ds σ H → t ds QD ED → EW X g W σ M ds H ED → te σ H (Mid X g σ M ds H QD)) : PX X g W e t :=
  ⟨fun pins s σ H M ds QD ED I R ht he => thn (h.run pins s σ H _ I (hs σ H M ds QD ED R ht he)) fun _ _ z => .of z⟩
theorem lift_in {t : TD} {σ : L2.St} {H : Hp} {M : List Addr} {ds : DS} {QD : QZ} {ED : QE} {Q : VK} (R : RepS X.K g M ds σ H) (ht : t ds QD ED) (he : EW X g W σ M ds H ED) (hq : ∀ z ds' M' v H', RepS X.K g M' ds' σ H' → Nxt g M ds H M' ds' H' → RepZ X.K (g.own M' ds') M' H' z v → QD z ds' → Q v H') : lift X g W t σ H Q :=
  ⟨M, ds, QD, ED, R, ht, he, fun v H' ⟨z, ds', M', R', N, rz, q⟩ => hq z ds' M' v H' R' N rz q⟩
theorem liftA_in {t : TLi} {σ : L2.St} {H : Hp} {M : List Addr} {ds : DS} {QD : List Z → DS → Prop} {ED : QE} {Q : List V → Hp → Prop} (R : RepS X.K g M ds σ H) (ht : t ds QD ED) (he : EW X g W σ M ds H ED) (hq : ∀ z ds' M' v H', RepS X.K g M' ds' σ H' → Nxt g M ds H M' ds' H' → RepZs X.K (g.own M' ds') M' H' z v → QD z ds' → Q v H') : liftA X g W t σ H Q :=
  ⟨M, ds, QD, ED, R, ht, he, fun v H' ⟨z, ds', M', R', N, rz, q⟩ => hq z ds' M' v H' R' N rz q⟩
theorem Mid.nxt {σ : L2.St} {M M1 : List Addr} {ds ds1 : DS} {H H1 : Hp} {QD : QZ} {v : V} {H' : Hp} (N : Nxt g M ds H M1 ds1 H1) (h : Mid X g σ M1 ds1 H1 QD v H') : Mid X g σ M ds H QD v H' := by
  obtain ⟨z, ds', M', R, N', rz, q⟩ := h
  exact ⟨z, ds', M', R, N.trans N', rz, q⟩
variable {a b : Expr} {ta tb : TD}
/-- the items that a list holds; a list or tuple -/
def itemsL (ds : DS) : Z → Option (List D)
  | .d (.lst l) => some l
  | .d (.lsf l) => some l
  | .m n => match ds.w[n]? with
    | some (some (.lst l)) => some l
    | _ => none
  | _ => none
def itemsOf (ds : DS) : Z → Option (List D)
  | .d (.tup l) => some l
  | z => itemsL ds z
theorem itemsL_rep {σ : L2.St} {H : Hp} {M : List Addr} {ds : DS} {z : Z} {v : V} {l : List D} (R : RepS X.K g M ds σ H) (rz : RepZ X.K (g.own M ds) M H z v) (h : itemsL ds z = some l) : ∃ a xs, v = .ref a ∧ RepL X.K (g.own M ds) H l xs ∧ SqL X.K H a xs := by
  unfold itemsL at h
  split at h
  · cases h; obtain ⟨a, xs, rfl, r, n, q⟩ := rz; exact ⟨a, xs, rfl, r, .of q⟩
  · cases h; obtain ⟨a, xs, rfl, r, q⟩ := rz; exact ⟨a, xs, rfl, r, sqL_of q⟩
  · rename_i n
    obtain ⟨p, hp, rfl⟩ := rz
    split at h
    · rename_i l' e
      cases h
      obtain ⟨xs, r, q⟩ := R.obj _ _ _ e hp
      exact ⟨p, xs, rfl, r, .of q⟩
    · cases h
  · cases h
theorem items_rep {σ : L2.St} {H : Hp} {M : List Addr} {ds : DS} {z : Z} {v : V} {l : List D} (R : RepS X.K g M ds σ H) (rz : RepZ X.K (g.own M ds) M H z v) (h : itemsOf ds z = some l) : ∃ a xs, v = .ref a ∧ RepL X.K (g.own M ds) H l xs ∧ (SqL X.K H a xs ∨ SqT X.K H a xs) := by
  unfold itemsOf at h
  split at h
  · cases h; obtain ⟨a, xs, rfl, r, q⟩ := rz; exact ⟨a, xs, rfl, r, .inr (sqT_of q)⟩
  · obtain ⟨a, xs, h1, h2, h3⟩ := itemsL_rep R rz h
    exact ⟨a, xs, h1, h2, .inl h3⟩
def kInt (P : Int → Prop) : Z → Prop
  | .d (.int i) => P i
  | _ => False
theorem intD {K : PySem.W.Frag} {own : Addr → Prop} {M : List Addr} {H : Hp} {x : Z} {v : V} {P : Int → Prop} (rx : RepZ K own M H x v) (h : kInt P x) : ∃ i, x = .d (.int i) ∧ v = .int i ∧ P i := by
  unfold kInt at h
  split at h
  · exact ⟨_, rfl, rx, h⟩
  · exact h.elim
/-- x[i], i a written number from 0 on -/
def rdIxN (k : Nat) (x : Z) (ds : DS) (Q : QZ) : Prop := match itemsOf ds x with
  | some l => match l[k]? with
    | some y => Q (.d y) ds
    | none => False
  | none => False
def rdIx : Z → Z → DS → QZ → Prop := fun x y ds Q => match y with
  | .d (.int i) => match x with
    | .d (.str s) => ∃ c, s.length ≤ sizeLine ∧ atI s.cps.toList i = some c ∧ Q (.d (.str ⟨#[c]⟩)) ds
    | _ => match itemsOf ds x with
      | some l => ∃ y, atI l i = some y ∧ Q (.d y) ds
      | none => False
  | _ => False
theorem atI_map {K : PySem.W.Frag} {own : Addr → Prop} {H : Hp} {l : List D} {xs : List V} {i : Int} {d : D} (r : RepL K own H l xs) (h : atI l i = some d) : ∃ v, atI xs i = some v ∧ RepD K own H d v := by
  unfold atI at h ⊢
  rw [RepL.length r]
  cases e : ixN l.length i with
  | none => rw [e] at h; cases h
  | some j =>
    rw [e] at h
    exact r.get h
theorem px_ix (ha : PX X g W a ta) (hb : PX X g W b tb) (hs : PlainIx b := by intro _ _; rfl) : PX X g W (.Subscript a b pos) (dOp rdIx ta tb) := by
  refine .of (pe_ix ix_seq ha.pe hb.pe hs) fun σ H M ds QD ED R ht he => ?_
  refine lift_in R ht he fun x ds1 M1 v H1 R1 N1 rx q1 => lift_in R1 q1 (he.nxt N1) fun y ds2 M2 u H2 R2 N2 ry q2 => ?_
  have rx := rx.mv N2.mv N2.pre
  have N := N1.trans N2
  unfold rdIx at q2
  split at q2
  · cases ry
    split at q2
    · obtain ⟨c, h1, h2, q⟩ := q2
      cases rx
      exact .inr (.inr ⟨_, _, c, rfl, rfl, h1, h2, (Mid.same R2 (z := .d (.str _)) rfl q).nxt N⟩)
    · split at q2
      · rename_i l e
        obtain ⟨y, h1, q⟩ := q2
        obtain ⟨p, xs, rfl, r, hq⟩ := items_rep R2 rx e
        obtain ⟨w, h2, rw'⟩ := atI_map r h1
        have m : Mid X g σ M ds H QD w H2 := (Mid.same R2 (z := .d y) rw' q).nxt N
        rcases hq with hq | hq
        · exact .inl ⟨p, xs, _, w, rfl, rfl, hq, h2, m⟩
        · exact .inr (.inl ⟨p, xs, _, w, rfl, rfl, hq, h2, m⟩)
      · exact q2.elim
  · exact q2.elim
def dIxN (k : Nat) (ta : TD) : TD := fun ds Q E => ta ds (fun x ds1 => rdIxN k x ds1 Q) E
theorem px_ixN {k : Nat} {j : Nat} {p2 : Pos} (ha : PX X g W a ta) : PX X g W (.Subscript a (.Constant (.int (k : Nat)) j p2) pos) (dIxN k ta) := by
  refine .of (pe_ix ix_seq ha.pe (pe_int (i := (k : Nat))) (by intro _ _; rfl)) fun σ H M ds QD ED R ht he => ?_
  refine lift_in R ht he fun x ds1 M1 v H1 R1 N1 rx q1 => ?_
  show rIx _ _ _ _ _
  unfold rdIxN at q1
  split at q1
  · rename_i l e
    split at q1
    · rename_i y hy
      obtain ⟨p, xs, rfl, r, hq⟩ := items_rep R1 rx e
      obtain ⟨w, h2, rw'⟩ := r.get hy
      have m : Mid X g σ M ds H QD w H1 := (Mid.same R1 (z := .d y) rw' q1).nxt N1
      rcases hq with hq | hq
      · exact .inl ⟨p, xs, _, w, rfl, rfl, hq, atI_nat h2, m⟩
      · exact .inr (.inl ⟨p, xs, _, w, rfl, rfl, hq, atI_nat h2, m⟩)
    · exact q1.elim
  · exact q1.elim
/-- the items of l[lo:hi] -/
def cutD (l : List D) (lo hi : Option Int) : List D := (l.drop (HT.sIx l.length 0 lo)).take (HT.sIx l.length l.length hi - HT.sIx l.length 0 lo)
theorem RepL.cut {K : PySem.W.Frag} {own : Addr → Prop} {H : Hp} {l : List D} {xs : List V} (r : RepL K own H l xs) (lo hi : Option Int) : RepL K own H (cutD l lo hi) (cutV xs lo hi) := by
  unfold cutD cutV
  rw [RepL.length r]
  exact RepL.take _ (RepL.drop _ r)
def rdSl (lo hi : Option Int) (x : Z) (ds : DS) (Q : QZ) : Prop := match x with
  | .d (.tup l) => ¬ (HT.sIx l.length 0 lo = 0 ∧ HT.sIx l.length l.length hi = l.length) ∧ Q (.d (.tup (cutD l lo hi))) ds
  | _ => match itemsL ds x with
    | some l => Q (.d (.lst (cutD l lo hi))) ds
    | none => False
theorem rdSl_ok {σ : L2.St} {H : Hp} {M : List Addr} {ds : DS} {x : Z} {v : V} {lo hi : Option Int} {QD : QZ} (R : RepS X.K g M ds σ H) (rx : RepZ X.K (g.own M ds) M H x v) (q : rdSl lo hi x ds QD) :
    rSlL X.K v lo hi H (Mid X g σ M ds H QD) ∨ rSlT X.K v lo hi H (Mid X g σ M ds H QD) := by
  unfold rdSl at q
  split at q
  · obtain ⟨p, xs, rfl, r, hq⟩ := rx
    have e := RepL.length r
    exact .inr ⟨p, xs, rfl, sqT_of hq, by rw [e]; exact q.1, fun p hp => .tup R hp (r.cut lo hi) q.2⟩
  · split at q
    · rename_i l e
      obtain ⟨p, xs, rfl, r, hq⟩ := itemsL_rep R rx e
      exact .inl ⟨p, xs, rfl, hq, fun p hp => .lst R hp (r.cut lo hi) q⟩
    · exact q.elim
theorem rSl_nxt {σ : L2.St} {M M1 : List Addr} {ds ds1 : DS} {H H1 : Hp} {QD : QZ} {v : V} {lo hi : Option Int} (N : Nxt g M ds H M1 ds1 H1) (h : rSlL X.K v lo hi H1 (Mid X g σ M1 ds1 H1 QD) ∨ rSlT X.K v lo hi H1 (Mid X g σ M1 ds1 H1 QD)) :
    rSlL X.K v lo hi H1 (Mid X g σ M ds H QD) ∨ rSlT X.K v lo hi H1 (Mid X g σ M ds H QD) := by
  rcases h with ⟨p, xs, h1, h2, h3⟩ | ⟨p, xs, h1, h2, h4, h3⟩
  · exact .inl ⟨p, xs, h1, h2, fun p hp => (h3 p hp).nxt N⟩
  · exact .inr ⟨p, xs, h1, h2, h4, fun p hp => (h3 p hp).nxt N⟩
/-- x[:hi], x[lo:], x[lo:hi] -/
def dSl1 (t : TD) (th : TD) : TD := fun ds Q E => t ds (fun x ds1 => th ds1 (fun z ds2 => kInt (fun i => rdSl none (some i) x ds2 Q) z) E) E
def dSl2 (t : TD) (tl : TD) : TD := fun ds Q E => t ds (fun x ds1 => tl ds1 (fun z ds2 => kInt (fun i => rdSl (some i) none x ds2 Q) z) E) E
def dSl3 (t : TD) (tl th : TD) : TD := fun ds Q E => t ds (fun x ds1 => tl ds1 (fun y ds2 => kInt (fun i => th ds2 (fun z ds3 => kInt (fun j => rdSl (some i) (some j) x ds3 Q) z) E) y) E) E
variable {lo hi : Expr} {tl th : TD} {p2 : Pos}
theorem px_sl1 (ha : PX X g W a ta) (hh : PX X g W hi th) : PX X g W (.Subscript a (.Slice none (some hi) none p2) pos) (dSl1 ta th) := by
  refine .of (pe_slice (sl_list.or sl_tup) ha.pe po_none (po_some hh.pe)) fun σ H M ds QD ED R ht he => ?_
  refine lift_in R ht he fun x ds1 M1 v H1 R1 N1 rx q1 => lift_in R1 q1 (he.nxt N1) fun y ds2 M2 u H2 R2 N2 ry q2 => ?_
  obtain ⟨i, rfl, rfl, q3⟩ := intD ry q2
  exact ⟨i, rfl, rSl_nxt (N1.trans N2) (rdSl_ok R2 (rx.mv N2.mv N2.pre) q3)⟩
theorem px_sl2 (ha : PX X g W a ta) (hl : PX X g W lo tl) : PX X g W (.Subscript a (.Slice (some lo) none none p2) pos) (dSl2 ta tl) := by
  refine .of (pe_slice (sl_list.or sl_tup) ha.pe (po_some hl.pe) po_none) fun σ H M ds QD ED R ht he => ?_
  refine lift_in R ht he fun x ds1 M1 v H1 R1 N1 rx q1 => lift_in R1 q1 (he.nxt N1) fun y ds2 M2 u H2 R2 N2 ry q2 => ?_
  obtain ⟨i, rfl, rfl, q3⟩ := intD ry q2
  exact ⟨i, rfl, rSl_nxt (N1.trans N2) (rdSl_ok R2 (rx.mv N2.mv N2.pre) q3)⟩
theorem px_sl3 (ha : PX X g W a ta) (hl : PX X g W lo tl) (hh : PX X g W hi th) : PX X g W (.Subscript a (.Slice (some lo) (some hi) none p2) pos) (dSl3 ta tl th) := by
  refine .of (pe_slice (sl_list.or sl_tup) ha.pe (po_some hl.pe) (po_some hh.pe)) fun σ H M ds QD ED R ht he => ?_
  refine lift_in R ht he fun x ds1 M1 v H1 R1 N1 rx q1 => lift_in R1 q1 (he.nxt N1) fun y ds2 M2 u H2 R2 N2 ry q2 => ?_
  obtain ⟨i, rfl, rfl, q2⟩ := intD ry q2
  refine ⟨i, rfl, lift_in R2 q2 (he.nxt (N1.trans N2)) fun z ds3 M3 w H3 R3 N3 rz q3 => ?_⟩
  obtain ⟨j, rfl, rfl, q3⟩ := intD rz q3
  exact ⟨j, rfl, rSl_nxt ((N1.trans N2).trans N3) (rdSl_ok R3 ((rx.mv N2.mv N2.pre).mv N3.mv N3.pre) q3)⟩
variable {x : Str} {p : Pos} {T id : String} {r : List V → Hp → VK → Prop} {rd : List Z → DS → QZ → Prop} {t : TLi}
def dCB (rd : List Z → DS → QZ → Prop) (t : TLi) : TD := fun ds Q E => t ds (fun zs ds1 => rd zs ds1 Q) E
/-- a rule of the layer below, over data -/
def LowD (X : Cx) (g : G) (r : List V → Hp → VK → Prop) (rd : List Z → DS → QZ → Prop) : Prop :=
  ∀ (σ : L2.St) (H : Hp) (M : List Addr) (ds : DS) (zs : List Z) (vs : List V) (QD : QZ), RepS X.K g M ds σ H → RepZs X.K (g.own M ds) M H zs vs → rd zs ds QD → r vs H (Mid X g σ M ds H QD)
def MonoR (r : List V → Hp → VK → Prop) : Prop := ∀ vs H (Q Q' : VK), (∀ v H', Q v H' → Q' v H') → r vs H Q → r vs H Q'
theorem px_callB (hc : CallD X g (.builtin id) rd) (hg : Gl X x) (hm : X.mg x = none) (hv : bootBuiltins x = some (.builtin id)) (ha : PXA X g W (e :: es) t) (hn : x ≠ "__name__" := by decide) (hdb : (x == ("__debug__" : Str)) = false := by decide)
    (he : starEach (e :: es) X.env = (false, eval e X.env) :: starEach es X.env := by rfl) (hpl : (backTo pos (starEach es X.env)).any (·.1) = false := by rfl) : PX X g W (.Call (.Name x p) (e :: es) [] pos) (dCB rd t) := by
  refine ⟨fun pins s σ H M ds QD ED I R ht hE => ?_⟩
  refine wpAny_Call_Name_kw (ld_blt I hg hm hv ?_ hn hdb)
  exact PyProof.Rows.callWith_builtin1 (thn (ha.run pos pins s σ H M ds _ ED I R ht hE) fun us s1 ⟨zs, ds1, M1, vs, H1, I1, r1, R1, N1, rz, q1⟩ => thn (hc pins s1 σ H1 M1 ds1 zs vs us QD I1 R1 rz r1 q1) fun _ _ h => h.nxt N1) he hpl
theorem px_callTy (hc : CallD X g (.type T) rd) (hg : Gl X x) (hm : X.mg x = none) (hv : bootBuiltins x = some (.type T)) (ha : PXA X g W (e :: es) t) (hn : x ≠ "__name__" := by decide) (hdb : (x == ("__debug__" : Str)) = false := by decide)
    (he : starEach (e :: es) X.env = (false, eval e X.env) :: starEach es X.env := by rfl) (hpl : (backTo pos (starEach es X.env)).any (·.1) = false := by rfl) : PX X g W (.Call (.Name x p) (e :: es) [] pos) (dCB rd t) := by
  refine ⟨fun pins s σ H M ds QD ED I R ht hE => ?_⟩
  refine wpAny_Call_Name_kw (ld_blt I hg hm hv ?_ hn hdb)
  exact PyProof.Rows.callWith_type1 (thn (ha.run pos pins s σ H M ds _ ED I R ht hE) fun us s1 ⟨zs, ds1, M1, vs, H1, I1, r1, R1, N1, rz, q1⟩ => thn (hc pins s1 σ H1 M1 ds1 zs vs us QD I1 R1 rz r1 q1) fun _ _ h => h.nxt N1) he hpl
end
section
variable {X : Cx} {g : G}
theorem zs1 {K : PySem.W.Frag} {own : Addr → Prop} {M : List Addr} {H : Hp} {z : Z} {vs : List V} (h : RepZs K own M H [z] vs) : ∃ v, vs = [v] ∧ RepZ K own M H z v := by
  obtain ⟨v, r, rfl, h1, h2⟩ := h
  cases h2
  exact ⟨v, rfl, h1⟩
theorem zs2 {K : PySem.W.Frag} {own : Addr → Prop} {M : List Addr} {H : Hp} {z y : Z} {vs : List V} (h : RepZs K own M H [z, y] vs) : ∃ v u, vs = [v, u] ∧ RepZ K own M H z v ∧ RepZ K own M H y u := by
  obtain ⟨v, r, rfl, h1, h2⟩ := h
  obtain ⟨u, rfl, h3⟩ := zs1 h2
  exact ⟨v, u, rfl, h1, h3⟩
def rdLen : List Z → DS → QZ → Prop := fun zs ds Q => match zs with
  | [.d (.str s)] => s.length ≤ sizeLine ∧ Q (.d (.int s.length)) ds
  | [z] => match itemsOf ds z with
    | some l => Q (.d (.int l.length)) ds
    | none => False
  | _ => False
theorem cd_len : CallD X g (.builtin "len") rdLen := by
  intro pins s σ H M ds zs vs us QD I R rz rv h
  unfold rdLen at h
  split at h
  · obtain ⟨v, rfl, r1⟩ := zs1 rz
    cases r1
    exact thn (call_len_str pins s σ H _ us _ I rv ⟨_, rfl, h.1, .same R (z := .d (.int _)) rfl h.2⟩) fun _ _ z => .of z
  · obtain ⟨v, rfl, r1⟩ := zs1 rz
    split at h
    · rename_i l e
      obtain ⟨p, xs, rfl, r, hq⟩ := items_rep R r1 e
      exact thn (call_len_seq pins s σ H _ us _ I rv ⟨p, xs, rfl, hq, .same R (z := .d (.int _)) (by show V.int _ = V.int _; rw [RepL.length r]) h⟩) fun _ _ z => .of z
    · exact h.elim
  · exact h.elim
def rdAbs : List Z → DS → QZ → Prop := fun zs ds Q => match zs with
  | [.d (.int i)] => Q (.d (.int (if i < 0 then -i else i))) ds
  | _ => False
theorem cd_abs : CallD X g (.builtin "abs") rdAbs := .of call_abs fun σ H M ds zs vs QD R rz h => by
  unfold rdAbs at h
  split at h
  · obtain ⟨v, rfl, r1⟩ := zs1 rz
    cases r1
    exact ⟨_, rfl, .same R (z := .d (.int _)) rfl h⟩
  · exact h.elim
def rdMax2 : List Z → DS → QZ → Prop := fun zs ds Q => match zs with
  | [.d (.int i), .d (.int j)] => Q (.d (.int (max i j))) ds
  | _ => False
theorem max_if (i j : Int) : (if j > i then j else i) = max i j := by
  rw [Int.max_def]; split <;> split <;> omega
theorem min_if (i j : Int) : (if j < i then j else i) = min i j := by
  rw [Int.min_def]; split <;> split <;> omega
theorem cd_max2 (hc : X.calm = true) : CallD X g (.builtin "max") rdMax2 := .of (call_max2 hc) fun σ H M ds zs vs QD R rz h => by
  unfold rdMax2 at h
  split at h
  · obtain ⟨v, u, rfl, r1, r2⟩ := zs2 rz
    cases r1; cases r2
    exact ⟨_, _, rfl, by rw [max_if]; exact .same R (z := .d (.int _)) rfl h⟩
  · exact h.elim
def rdMin2 : List Z → DS → QZ → Prop := fun zs ds Q => match zs with
  | [.d (.int i), .d (.int j)] => Q (.d (.int (min i j))) ds
  | _ => False
theorem cd_min2 (hc : X.calm = true) : CallD X g (.builtin "min") rdMin2 := .of (call_min2 hc) fun σ H M ds zs vs QD R rz h => by
  unfold rdMin2 at h
  split at h
  · obtain ⟨v, u, rfl, r1, r2⟩ := zs2 rz
    cases r1; cases r2
    exact ⟨_, _, rfl, by rw [min_if]; exact .same R (z := .d (.int _)) rfl h⟩
  · exact h.elim
def rdInt1 : List Z → DS → QZ → Prop := fun zs ds Q => match zs with
  | [.d (.int i)] => Q (.d (.int i)) ds
  | [.d (.bl b)] => Q (.d (.int (if b then 1 else 0))) ds
  | _ => False
theorem cd_int1 : CallD X g (.type "int") rdInt1 := .of call_int1 fun σ H M ds zs vs QD R rz h => by
  unfold rdInt1 at h
  split at h
  · obtain ⟨v, rfl, r1⟩ := zs1 rz
    cases r1
    exact .inl ⟨_, rfl, .same R (z := .d (.int _)) rfl h⟩
  · obtain ⟨v, rfl, r1⟩ := zs1 rz
    cases r1
    exact .inr ⟨_, rfl, .same R (z := .d (.int _)) rfl h⟩
  · exact h.elim
/-- list(xs), a list that is read or one that will be written -/
def rdList : List Z → DS → QZ → Prop := fun zs ds Q => match zs with
  | [z] => match itemsOf ds z with
    | some l => Q (.d (.lst l)) ds
    | none => False
  | _ => False
def rdListM : List Z → DS → QZ → Prop := fun zs ds Q => match zs with
  | [z] => match itemsOf ds z with
    | some l => Q (.m ds.w.length) (ds.more (.lst l))
    | none => False
  | _ => False
theorem cd_list : CallD X g (.type "list") rdList := .of call_list_of fun σ H M ds zs vs QD R rz h => by
  unfold rdList at h
  split at h
  · obtain ⟨v, rfl, r1⟩ := zs1 rz
    split at h
    · rename_i l e
      obtain ⟨p, xs, rfl, r, hq⟩ := items_rep R r1 e
      exact ⟨p, xs, rfl, hq, fun l hl => .lst R hl r h⟩
    · exact h.elim
  · exact h.elim
theorem cd_listM : CallD X g (.type "list") rdListM := .of call_list_of fun σ H M ds zs vs QD R rz h => by
  unfold rdListM at h
  split at h
  · obtain ⟨v, rfl, r1⟩ := zs1 rz
    split at h
    · rename_i l e
      obtain ⟨p, xs, rfl, r, hq⟩ := items_rep R r1 e
      exact ⟨p, xs, rfl, hq, fun l hl => .mlst R hl r h⟩
    · exact h.elim
  · exact h.elim
/-- tuple(xs) of a list -/
def rdTuple : List Z → DS → QZ → Prop := fun zs ds Q => match zs with
  | [.d (.tup l)] => Q (.d (.tup l)) ds
  | [z] => match itemsL ds z with
    | some l => Q (.d (.tup l)) ds
    | none => False
  | _ => False
theorem cd_tuple : CallD X g (.type "tuple") rdTuple := .of call_tuple_of fun σ H M ds zs vs QD R rz h => by
  unfold rdTuple at h
  split at h
  · obtain ⟨v, rfl, r1⟩ := zs1 rz
    obtain ⟨p, xs, rfl, r, hq⟩ := r1
    exact ⟨p, xs, rfl, .inr ⟨sqT_of hq, .same R (z := .d (.tup _)) ⟨p, xs, rfl, r, hq⟩ h⟩⟩
  · obtain ⟨v, rfl, r1⟩ := zs1 rz
    split at h
    · rename_i l e
      obtain ⟨p, xs, rfl, r, hq⟩ := itemsL_rep R r1 e
      exact ⟨p, xs, rfl, .inl ⟨hq, fun l hl => .tup R hl r h⟩⟩
    · exact h.elim
  · exact h.elim
/-- the ints of a list -/
def intsD : List D → Option (List Int)
  | [] => some []
  | .int i :: l => match intsD l with
    | some r => some (i :: r)
    | none => none
  | _ :: _ => none
theorem intsD_of : ∀ {l : List D} {r : List Int}, intsD l = some r → l = r.map D.int
  | [], r, h => by cases h; rfl
  | .int x :: l, r, h => by
    unfold intsD at h
    split at h
    · rename_i r' e
      cases h
      rw [intsD_of e]; rfl
    · cases h
  | .non :: l, r, h => by cases h
  | .bl _ :: l, r, h => by cases h
  | .str _ :: l, r, h => by cases h
  | .ref _ :: l, r, h => by cases h
  | .ty _ :: l, r, h => by cases h
  | .tup _ :: l, r, h => by cases h
  | .lst _ :: l, r, h => by cases h
  | .lsf _ :: l, r, h => by cases h
  | .dic _ _ :: l, r, h => by cases h
  | .ins _ _ _ :: l, r, h => by cases h
  | .exn _ _ _ _ _ :: l, r, h => by cases h
  | .exo _ _ _ _ _ :: l, r, h => by cases h
  | .cod _ _ :: l, r, h => by cases h
theorem intsD_map : ∀ r : List Int, intsD (r.map D.int) = some r
  | [] => rfl
  | i :: r => by
    show (match intsD (r.map D.int) with | some r => some (i :: r) | none => none) = _
    rw [intsD_map r]
/-- sum(xs), max(xs), min(xs) of a list of ints -/
def rdSum : List Z → DS → QZ → Prop := fun zs ds Q => match zs with
  | [z] => match itemsL ds z with
    | some l => ∃ ns : List Int, l = ns.map D.int ∧ Q (.d (.int ns.sum)) ds
    | none => False
  | _ => False
theorem cd_sum (hc : X.calm = true) : CallD X g (.builtin "sum") rdSum := .of (cr_sum hc) fun σ H M ds zs vs QD R rz h => by
  unfold rdSum at h
  split at h
  · obtain ⟨v, rfl, r1⟩ := zs1 rz
    split at h
    · rename_i l e
      obtain ⟨p, xs, rfl, r, hq⟩ := itemsL_rep R r1 e
      obtain ⟨ns, rfl, q⟩ := h
      obtain rfl := r.ints
      exact ⟨p, ns, rfl, hq, .same R (z := .d (.int _)) rfl q⟩
    · exact h.elim
  · exact h.elim
def rdMaxL : List Z → DS → QZ → Prop := fun zs ds Q => match zs with
  | [z] => match itemsL ds z with
    | some l => ∃ ns : List Int, l = ns.map D.int ∧ 0 < ns.length ∧ ∀ m, m ∈ ns → (∀ y ∈ ns, y ≤ m) → Q (.d (.int m)) ds
    | none => False
  | _ => False
def rdMinL : List Z → DS → QZ → Prop := fun zs ds Q => match zs with
  | [z] => match itemsL ds z with
    | some l => ∃ ns : List Int, l = ns.map D.int ∧ 0 < ns.length ∧ ∀ m, m ∈ ns → (∀ y ∈ ns, m ≤ y) → Q (.d (.int m)) ds
    | none => False
  | _ => False
def rdAll : List Z → DS → QZ → Prop := fun zs ds Q => match zs with
  | [z] => match itemsL ds z with
    | some l => ∃ bs : List Bool, l = bs.map D.bl ∧ Q (.d (.bl (bs.all id))) ds
    | none => False
  | _ => False
theorem RepL.bls {K : PySem.W.Frag} {own : Addr → Prop} {H : Hp} : ∀ {l : List Bool} {xs : List V}, RepL K own H (l.map D.bl) xs → xs = l.map V.bl
  | [], xs, h => h
  | i :: l, xs, h => by
    obtain ⟨u, r, rfl, h1, h2⟩ := h
    have e : u = .bl i := h1
    rw [e, RepL.bls h2]; rfl
theorem cd_all (hc : X.calm = true) : CallD X g (.builtin "all") rdAll := .of (cr_all hc) fun σ H M ds zs vs QD R rz h => by
  unfold rdAll at h
  split at h
  · obtain ⟨v, rfl, r1⟩ := zs1 rz
    split at h
    · rename_i l e
      obtain ⟨p, xs, rfl, r, hq⟩ := itemsL_rep R r1 e
      obtain ⟨ns, rfl, q⟩ := h
      obtain rfl := RepL.bls r
      exact ⟨p, ns, rfl, hq, .same R (z := .d (.bl _)) rfl q⟩
    · exact h.elim
  · exact h.elim
def D.isInt : D → Bool
  | .int _ => true
  | .bl _ => true
  | _ => false
def D.isBool : D → Bool
  | .bl _ => true
  | _ => false
def D.isStr : D → Bool
  | .str _ => true
  | _ => false
def D.isList : D → Bool
  | .lst _ => true
  | .lsf _ => true
  | _ => false
def D.isTuple : D → Bool
  | .tup _ => true
  | _ => false
/-- the kind's name -/
def D.tyName : D → String
  | .non => "NoneType"
  | .bl _ => "bool"
  | .int _ => "int"
  | .str _ => "str"
  | .tup _ => "tuple"
  | .lst _ => "list"
  | .lsf _ => "list"
  | .dic _ _ => "dict"
  | _ => ""
def D.plain : D → Bool
  | .ref _ => false
  | .ty _ => false
  | .ins _ _ _ => false
  | .exn _ _ _ _ _ => false
  | .exo _ _ _ _ _ => false
  | .cod _ _ => false
  | _ => true
theorem RepD.tyX {K : PySem.W.Frag} {own : Addr → Prop} {H : Hp} : ∀ {d : D} {v : V}, RepD K own H d v → d.plain = true → TyX K H v (.type d.tyName)
  | .non, v, h, _ => by cases h; exact .base .non
  | .bl b, v, h, _ => by cases h; exact .base (.bl b)
  | .int b, v, h, _ => by cases h; exact .base (.int b)
  | .str b, v, h, _ => by cases h; exact .base (.str b)
  | .tup l, v, h, _ => by
    obtain ⟨a, xs, rfl, r, q⟩ := h
    rcases q with ⟨n, q | ⟨o, q⟩⟩ | ⟨o, its, n, h1, h2, _⟩
    · exact .base (.tup q)
    · exact .fTuple q
    · exact .kTuple h1 h2
  | .lst l, v, h, _ => by
    obtain ⟨a, xs, rfl, r, n, q⟩ := h
    exact .base (.lst q)
  | .lsf l, v, h, _ => by
    obtain ⟨a, xs, rfl, r, q⟩ := h
    rcases q with ⟨n, q | ⟨o, q⟩⟩ | ⟨o, its, n, h1, h2, _⟩
    · exact .base (.lst q)
    · exact .base (.frz q)
    · exact .kList h1 h2
  | .dic ks l, v, h, _ => by
    obtain ⟨a, xs, rfl, r, z, n, q⟩ := h
    exact .base (.dK q)
  | .ref a, v, h, f => by cases f
  | .ty a, v, h, f => by cases f
  | .ins C ns l, v, h, f => by cases f
  | .exn _ _ _ _ _, v, h, f => by cases f
  | .exo _ _ _ _ _, v, h, f => by cases f
  | .cod _ _, v, h, f => by cases f
def rdIsi (f : D → Bool) (T : String) : List Z → DS → QZ → Prop := fun zs ds Q => match zs with
  | [.d x, .d (.ty T')] => T' = T ∧ x.plain = true ∧ Q (.d (.bl (f x))) ds
  | _ => False
theorem cd_isi {f : D → Bool} {T : String} (hf : ∀ d : D, d.plain = true → kitB d.tyName T = some (f d)) : CallD X g (.builtin "isinstance") (rdIsi f T) := .of call_isi fun σ H M ds zs vs QD R rz h => by
  unfold rdIsi at h
  split at h
  · obtain ⟨v, u, rfl, r1, r2⟩ := zs2 rz
    obtain ⟨rfl, pl, q⟩ := h
    cases r2
    exact ⟨v, _, _, _, _, rfl, .ty _, RepD.tyX r1 pl, kit_ty (hf _ pl), .same R (z := .d (.bl _)) rfl q⟩
  · exact h.elim
theorem cd_isiInt : CallD X g (.builtin "isinstance") (rdIsi D.isInt "int") := cd_isi fun d h => by
  cases d with
  | non => exact (by decide +kernel : kitB "NoneType" "int" = some false)
  | bl b => exact (by decide +kernel : kitB "bool" "int" = some true)
  | int b => exact (by decide +kernel : kitB "int" "int" = some true)
  | str b => exact (by decide +kernel : kitB "str" "int" = some false)
  | tup b => exact (by decide +kernel : kitB "tuple" "int" = some false)
  | lst b => exact (by decide +kernel : kitB "list" "int" = some false)
  | lsf b => exact (by decide +kernel : kitB "list" "int" = some false)
  | dic b c => exact (by decide +kernel : kitB "dict" "int" = some false)
  | ref b => cases h
  | ty b => cases h
  | ins a b c => cases h
  | exn a b c d e => cases h
  | exo a b c d e => cases h
  | cod a b => cases h
theorem cd_isiBool : CallD X g (.builtin "isinstance") (rdIsi D.isBool "bool") := cd_isi fun d h => by
  cases d with
  | non => exact (by decide +kernel : kitB "NoneType" "bool" = some false)
  | bl b => exact (by decide +kernel : kitB "bool" "bool" = some true)
  | int b => exact (by decide +kernel : kitB "int" "bool" = some false)
  | str b => exact (by decide +kernel : kitB "str" "bool" = some false)
  | tup b => exact (by decide +kernel : kitB "tuple" "bool" = some false)
  | lst b => exact (by decide +kernel : kitB "list" "bool" = some false)
  | lsf b => exact (by decide +kernel : kitB "list" "bool" = some false)
  | dic b c => exact (by decide +kernel : kitB "dict" "bool" = some false)
  | ref b => cases h
  | ty b => cases h
  | ins a b c => cases h
  | exn a b c d e => cases h
  | exo a b c d e => cases h
  | cod a b => cases h
theorem cd_isiStr : CallD X g (.builtin "isinstance") (rdIsi D.isStr "str") := cd_isi fun d h => by
  cases d with
  | non => exact (by decide +kernel : kitB "NoneType" "str" = some false)
  | bl b => exact (by decide +kernel : kitB "bool" "str" = some false)
  | int b => exact (by decide +kernel : kitB "int" "str" = some false)
  | str b => exact (by decide +kernel : kitB "str" "str" = some true)
  | tup b => exact (by decide +kernel : kitB "tuple" "str" = some false)
  | lst b => exact (by decide +kernel : kitB "list" "str" = some false)
  | lsf b => exact (by decide +kernel : kitB "list" "str" = some false)
  | dic b c => exact (by decide +kernel : kitB "dict" "str" = some false)
  | ref b => cases h
  | ty b => cases h
  | ins a b c => cases h
  | exn a b c d e => cases h
  | exo a b c d e => cases h
  | cod a b => cases h
theorem cd_isiTuple : CallD X g (.builtin "isinstance") (rdIsi D.isTuple "tuple") := cd_isi fun d h => by
  cases d with
  | non => exact (by decide +kernel : kitB "NoneType" "tuple" = some false)
  | bl b => exact (by decide +kernel : kitB "bool" "tuple" = some false)
  | int b => exact (by decide +kernel : kitB "int" "tuple" = some false)
  | str b => exact (by decide +kernel : kitB "str" "tuple" = some false)
  | tup b => exact (by decide +kernel : kitB "tuple" "tuple" = some true)
  | lst b => exact (by decide +kernel : kitB "list" "tuple" = some false)
  | lsf b => exact (by decide +kernel : kitB "list" "tuple" = some false)
  | dic b c => exact (by decide +kernel : kitB "dict" "tuple" = some false)
  | ref b => cases h
  | ty b => cases h
  | ins a b c => cases h
  | exn a b c d e => cases h
  | exo a b c d e => cases h
  | cod a b => cases h
theorem cd_isiList : CallD X g (.builtin "isinstance") (rdIsi D.isList "list") := cd_isi fun d h => by
  cases d with
  | non => exact (by decide +kernel : kitB "NoneType" "list" = some false)
  | bl b => exact (by decide +kernel : kitB "bool" "list" = some false)
  | int b => exact (by decide +kernel : kitB "int" "list" = some false)
  | str b => exact (by decide +kernel : kitB "str" "list" = some false)
  | tup b => exact (by decide +kernel : kitB "tuple" "list" = some false)
  | lst b => exact (by decide +kernel : kitB "list" "list" = some true)
  | lsf b => exact (by decide +kernel : kitB "list" "list" = some true)
  | dic b c => exact (by decide +kernel : kitB "dict" "list" = some false)
  | ref b => cases h
  | ty b => cases h
  | ins a b c => cases h
  | exn a b c d e => cases h
  | exo a b c d e => cases h
  | cod a b => cases h
end
end L3

set_option Elab.async false
set_option linter.all false
set_option maxRecDepth 100000
set_option maxHeartbeats 4000000
namespace L3
open PySem PySem.Spec PyProof.Rows L2

structure DE where
  nx : DS → Prop
  rt : QZ
  bk : DS → Prop := fun _ => False
  ct : DS → Prop := fun _ => False
  er : QE
abbrev TSd := DE → DS → Prop
section
variable (X : Cx) (g : G) (W : WX)
def ND (pins : List (Addr × Obj)) (M : List Addr) (ds : DS) (H : Hp) (P : DS → Prop) (s' : Shared) : Prop :=
  ∃ ds' M' σ' H', Inv X pins σ' H' s' ∧ RepS X.K g M' ds' σ' H' ∧ Nxt g M ds H M' ds' H' ∧ P ds'
def RD (pins : List (Addr × Obj)) (M : List Addr) (ds : DS) (H : Hp) (P : QZ) (u : Value) (s' : Shared) : Prop :=
  ∃ z ds' M' v σ' H' τ, Inv X pins σ' H' s' ∧ RelV v u ∧ RepS X.K g M' ds' τ H' ∧ Nxt g M ds H M' ds' H' ∧ RepZ X.K (g.own M' ds') M' H' z v ∧ P z ds'
def SPD (pins : List (Addr × Obj)) (M : List Addr) (ds : DS) (H : Hp) (D : DE) (f : Flow) (s' : Shared) : Prop := match f with
  | .next => ND X g pins M ds H D.nx s'
  | .brk => ND X g pins M ds H D.bk s'
  | .cont => ND X g pins M ds H D.ct s'
  | .ret u => RD X g pins M ds H D.rt u s'
def EWS (M : List Addr) (ds : DS) (H : Hp) (ED : QE) : Prop :=
  ∀ x ds' M' σ' H' cls d, ED x ds' → RepS X.K g M' ds' σ' H' → Nxt g M ds H M' ds' H' → RepE X.K (g.own M' ds') H' x cls d → W cls d σ' H'
structure PXS (st : Stmt) (t : TSd) : Prop where
  run : ∀ (pins : List (Addr × Obj)) (s : Shared) (σ : L2.St) (H : Hp) (M : List Addr) (ds : DS) (D : DE), Inv X pins σ H s → RepS X.K g M ds σ H → t D ds → EWS X g W M ds H D.er →
    wpAny (model X.prog X.w) X.A (exec st X.env) (SPD X g pins M ds H D) X.xe s
structure PXB (sts : List Stmt) (t : TSd) : Prop where
  run : ∀ (pins : List (Addr × Obj)) (s : Shared) (σ : L2.St) (H : Hp) (M : List Addr) (ds : DS) (D : DE), Inv X pins σ H s → RepS X.K g M ds σ H → t D ds → EWS X g W M ds H D.er →
    wpAny (model X.prog X.w) X.A (execs sts X.env) (SPD X g pins M ds H D) X.xe s
end
section
variable {X : Cx} {g : G} {W : WX} {pins : List (Addr × Obj)} {σ : L2.St} {M M1 : List Addr} {ds ds1 : DS} {H H1 : Hp} {s : Shared} {De : DE} {ED : QE}
theorem EWS.ew (h : EWS X g W M ds H ED) : EW X g W σ M ds H ED := fun x ds' M' H' cls d e R N r => h x ds' M' σ H' cls d e R N r
theorem EWS.nxt (h : EWS X g W M ds H ED) (N : Nxt g M ds H M1 ds1 H1) : EWS X g W M1 ds1 H1 ED := fun x ds' M' σ' H' cls d e R N' r => h x ds' M' σ' H' cls d e R (N.trans N') r
theorem ND.nxt {P : DS → Prop} {s' : Shared} (N : Nxt g M ds H M1 ds1 H1) (h : ND X g pins M1 ds1 H1 P s') : ND X g pins M ds H P s' := by
  obtain ⟨ds', M', σ', H', I, R, N', q⟩ := h
  exact ⟨ds', M', σ', H', I, R, N.trans N', q⟩
theorem RD.nxt {P : QZ} {u : Value} {s' : Shared} (N : Nxt g M ds H M1 ds1 H1) (h : RD X g pins M1 ds1 H1 P u s') : RD X g pins M ds H P u s' := by
  obtain ⟨z, ds', M', v, σ', H', τ, I, r, R, N', rz, q⟩ := h
  exact ⟨z, ds', M', v, σ', H', τ, I, r, R, N.trans N', rz, q⟩
theorem SPD.nxt {f : Flow} {s' : Shared} (N : Nxt g M ds H M1 ds1 H1) (h : SPD X g pins M1 ds1 H1 De f s') : SPD X g pins M ds H De f s' := by
  cases f with
  | next => exact ND.nxt N h
  | brk => exact ND.nxt N h
  | cont => exact ND.nxt N h
  | ret u => exact RD.nxt N h
variable {st : Stmt} {rest : List Stmt} {t u : TSd} {e : Expr} {te : TD} {pos : Pos}
def dNext : TSd := fun D ds => D.nx ds
def dSeq (t u : TSd) : TSd := fun D ds => t { D with nx := u D } ds
theorem pxb_nil : PXB X g W [] dNext := ⟨fun _ _ σ H M ds _ I R h _ => wpAny_execs_nil ⟨ds, M, σ, H, I, R, .refl, h⟩⟩
theorem pxb_cons (h1 : PXS X g W st t) (h2 : PXB X g W rest u) : PXB X g W (st :: rest) (dSeq t u) := by
  refine ⟨fun pins s σ H M ds D I R h he => ?_⟩
  refine wpAny_execs_cons (thn (h1.run pins s σ H M ds { D with nx := u D } I R h he) fun f s1 q => ?_)
  cases f with
  | next =>
    obtain ⟨ds1, M1, σ1, H1, I1, R1, N1, q⟩ := q
    exact thn (h2.run pins s1 σ1 H1 M1 ds1 D I1 R1 q (he.nxt N1)) fun _ _ h => h.nxt N1
  | ret v => exact q
  | brk => exact q
  | cont => exact q
theorem pxb_one (h1 : PXS X g W st t) : PXB X g W [st] t := by
  refine ⟨fun pins s σ H M ds D I R h he => ?_⟩
  refine wpAny_execs_cons (thn (h1.run pins s σ H M ds D I R h he) fun f s1 q => ?_)
  cases f with
  | next => exact wpAny_execs_nil q
  | ret v => exact q
  | brk => exact q
  | cont => exact q
def dBreak : TSd := fun D ds => D.bk ds
def dCont : TSd := fun D ds => D.ct ds
theorem pxs_pass : PXS X g W (.Pass pos) dNext := ⟨fun _ _ σ H M ds _ I R h _ => wpAny_Pass ⟨ds, M, σ, H, I, R, .refl, h⟩⟩
theorem pxs_break : PXS X g W (.Break pos) dBreak := ⟨fun _ _ σ H M ds _ I R h _ => wpAny_Break ⟨ds, M, σ, H, I, R, .refl, h⟩⟩
theorem pxs_continue : PXS X g W (.Continue pos) dCont := ⟨fun _ _ σ H M ds _ I R h _ => wpAny_Continue ⟨ds, M, σ, H, I, R, .refl, h⟩⟩
def dDrop (te : TD) : TSd := fun D ds => te ds (fun _ ds1 => D.nx ds1) D.er
theorem pxs_expr (he : PX X g W e te) (hs : swapsWith e none pos.line X.env = pure false := by rfl) : PXS X g W (.Expr e pos) (dDrop te) :=
  ⟨fun pins s σ H M ds D I R h hE => wpAny_Expr_any (thn (he.run pins s σ H M ds _ _ I R h hE.ew) fun v s1 ⟨z, ds1, M1, v, H1, I1, r1, R1, N1, z1, q1⟩ => ⟨ds1, M1, σ, H1, I1, R1, N1, q1⟩) I.quiet hs⟩
def dRet (te : TD) : TSd := fun D ds => te ds D.rt D.er
theorem pxs_ret (he : PX X g W e te) : PXS X g W (.Return (some e) pos) (dRet te) :=
  ⟨fun pins s σ H M ds D I R h hE => wpAny_Return_some (thn (he.run pins s σ H M ds _ _ I R h hE.ew) fun v s1 ⟨z, ds1, M1, v, H1, I1, r1, R1, N1, z1, q1⟩ => ⟨z, ds1, M1, v, σ, H1, σ, I1, r1, R1, N1, z1, q1⟩)⟩
def dRetN : TSd := fun D ds => D.rt (.d .non) ds
theorem pxs_retN : PXS X g W (.Return none pos) dRetN := ⟨fun _ _ σ H M ds _ I R h _ => wpAny_Return_none ⟨.d .non, ds, M, .non, σ, H, σ, I, rfl, R, .refl, rfl, h⟩⟩
def dIfS (c : TBo) (t u : TSd) : TSd := fun D ds => c ds (fun b ds1 => (b = true → t D ds1) ∧ (b = false → u D ds1)) D.er
theorem pxs_if {c : Expr} {a b : List Stmt} {tc : TBo} (hc : PXT X g W c tc) (ha : PXB X g W a t) (hb : PXB X g W b u) : PXS X g W (.If c a b pos) (dIfS tc t u) := by
  refine ⟨fun pins s σ H M ds D I R h hE => ?_⟩
  refine wpAny_If (thn (hc.run pins s σ H M ds _ _ I R h hE.ew) fun d s1 ⟨ds1, M1, H1, I1, R1, N1, q1⟩ => ?_)
  cases d with
  | true => exact thn (ha.run pins s1 σ H1 M1 ds1 D I1 R1 (q1.1 rfl) (hE.nxt N1)) fun _ _ h => h.nxt N1
  | false => exact thn (hb.run pins s1 σ H1 M1 ds1 D I1 R1 (q1.2 rfl) (hE.nxt N1)) fun _ _ h => h.nxt N1
abbrev TGd := Z → DS → (DS → Prop) → Prop
abbrev TGsd := List D → DS → (DS → Prop) → Prop
structure PXG (X : Cx) (g : G) (target : Expr) (t : TGd) : Prop where
  run : ∀ (pins : List (Addr × Obj)) (s : Shared) (σ : L2.St) (H : Hp) (M : List Addr) (ds : DS) (z : Z) (v : V) (u : Value) (P : DS → Prop), Inv X pins σ H s → RepS X.K g M ds σ H → RepZ X.K (g.own M ds) M H z v → RelV v u → t z ds P →
    wpAny (model X.prog X.w) X.A (assign target X.env u) (fun _ s' => ND X g pins M ds H P s') X.xe s
structure PXGs (X : Cx) (g : G) (ts : List Expr) (t : TGsd) : Prop where
  run : ∀ (pins : List (Addr × Obj)) (s : Shared) (σ : L2.St) (H : Hp) (M : List Addr) (ds : DS) (l : List D) (vs : List V) (us : List Value) (P : DS → Prop), Inv X pins σ H s → RepS X.K g M ds σ H → RepL X.K (g.own M ds) H l vs → Vals vs us → t l ds P →
    wpAny (model X.prog X.w) X.A (assignInOrder ((assignEach ts X.env).map (·.2)) us) (fun _ s' => ND X g pins M ds H P s') X.xe s
def dgName (i : Nat) : TGd := fun z ds P => P (ds.set i z)
theorem pxg_name {i : Nat} {x : Str} (hN : X.N.Nodup) (hi : X.N[i]? = some x) (hx : Loc X.env.scope x) (hf : X.fn x = true ∨ X.env.scope.names.lookup x = some .local := by first | exact .inl rfl | exact .inr rfl | assumption) : PXG X g (.Name x pos) (dgName i) :=
  ⟨fun pins s σ H M ds z v u P I R rz r h => wpAny_assign_Name (store_ok I hN hi hx r (fun s' I' => ⟨ds.set i z, M, _, H, I', R.set i rz, .set, h⟩) hf)⟩
def dgNil : TGsd := fun l ds P => match l with
  | [] => P ds
  | _ => False
def dgCons (t : TGd) (u : TGsd) : TGsd := fun l ds P => match l with
  | x :: r => t (.d x) ds fun ds1 => u r ds1 P
  | [] => False
theorem pxgs_nil : PXGs X g [] dgNil := by
  refine ⟨fun pins s σ H M ds l vs us P I R rl r h => ?_⟩
  cases l with
  | cons x l => exact h.elim
  | nil =>
    cases rl
    cases r
    exact assignInOrder_nil ⟨ds, M, σ, H, I, R, .refl, h⟩
theorem pxgs_cons {es : List Expr} {t : TGd} {u : TGsd} (h1 : PXG X g e t) (h2 : PXGs X g es u)
    (hs : (assignEach (e :: es) X.env).map (·.2) = assign e X.env :: (assignEach es X.env).map (·.2) := by rfl) : PXGs X g (e :: es) (dgCons t u) := by
  refine ⟨fun pins s σ H M ds l vs us P I R rl r h => ?_⟩
  cases l with
  | nil => exact h.elim
  | cons x l =>
    obtain ⟨v, vr, rfl, rx, rl⟩ := rl
    cases r with
    | cons r rr =>
      rw [hs]
      refine assignInOrder_cons (thn (h1.run pins s σ H M ds (.d x) v _ _ I R rx r h) fun _ s1 ⟨ds1, M1, σ1, H1, I1, R1, N1, q1⟩ => ?_)
      exact thn (h2.run pins s1 σ1 H1 M1 ds1 l vr _ P I1 R1 (RepL.mv N1.mv _ _ rl) rr q1) fun _ _ h => h.nxt N1
def dgTup (n : Nat) (t : TGsd) : TGd := fun z ds P => match z with
  | .d (.tup l) => l.length = n ∧ t l ds P
  | .d (.lst l) => l.length = n ∧ t l ds P
  | _ => False
theorem pxg_tup {es : List Expr} {k : Nat} {t : TGsd} {n : Nat} (hc : X.calm = true) (h : PXGs X g es t)
    (hn : (assignEach es X.env).length = n := by rfl) (hst : (assignEach es X.env).findIdx? (·.1) = none := by rfl) : PXG X g (.Tuple es k pos) (dgTup n t) := by
  refine ⟨fun pins s σ H M ds z v u P I R rz r hw => ?_⟩
  unfold dgTup at hw
  split at hw
  · rename_i l
    obtain ⟨a, xs, rfl, rl, hq⟩ := rz
    obtain ⟨hl, hw⟩ := hw
    cases r
    obtain ⟨its, rv, ht, hz⟩ := I.tuple (sqT_of hq)
    refine assign_Tuple_tuple (I.ok.hd hc) ht (by simp [hn, ← hl, ← rv.length, RepL.length rl]) hst fun h' hx => ?_
    have I1 : L2.Inv X pins σ H { s with heap := h' } := I.kept (t' := s.toks) fun b o e => hx b o (Nat.ne_of_lt (Heap.lt_size e)) e
    exact h.run pins _ σ H M ds l xs _ P I1 R rl (by simpa using rv) hw
  · rename_i l
    obtain ⟨a, xs, rfl, rl, nn, hq⟩ := rz
    obtain ⟨hl, hw⟩ := hw
    cases r
    obtain ⟨its, rv, pl, hz⟩ := I.list (.of hq)
    have hsz : (assignEach es X.env).length = its.toArray.size := by
      have e1 := RepL.length rl
      have e2 := rv.length
      simp; omega
    rw [PyProof.Rows.assign_Tuple]; refine wpAny_bind (wpAny_standAt ?_)
    unfold unpack; rw [hsz, hst]
    refine wpAny_bind (wpAny_holding (PySem.W.kun_itemsOf (I.ok.hd hc) pl.isList fun h2 hx => ?_))
    have I1 : L2.Inv X pins σ H { s with heap := h2 } := I.kept (t' := s.toks) fun b o e => hx b o (Nat.ne_of_lt (Heap.lt_size e)) e
    exact h.run pins _ σ H M ds l xs _ P I1 R rl (by simpa using rv) hw
  · exact hw.elim
def dAsg (te : TD) (gt : TGd) : TSd := fun D ds => te ds (fun z ds1 => gt z ds1 D.nx) D.er
theorem pxs_asg {tg : Expr} {gt : TGd} (he : PX X g W e te) (hg : PXG X g tg gt) (hs : swapsWithSole [tg] e pos.line X.env = pure false := by rfl) (hw : swappedStores [tg] e X.env = pure none := by rfl)
    (h1 : (assignEach [tg] X.env).map (·.2) = [assign tg X.env] := by rfl) : PXS X g W (.Assign [tg] e pos) (dAsg te gt) := by
  refine ⟨fun pins s σ H M ds D I R h hE => ?_⟩
  refine wpAny_Assign_stores (thn (he.run pins s σ H M ds _ _ I R h hE.ew) fun v s1 ⟨z, ds1, M1, x, H1, I1, r1, R1, N1, z1, q1⟩ => ?_) hs hw
  rw [h1]
  exact thn (hg.run pins s1 σ H1 M1 ds1 z x v _ I1 R1 z1 r1 q1) fun _ s2 q => ND.nxt N1 q
theorem pxs_set {i : Nat} {x : Str} {pos' : Pos} (hN : X.N.Nodup) (hi : X.N[i]? = some x) (hx : Loc X.env.scope x) (he : PX X g W e te) (hs : swapsWith e (some (.Name x pos')) pos.line X.env = pure false := by rfl) (hf : X.fn x = true ∨ X.env.scope.names.lookup x = some .local := by first | exact .inl rfl | exact .inr rfl | assumption) :
    PXS X g W (.Assign [.Name x pos'] e pos) (dAsg te (dgName i)) := by
  refine ⟨fun pins s σ H M ds D I R h hE => ?_⟩
  refine wpAny_Assign_Name (thn (he.run pins s σ H M ds _ _ I R h hE.ew) fun v s1 ⟨z, ds1, M1, y, H1, I1, r1, R1, N1, z1, q1⟩ => ?_) hs
  exact store_ok I1 hN hi hx r1 (fun s2 I2 => ⟨ds1.set i z, M1, _, H1, I2, R1.set i z1, N1.trans .set, q1⟩) hf
/-- a, b = x, y, plain local names -/
def dPar (i j : Nat) (ta : TLi) : TSd := fun D ds => ta ds (fun zs ds1 => match zs with
  | [x, y] => D.nx ((ds1.set i x).set j y)
  | _ => False) D.er
theorem pxs_par {i j : Nat} {x y : Str} {a b : Expr} {ta : TLi} {px py pt : Pos} {kt k2 pt2} (hc : X.calm = true) (hN : X.N.Nodup) (hi : X.N[i]? = some x) (hj : X.N[j]? = some y) (hij : i ≠ j)
    (hx : X.env.scope.names.lookup x = some .local) (hy : X.env.scope.names.lookup y = some .local) (ha : PXA X g W [a, b] ta)
    (hw : swappedStores [.Tuple [.Name x px, .Name y py] kt pt] (.Tuple [a, b] k2 pt2) X.env = pure (some [x, y]))
    (hs : swapsWithSole [.Tuple [.Name x px, .Name y py] kt pt] (.Tuple [a, b] k2 pt2) pos.line X.env = pure false := by rfl) :
    PXS X g W (.Assign [.Tuple [.Name x px, .Name y py] kt pt] (.Tuple [a, b] k2 pt2) pos) (dPar i j ta) := by
  refine ⟨fun pins s σ H M ds D I R h hE => ?_⟩
  have h0 := (ps_par (i := i) (j := j) (pos := pos) (px := px) (py := py) (pt := pt) hc hN hi hj hij hx hy ha.pa hw hs).run pins s σ H ⟨fun σ' H' => ∃ ds' M', RepS X.K g M' ds' σ' H' ∧ Nxt g M ds H M' ds' H' ∧ D.nx ds', fun _ _ => False, fun _ _ => False, fun _ _ => False⟩ I
    (liftA_in R h hE.ew fun zs ds1 M1 vs H1 R1 N1 rz q => by
      split at q
      · obtain ⟨v, u, rfl, r1, r2⟩ := zs2 rz
        exact ⟨v, u, rfl, _, M1, (R1.set i r1).set j r2, N1.trans (.trans .set .set), q⟩
      · exact q.elim)
  refine thn h0 fun f s1 q => ?_
  cases f with
  | next =>
    obtain ⟨σ', H', I', ds', M', R', N', q⟩ := q
    exact ⟨ds', M', σ', H', I', R', N', q⟩
  | brk => obtain ⟨_, _, _, q⟩ := q; exact q.elim
  | cont => obtain ⟨_, _, _, q⟩ := q; exact q.elim
  | ret u => obtain ⟨_, _, _, _, _, q⟩ := q; exact q.elim
def dPar3 (i j l : Nat) (ta : TLi) : TSd := fun D ds => ta ds (fun zs ds1 => match zs with
  | [x, y, z] => D.nx (((ds1.set i x).set j y).set l z)
  | _ => False) D.er
theorem pxs_par3 {i j l : Nat} {x y z : Str} {a b c : Expr} {ta : TLi} {px py pz pt : Pos} {kt k2 pt2} (hc : X.calm = true) (hN : X.N.Nodup) (hi : X.N[i]? = some x) (hj : X.N[j]? = some y) (hl : X.N[l]? = some z) (hij : i ≠ j) (hil : i ≠ l) (hjl : j ≠ l)
    (hx : X.env.scope.names.lookup x = some .local) (hy : X.env.scope.names.lookup y = some .local) (hz : X.env.scope.names.lookup z = some .local) (ha : PXA X g W [a, b, c] ta)
    (hw : swappedStores [.Tuple [.Name x px, .Name y py, .Name z pz] kt pt] (.Tuple [a, b, c] k2 pt2) X.env = pure (some [x, y, z]))
    (hs : swapsWithSole [.Tuple [.Name x px, .Name y py, .Name z pz] kt pt] (.Tuple [a, b, c] k2 pt2) pos.line X.env = pure false := by rfl) :
    PXS X g W (.Assign [.Tuple [.Name x px, .Name y py, .Name z pz] kt pt] (.Tuple [a, b, c] k2 pt2) pos) (dPar3 i j l ta) := by
  refine ⟨fun pins s σ H M ds D I R h hE => ?_⟩
  have h0 := (ps_par3 (i := i) (j := j) (l := l) (pos := pos) (px := px) (py := py) (pz := pz) (pt := pt) hc hN hi hj hl hij hil hjl hx hy hz ha.pa hw hs).run pins s σ H ⟨fun σ' H' => ∃ ds' M', RepS X.K g M' ds' σ' H' ∧ Nxt g M ds H M' ds' H' ∧ D.nx ds', fun _ _ => False, fun _ _ => False, fun _ _ => False⟩ I
    (liftA_in R h hE.ew fun zs ds1 M1 vs H1 R1 N1 rz q => by
      split at q
      · obtain ⟨v, r, rfl, r1, r2⟩ := rz
        obtain ⟨u, w, rfl, r2, r3⟩ := zs2 r2
        exact ⟨v, u, w, rfl, _, M1, ((R1.set i r1).set j r2).set l r3, N1.trans (.trans .set (.trans .set .set)), q⟩
      · exact q.elim)
  refine thn h0 fun f s1 q => ?_
  cases f with
  | next =>
    obtain ⟨σ', H', I', ds', M', R', N', q⟩ := q
    exact ⟨ds', M', σ', H', I', R', N', q⟩
  | brk => obtain ⟨_, _, _, q⟩ := q; exact q.elim
  | cont => obtain ⟨_, _, _, q⟩ := q; exact q.elim
  | ret u => obtain ⟨_, _, _, _, _, q⟩ := q; exact q.elim
/-- name op= e, op's rule over data -/
def dAug (i : Nat) (te : TD) (rd : Z → Z → DS → QZ → Prop) : TSd := fun D ds => match ds.s[i]? with
  | some (some x) => te ds (fun y ds1 => rd x y ds1 (fun z ds2 => D.nx (ds2.set i z))) D.er
  | _ => False
theorem pxs_aug {i : Nat} {x : Str} {op : Operator} {rd : Z → Z → DS → QZ → Prop} {pos' : Pos} (ho : OpD X g (inplaceOp op) rd) (hN : X.N.Nodup) (hi : X.N[i]? = some x) (hx : Loc X.env.scope x) (he : PX X g W e te)
    (hf : X.fn x = true ∨ X.env.scope.names.lookup x = some .local := by first | exact .inl rfl | exact .inr rfl | assumption) : PXS X g W (.AugAssign (.Name x pos') op e pos) (dAug i te rd) := by
  refine ⟨fun pins s σ H M ds D I R h hE => ?_⟩
  unfold dAug at h
  split at h
  · rename_i z e1
    obtain ⟨v, hσ, rz⟩ := R.slot i z e1
    obtain ⟨m, hn, hl⟩ := I.loc
    have vis : Vis X.env.scope x := by rcases hx with k | k; exact .inl k; exact .inr (.inl k)
    obtain ⟨u, r, l⟩ := hl i x v hi hσ vis
    refine wpAny_AugAssign_Name ?_
    have go : wpAny (model X.prog X.w) X.A (eval e X.env) (fun w s₂ => wpAny (model X.prog X.w) X.A (inplaceOp op u w) (fun r s₃ => wpAny (model X.prog X.w) X.A (storeName X.env x r) (fun _ => SPD X g pins M ds H D .next) X.xe s₃) X.xe s₂) X.xe s := by
      refine thn (he.run pins s σ H M ds _ _ I R h hE.ew) fun w s1 ⟨y, ds1, M1, vy, H1, I1, r1, R1, N1, z1, q1⟩ => ?_
      refine thn (ho pins s1 σ H1 M1 ds1 z y v vy u w _ I1 R1 (rz.mv N1.mv N1.pre) r z1 r1 q1) fun zz s2 ⟨y2, ds2, M2, v2, H2, I2, r2, R2, N2, z2, q2⟩ => ?_
      exact store_ok I2 hN hi hx r2 (fun s3 I3 => ⟨ds2.set i y2, M2, _, H2, I3, R2.set i z2, (N1.trans N2).trans .set, q2⟩) hf
    rcases l with ⟨hk, hm⟩ | ⟨hk, c, hc, hcell⟩
    · exact wpAny_loadName_local I.ok.kind hk hn hm go
    · rcases hk with hk | hk
      · exact wpAny_loadName_cell I.ok.kind hk hc hcell go
      · rcases hx with k | k
        · have : X.env.scope.names.lookup x = some .free := hk
          rw [k] at this; cases this
        · have : X.env.scope.names.lookup x = some .free := hk
          rw [k] at this; cases this
  · exact h.elim
theorem od_iadd : OpD X g (inplaceOp .Add) (rdII fun i j => .int (i + j)) := od_ii iop_add fun _ _ _ _ _ => rfl
theorem od_isub : OpD X g (inplaceOp .Sub) (rdII fun i j => .int (i - j)) := od_ii iop_sub fun _ _ _ _ _ => rfl
end
end L3

set_option Elab.async false
set_option linter.all false
set_option maxRecDepth 100000
set_option maxHeartbeats 1000000
namespace L3
open PySem PySem.Spec PyProof.Rows L2
section
variable {X : Cx} {g : G} {W : WX} {pins : List (Addr × Obj)} {σ : L2.St} {M M1 : List Addr} {ds ds1 : DS} {H H1 : Hp} {s : Shared} {ED : QE}
variable {e : Expr} {te : TD} {pos : Pos}
def dWhile (c : TBo) (tb : TSd) : TSd := fun D ds => ∃ I : Nat → DS → Prop, (∃ m, I m ds) ∧ ∀ m ds, I m ds →
  c ds (fun b ds1 => (b = true → tb { D with nx := fun ds' => ∃ m', m' < m ∧ I m' ds', ct := fun ds' => ∃ m', m' < m ∧ I m' ds', bk := D.nx } ds1) ∧ (b = false → D.nx ds1)) D.er
theorem pxs_while {c : Expr} {body : List Stmt} {tc : TBo} {tb : TSd} (hp : PassesOwn (model X.prog X.w) X.A X.env X.xe) (hc : PXT X g W c tc) (hb : PXB X g W body tb) : PXS X g W (.While c body [] pos) (dWhile tc tb) := by
  refine ⟨fun pins s σ H M ds D I R h hE => ?_⟩
  obtain ⟨J, ⟨m0, w0⟩, turn⟩ := h
  refine wpAny_While (codeAny_whileLoop (fun n s' => ND X g pins M ds H (J n) s') ?_ m0 ⟨ds, M, σ, H, I, R, .refl, w0⟩)
  rintro n s1 ⟨ds1, M1, σ1, H1, I1, R1, N1, w1⟩
  refine wpAny_passesOwn hp (thn (hc.run pins s1 σ1 H1 M1 ds1 _ _ I1 R1 (turn n ds1 w1) (hE.nxt N1).ew) fun b s2 ⟨ds2, M2, H2, I2, R2, N2, q2⟩ => ?_)
  have N := N1.trans N2
  cases b with
  | true =>
    rw [if_pos rfl]
    refine wpAny_passesOwn hp (thn (hb.run pins s2 σ1 H2 M2 ds2 _ I2 R2 (q2.1 rfl) (hE.nxt N)) fun f s3 q3 => ?_)
    cases f with
    | next =>
      obtain ⟨ds3, M3, σ3, H3, I3, R3, N3, m', hm, w3⟩ := q3
      exact ⟨m', hm, ds3, M3, σ3, H3, I3, R3, N.trans N3, w3⟩
    | cont =>
      obtain ⟨ds3, M3, σ3, H3, I3, R3, N3, m', hm, w3⟩ := q3
      exact ⟨m', hm, ds3, M3, σ3, H3, I3, R3, N.trans N3, w3⟩
    | brk => exact ND.nxt N q3
    | ret v => exact RD.nxt N q3
  | false =>
    rw [if_neg Bool.false_ne_true]
    exact wpAny_execs_nil ⟨ds2, M2, σ1, H2, I2, R2, N, q2.2 rfl⟩
abbrev TIt := DS → (List D → DS → Prop) → QE → Prop
/-- the walk J yields these items from the state (M1, ds1, H1) on -/
def ItD (X : Cx) (g : G) (J : It) (items : List D) (M1 : List Addr) (ds1 : DS) (H1 : Hp) : Prop :=
  ∀ (g' : G) (i : Nat) (M' : List Addr) (ds' : DS) (σ' : L2.St) (H' : Hp), RepS X.K g' M' ds' σ' H' → Mv (g.own M1 ds1) (g'.own M' ds') H1 H' →
    (∀ d, items[i]? = some d → J.go i H' ∧ ∀ x H'', J.yld i H' x H'' → RepS X.K g' M' ds' σ' H'' ∧ Nxt g' M' ds' H' M' ds' H'' ∧ RepD X.K (g'.own M' ds') H'' d x) ∧ (items[i]? = none → J.stop i H')
def PIQ (X : Cx) (g : G) (σ : L2.St) (M : List Addr) (ds : DS) (H : Hp) (Q : List D → DS → Prop) (J : It) (H1 : Hp) : Prop :=
  ∃ items ds1 M1, RepS X.K g M1 ds1 σ H1 ∧ Nxt g M ds H M1 ds1 H1 ∧ ItD X g J items M1 ds1 H1 ∧ Q items ds1
structure PXI (X : Cx) (g : G) (W : WX) (tg iter : Expr) (ti : TIt) : Prop where
  run : ∀ (pins : List (Addr × Obj)) (s : Shared) (σ : L2.St) (H : Hp) (M : List Addr) (ds : DS) (Q : List D → DS → Prop) (ED : QE), Inv X pins σ H s → RepS X.K g M ds σ H → ti ds Q ED → EW X g W σ M ds H ED →
    wpAny (model X.prog X.w) X.A (eval iter X.env) (fun v s1 => wpAny (model X.prog X.w) X.A (pyIter v) (PIE X pins σ tg (PIQ X g σ M ds H Q)) X.xe s1) X.xe s
theorem PXI.of {tg iter : Expr} {ti : TIt} {wi : TI} (h : PI X tg iter wi) (hs : ∀ (σ : L2.St) (H : Hp) (M : List Addr) (ds : DS) (Q : List D → DS → Prop) (ED : QE), RepS X.K g M ds σ H → ti ds Q ED → EW X g W σ M ds H ED → wi σ H (PIQ X g σ M ds H Q)) : PXI X g W tg iter ti :=
  ⟨fun pins s σ H M ds Q ED I R t he => h.run pins s σ H _ I (hs σ H M ds Q ED R t he)⟩
theorem PIQ.nxt {Q : List D → DS → Prop} {J : It} {H' : Hp} (N : Nxt g M ds H M1 ds1 H1) (h : PIQ X g σ M1 ds1 H1 Q J H') : PIQ X g σ M ds H Q J H' := by
  obtain ⟨items, ds2, M2, R, N', it, q⟩ := h
  exact ⟨items, ds2, M2, R, N.trans N', it, q⟩
theorem itd_list {l : List D} {a : Addr} {xs : List V} (hq : (¬ g.own M1 ds1 a ∧ Rd H1 a (.lst xs)) ∨ WrL X.K a xs) (r : RepL X.K (g.own M1 ds1) H1 l xs) : ItD X g (Itl X.K a) l M1 ds1 H1 := by
  intro g' i M' ds' σ' H' R m
  have hq' : SqL X.K H' a xs := by
    rcases hq with ⟨n, q⟩ | q
    · exact .inl (m.rd (fun ps z => nomatch z) n q)
    · exact .inr q
  have r' := RepL.mv m _ _ r
  refine ⟨fun d hd => ?_, fun hn => ⟨xs, hq', by rw [RepL.length r']; exact List.getElem?_eq_none_iff.mp hn⟩⟩
  obtain ⟨v, hv, rv⟩ := r'.get hd
  refine ⟨⟨xs, v, hq', hv⟩, fun x H'' ⟨e1, e2⟩ => ?_⟩
  subst e1
  have : x = v := Option.some.inj ((e2 xs hq').symm.trans hv)
  subst this
  exact ⟨R, .refl, rv⟩
theorem itd_tup {l : List D} {a : Addr} {xs : List V} (hq : (¬ g.own M1 ds1 a ∧ Rd H1 a (.tup xs)) ∨ WrT X.K a xs) (r : RepL X.K (g.own M1 ds1) H1 l xs) : ItD X g (Itt X.K a) l M1 ds1 H1 := by
  intro g' i M' ds' σ' H' R m
  have hq' : SqT X.K H' a xs := by
    rcases hq with ⟨n, q⟩ | q
    · exact .inl (m.rd (fun ps z => nomatch z) n q)
    · exact .inr q
  have r' := RepL.mv m _ _ r
  refine ⟨fun d hd => ?_, fun hn => ⟨xs, hq', by rw [RepL.length r']; exact List.getElem?_eq_none_iff.mp hn⟩⟩
  obtain ⟨v, hv, rv⟩ := r'.get hd
  refine ⟨⟨xs, v, hq', hv⟩, fun x H'' ⟨e1, e2⟩ => ?_⟩
  subst e1
  have : x = v := Option.some.inj ((e2 xs hq').symm.trans hv)
  subst this
  exact ⟨R, .refl, rv⟩
def rangeD (lo : Int) (n : Nat) : List D := (List.range n).map fun i => .int (lo + (i : Nat))
theorem itd_range {lo : Int} {n : Nat} : ItD X g (Itr lo n) (rangeD lo n) M1 ds1 H1 := by
  intro g' i M' ds' σ' H' R m
  refine ⟨fun d hd => ?_, fun hn => ?_⟩
  · unfold rangeD at hd
    rw [List.getElem?_map] at hd
    by_cases hi : i < n
    · rw [List.getElem?_range hi] at hd
      cases hd
      exact ⟨hi, fun x H'' ⟨e1, e2⟩ => by subst e1; subst e2; exact ⟨R, .refl, rfl⟩⟩
    · rw [List.getElem?_eq_none (by simpa using hi)] at hd
      cases hd
  · have := List.getElem?_eq_none_iff.mp hn
    unfold rangeD at this
    rw [List.length_map, List.length_range] at this
    exact this
/-- pairs of the place and the item -/
def enumD : Nat → List D → List D
  | _, [] => []
  | i, x :: r => .tup [.int (i : Nat), x] :: enumD (i + 1) r
theorem enumD_get : ∀ (l : List D) (k i : Nat), (enumD k l)[i]? = l[i]?.map fun x => D.tup [.int ((k + i : Nat)), x]
  | [], k, i => by simp [enumD]
  | x :: r, k, 0 => by simp [enumD]
  | x :: r, k, i + 1 => by
    show (enumD (k + 1) r)[i]? = _
    rw [enumD_get r (k + 1) i, show k + 1 + i = k + (i + 1) by omega]
    rfl
theorem RepS.tup2 {σ' : L2.St} (R : RepS X.K g M ds σ' H) {T : Addr} {l : List D} {xs : List V} (hT : H T = none) (r : RepL X.K (g.own M ds) H l xs) : RepS X.K g M ds σ' (L2.upd H T (.tup xs)) ∧ Nxt g M ds H M ds (L2.upd H T (.tup xs)) ∧ RepD X.K (g.own M ds) (L2.upd H T (.tup xs)) (.tup l) (.ref T) := by
  obtain ⟨R', N⟩ := R.upd (o := .tup xs) hT
  exact ⟨R', N, T, xs, rfl, RepL.mv N.mv _ _ r, .inl ⟨R.own_none hT, .inl upd_same⟩⟩
theorem itd_enum {l : List D} {a : Addr} {xs : List V} (hq : (¬ g.own M1 ds1 a ∧ Rd H1 a (.lst xs)) ∨ WrL X.K a xs) (r : RepL X.K (g.own M1 ds1) H1 l xs) : ItD X g (Ite X.K a) (enumD 0 l) M1 ds1 H1 := by
  intro g' i M' ds' σ' H' R m
  have hq' : SqL X.K H' a xs := by
    rcases hq with ⟨n, q⟩ | q
    · exact .inl (m.rd (fun ps z => nomatch z) n q)
    · exact .inr q
  have r' := RepL.mv m _ _ r
  rw [enumD_get]
  refine ⟨fun d hd => ?_, fun hn => ⟨xs, hq', by rw [RepL.length r']; exact List.getElem?_eq_none_iff.mp (by simpa using hn)⟩⟩
  cases hl : l[i]? with
  | none => rw [hl] at hd; cases hd
  | some y =>
    rw [hl] at hd
    cases hd
    obtain ⟨v, hv, rv⟩ := r'.get hl
    refine ⟨⟨xs, v, hq', hv⟩, fun x H'' ⟨T, x', e1, hT, e2, e3⟩ => ?_⟩
    subst e1; subst e2
    have : x' = v := Option.some.inj ((e3 xs hq').symm.trans hv)
    subst this
    rw [Nat.zero_add]
    exact R.tup2 hT ⟨_, _, rfl, rfl, _, _, rfl, rv, rfl⟩
def zipD : List D → List D → List D
  | x :: l, y :: r => .tup [x, y] :: zipD l r
  | _, _ => []
theorem zipD_get : ∀ (l r : List D) (i : Nat), (zipD l r)[i]? = match l[i]?, r[i]? with
    | some x, some y => some (D.tup [x, y])
    | _, _ => none
  | [], r, i => by simp [zipD]
  | x :: l, [], i => by
    cases h : (x :: l)[i]? <;> simp [zipD]
  | x :: l, y :: r, 0 => by simp [zipD]
  | x :: l, y :: r, i + 1 => by
    show (zipD l r)[i]? = _
    rw [zipD_get l r i]
    rfl
theorem itd_zip {l l2 : List D} {a a2 : Addr} {xs ys : List V} (hq : (¬ g.own M1 ds1 a ∧ Rd H1 a (.lst xs)) ∨ WrL X.K a xs) (r : RepL X.K (g.own M1 ds1) H1 l xs) (hq2 : (¬ g.own M1 ds1 a2 ∧ Rd H1 a2 (.lst ys)) ∨ WrL X.K a2 ys) (r2 : RepL X.K (g.own M1 ds1) H1 l2 ys) : ItD X g (Itz X.K a a2) (zipD l l2) M1 ds1 H1 := by
  intro g' i M' ds' σ' H' R m
  have rd : ∀ {a : Addr} {xs : List V}, (¬ g.own M1 ds1 a ∧ Rd H1 a (.lst xs)) ∨ WrL X.K a xs → SqL X.K H' a xs := fun {a xs} hq => by
    rcases hq with ⟨n, q⟩ | q
    · exact .inl (m.rd (fun ps z => nomatch z) n q)
    · exact .inr q
  have hq' := rd hq
  have hq2' := rd hq2
  have r' := RepL.mv m _ _ r
  have r2' := RepL.mv m _ _ r2
  rw [zipD_get]
  cases hl : l[i]? with
  | none => exact ⟨(fun d hd => by cases hd), fun _ => ⟨xs, ys, hq', hq2', .inl (by rw [RepL.length r']; exact List.getElem?_eq_none_iff.mp hl)⟩⟩
  | some x =>
    cases hl2 : l2[i]? with
    | none => exact ⟨(fun d hd => by cases hd), fun _ => ⟨xs, ys, hq', hq2', .inr (by rw [RepL.length r2']; exact List.getElem?_eq_none_iff.mp hl2)⟩⟩
    | some y =>
      refine ⟨fun d hd => ?_, fun h => by cases h⟩
      cases hd
      obtain ⟨v, hv, rv⟩ := r'.get hl
      obtain ⟨v2, hv2, rv2⟩ := r2'.get hl2
      refine ⟨⟨xs, ys, v, v2, hq', hq2', hv, hv2⟩, fun z H'' ⟨T, x', y', e1, hT, e2, e3, e4⟩ => ?_⟩
      subst e1; subst e2
      have e5 : x' = v := Option.some.inj ((e3 xs hq').symm.trans hv)
      have e6 : y' = v2 := Option.some.inj ((e4 ys hq2').symm.trans hv2)
      subst e5; subst e6
      exact R.tup2 hT ⟨_, _, rfl, rv, _, _, rfl, rv2, rfl⟩
def kItems (P : List D → Prop) : Z → Prop
  | .d (.lst l) => P l
  | .d (.lsf l) => P l
  | .d (.tup l) => P l
  | _ => False
def dIt (te : TD) : TIt := fun ds Q E => te ds (fun z ds1 => kItems (fun l => Q l ds1) z) E
theorem pxi_seq {tg : Expr} (he : PX X g W e te) : PXI X g W tg e (dIt te) := by
  refine ⟨fun pins s σ H M ds Q ED I R t hE => ?_⟩
  refine thn (he.run pins s σ H M ds _ ED I R t hE) fun v s1 ⟨z, ds1, M1, x, H1, I1, r1, R1, N1, z1, q1⟩ => ?_
  have list : ∀ (l : List D) (a : Addr) (xs : List V), x = .ref a → RepL X.K (g.own M1 ds1) H1 l xs → ((¬ g.own M1 ds1 a ∧ Rd H1 a (.lst xs)) ∨ WrL X.K a xs) → Q l ds1 → wpAny (model X.prog X.w) X.A (pyIter v) (PIE X pins σ tg (PIQ X g σ M ds H Q)) X.xe s1 := fun l a xs ex r hq q => by
    subst ex
    cases r1
    obtain ⟨its, rv, p, hz⟩ := I1.list (sqL_of hq)
    refine wpAny_pyIter_list p.isList ?_
    refine ⟨s1.heap.objs.size, [s1.heap.objs.size], _, _, H1, rfl, I1.kept (t' := s1.toks) fun b o e => Heap.get?_push_of_some _ e, turn_list a _, ⟨_, Heap.get?_push_size _ rfl, rfl, rfl⟩, fun b hb => ?_, l, ds1, M1, R1, N1, itd_list hq r, q⟩
    have e : b = s1.heap.objs.size := by simpa using hb
    subst e
    exact I1.fpOk (Nat.le_refl _) (I1.hok.fresh (Nat.le_refl _))
  have q1 : kItems (fun l => Q l ds1) z := q1
  unfold kItems at q1
  split at q1
  · obtain ⟨a, xs, ex, r, n, hq⟩ := z1
    exact list _ a xs ex r (.inl ⟨n, .inl hq⟩) q1
  · obtain ⟨a, xs, ex, r, hq⟩ := z1
    exact list _ a xs ex r hq q1
  · obtain ⟨a, xs, ex, r, hq⟩ := z1
    subst ex
    cases r1
    obtain ⟨its, rv, p, hz⟩ := I1.tuple (sqT_of hq)
    refine wpAny_pyIter_tuple (show s1.heap.IsTuple a its.toArray from p) ?_
    refine ⟨s1.heap.objs.size, [s1.heap.objs.size], _, _, H1, rfl, I1.kept (t' := s1.toks) fun b o e => Heap.get?_push_of_some _ e, turn_tuple a _, ⟨_, Heap.get?_push_size _ rfl, rfl, rfl⟩, fun b hb => ?_, _, ds1, M1, R1, N1, itd_tup hq r, q1⟩
    have e : b = s1.heap.objs.size := by simpa using hb
    subst e
    exact I1.fpOk (Nat.le_refl _) (I1.hok.fresh (Nat.le_refl _))
  · exact q1.elim
def kInts1 (P : Int → Prop) : List Z → Prop
  | [.d (.int i)] => P i
  | _ => False
def kInts2 (P : Int → Int → Prop) : List Z → Prop
  | [.d (.int i), .d (.int j)] => P i j
  | _ => False
theorem ints1D {K : PySem.W.Frag} {own : Addr → Prop} {M : List Addr} {H : Hp} {zs : List Z} {vs : List V} {P : Int → Prop} (r : RepZs K own M H zs vs) (h : kInts1 P zs) : ∃ i, vs = [.int i] ∧ P i := by
  unfold kInts1 at h
  split at h
  · obtain ⟨v, rfl, r1⟩ := zs1 r
    cases r1
    exact ⟨_, rfl, h⟩
  · exact h.elim
theorem ints2D {K : PySem.W.Frag} {own : Addr → Prop} {M : List Addr} {H : Hp} {zs : List Z} {vs : List V} {P : Int → Int → Prop} (r : RepZs K own M H zs vs) (h : kInts2 P zs) : ∃ i j, vs = [.int i, .int j] ∧ P i j := by
  unfold kInts2 at h
  split at h
  · obtain ⟨v, u, rfl, r1, r2⟩ := zs2 r
    cases r1; cases r2
    exact ⟨_, _, rfl, h⟩
  · exact h.elim
def dRng1 (ta : TLi) : TIt := fun ds Q E => ta ds (fun zs ds1 => kInts1 (fun j => (-(2 ^ 62) ≤ j ∧ j < 2 ^ 62) ∧ Q (rangeD 0 j.toNat) ds1) zs) E
def dRng2 (ta : TLi) : TIt := fun ds Q E => ta ds (fun zs ds1 => kInts2 (fun i j => (-(2 ^ 62) ≤ i ∧ i < 2 ^ 62 ∧ -(2 ^ 62) ≤ j ∧ j < 2 ^ 62) ∧ Q (rangeD i (j - i).toNat) ds1) zs) E
theorem pxi_range1 {tg a : Expr} {ta : TLi} {p pos : Pos} (hg : Gl X "range") (hm : X.mg "range" = none) (ha : PXA X g W [a] ta) (hs : starEach [a] X.env = [(false, eval a X.env)] := by rfl) : PXI X g W tg (.Call (.Name "range" p) [a] [] pos) (dRng1 ta) := by
  refine .of (pi_range1 hg hm ha.pa hs) fun σ H M ds Q ED R t hE => ?_
  refine liftA_in R t hE fun zs ds1 M1 vs H1 R1 N1 rz q => ?_
  obtain ⟨j, rfl, ⟨h1, h2⟩, q⟩ := ints1D rz q
  exact ⟨j, rfl, h1, h2, _, ds1, M1, R1, N1, itd_range, q⟩
theorem pxi_range2 {tg a b : Expr} {ta : TLi} {p pos : Pos} (hg : Gl X "range") (hm : X.mg "range" = none) (ha : PXA X g W [a, b] ta) (hs : starEach [a, b] X.env = [(false, eval a X.env), (false, eval b X.env)] := by rfl) (hs2 : starEach [b] X.env = [(false, eval b X.env)] := by rfl) :
    PXI X g W tg (.Call (.Name "range" p) [a, b] [] pos) (dRng2 ta) := by
  refine .of (pi_range2 hg hm ha.pa hs hs2) fun σ H M ds Q ED R t hE => ?_
  refine liftA_in R t hE fun zs ds1 M1 vs H1 R1 N1 rz q => ?_
  obtain ⟨i, j, rfl, hb, q⟩ := ints2D rz q
  exact ⟨i, j, rfl, hb, _, ds1, M1, R1, N1, itd_range, q⟩
def kLst1 (P : List D → Prop) : List Z → Prop
  | [.d (.lst l)] => P l
  | [.d (.lsf l)] => P l
  | _ => False
theorem lst1D {K : PySem.W.Frag} {own : Addr → Prop} {M : List Addr} {H : Hp} {zs : List Z} {vs : List V} {P : List D → Prop} (r : RepZs K own M H zs vs) (h : kLst1 P zs) : ∃ l a xs, vs = [.ref a] ∧ RepL K own H l xs ∧ ((¬ own a ∧ Rd H a (.lst xs)) ∨ WrL K a xs) ∧ P l := by
  unfold kLst1 at h
  split at h
  · obtain ⟨v, rfl, a, xs, rfl, r1, n, hq⟩ := zs1 r
    exact ⟨_, a, xs, rfl, r1, .inl ⟨n, .inl hq⟩, h⟩
  · obtain ⟨v, rfl, a, xs, rfl, r1, hq⟩ := zs1 r
    exact ⟨_, a, xs, rfl, r1, hq, h⟩
  · exact h.elim
def dEnum (ta : TLi) : TIt := fun ds Q E => ta ds (fun zs ds1 => kLst1 (fun l => Q (enumD 0 l) ds1) zs) E
theorem pxi_enum {a : Expr} {ta : TLi} {p pos tpos : Pos} {elts : List Expr} {kk : Nat} (hg : Gl X "enumerate") (hm : X.mg "enumerate" = none) (ha : PXA X g W [a] ta) (hs : starEach [a] X.env = [(false, eval a X.env)] := by rfl) :
    PXI X g W (.Tuple elts kk tpos) (.Call (.Name "enumerate" p) [a] [] pos) (dEnum ta) := by
  refine .of (pi_enum hg hm ha.pa hs) fun σ H M ds Q ED R t hE => ?_
  refine liftA_in R t hE fun zs ds1 M1 vs H1 R1 N1 rz q => ?_
  obtain ⟨l, a, xs, rfl, r, hq, q⟩ := lst1D rz q
  exact ⟨a, xs, rfl, sqL_of hq, _, ds1, M1, R1, N1, itd_enum hq r, q⟩
def kLst2 (P : List D → List D → Prop) : List Z → Prop
  | [z, y] => kLst1 (fun l => kLst1 (fun r => P l r) [y]) [z]
  | _ => False
def dZip (ta : TLi) : TIt := fun ds Q E => ta ds (fun zs ds1 => kLst2 (fun l r => Q (zipD l r) ds1) zs) E
theorem pxi_zip {a b : Expr} {ta : TLi} {p pos tpos : Pos} {elts : List Expr} {kk : Nat} (hg : Gl X "zip") (hm : X.mg "zip" = none) (ha : PXA X g W [a, b] ta)
    (hs : starEach [a, b] X.env = (false, eval a X.env) :: starEach [b] X.env := by rfl) (hpl : (backTo pos (starEach [b] X.env)).any (·.1) = false := by rfl) :
    PXI X g W (.Tuple elts kk tpos) (.Call (.Name "zip" p) [a, b] [] pos) (dZip ta) := by
  refine .of (pi_zip hg hm ha.pa hs hpl) fun σ H M ds Q ED R t hE => ?_
  refine liftA_in R t hE fun zs ds1 M1 vs H1 R1 N1 rz q => ?_
  unfold kLst2 at q
  split at q
  · rename_i z y
    obtain ⟨v, r, rfl, h1, h2⟩ := rz
    obtain ⟨u, rfl, h3⟩ := zs1 h2
    have h1' : RepZs X.K (g.own M1 ds1) M1 H1 [z] [v] := ⟨v, [], rfl, h1, rfl⟩
    have h2' : RepZs X.K (g.own M1 ds1) M1 H1 [y] [u] := ⟨u, [], rfl, h3, rfl⟩
    obtain ⟨l, a, xs, e1, r1, hq1, q⟩ := lst1D h1' q
    obtain ⟨l2, a2, ys, e2, r2, hq2, q⟩ := lst1D h2' q
    cases e1; cases e2
    exact ⟨a, a2, xs, ys, rfl, sqL_of hq1, sqL_of hq2, _, ds1, M1, R1, N1, itd_zip hq1 r1 hq2 r2, q⟩
  · exact q.elim
def dLoop (gt : TGd) (tb : TSd) (De : DE) : List D → DS → Prop
  | [], ds => De.nx ds
  | x :: r, ds => gt (.d x) ds fun ds1 => tb { De with nx := dLoop gt tb De r, ct := dLoop gt tb De r, bk := De.nx } ds1
def dFor (ti : TIt) (gt : TGd) (tb : TSd) : TSd := fun De ds => ti ds (fun items ds1 => dLoop gt tb De items ds1) De.er
theorem ND.unpin {pl : List (Addr × Obj)} {P : DS → Prop} {s' : Shared} (h : ND X g (pins ++ pl) M ds H P s') : ND X g pins M ds H P s' := by
  obtain ⟨ds', M', σ', H', I, q⟩ := h
  exact ⟨ds', M', σ', H', I.unpinned, q⟩
theorem pxs_for {tg iter : Expr} {body : List Stmt} {ti : TIt} {gt : TGd} {tb : TSd} (hp : PassesOwn (model X.prog X.w) X.A X.env X.xe) (hc : X.calm = true) (hi : PXI X g W tg iter ti) (hg : PXG X g tg gt) (hb : PXB X g W body tb)
    (hs : ∀ x, foldedSetIterable iter X.env x = pure x := by intro _; rfl) : PXS X g W (.For tg iter body [] pos) (dFor ti gt tb) := by
  refine ⟨fun pins s σ H M ds D I R h hE => ?_⟩
  refine wpAny_For (thn (hi.run pins s σ H M ds _ _ I R h hE.ew) fun v s1 h1 => thn h1 fun itv s2 h2 => ?_) hs
  obtain ⟨it, fp, tn, J, H2, e, I2, T, st2, f2, items, ds2, M2, R2, N2, itd, q⟩ := h2
  subst e
  have stat : ∀ {H' : Hp}, (∀ b ∈ fp, H' b = none) → ∀ b ∈ fp, FpOk X pins H' b := fun hn b hb => ⟨hn b hb, (f2 b hb).2⟩
  refine codeAny_forLoop_any (fun n s' => ∃ i ds' M' σ' H', Inv X pins σ' H' s' ∧ RepS X.K g M' ds' σ' H' ∧ Nxt g M2 ds2 H2 M' ds' H' ∧ tn i s'.heap ∧ (∀ b ∈ fp, H' b = none) ∧ n = items.length - i ∧ dLoop gt tb D (items.drop i) ds') ?_ items.length ⟨0, ds2, M2, σ, H2, I2, R2, .refl, st2, fun b hb => (f2 b hb).1, rfl, q⟩
  rintro n s3 ⟨i, ds3, M3, σ3, H3, I3, R3, N3, st3, fr3, rfl, w3⟩
  obtain ⟨go, stop⟩ := itd g i M3 ds3 σ3 H3 R3 N3.mv
  have NN := N2.trans N3
  cases hi : items[i]? with
  | none =>
    refine wpAny_passesOwn hp (thn (T.done X rfl rfl rfl hc i pins s3 σ3 H3 X.xe I3 (stat fr3) st3 (stop hi)) fun r s4 ⟨hr, I4⟩ => ?_)
    subst hr
    have e : items.drop i = [] := List.drop_eq_nil_of_le (List.getElem?_eq_none_iff.mp hi)
    rw [e] at w3
    exact wpAny_execs_nil ⟨ds3, M3, σ3, H3, I4, R3, NN, w3⟩
  | some d =>
    have hlt : i < items.length := (List.getElem?_eq_some_iff.mp hi).1
    have e : items.drop i = d :: items.drop (i + 1) := by
      rw [List.drop_eq_getElem_cons hlt, (List.getElem?_eq_some_iff.mp hi).2]
    rw [e] at w3
    obtain ⟨go1, go2⟩ := go d hi
    refine wpAny_passesOwn hp (thn (T.item X rfl rfl rfl hc i pins s3 σ3 H3 X.xe I3 (stat fr3) st3 go1) fun r s4 ⟨u, hr, h4⟩ => ?_)
    subst hr
    refine wpAny_passesOwn hp (thn h4 fun _ s5 ⟨x, H5, I5, r5, y5, st5, fr5⟩ => ?_)
    obtain ⟨R5, N5, rd5⟩ := go2 x H5 y5
    have I5' := I5.pinned (stat fr5) (T.obj _ _ st5)
    refine wpAny_passesOwn hp (thn (hg.run _ s5 σ3 H5 M3 ds3 (.d d) x u _ I5' R5 rd5 r5 w3) fun _ s6 ⟨ds6, M6, σ6, H6, I6, R6, N6, q6⟩ => ?_)
    have NE := (NN.trans N5).trans N6
    refine wpAny_passesOwn hp (thn (hb.run _ s6 σ6 H6 M6 ds6 _ I6 R6 q6 (hE.nxt NE)) fun f s7 q7 => ?_)
    have again : ∀ {P : Prop}, ND X g (pins ++ pinsAt fp s5.heap) M6 ds6 H6 (dLoop gt tb D (items.drop (i + 1))) s7 → ∃ m, m < items.length - i ∧ ∃ i ds' M' σ' H', Inv X pins σ' H' s7 ∧ RepS X.K g M' ds' σ' H' ∧ Nxt g M2 ds2 H2 M' ds' H' ∧ tn i s7.heap ∧ (∀ b ∈ fp, H' b = none) ∧ m = items.length - i ∧ dLoop gt tb D (items.drop i) ds' := fun {_} ⟨ds7, M7, σ7, H7, I7, R7, N7, n7⟩ => by
      refine ⟨items.length - (i + 1), by omega, i + 1, ds7, M7, σ7, H7, I7.unpinned, R7, ((N3.trans N5).trans N6).trans N7, T.keep _ _ _ st5 fun b hb o e => (I7.pin (b, o) (List.mem_append_right _ (List.mem_append_right _ (mem_pinsAt hb e)))).1, fun b hb => ?_, rfl, n7⟩
      obtain ⟨o, e, d⟩ := T.obj _ _ st5 b hb
      exact (I7.pin (b, o) (List.mem_append_right _ (List.mem_append_right _ (mem_pinsAt hb e)))).2.1
    cases f with
    | next => exact again (P := True) q7
    | cont => exact again (P := True) q7
    | brk => exact ND.nxt NE (ND.unpin q7)
    | ret v =>
      obtain ⟨z7, ds7, M7, v7, σ7, H7, τ7, I7, r7, R7, N7, rz7, q7⟩ := q7
      exact ⟨z7, ds7, M7, v7, σ7, H7, τ7, I7.unpinned, r7, R7, NE.trans N7, rz7, q7⟩
end
end L3

set_option Elab.async false
set_option linter.all false
set_option maxRecDepth 100000
set_option maxHeartbeats 1000000
namespace L3
open PySem PySem.Spec PyProof.Rows L2
/-- what a def does to data: the arguments, what is wanted of the answer, what of an exception -/
abbrev SA := List D → (D → Prop) → (EX → Prop) → Prop
/-- .. that is handed a thing to write as its first argument -/
abbrev SB := MC → List D → (D → MC → Prop) → (EX → MC → Prop) → Prop
/-- all that was tracked is as it was -/
def Fr0 (H H' : Hp) : Prop := (∀ b o, H b = some o → (∀ ps, o ≠ .tbl ps) → H' b = some o) ∧ ∀ b ps, H b = some (.tbl ps) → ∃ qs, H' b = some (.tbl qs)
def FrB (a : Addr) (H H' : Hp) : Prop := (∀ b o, H b = some o → b ≠ a → (∀ ps, o ≠ .tbl ps) → H' b = some o) ∧ ∀ b ps, H b = some (.tbl ps) → ∃ qs, H' b = some (.tbl qs)
def OutOk (ow : Addr → Prop) (H : Hp) : Prop := ∀ a, ow a → ∃ o, H a = some o ∧ (∀ ps, o ≠ .tbl ps) ∧ ∀ φ, o ≠ .ext φ
def spA (K : PySem.W.Frag) (T : List (Addr × Str)) (S : SA) : Sp := fun vs H Q E => ∃ (ow : Addr → Prop) (ds : List D) (QD : D → Prop) (ED : EX → Prop),
  OutOk ow H ∧ RepL K ow H ds vs ∧ LamX.Tabs T H ∧ S ds QD ED ∧
  (∀ r v H', QD r → Fr0 H H' → RepD K ow H' r v → LamX.Tabs T H' → Q v H') ∧
  (∀ x cls d H', ED x → Fr0 H H' → RepE K ow H' x cls d → LamX.Tabs T H' → E cls d H')
def ow1 (ow : Addr → Prop) (a : Addr) : Addr → Prop := fun b => ow b ∨ b = a
def spB (K : PySem.W.Frag) (T : List (Addr × Str)) (S : SB) : Sp := fun vs H Q E => ∃ (ow : Addr → Prop) (a : Addr) (vs' : List V) (ds : List D) (c : MC) (QD : D → MC → Prop) (ED : EX → MC → Prop),
  vs = .ref a :: vs' ∧ ¬ ow a ∧ OutOk ow H ∧ RepL K (ow1 ow a) H ds vs' ∧ RepM K (ow1 ow a) [a] H a c ∧ LamX.Tabs T H ∧ S c ds QD ED ∧
  (∀ r c' v H', QD r c' → FrB a H H' → RepD K (ow1 ow a) H' r v → RepM K (ow1 ow a) [a] H' a c' → LamX.Tabs T H' → Q v H') ∧
  (∀ x c' cls d H', ED x c' → FrB a H H' → RepE K (ow1 ow a) H' x cls d → RepM K (ow1 ow a) [a] H' a c' → LamX.Tabs T H' → E cls d H')

section
variable {K : PySem.W.Frag} {T : List (Addr × Str)}
theorem own_nil {ow : Addr → Prop} {T : List (Addr × Str)} {s : List (Option Z)} : G.own ⟨ow, T, []⟩ [] ⟨s, []⟩ = ow := by
  funext a
  simp only [G.own, ownM, eq_iff_iff]
  exact ⟨fun h => h.elim id fun ⟨n, c, h1, _⟩ => by simp at h1, .inl⟩
theorem own_one {ow : Addr → Prop} {T : List (Addr × Str)} {s : List (Option Z)} {a : Addr} {c : MC} : G.own ⟨ow, T, []⟩ [a] ⟨s, [some c]⟩ = ow1 ow a := by
  funext b
  simp only [G.own, ownM, eq_iff_iff, ow1]
  refine ⟨fun h => h.elim .inl fun ⟨n, c, h1, h2⟩ => .inr ?_, fun h => h.elim .inl fun e => .inr ⟨0, c, by rw [e]; rfl, rfl⟩⟩
  cases n with
  | zero => exact (Option.some.inj h1).symm
  | succ n => simp at h1
/-- the slots at a def's entry -/
def ent (N : List Str) (ds : List D) : List (Option Z) := (ds.map fun d => some (Z.d d)) ++ List.replicate (N.length - ds.length) none
def entB (N : List Str) (ds : List D) : List (Option Z) := (some (Z.m 0) :: ds.map fun d => some (Z.d d)) ++ List.replicate (N.length - (ds.length + 1)) none
theorem start_len {N : List Str} {vs : List V} (h : vs.length ≤ N.length) : (L2.start N vs).length = N.length := by
  unfold L2.start
  rw [List.length_append, List.length_map, List.length_replicate]; omega
theorem repS_A {ow : Addr → Prop} {H : Hp} {N : List Str} {ds : List D} {vs : List V} (ho : OutOk ow H) (r : RepL K ow H ds vs) (t : LamX.Tabs T H) (hl : vs.length ≤ N.length) : RepS K ⟨ow, T, []⟩ [] ⟨ent N ds, []⟩ (L2.start N vs) H := by
  have e := RepL.length r
  refine { len := ?_, slot := fun i z h => ?_, mlen := rfl, nd := .nil, apart := fun a h => (nomatch h), obj := fun n c a h => by simp at h, gh := fun p hp => (nomatch hp), tabs := t, out := ho, ex := fun a h => (nomatch h) }
  · rw [start_len hl]
    show N.length = (ent N ds).length
    unfold ent
    rw [List.length_append, List.length_map, List.length_replicate]; omega
  · have h' : (ent N ds)[i]? = some (some z) := h
    unfold ent at h'
    by_cases hi : i < ds.length
    · rw [List.getElem?_append_left (by simpa using hi), List.getElem?_map] at h'
      cases hd : ds[i]? with
      | none => rw [hd] at h'; cases h'
      | some d =>
        rw [hd] at h'
        cases h'
        obtain ⟨v, h1, h2⟩ := r.get hd
        refine ⟨v, ?_, ?_⟩
        · unfold L2.start
          rw [List.getElem?_append_left (by rw [List.length_map, e]; exact hi), List.getElem?_map, h1]; rfl
        · show RepD K _ H d v
          rw [own_nil]; exact h2
    · rw [List.getElem?_append_right (by simpa using hi), List.getElem?_replicate] at h'
      split at h' <;> cases h'
theorem repS_B {ow : Addr → Prop} {H : Hp} {N : List Str} {ds : List D} {vs : List V} {a : Addr} {c : MC} (na : ¬ ow a) (ho : OutOk ow H) (r : RepL K (ow1 ow a) H ds vs) (rc : RepM K (ow1 ow a) [a] H a c) (t : LamX.Tabs T H) (hl : vs.length + 1 ≤ N.length) : RepS K ⟨ow, T, []⟩ [a] ⟨entB N ds, [some c]⟩ (L2.start N (.ref a :: vs)) H := by
  have e := RepL.length r
  refine { len := ?_, slot := fun i z h => ?_, mlen := rfl, nd := by simp, apart := fun b h => ?_, obj := fun n c' b h1 h2 => ?_, gh := fun p hp => (nomatch hp), tabs := t, out := ho, ex := fun b h => ?_ }
  · rw [start_len (by simpa using hl)]
    show N.length = (entB N ds).length
    unfold entB
    rw [List.length_append, List.length_cons, List.length_map, List.length_replicate]; omega
  · have h' : (entB N ds)[i]? = some (some z) := h
    unfold entB at h'
    by_cases hi : i < ds.length + 1
    · rw [List.getElem?_append_left (by simpa using hi)] at h'
      cases i with
      | zero =>
        cases h'
        exact ⟨.ref a, by simp [L2.start], a, rfl, rfl⟩
      | succ i =>
        rw [List.getElem?_cons_succ, List.getElem?_map] at h'
        cases hd : ds[i]? with
        | none => rw [hd] at h'; cases h'
        | some d =>
          rw [hd] at h'
          cases h'
          obtain ⟨v, h1, h2⟩ := r.get hd
          refine ⟨v, ?_, ?_⟩
          · unfold L2.start
            rw [List.getElem?_append_left (by rw [List.length_map, List.length_cons, e]; exact hi), List.getElem?_map, List.getElem?_cons_succ, h1]; rfl
          · show RepD K _ H d v
            rw [own_one]; exact h2
    · rw [List.getElem?_append_right (by simpa using hi), List.getElem?_replicate] at h'
      split at h' <;> cases h'
  · have : b = a := by simpa using h
    subst this
    exact na
  · cases n with
    | zero =>
      cases h1; cases h2
      show RepM K _ _ H a c
      rw [own_one]; exact rc
    | succ n => simp at h2
  · have : b = a := by simpa using h
    subst this
    obtain ⟨o, h1, h2, _, h3⟩ := rc.ex
    exact ⟨o, h1, h2, h3⟩
end
def RoomG (gd : Bool) (k : Nat) (A : Around) : Prop := Room k A ∧ (gd = true → A.guards = some [])
theorem RoomG.mono {gd gd' : Bool} {j k : Nat} {A : Around} (r : RoomG gd k A) (h : j ≤ k) (hg : (gd' && !gd) = false := by rfl) : RoomG gd' j A := ⟨r.1.mono h, fun e => r.2 (by cases gd <;> cases gd' <;> simp_all)⟩
theorem RoomG.units {gd : Bool} {k : Nat} {A : Around} (r : RoomG gd k A) : A.units + 64 < cLine := r.1.units
/-- the code object of the def at f -/
def CodeIs (K : PySem.W.Frag) (f : Addr) (cdv : Value) : Prop := ∃ (oc : Value) (od : Option Addr) (fd : FuncData) (osl : Array (Option Value)) (q : Str), K.lookup f = some ⟨oc, od, .func fd, osl⟩ ∧ fd.code = cdv ∧ PySem.W.codeIn K cdv q = true
/-- a def's promise -/
structure FnG (gd : Bool) (P : Program) (w : World) (K : PySem.W.Frag) (mg : Str → Option Value) (base : Heap) (k : Nat) (f : Addr) (fd : FuncData) (ps : List Str) (sp : Sp) : Prop where
  len : ∀ vs H Q E, sp vs H Q E → vs.length = ps.length
  run : ∀ (A : Around) (outer : List Env) (s : Shared) (H : Hp) (args : Args) (us : List Value) (vs : List V) (Q : VK) (E : XK), RoomG gd k A → Env0 P w K mg base A outer s H → BindsTo s fd args (ps.zip us) → Vals vs us → sp vs H Q E →
    codeAny (model P w) A (.call (.ref f) args) (CR (L2.CX P w) outer P w H s Q E) s
theorem FnG.fnOk {P : Program} {w : World} {K : PySem.W.Frag} {mg : Str → Option Value} {base : Heap} {k : Nat} {f : Addr} {fd : FuncData} {ps : List Str} {sp : Sp} (F : FnG false P w K mg base k f fd ps sp) : FnOk P w K mg base (L2.CX P w) k f fd ps sp :=
  ⟨F.len, fun A outer s H args us vs Q E hr => F.run A outer s H args us vs Q E ⟨hr, fun z => nomatch z⟩⟩
section
variable {P : Program} {w : World} {K : PySem.W.Frag} {mg : Str → Option Value} {base : Heap} {x qual : Str} {params : Arguments} {body : List Stmt} {scope : Scope} {dvs : List V} {kws : List (Str × V)} {f : Addr} {fd : FuncData}
theorem FunD.okG {gd : Bool} {N ps : List Str} {k : Nat} {sp : Sp} (F : FunD K x qual params body scope dvs kws f fd) (S : FnScope N ps scope) (len : ∀ vs H Q E, sp vs H Q E → vs.length = ps.length)
    (hbody : ∀ (cdv : Value), CodeIs K f cdv → ∀ (A : Around) (outer : List Env) (s : Shared) (H : Hp) (vs : List V) (Q : VK) (E : XK), RoomG gd k (A.deeper (envOfC qual scope s.heap.objs.size f cdv)) → sp vs H Q E →
      ∃ t, PSs (cxOf (L2.CX P w) P w K mg base N qual scope f cdv A outer s H E) body t ∧ t { nx := fun _ H' => Q .non H', rt := Q } (start N vs) H) : FnG gd P w K mg base (k + 1) f fd ps sp := by
  obtain ⟨oc, od, dV, kV, doc, pm, an, cdv, ct, osl, rfl, lk, hcd, _, _⟩ := F.ex
  exact ⟨len, fun A outer s H args us vs Q E hr e0 hb r hsp => LamX.run_ofS lk hcd S hr.1 e0 hb r (len _ _ _ _ hsp) fun hr' => hbody cdv ⟨_, _, _, _, _, lk, rfl, hcd⟩ A outer s H vs Q E ⟨hr', hr.2⟩ hsp⟩
end
def toD (QD : D → Prop) : QZ := fun z _ => match z with
  | .d r => QD r
  | .m _ => False
def MC.closed : MC → Prop
  | .ins _ _ l => ∃ l' : List D, l = l'.map Z.d
  | _ => True
theorem RepM.shut {K : PySem.W.Frag} {own own' : Addr → Prop} {M M' : List Addr} {H : Hp} {a : Addr} (m : Mv own own' H H) : ∀ {c : MC}, c.closed → RepM K own M H a c → RepM K own' M' H a c
  | .lst l, _, h => by
    obtain ⟨xs, r, e⟩ := h
    exact ⟨xs, RepL.mv m _ _ r, e⟩
  | .dic ks l, _, h => by
    obtain ⟨xs, r, z, e⟩ := h
    exact ⟨xs, RepL.mv m _ _ r, z, e⟩
  | .ins C ns l, hc, h => by
    obtain ⟨l', rfl⟩ := hc
    obtain ⟨dx, xs, r, z, e⟩ := h
    exact ⟨dx, xs, .ofD (RepL.mv m _ _ r.toD), z, e⟩
def toDB (QD : D → MC → Prop) : QZ := fun z ds => match z, ds.w[0]? with
  | .d r, some (some c) => c.closed ∧ QD r c
  | _, _ => False
def toEB (ED : EX → MC → Prop) : QE := fun x ds => match ds.w[0]? with
  | some (some c) => c.closed ∧ ED x c
  | _ => False
/-- the wishes at a body's ends -/
def enA (QD : D → Prop) (ED : EX → Prop) : DE := { nx := fun _ => QD .non, rt := toD QD, er := fun x _ => ED x }
def enB (QD : D → MC → Prop) (ED : EX → MC → Prop) : DE := { nx := fun ds => toDB QD (.d .non) ds, rt := toDB QD, er := toEB ED }
section
variable {P : Program} {w : World} {K : PySem.W.Frag} {mg : Str → Option Value} {base : Heap} {x qual : Str} {params : Arguments} {body : List Stmt} {scope : Scope} {dvs : List V} {kws : List (Str × V)} {f : Addr} {fd : FuncData} {T : List (Addr × Str)}
theorem bodyA {gd : Bool} {N ps : List Str} {k : Nat} {S : SA} (F : FunD K x qual params body scope dvs kws f fd) (sc : FnScope N ps scope) (len : ∀ ds QD ED, S ds QD ED → ds.length = ps.length)
    (hbody : ∀ (cdv : Value), CodeIs K f cdv → ∀ (A : Around) (outer : List Env) (s : Shared) (H : Hp) (E : XK) (g : G), g.T = T → RoomG gd k (A.deeper (envOfC qual scope s.heap.objs.size f cdv)) →
      ∃ t, PXB (cxOf (L2.CX P w) P w K mg base N qual scope f cdv A outer s H E) g (fun cls d _ H => E cls d H) body t ∧ ∀ ds QD ED, S ds QD ED → t (enA QD ED) ⟨ent N ds, []⟩) : FnG gd P w K mg base (k + 1) f fd ps (spA K T S) := by
  have hpl : ps.length ≤ N.length := by have := congrArg List.length sc.pre; rw [List.length_take] at this; omega
  refine FunD.okG F sc (fun vs H Q E h => ?_) (fun cdv hcd A outer s H vs Q E hr h => ?_)
  · obtain ⟨ow, ds, QD, ED, _, r, _, hS, _⟩ := h
    rw [RepL.length r]; exact len _ _ _ hS
  · obtain ⟨ow, ds, QD, ED, ho, r, ht, hS, hQ, hE⟩ := h
    obtain ⟨t, hp, hq⟩ := hbody cdv hcd A outer s H E ⟨ow, T, []⟩ rfl hr
    have hl : vs.length ≤ N.length := by rw [RepL.length r, len _ _ _ hS]; exact hpl
    have R := repS_A (T := T) (N := N) ho r ht hl
    have fr : ∀ {M' : List Addr} {ds' : DS} {H' : Hp}, Nxt ⟨ow, T, []⟩ [] ⟨ent N ds, []⟩ H M' ds' H' → Fr0 H H' := fun {M' ds' H'} N' => by
      refine ⟨fun b o hb t => ?_, N'.mv.tb⟩
      by_cases hw : ow b
      · rw [N'.out b hw]; exact hb
      · exact N'.mv.keep b o hb (by rw [own_nil]; exact hw) t
    have back : ∀ {M' : List Addr} {ds' : DS} {H' : Hp}, Mv (G.own ⟨ow, T, []⟩ M' ds') ow H' H' := fun {M' ds' H'} => ⟨fun _ _ h _ _ => h, fun _ ps h => ⟨ps, h⟩, fun b h => .inl (.inl h)⟩
    refine ⟨fun De σ H0 => σ = L2.start N vs ∧ H0 = H ∧ De = { nx := fun _ H' => Q .non H', rt := Q }, ⟨fun pins s1 σ H0 De I hh => ?_⟩, rfl, rfl, rfl⟩
    obtain ⟨rfl, rfl, rfl⟩ := hh
    refine thn (hp.run pins s1 _ _ [] ⟨ent N ds, []⟩ (enA QD ED) I R (hq ds QD ED hS) (fun y ds' M' σ' H' cls d he R' N' re => hE y cls d H' he (fr N') ?_ R'.tabs)) fun fl s2 q => ?_
    · exact ⟨re.1, fun a => RepD.mv back _ _ (re.2 a)⟩
    · cases fl with
      | next =>
        obtain ⟨ds', M', σ', H', I', R', N', q⟩ := q
        exact ⟨σ', H', I', hQ .non .non H' q (fr N') rfl R'.tabs⟩
      | brk => obtain ⟨_, _, _, _, _, _, _, q⟩ := q; exact False.elim q
      | cont => obtain ⟨_, _, _, _, _, _, _, q⟩ := q; exact False.elim q
      | ret u =>
        obtain ⟨z, ds', M', v, σ', H', τ, I', r', R', N', rz, q⟩ := q
        cases z with
        | m n => exact False.elim q
        | d y => exact ⟨v, σ', H', I', r', hQ y v H' q (fr N') (RepD.mv back _ _ rz) R'.tabs⟩
theorem bodyB {gd : Bool} {N ps : List Str} {k : Nat} {S : SB} (F : FunD K x qual params body scope dvs kws f fd) (sc : FnScope N ps scope) (len : ∀ c ds QD ED, S c ds QD ED → ds.length + 1 = ps.length)
    (hbody : ∀ (cdv : Value), CodeIs K f cdv → ∀ (A : Around) (outer : List Env) (s : Shared) (H : Hp) (E : XK) (g : G), g.T = T → RoomG gd k (A.deeper (envOfC qual scope s.heap.objs.size f cdv)) →
      ∃ t, PXB (cxOf (L2.CX P w) P w K mg base N qual scope f cdv A outer s H E) g (fun cls d _ H => E cls d H) body t ∧ ∀ c ds QD ED, S c ds QD ED → t (enB QD ED) ⟨entB N ds, [some c]⟩) : FnG gd P w K mg base (k + 1) f fd ps (spB K T S) := by
  have hpl : ps.length ≤ N.length := by have := congrArg List.length sc.pre; rw [List.length_take] at this; omega
  refine FunD.okG F sc (fun vs H Q E h => ?_) (fun cdv hcd A outer s H vs Q E hr h => ?_)
  · obtain ⟨ow, a, vs', ds, c, QD, ED, rfl, _, _, r, _, _, hS, _⟩ := h
    rw [List.length_cons, RepL.length r]; exact len _ _ _ _ hS
  · obtain ⟨ow, a, vs', ds, c, QD, ED, rfl, na, ho, r, rc, ht, hS, hQ, hE⟩ := h
    obtain ⟨t, hp, hq⟩ := hbody cdv hcd A outer s H E ⟨ow, T, []⟩ rfl hr
    have hl : vs'.length + 1 ≤ N.length := by rw [RepL.length r, len _ _ _ _ hS]; exact hpl
    have R := repS_B (T := T) (N := N) na ho r rc ht hl
    have fr : ∀ {M' : List Addr} {ds' : DS} {H' : Hp}, Nxt ⟨ow, T, []⟩ [a] ⟨entB N ds, [some c]⟩ H M' ds' H' → FrB a H H' := fun {M' ds' H'} N' => by
      refine ⟨fun b o hb nb t => ?_, N'.mv.tb⟩
      by_cases hw : ow b
      · rw [N'.out b hw]; exact hb
      · exact N'.mv.keep b o hb (by rw [own_one]; exact fun z => z.elim hw nb) t
    have fin : ∀ {M' : List Addr} {ds' : DS} {σ' : L2.St} {H' : Hp} {c' : MC}, RepS K ⟨ow, T, []⟩ M' ds' σ' H' → Nxt ⟨ow, T, []⟩ [a] ⟨entB N ds, [some c]⟩ H M' ds' H' → ds'.w[0]? = some (some c') → c'.closed → Mv (G.own ⟨ow, T, []⟩ M' ds') (ow1 ow a) H' H' ∧ RepM K (ow1 ow a) [a] H' a c' := fun {M' ds' σ' H' c'} R' N' h0 hc => by
      have ha : M'[0]? = some a := pre_get N'.pre rfl
      have m : Mv (G.own ⟨ow, T, []⟩ M' ds') (ow1 ow a) H' H' := ⟨fun _ _ h _ _ => h, fun _ ps h => ⟨ps, h⟩, fun b h => .inl (h.elim .inl fun e => .inr ⟨0, c', by rw [e]; exact ha, h0⟩)⟩
      exact ⟨m, (R'.obj 0 c' a h0 ha).shut m hc⟩
    refine ⟨fun De σ H0 => σ = L2.start N (.ref a :: vs') ∧ H0 = H ∧ De = { nx := fun _ H' => Q .non H', rt := Q }, ⟨fun pins s1 σ H0 De I hh => ?_⟩, rfl, rfl, rfl⟩
    obtain ⟨rfl, rfl, rfl⟩ := hh
    refine thn (hp.run pins s1 _ _ [a] ⟨entB N ds, [some c]⟩ (enB QD ED) I R (hq c ds QD ED hS) (fun y ds' M' σ' H' cls d he R' N' re => ?_)) fun fl s2 q => ?_
    · have he' : toEB ED y ds' := he
      unfold toEB at he'
      split at he'
      · rename_i c' h0
        obtain ⟨m, rm⟩ := fin R' N' h0 he'.1
        exact hE y c' cls d H' he'.2 (fr N') ⟨re.1, fun a => RepD.mv m _ _ (re.2 a)⟩ rm R'.tabs
      · exact he'.elim
    · cases fl with
      | next =>
        obtain ⟨ds', M', σ', H', I', R', N', q⟩ := q
        have q' : toDB QD (.d .non) ds' := q
        unfold toDB at q'
        split at q'
        · rename_i r' c' e h0
          cases e
          obtain ⟨m, rm⟩ := fin R' N' h0 q'.1
          exact ⟨σ', H', I', hQ .non c' .non H' q'.2 (fr N') rfl rm R'.tabs⟩
        · exact q'.elim
      | brk => obtain ⟨_, _, _, _, _, _, _, q⟩ := q; exact False.elim q
      | cont => obtain ⟨_, _, _, _, _, _, _, q⟩ := q; exact False.elim q
      | ret u =>
        obtain ⟨z, ds', M', v, σ', H', τ, I', r', R', N', rz, q⟩ := q
        have q' : toDB QD z ds' := q
        unfold toDB at q'
        split at q'
        · rename_i y c' h0
          obtain ⟨m, rm⟩ := fin R' N' h0 q'.1
          exact ⟨v, σ', H', I', r', hQ y c' v H' q'.2 (fr N') (RepD.mv m _ _ rz) rm R'.tabs⟩
        · exact q'.elim
end
end L3

set_option Elab.async false
set_option linter.all false
set_option maxRecDepth 100000
set_option maxHeartbeats 1000000
namespace L3
open PySem PySem.Spec PyProof.Rows L2
section
variable {K : PySem.W.Frag} {g : G} {M : List Addr} {ds : DS} {σ : L2.St} {H H' : Hp}
theorem RepS.outOk (R : RepS K g M ds σ H) : OutOk (g.own M ds) H := fun a h => by
  rcases h with h | h
  · exact R.out a h
  · obtain ⟨o, h1, h2, _, h3⟩ := R.own_some h
    exact ⟨o, h1, h2, h3⟩
theorem RepS.fr0 (R : RepS K g M ds σ H) (f : Fr0 H H') (t : LamX.Tabs g.T H') : RepS K g M ds σ H' ∧ Nxt g M ds H M ds H' := R.same f.1 f.2 t
/-- the thing numbered n was written by a callee -/
theorem RepS.frB (R : RepS K g M ds σ H) {n : Nat} {a : Addr} {c c0 : MC} (h0 : ds.w[n]? = some (some c0)) (ha : M[n]? = some a) (f : FrB a H H') (t : LamX.Tabs g.T H') (hc : RepM K (g.own M ds) [a] H' a c) (cl : c.closed) :
    RepS K g M (ds.put n c) σ H' ∧ Nxt g M ds H M (ds.put n c) H' := by
  have la : live M ds.w a := ⟨n, c0, ha, h0⟩
  have own_eq : ∀ b, g.own M (ds.put n c) b → g.own M ds b := fun b h => h.elim .inl fun h => .inr ((live_put h0).mp h)
  have m : Mv (g.own M ds) (g.own M (ds.put n c)) H H' := ⟨fun b u h nb t => f.1 b u h (fun z => nb (.inr (z ▸ la))) t, f.2, fun b h => .inl (own_eq b h)⟩
  have m0 : Mv (g.own M ds) (g.own M (ds.put n c)) H' H' := ⟨fun _ _ h _ _ => h, fun _ ps h => ⟨ps, h⟩, fun b h => .inl (own_eq b h)⟩
  have pr : ∃ more, M = M ++ more := ⟨[], by simp⟩
  have na : ∀ b, g.ow b → b ≠ a := fun b h z => R.apart a (List.mem_of_getElem? ha) (z ▸ h)
  have keep : ∀ b o, H b = some o → b ≠ a → (∀ ps, o ≠ .tbl ps) → H' b = some o := f.1
  refine ⟨{ len := R.len, slot := fun i z h => ?_, mlen := ?_, nd := R.nd, apart := R.apart, obj := fun k x b h1 h2 => ?_, gh := fun p hp => RepD.mv m _ _ (R.gh p hp), tabs := t, out := fun b h => ?_, ex := fun b h => ?_ }, m, pr, fun b h => ?_⟩
  · obtain ⟨v, h1, h2⟩ := R.slot i z h
    exact ⟨v, h1, h2.mv m pr⟩
  · show M.length = (ds.w.set n (some c)).length
    rw [List.length_set]; exact R.mlen
  · by_cases hk : k = n
    · subst hk
      rw [ha] at h2; cases h2
      have h1' : (ds.w.set k (some c))[k]? = some (some x) := h1
      rw [List.getElem?_set_self (List.getElem?_eq_some_iff.mp h0).1] at h1'
      cases h1'
      exact hc.shut m0 cl
    · have h1' : (ds.w.set n (some c))[k]? = some (some x) := h1
      rw [List.getElem?_set_ne (Ne.symm hk)] at h1'
      have r := R.obj k x b h1' h2
      obtain ⟨o, q1, q2, _⟩ := r.ex
      exact r.mv m pr (by rw [keep b o q1 (fun z => hk (nodup_at R.nd h2 (z ▸ ha))) q2, q1])
  · obtain ⟨u, q1, q2, q3⟩ := R.out b h
    exact ⟨u, keep b u q1 (na b h) q2, q2, q3⟩
  · by_cases hb : b = a
    · subst hb
      obtain ⟨o, q1, q2, _, q3⟩ := hc.ex
      exact ⟨o, q1, q2, q3⟩
    · obtain ⟨u, q1, q2, q3⟩ := R.ex b h
      exact ⟨u, keep b u q1 hb q2, q2, q3⟩
  · obtain ⟨u, q1, q2, q3⟩ := R.out b h
    rw [keep b u q1 (na b h) q2, q1]
end
section
variable {X : Cx} {g : G} {W : WX} {gd : Bool} {k n : Nat} {f : Addr} {fd : FuncData} {ps : List Str} {T : List (Addr × Str)} {S : SA} {SBt : SB} {x : Str} {p pos apos : Pos} {e : Expr} {es : List Expr} {t : TLi}
theorem run_fnX {pins : List (Addr × Obj)} {σ : L2.St} {H : Hp} {s : Shared} {Q : VK} {us ws : List Value} {kw : List (Str × Value)} {vs : List V} {sp : Sp} (F : FnG gd X.prog X.w X.K X.mg X.base k f fd ps sp) (hr : RoomG gd k X.A) (tk : Takes X W)
    (I : L2.Inv X pins σ H s) (hb : BindsTo s fd ⟨ws, kw⟩ (ps.zip us)) (r : Vals vs us) (h : sp vs H Q (fun cls d H' => W cls d σ H')) : wpAny (model X.prog X.w) X.A (call (.ref f) ws kw) (EP X pins σ Q) X.xe s := by
  refine wpAny_call (codeAny_mono (F.run X.A X.stack s H ⟨ws, kw⟩ us vs Q _ hr I.env0 hb r h) fun r s' hq => ?_)
  cases r with
  | error e => exact tk e s' (XE.of_call I (fun _ _ _ h => h) hq)
  | ok fl =>
    cases fl with
    | ret u => exact I.after hq
    | next => exact False.elim hq
    | brk => exact False.elim hq
    | cont => exact False.elim hq
/-- the promise over data, met in a state -/
theorem spA_in {σ : L2.St} {M : List Addr} {ds : DS} {H : Hp} {l : List D} {vs : List V} {QD : QZ} {ED : QE} (hT : g.T = T) (R : RepS X.K g M ds σ H) (r : RepL X.K (g.own M ds) H l vs) (hE : EW X g W σ M ds H ED) (h : S l (fun y => QD (.d y) ds) (fun y => ED y ds)) :
    spA X.K T S vs H (Mid X g σ M ds H QD) (fun cls d H' => W cls d σ H') := by
  subst hT
  refine ⟨g.own M ds, l, _, _, R.outOk, r, R.tabs, h, fun y v H' q f rv t => ?_, fun y cls d H' q f re t => ?_⟩
  · obtain ⟨R', N⟩ := R.fr0 f t
    exact ⟨.d y, ds, M, R', N, rv, q⟩
  · obtain ⟨R', N⟩ := R.fr0 f t
    exact hE y ds M H' cls d q R' N re
theorem spB_in {σ : L2.St} {M : List Addr} {ds : DS} {H : Hp} {n : Nat} {c : MC} {l : List D} {v : V} {vs : List V} {QD : QZ} {ED : QE} (hT : g.T = T) (R : RepS X.K g M ds σ H) (rm : RepZ X.K (g.own M ds) M H (.m n) v) (r : RepL X.K (g.own M ds) H l vs) (hc : ds.w[n]? = some (some c)) (cl : c.closed) (hE : EW X g W σ M ds H ED)
    (h : SBt c l (fun y c' => c'.closed ∧ QD (.d y) (ds.put n c')) (fun y c' => c'.closed ∧ ED y (ds.put n c'))) :
    spB X.K T SBt (v :: vs) H (Mid X g σ M ds H QD) (fun cls d H' => W cls d σ H') := by
  subst hT
  obtain ⟨a, ha, rfl⟩ := rm
  have la : live M ds.w a := ⟨n, c, ha, hc⟩
  have e : ow1 (fun b => g.own M ds b ∧ b ≠ a) a = g.own M ds := by
    funext b
    simp only [ow1, eq_iff_iff]
    refine ⟨fun h => h.elim (·.1) fun z => .inr (z ▸ la), fun h => ?_⟩
    by_cases hb : b = a
    · exact .inr hb
    · exact .inl ⟨h, hb⟩
  refine ⟨fun b => g.own M ds b ∧ b ≠ a, a, vs, l, c, _, _, rfl, fun z => z.2 rfl, fun b h => R.outOk b h.1, by rw [e]; exact r, by rw [e]; exact (R.obj n c a hc ha).shut .refl cl, R.tabs, h, fun y c' v H' q f rv rc t => ?_, fun y c' cls d H' q f re rc t => ?_⟩
  · rw [e] at rv rc
    obtain ⟨R', N⟩ := R.frB hc ha f t rc q.1
    refine ⟨.d y, ds.put n c', M, R', N, RepD.mv (own' := g.own M (ds.put n c')) ⟨fun _ _ h _ _ => h, fun _ ps h => ⟨ps, h⟩, fun b h => .inl (h.elim .inl fun h => .inr ((live_put hc).mp h))⟩ _ _ rv, q.2⟩
  · rw [e] at re rc
    obtain ⟨R', N⟩ := R.frB hc ha f t rc q.1
    have m : Mv (g.own M ds) (g.own M (ds.put n c')) H' H' := ⟨fun _ _ h _ _ => h, fun _ ps h => ⟨ps, h⟩, fun b h => .inl (h.elim .inl fun h => .inr ((live_put hc).mp h))⟩
    exact hE y (ds.put n c') M H' cls d q.2 R' N ⟨re.1, fun a => RepD.mv m _ _ (re.2 a)⟩
def kA (S : SA) (dvs : List D) (Q : QZ) (E : QE) : List Z → DS → Prop := fun zs ds => match unD zs with
  | some l => S (l ++ dvs) (fun y => Q (.d y) ds) (fun y => E y ds)
  | none => False
def kB (S : SB) (dvs : List D) (Q : QZ) (E : QE) : List Z → DS → Prop := fun zs ds => match zs with
  | .m n :: r => match ds.w[n]?, unD r with
    | some (some c), some l => c.closed ∧ S c (l ++ dvs) (fun y c' => c'.closed ∧ Q (.d y) (ds.put n c')) (fun y c' => c'.closed ∧ E y (ds.put n c'))
    | _, _ => False
  | _ => False
def dCallA (S : SA) (dvs : List D) (t : TLi) : TD := fun ds Q E => t ds (kA S dvs Q E) E
def dCallB (S : SB) (dvs : List D) (t : TLi) : TD := fun ds Q E => t ds (kB S dvs Q E) E
variable {dvs : List D} {dws : List V} {dus : List Value}
theorem px_callA (F : FnG gd X.prog X.w X.K X.mg X.base k f fd ps (spA X.K T S)) (hT : g.T = T) (hr : RoomG gd k X.A) (tk : Takes X W) (hg : Gl X x) (hm : X.mg x = some (.ref f)) (hk : PySem.W.keepIn X.K (.ref f) = true) (hb : Binds X.K fd ps dus) (hd : Vals dws dus) (hdd : ∀ own H, RepL X.K own H dvs dws)
    (ha : PXA X g W (e :: es) t) (hdb : (x == ("__debug__" : Str)) = false := by decide) (he : starEach (e :: es) X.env = (false, eval e X.env) :: starEach es X.env := by rfl) (hpl : (backTo pos (starEach es X.env)).any (·.1) = false := by rfl) :
    PX X g W (.Call (.Name x p) (e :: es) [] pos) (dCallA S dvs t) := by
  refine ⟨fun pins s σ H M ds QD ED I R ht hE => ?_⟩
  refine wpAny_Call_Name_kw (ld_glob I hg hm ?_ hdb)
  refine PySem.W.callWith_K (h₀ := X.base) I.ok.mod.kin hk (thn (ha.run pos pins s σ H M ds _ ED I R ht hE) fun us s1 ⟨zs, ds1, M1, vs, H1, I1, r1, R1, N1, rz, q1⟩ => ⟨I1.kIn, ?_⟩) he hpl
  unfold kA at q1
  split at q1
  · rename_i l el
    obtain rfl := unD_of el
    have sp := spA_in hT R1 (rz.toD.append (hdd _ _)) (hE.nxt N1) q1
    have r2 : Vals (vs ++ dws) (us ++ dus) := r1.append hd
    have hl : (us ++ dus).length = ps.length := by rw [← r2.length]; exact F.len _ _ _ _ sp
    exact thn (run_fnX F hr tk I1 (hb s1 us I1.kIn hl) r2 sp) fun _ _ h => (EPD.of h).nxt N1
  · exact q1.elim
theorem px_callB' (F : FnG gd X.prog X.w X.K X.mg X.base k f fd ps (spB X.K T SBt)) (hT : g.T = T) (hr : RoomG gd k X.A) (tk : Takes X W) (hg : Gl X x) (hm : X.mg x = some (.ref f)) (hk : PySem.W.keepIn X.K (.ref f) = true) (hb : Binds X.K fd ps dus) (hd : Vals dws dus) (hdd : ∀ own H, RepL X.K own H dvs dws)
    (ha : PXA X g W (e :: es) t) (hdb : (x == ("__debug__" : Str)) = false := by decide) (he : starEach (e :: es) X.env = (false, eval e X.env) :: starEach es X.env := by rfl) (hpl : (backTo pos (starEach es X.env)).any (·.1) = false := by rfl) :
    PX X g W (.Call (.Name x p) (e :: es) [] pos) (dCallB SBt dvs t) := by
  refine ⟨fun pins s σ H M ds QD ED I R ht hE => ?_⟩
  refine wpAny_Call_Name_kw (ld_glob I hg hm ?_ hdb)
  refine PySem.W.callWith_K (h₀ := X.base) I.ok.mod.kin hk (thn (ha.run pos pins s σ H M ds _ ED I R ht hE) fun us s1 ⟨zs, ds1, M1, vs, H1, I1, r1, R1, N1, rz, q1⟩ => ⟨I1.kIn, ?_⟩) he hpl
  unfold kB at q1
  split at q1
  · split at q1
    · rename_i c l hc el
      obtain rfl := unD_of el
      obtain ⟨v, vr, rfl, rm, rr⟩ := rz
      have sp := spB_in hT R1 rm (rr.toD.append (hdd _ _)) hc q1.1 (hE.nxt N1) q1.2
      have r2 : Vals (v :: vr ++ dws) (us ++ dus) := r1.append hd
      have hl : (us ++ dus).length = ps.length := by rw [← r2.length]; exact F.len _ _ _ _ sp
      exact thn (run_fnX F hr tk I1 (hb s1 us I1.kIn hl) r2 sp) fun _ _ h => (EPD.of h).nxt N1
    · exact q1.elim
  · exact q1.elim
variable {kws : List Keyword} {tkw : TLi} {ks : List Str}
structure PXK (X : Cx) (g : G) (W : WX) (kws : List Keyword) (t : TLi) : Prop where
  run : ∀ (pos : Pos) (pins : List (Addr × Obj)) (s : Shared) (σ : L2.St) (H : Hp) (M : List Addr) (ds : DS) (QD : List Z → DS → Prop) (ED : QE), Inv X pins σ H s → RepS X.K g M ds σ H → t ds QD ED → EW X g W σ M ds H ED →
    wpAny (model X.prog X.w) X.A (evalAll ((backToKw pos (keywordEach kws X.env)).map (·.2))) (LPD X g pins σ M ds H QD) X.xe s
theorem pxk_nil : PXK X g W [] dNil := ⟨fun _ _ _ _ H M ds QD ED I R h _ => wpAny_evalAll_nil ⟨[], ds, M, [], H, I, .nil, R, .refl, rfl, h⟩⟩
theorem pxk_cons {nm : Option Str} {kpos : Pos} {t : TD} {u : TLi} (ha : PX X g W e t) (hr : PXK X g W kws u) : PXK X g W (⟨nm, e, kpos⟩ :: kws) (dCons t u) := by
  refine ⟨fun pos pins s σ H M ds QD ED I R ht hE => ?_⟩
  show wpAny _ _ (evalAll ((do let v ← eval e X.env; standAt pos; pure v) :: (backToKw pos (keywordEach kws X.env)).map (·.2))) _ _ s
  refine wpAny_evalAll_cons (wpAny_bind (thn (ha.run pins s σ H M ds _ ED I R ht hE) fun vv s1 ⟨x, ds1, M1, v, H1, I1, r1, R1, N1, z1, q1⟩ => wpAny_bind (wpAny_standAt (wpAny_pure ?_))))
  exact thn (hr.run pos pins s1 σ H1 M1 ds1 _ ED I1 R1 q1 (hE.nxt N1)) fun us s2 ⟨xs, ds2, M2, vs, H2, I2, r2, R2, N2, z2, q2⟩ => ⟨x :: xs, ds2, M2, v :: vs, H2, I2, .cons r1 r2, R2, N1.trans N2, ⟨v, vs, rfl, z1.mv N2.mv N2.pre, z2⟩, q2⟩
/-- how n positional values and the keywords' values (names ks) bind: gV puts them, with the defaults, in the parameters' order -/
structure KB (K : PySem.W.Frag) (fd : FuncData) (ps : List Str) (n : Nat) (ks : List Str) (gD : List D → List D → List D) : Prop where
  ex : ∀ (s : Shared) (own : Addr → Prop) (H : Hp) (l m : List D) (vs zs : List V) (us ws : List Value), K.In s.heap → RepL K own H l vs → RepL K own H m zs → Vals vs us → Vals zs ws → us.length = n → ws.length = ks.length →
    ∃ (vs' : List V) (us' : List Value), BindsTo s fd ⟨us, ks.zip ws⟩ (ps.zip us') ∧ RepL K own H (gD l m) vs' ∧ Vals vs' us'
def kKA (n m : Nat) (S : SA) (gD : List D → List D → List D) (Q : QZ) (E : QE) (zs : List Z) : List Z → DS → Prop := fun ys ds => match unD zs, unD ys with
  | some l, some r => (l.length = n ∧ r.length = m) ∧ S (gD l r) (fun y => Q (.d y) ds) (fun y => E y ds)
  | _, _ => False
def dCallK (n m : Nat) (S : SA) (gD : List D → List D → List D) (t tk : TLi) : TD := fun ds Q E => t ds (fun zs ds1 => tk ds1 (kKA n m S gD Q E zs) E) E
theorem px_callK {gD : List D → List D → List D} (F : FnG gd X.prog X.w X.K X.mg X.base k f fd ps (spA X.K T S)) (hT : g.T = T) (hr : RoomG gd k X.A) (tk : Takes X W) (hg : Gl X x) (hm : X.mg x = some (.ref f)) (hk : PySem.W.keepIn X.K (.ref f) = true) (hb : KB X.K fd ps n ks gD)
    (ha : PXA X g W (e :: es) t) (hkw : PXK X g W kws tkw) (hall : (backToKw pos (keywordEach kws X.env)).all (·.1.isSome) = true := by rfl) (hks : (backToKw pos (keywordEach kws X.env)).filterMap (·.1) = ks := by rfl)
    (hdb : (x == ("__debug__" : Str)) = false := by decide) (he : starEach (e :: es) X.env = (false, eval e X.env) :: starEach es X.env := by rfl)
    (hpl : ((backTo pos (starEach (e :: es) X.env)).any (·.1) || (backToKw pos (keywordEach kws X.env)).any (·.1.isNone)) = false := by rfl) :
    PX X g W (.Call (.Name x p) (e :: es) kws pos) (dCallK n ks.length S gD t tkw) := by
  refine ⟨fun pins s σ H M ds QD ED I R ht hE => ?_⟩
  refine wpAny_Call_Name_kw (ld_glob I hg hm ?_ hdb)
  refine PySem.W.callWith_KW (h₀ := X.base) I.ok.mod.kin hk hall (thn (ha.run pos pins s σ H M ds _ ED I R ht hE) fun us s1 ⟨zs, ds1, M1, vs, H1, I1, r1, R1, N1, rz, q1⟩ => ?_) hpl he
  refine thn (hkw.run pos pins s1 σ H1 M1 ds1 _ ED I1 R1 q1 (hE.nxt N1)) fun ws s2 ⟨ys, ds2, M2, vz, H2, I2, r2, R2, N2, ry, q2⟩ => ⟨I2.kIn, ?_⟩
  unfold kKA at q2
  split at q2
  · rename_i l r el er
    obtain rfl := unD_of el
    obtain rfl := unD_of er
    obtain ⟨⟨l1, l2⟩, q2⟩ := q2
    have rl := RepL.mv N2.mv _ _ rz.toD
    have e1 : us.length = n := by rw [← r1.length, RepL.length rl, l1]
    have e2 : ws.length = ks.length := by rw [← r2.length, RepL.length ry.toD, l2]
    obtain ⟨vs', us', hbt, rr, rv⟩ := hb.ex s2 _ H2 l r vs vz us ws I2.kIn rl ry.toD r1 r2 e1 e2
    rw [hks]
    exact thn (run_fnX F hr tk I2 hbt rv (spA_in hT R2 rr ((hE.nxt N1).nxt N2) q2)) fun _ _ h => (EPD.of h).nxt (N1.trans N2)
  · exact q2.elim
end
end L3

set_option Elab.async false
set_option linter.all false
set_option maxRecDepth 100000
set_option maxHeartbeats 1000000
namespace L3
open PySem PySem.Spec PyProof.Rows L2
section
variable {X : Cx} {g : G} {W : WX} {pos : Pos} {st : Stmt} {sts : List Stmt}
def dNever : TSd := fun _ _ => False
theorem pxs_never : PXS X g W st dNever := ⟨fun _ _ _ _ _ _ _ _ _ h _ => h.elim⟩
theorem pxb_never : PXB X g W sts dNever := ⟨fun _ _ _ _ _ _ _ _ _ h _ => h.elim⟩
def dNeverE : TD := fun _ _ _ => False
theorem px_never {e : Expr} : PX X g W e dNeverE := ⟨fun _ _ _ _ _ _ _ _ _ _ h _ => h.elim⟩
/-- the wish of a comprehension's block: no exception leaves it -/
abbrev W0 : WX := fun _ _ _ _ => False
def wipeD (l : List (Option Z)) : List Nat → List (Option Z)
  | [] => l
  | v :: vs => (wipeD l vs).set v none
theorem wipeD_length (l : List (Option Z)) : ∀ vs, (wipeD l vs).length = l.length
  | [] => rfl
  | v :: vs => by unfold wipeD; rw [List.length_set, wipeD_length l vs]
theorem wipeD_some {l : List (Option Z)} {i : Nat} {z : Z} : ∀ {vs : List Nat}, (wipeD l vs)[i]? = some (some z) → l[i]? = some (some z) ∧ i ∉ vs
  | [], h => ⟨h, by simp⟩
  | v :: vs, h => by
    unfold wipeD at h
    by_cases hi : v = i
    · subst hi
      by_cases hv : v < (wipeD l vs).length
      · rw [List.getElem?_set_self hv] at h; cases h
      · rw [List.getElem?_eq_none (by simpa using hv)] at h; cases h
    · rw [List.getElem?_set_ne hi] at h
      obtain ⟨h1, h2⟩ := wipeD_some h
      exact ⟨h1, by simp only [List.mem_cons, not_or]; exact ⟨fun e => hi e.symm, h2⟩⟩
theorem wipe_get {σ : L2.St} {i : Nat} : ∀ {vs : List Nat}, i ∉ vs → (wipe σ vs)[i]? = σ[i]?
  | [], _ => rfl
  | v :: vs, h => by
    unfold wipe
    rw [List.getElem?_set_ne (fun e => h (by simp [e])), wipe_get (fun z => h (List.mem_cons_of_mem _ z))]
theorem wipe_none {σ : L2.St} {i : Nat} : ∀ {vs : List Nat}, i ∈ vs → i < σ.length → (wipe σ vs)[i]? = some none
  | v :: vs, h, hl => by
    unfold wipe
    by_cases e : v = i
    · subst e
      rw [List.getElem?_set_self (by rw [wipe_length]; exact hl)]
    · rw [List.getElem?_set_ne e]
      rcases List.mem_cons.mp h with q | q
      · exact absurd q.symm e
      · exact wipe_none q hl
theorem wipe_ext {σ σ' : L2.St} {vs : List Nat} (hl : σ'.length = σ.length) (h : ∀ i, i ∉ vs → σ'[i]? = σ[i]?) : wipe σ' vs = wipe σ vs := by
  apply List.ext_getElem?
  intro i
  by_cases hi : i ∈ vs
  · by_cases hlt : i < σ.length
    · rw [wipe_none hi (by rw [hl]; exact hlt), wipe_none hi hlt]
    · rw [List.getElem?_eq_none (by rw [wipe_length, hl]; omega), List.getElem?_eq_none (by rw [wipe_length]; omega)]
  · rw [wipe_get hi, wipe_get hi, h i hi]
/-- a target whose names lie among vs -/
structure PXC (X : Cx) (tg : Expr) (vs : List Nat) (gt : TGd) (gl : TG) : Prop where
  pg : PG X tg gl
  sim : ∀ (g : G) (σ : L2.St) (H : Hp) (M : List Addr) (ds : DS) (z : Z) (v : V) (P : DS → Prop) (Q : L2.St → Hp → Prop), RepS X.K g M ds σ H → RepZ X.K (g.own M ds) M H z v → gt z ds P →
    (∀ ds' σ', RepS X.K g M ds' σ' H → ds'.w = ds.w → σ'.length = σ.length → (∀ i, i ∉ vs → σ'[i]? = σ[i]?) → P ds' → Q σ' H) → gl v σ H Q
structure PXCs (X : Cx) (ts : List Expr) (vs : List Nat) (gt : TGsd) (gl : TGs) : Prop where
  pg : PGs X ts gl
  sim : ∀ (g : G) (σ : L2.St) (H : Hp) (M : List Addr) (ds : DS) (l : List D) (xs : List V) (P : DS → Prop) (Q : L2.St → Hp → Prop), RepS X.K g M ds σ H → RepL X.K (g.own M ds) H l xs → gt l ds P →
    (∀ ds' σ', RepS X.K g M ds' σ' H → ds'.w = ds.w → σ'.length = σ.length → (∀ i, i ∉ vs → σ'[i]? = σ[i]?) → P ds' → Q σ' H) → gl xs σ H Q
theorem pxc_name {i : Nat} {x : Str} {vs : List Nat} (hN : X.N.Nodup) (hi : X.N[i]? = some x) (hx : Loc X.env.scope x) (hv : i ∈ vs) (hf : X.fn x = true ∨ X.env.scope.names.lookup x = some .local := by first | exact .inl rfl | exact .inr rfl | assumption) : PXC X (.Name x pos) vs (dgName i) (gName i) :=
  ⟨pg_name hN hi hx hf, fun g σ H M ds z v P Q R rz h hq => hq (ds.set i z) _ (R.set i rz) rfl (by rw [List.length_set]) (fun j hj => by rw [List.getElem?_set_ne (fun e => hj (by rw [← e]; exact hv))]) h⟩
theorem pxcs_nil {vs : List Nat} : PXCs X [] vs dgNil gNil :=
  ⟨pgs_nil, fun g σ H M ds l xs P Q R rl h hq => by
    cases l with
    | cons x l => exact h.elim
    | nil =>
      cases rl
      exact ⟨rfl, hq ds σ R rfl rfl (fun _ _ => rfl) h⟩⟩
theorem pxcs_cons {e : Expr} {es : List Expr} {vs : List Nat} {t : TGd} {u : TGsd} {tl : TG} {ul : TGs} (h1 : PXC X e vs t tl) (h2 : PXCs X es vs u ul)
    (hs : (assignEach (e :: es) X.env).map (·.2) = assign e X.env :: (assignEach es X.env).map (·.2) := by rfl) : PXCs X (e :: es) vs (dgCons t u) (gCons tl ul) :=
  ⟨pgs_cons h1.pg h2.pg hs, fun g σ H M ds l xs P Q R rl h hq => by
    cases l with
    | nil => exact h.elim
    | cons x l =>
      obtain ⟨v, vr, rfl, rx, rl⟩ := rl
      refine ⟨v, vr, rfl, h1.sim g σ H M ds (.d x) v _ _ R rx h fun ds1 σ1 R1 w1 l1 g1 q1 => ?_⟩
      have own : g.own M ds1 = g.own M ds := by unfold G.own; rw [w1]
      exact h2.sim g σ1 H M ds1 l vr P Q R1 (by rw [own]; exact rl) q1 fun ds2 σ2 R2 w2 l2 g2 q2 => hq ds2 σ2 R2 (w2.trans w1) (l2.trans l1) (fun i hi => (g2 i hi).trans (g1 i hi)) q2⟩
def dgTupT (n : Nat) (t : TGsd) : TGd := fun z ds P => match z with
  | .d (.tup l) => l.length = n ∧ t l ds P
  | _ => False
theorem pxc_tup {K : PySem.W.Frag} {es : List Expr} {k : Nat} {vs : List Nat} {t : TGsd} {tl : TGs} {n : Nat} (hK : X.K = K) (hc : X.calm = true) (h : PXCs X es vs t tl)
    (hn : (assignEach es X.env).length = n := by rfl) (hst : (assignEach es X.env).findIdx? (·.1) = none := by rfl) : PXC X (.Tuple es k pos) vs (dgTupT n t) (gTup K n tl) := by
  subst hK
  exact ⟨pg_tup hc h.pg hn hst, fun g σ H M ds z v P Q R rz hw hq => by
    unfold dgTupT at hw
    split at hw
    · rename_i l
      obtain ⟨a, xs, rfl, rl, hqq⟩ := rz
      exact ⟨a, xs, rfl, sqT_of hqq, by rw [RepL.length rl]; exact hw.1, h.sim g σ H M ds l xs P Q R rl hw.2 hq⟩
    · exact hw.elim⟩
structure PXTs (X : Cx) (T : List (Addr × Str)) (ifs : List Expr) (t : TBo) (tt : TT) : Prop where
  pts : PTs X ifs tt
  sim : ∀ (g : G) (σ : L2.St) (H : Hp) (M : List Addr) (ds : DS) (QD : Bool → DS → Prop), g.T = T → RepS X.K g M ds σ H → t ds QD (fun _ _ => False) → tt σ H (MidT X g σ M ds H QD)
  mono : ∀ (σ : L2.St) (H : Hp) (Q Q' : Bool → Hp → Prop), (∀ b H', Q b H' → Q' b H') → tt σ H Q → tt σ H Q'
def dYes : TBo := fun ds Q _ => Q true ds
theorem pxts_nil {T : List (Addr × Str)} : PXTs X T [] dYes tYes := ⟨pts_nil, fun g σ H M ds QD _ R h => ⟨ds, M, R, .refl, h⟩, fun σ H Q Q' h q => h _ _ q⟩
def tOne (K : PySem.W.Frag) (T : List (Addr × Str)) (t : TBo) : TT := fun σ H Q => ∃ (g : G) (M : List Addr) (ds : DS) (QD : Bool → DS → Prop), g.T = T ∧ RepS K g M ds σ H ∧ t ds QD (fun _ _ => False) ∧ ∀ b H', (∃ ds' M', RepS K g M' ds' σ H' ∧ Nxt g M ds H M' ds' H' ∧ QD b ds') → Q b H'
theorem pxts_one {K : PySem.W.Frag} {T : List (Addr × Str)} {c : Expr} {t : TBo} (hK : X.K = K) (h : ∀ g, g.T = T → PXT X g W0 c t) : PXTs X T [c] t (tOne K T t) := by
  subst hK
  exact ⟨⟨fun pins s σ H Q I ⟨g, M, ds, QD, e, R, ht, q⟩ => (pts_one (h g e).pt).run pins s σ H Q I ⟨M, ds, QD, _, R, ht, fun _ _ _ _ _ _ z => z.elim, q⟩⟩,
    fun g σ H M ds QD e R h => ⟨g, M, ds, QD, e, R, h, fun _ _ q => q⟩, fun σ H Q Q' h ⟨g, M, ds, QD, e, R, ht, q⟩ => ⟨g, M, ds, QD, e, R, ht, fun b H' m => h b H' (q b H' m)⟩⟩
def kD (P : D → Prop) : Z → Prop
  | .d x => P x
  | .m _ => False
/-- the turns of a comprehension: the items left, what is made so far -/
def cLoop (gt : TGd) (tt : TBo) (te : TD) (vs : List Nat) (Q : List D → DS → Prop) : List D → List D → DS → Prop
  | [], acc, ds => Q acc ds
  | x :: r, acc, ds => gt (.d x) ⟨wipeD ds.s vs, ds.w⟩ fun ds1 => tt ds1 (fun b ds2 => (b = true → te ds2 (fun z ds3 => kD (fun y => cLoop gt tt te vs Q r (acc ++ [y]) ⟨ds.s, ds3.w⟩) z) (fun _ _ => False)) ∧ (b = false → cLoop gt tt te vs Q r acc ⟨ds.s, ds2.w⟩)) (fun _ _ => False)
def dLc (ti : TIt) (gt : TGd) (tt : TBo) (te : TD) (vs : List Nat) : TD := fun ds Q E => ti ds (fun items ds1 => items.length < sizeLine ∧ cLoop gt tt te vs (fun acc ds2 => Q (.d (.lst acc)) ds2) items [] ds1) E
def dLcM (ti : TIt) (gt : TGd) (tt : TBo) (te : TD) (vs : List Nat) : TD := fun ds Q E => ti ds (fun items ds1 => items.length < sizeLine ∧ cLoop gt tt te vs (fun acc ds2 => Q (.m ds2.w.length) (ds2.more (.lst acc))) items [] ds1) E
/-- the slots of an elder state over the world of a later one -/
theorem RepS.world {K : PySem.W.Frag} {g : G} {M M2 : List Addr} {ds ds2 : DS} {σ σ2 : L2.St} {H H2 : Hp} (R : RepS K g M ds σ H) (R2 : RepS K g M2 ds2 σ2 H2) (N : Nxt g M ds H M2 ds2 H2) : RepS K g M2 ⟨ds.s, ds2.w⟩ σ H2 :=
  { len := R.len, slot := fun i z h => by
      obtain ⟨v, h1, h2⟩ := R.slot i z h
      exact ⟨v, h1, h2.mv N.mv N.pre⟩
    mlen := R2.mlen, nd := R2.nd, apart := R2.apart, obj := R2.obj, gh := R2.gh, tabs := R2.tabs, out := R2.out, ex := R2.ex }
/-- a thing of the outside is written -/
theorem RepS.outw {K : PySem.W.Frag} {g : G} {M : List Addr} {ds : DS} {σ : L2.St} {H : Hp} {D : Addr} {o : HO} (R : RepS K g M ds σ H) (hD : g.ow D) (ht : ∀ ps, o ≠ .tbl ps) (hx : ∀ φ, o ≠ .ext φ) :
    RepS K g M ds σ (L2.upd H D o) ∧ Mv (g.own M ds) (g.own M ds) H (L2.upd H D o) := by
  obtain ⟨u0, q0, qt, qx⟩ := R.out D hD
  have e : ∀ b, b ≠ D → L2.upd H D o b = H b := fun b h => upd_ne h
  have m : Mv (g.own M ds) (g.own M ds) H (L2.upd H D o) := ⟨fun b u h nb _ => by rw [e b fun z => nb (.inl (z ▸ hD))]; exact h, fun b ps h => ⟨ps, by rw [e b fun z => by rw [z, q0] at h; cases h; exact qt ps rfl]; exact h⟩, fun b h => .inl h⟩
  have pr : ∃ more, M = M ++ more := ⟨[], by simp⟩
  have nM : ∀ a ∈ M, a ≠ D := fun a h z => R.apart a h (z ▸ hD)
  refine ⟨{ len := R.len, slot := fun i z h => ?_, mlen := R.mlen, nd := R.nd, apart := R.apart, obj := fun n c a h1 h2 => (R.obj n c a h1 h2).mv m pr (e a (nM a (List.mem_of_getElem? h2))), gh := fun p hp => RepD.mv m _ _ (R.gh p hp), tabs := ?_, out := fun a h => ?_, ex := fun a h => ?_ }, m⟩
  · obtain ⟨v, h1, h2⟩ := R.slot i z h
    exact ⟨v, h1, h2.mv m pr⟩
  · intro p hp
    obtain ⟨ps, t1, t2, t3⟩ := R.tabs p hp
    refine ⟨ps, by rw [e _ fun z => by rw [z, q0] at t1; cases t1; exact qt ps rfl]; exact t1, t2, fun pos cv hcv => ?_⟩
    obtain ⟨c', e1, e2⟩ := t3 pos cv hcv
    exact ⟨c', e1, by rw [e _ fun z => by rw [z, q0] at e2; exact qx _ (Option.some.inj e2)]; exact e2⟩
  · by_cases ha : a = D
    · subst ha
      exact ⟨o, upd_same, ht, hx⟩
    · obtain ⟨u, q1, q2⟩ := R.out a h
      exact ⟨u, by rw [e a ha]; exact q1, q2⟩
  · obtain ⟨u, q1, q2⟩ := R.ex a h
    exact ⟨u, by rw [e a (nM a h)]; exact q1, q2⟩
/-- less of the outside -/
theorem RepS.less {K : PySem.W.Frag} {g g' : G} {M : List Addr} {ds : DS} {σ : L2.St} {H : Hp} (R : RepS K g' M ds σ H) (h : ∀ a, g.ow a → g'.ow a) (hT : g'.T = g.T) (hG : g'.gh = g.gh) : RepS K g M ds σ H ∧ Mv (g'.own M ds) (g.own M ds) H H := by
  have m : Mv (g'.own M ds) (g.own M ds) H H := ⟨fun _ _ h _ _ => h, fun _ ps h => ⟨ps, h⟩, fun b z => .inl (z.elim (fun z => .inl (h b z)) .inr)⟩
  have pr : ∃ more, M = M ++ more := ⟨[], by simp⟩
  refine ⟨{ len := R.len, slot := fun i z e => ?_, mlen := R.mlen, nd := R.nd, apart := fun a ha z => R.apart a ha (h a z), obj := fun n c a h1 h2 => (R.obj n c a h1 h2).mv m pr rfl, gh := fun p hp => RepD.mv m _ _ (R.gh p (hG ▸ hp)), tabs := by rw [← hT]; exact R.tabs, out := fun a z => R.out a (h a z), ex := R.ex }, m⟩
  obtain ⟨v, h1, h2⟩ := R.slot i z e
  exact ⟨v, h1, h2.mv m pr⟩
/-- more of the outside: a new thing -/
theorem RepS.outn {K : PySem.W.Frag} {g : G} {M : List Addr} {ds : DS} {σ : L2.St} {H : Hp} {D : Addr} {o : HO} (R : RepS K g M ds σ H) (hD : H D = none) (ht : ∀ ps, o ≠ .tbl ps) (hx : ∀ φ, o ≠ .ext φ) :
    RepS K ⟨fun b => g.ow b ∨ b = D, g.T, g.gh⟩ M ds σ (L2.upd H D o) ∧ Mv (g.own M ds) (G.own ⟨fun b => g.ow b ∨ b = D, g.T, g.gh⟩ M ds) H (L2.upd H D o) := by
  have e : ∀ b u, H b = some u → L2.upd H D o b = some u := fun b u h => by rw [upd_ne (ne_of_none h hD)]; exact h
  have m : Mv (g.own M ds) (G.own ⟨fun b => g.ow b ∨ b = D, g.T, g.gh⟩ M ds) H (L2.upd H D o) := ⟨fun b u h _ _ => e b u h, fun b ps h => ⟨ps, e b _ h⟩, fun b h => by
    rcases h with (h | h) | h
    · exact .inl (.inl h)
    · exact .inr (by rw [h]; exact hD)
    · exact .inl (.inr h)⟩
  have pr : ∃ more, M = M ++ more := ⟨[], by simp⟩
  refine ⟨{ len := R.len, slot := fun i z h => ?_, mlen := R.mlen, nd := R.nd, apart := fun a h z => ?_, obj := fun n c a h1 h2 => ?_, gh := fun p hp => RepD.mv m _ _ (R.gh p hp), tabs := R.tabs.ext e, out := fun a h => ?_, ex := fun a h => ?_ }, m⟩
  · obtain ⟨v, h1, h2⟩ := R.slot i z h
    exact ⟨v, h1, h2.mv m pr⟩
  · rcases z with z | z
    · exact R.apart a h z
    · obtain ⟨u, q, _⟩ := R.ex a h
      rw [z, hD] at q; cases q
  · have r := R.obj n c a h1 h2
    obtain ⟨u, q1, _⟩ := r.ex
    exact r.mv m pr (by rw [e a u q1, q1])
  · rcases h with h | h
    · obtain ⟨u, q1, q2⟩ := R.out a h
      exact ⟨u, e a u q1, q2⟩
    · exact ⟨o, by rw [h]; exact upd_same, ht, hx⟩
  · obtain ⟨u, q1, q2⟩ := R.ex a h
    exact ⟨u, e a u q1, q2⟩
def liftI (X : Cx) (g : G) (W : WX) (ti : TIt) : TI := fun σ H R => ∃ M ds Q ED, RepS X.K g M ds σ H ∧ ti ds Q ED ∧ EW X g W σ M ds H ED ∧ ∀ J H1, PIQ X g σ M ds H Q J H1 → R J H1
theorem PXI.pi {tg iter : Expr} {ti : TIt} (h : PXI X g W tg iter ti) : PI X tg iter (liftI X g W ti) := by
  refine ⟨fun pins s σ H R I q => ?_⟩
  obtain ⟨M, ds, Q, ED, Rs, ht, he, hq⟩ := q
  refine thn (h.run pins s σ H M ds Q ED I Rs ht he) fun v s1 h1 => thn h1 fun itv s2 ⟨it, fp, tn, J, H', e, I', T, t0, f0, pq⟩ => ⟨it, fp, tn, J, H', e, I', T, t0, f0, hq J H' pq⟩
theorem Mv.back {o1 o2 : Addr → Prop} {H1 H2 : Hp} (a : Mv o1 o2 H1 H2) {c : Addr} (z : H2 c = none) : o1 c ∨ H1 c = none := by
  by_cases hc : o1 c
  · exact .inl hc
  · cases e : H1 c with
    | none => exact .inr rfl
    | some o =>
      by_cases ht : ∃ ps, o = .tbl ps
      · obtain ⟨ps, rfl⟩ := ht
        obtain ⟨qs, q⟩ := a.tb c ps e
        rw [z] at q; cases q
      · have q := a.keep c o e hc fun ps h => ht ⟨ps, h⟩
        rw [z] at q; cases q
/-- the loop, from the layer below -/
theorem lc_sim {tg : Expr} {ti : TIt} {gt : TGd} {gl : TG} {tt : TBo} {ttl : TT} {te : TD} {vs : List Nat} {ifs : List Expr} {X' : Cx} (hK : X'.K = X.K) (hg : PXC X' tg vs gt gl) (ht : PXTs X' g.T ifs tt ttl)
    {σ : L2.St} {H : Hp} {M : List Addr} {ds : DS} {QL : List D → DS → Prop} {ED : QE} {QQ : VK} (R : RepS X.K g M ds σ H) (h : ti ds (fun items ds1 => items.length < sizeLine ∧ cLoop gt tt te vs QL items [] ds1) ED) (hE : EW X g W σ M ds H ED)
    (hQ : ∀ D acc xs M' ds' H', H' D = some (.lst xs) → RepS X.K ⟨fun b => g.ow b ∨ b = D, g.T, g.gh⟩ M' ds' σ H' → Nxt g M ds H M' ds' H' → ¬ g.own M' ds' D → RepL X.K (g.own M' ds') H' acc xs → QL acc ds' → H D = none → RepL X.K (G.own ⟨fun b => g.ow b ∨ b = D, g.T, g.gh⟩ M' ds') H' acc xs → QQ (.ref D) H') :
    tLc (liftI X g W ti) gl ttl (fun σ H Q => ∃ g', g'.T = g.T ∧ lift X g' W0 te σ H Q) vs σ H QQ := by
  refine ⟨M, ds, _, ED, R, h, hE, fun J H1 ⟨items, ds1, M1, R1, N1, itd, hlen, q⟩ D hD => ?_⟩
  obtain ⟨R0, m0⟩ := R1.outn (o := .lst []) hD (fun _ z => nomatch z) (fun _ z => nomatch z)
  have nowD : ¬ g.ow D := fun z => by
    obtain ⟨o, q, _⟩ := R1.out D z
    rw [hD] at q; cases q
  have hD0 : H D = none := by
    rcases N1.mv.back hD with z | z
    · rcases z with z | ⟨n, c, h1, _⟩
      · exact absurd z nowD
      · obtain ⟨o, q, _⟩ := R1.ex D (List.mem_of_getElem? (pre_get N1.pre h1))
        rw [hD] at q; cases q
    · exact z
  refine ⟨fun i m H' => m = items.length - i ∧ i ≤ items.length ∧ ∃ acc xs w' M', H' D = some (.lst xs) ∧ RepS X.K ⟨fun b => g.ow b ∨ b = D, g.T, g.gh⟩ M' ⟨ds1.s, w'⟩ σ H' ∧ Nxt g M1 ds1 H1 M' ⟨ds1.s, w'⟩ H' ∧
      Mv (g.own M1 ds1) (G.own ⟨fun b => g.ow b ∨ b = D, g.T, g.gh⟩ M' ⟨ds1.s, w'⟩) H1 H' ∧ RepL X.K (G.own ⟨fun b => g.ow b ∨ b = D, g.T, g.gh⟩ M' ⟨ds1.s, w'⟩) H' acc xs ∧ acc.length ≤ i ∧ cLoop gt tt te vs QL (items.drop i) acc ⟨ds1.s, w'⟩,
    ⟨_, rfl, Nat.zero_le _, [], [], ds1.w, M1, upd_same, R0, ⟨⟨fun b o h n t => m0.keep b o h n t, m0.tb, fun b h => .inl h⟩, ⟨[], by simp⟩, fun a ha => upd_ne fun z => nowD (z ▸ ha)⟩, m0, rfl, Nat.le_refl _, q⟩, ?_⟩
  rintro i m H' ⟨rfl, hi, acc, xs, w', M', eD, R', N', m', rl, hacc, q⟩
  obtain ⟨go, stop⟩ := itd _ i M' ⟨ds1.s, w'⟩ σ H' R' m'
  cases hit : items[i]? with
  | none =>
    refine .inl ⟨stop hit, ?_⟩
    have e : items.drop i = [] := List.drop_eq_nil_of_le (List.getElem?_eq_none_iff.mp hit)
    rw [e] at q
    have nD : ¬ g.own M' ⟨ds1.s, w'⟩ D := fun z => z.elim nowD fun ⟨n, c, h1, _⟩ => R'.apart D (List.mem_of_getElem? h1) (.inr rfl)
    exact hQ D acc xs M' ⟨ds1.s, w'⟩ H' eD R' (N1.trans N') nD (RepL.mv (R'.less (g := g) (fun a h => .inl h) rfl rfl).2 _ _ rl) q hD0 rl
  | some d =>
    have hlt : i < items.length := (List.getElem?_eq_some_iff.mp hit).1
    have e : items.drop i = d :: items.drop (i + 1) := by
      rw [List.drop_eq_getElem_cons hlt, (List.getElem?_eq_some_iff.mp hit).2]
    rw [e] at q
    obtain ⟨go1, go2⟩ := go d hit
    refine .inr ⟨go1, fun H'' => ∃ m'', m'' = items.length - (i + 1) ∧ i + 1 ≤ items.length ∧ ∃ acc xs w' M', H'' D = some (.lst xs) ∧ RepS X.K ⟨fun b => g.ow b ∨ b = D, g.T, g.gh⟩ M' ⟨ds1.s, w'⟩ σ H'' ∧ Nxt g M1 ds1 H1 M' ⟨ds1.s, w'⟩ H'' ∧
      Mv (g.own M1 ds1) (G.own ⟨fun b => g.ow b ∨ b = D, g.T, g.gh⟩ M' ⟨ds1.s, w'⟩) H1 H'' ∧ RepL X.K (G.own ⟨fun b => g.ow b ∨ b = D, g.T, g.gh⟩ M' ⟨ds1.s, w'⟩) H'' acc xs ∧ acc.length ≤ i + 1 ∧ cLoop gt tt te vs QL (items.drop (i + 1)) acc ⟨ds1.s, w'⟩, fun H'' ⟨m'', h1, h2⟩ => ⟨m'', by omega, h1, h2⟩, fun x H2 hy => ?_⟩
    obtain ⟨R2, N2, rd⟩ := go2 x H2 hy
    have Rw : RepS X'.K ⟨fun b => g.ow b ∨ b = D, g.T, g.gh⟩ M' ⟨wipeD ds1.s vs, w'⟩ (wipe σ vs) H2 := by
      rw [hK]
      refine R2.weak (by rw [wipe_length, wipeD_length]; exact R2.len) fun j z hz => ?_
      obtain ⟨z1, z2⟩ := wipeD_some hz
      exact ⟨z1, wipe_get z2⟩
    refine hg.sim _ (wipe σ vs) H2 M' ⟨wipeD ds1.s vs, w'⟩ (.d d) x _ _ Rw (by rw [hK]; exact rd) q fun ds3 σ3 R3 w3 l3 a3 q3 => ⟨?_, ?_⟩
    · have e1 : wipe σ3 vs = wipe (wipe σ vs) vs := wipe_ext l3 a3
      rw [e1]
      exact wipe_ext (wipe_length σ vs) fun j hj => wipe_get hj
    · have T := ht.sim ⟨fun b => g.ow b ∨ b = D, g.T, g.gh⟩ σ3 H2 M' ds3 _ rfl R3 q3
      have own3 : G.own ⟨fun b => g.ow b ∨ b = D, g.T, g.gh⟩ M' ds3 = G.own ⟨fun b => g.ow b ∨ b = D, g.T, g.gh⟩ M' ⟨ds1.s, w'⟩ := by
        unfold G.own; rw [w3]
      -- the frame of a turn: from (M', w', H') on
      have step : ∀ {M4 : List Addr} {ds4 : DS} {H4 : Hp}, RepS X.K ⟨fun b => g.ow b ∨ b = D, g.T, g.gh⟩ M4 ds4 σ3 H4 → Nxt ⟨fun b => g.ow b ∨ b = D, g.T, g.gh⟩ M' ds3 H2 M4 ds4 H4 →
          H4 D = some (.lst xs) ∧ RepS X.K ⟨fun b => g.ow b ∨ b = D, g.T, g.gh⟩ M4 ⟨ds1.s, ds4.w⟩ σ H4 ∧ Nxt g M1 ds1 H1 M4 ⟨ds1.s, ds4.w⟩ H4 ∧ Mv (g.own M1 ds1) (G.own ⟨fun b => g.ow b ∨ b = D, g.T, g.gh⟩ M4 ⟨ds1.s, ds4.w⟩) H1 H4 ∧ RepL X.K (G.own ⟨fun b => g.ow b ∨ b = D, g.T, g.gh⟩ M4 ⟨ds1.s, ds4.w⟩) H4 acc xs := fun {M4 ds4 H4} R4 N4 => by
        have N3 : Nxt ⟨fun b => g.ow b ∨ b = D, g.T, g.gh⟩ M' ⟨ds1.s, w'⟩ H2 M4 ds4 H4 := ⟨by have := N4.mv; rw [own3] at this; exact this, N4.pre, N4.out⟩
        have N5 := N2.trans N3
        have mm : Mv (g.own M1 ds1) (G.own ⟨fun b => g.ow b ∨ b = D, g.T, g.gh⟩ M4 ⟨ds1.s, ds4.w⟩) H1 H4 := m'.trans N5.mv
        refine ⟨(N5.out D (.inr rfl)).trans eD, R'.world R4 N5, ⟨⟨mm.keep, mm.tb, fun b z => mm.new b (z.elim (fun z => .inl (.inl z)) .inr)⟩, ?_, fun a ha => (N5.out a (.inl ha)).trans (N'.out a ha)⟩, mm, RepL.mv N5.mv _ _ rl⟩
        obtain ⟨p1, e1⟩ := N'.pre
        obtain ⟨p2, e2⟩ := N5.pre
        exact ⟨p1 ++ p2, by rw [e2, e1, List.append_assoc]⟩
      refine ht.mono _ _ _ _ (fun b H3 ⟨ds4, M4, R4, N4, qq⟩ => ?_) T
      rw [hK] at R4
      cases b with
      | false =>
        rw [if_neg Bool.false_ne_true]
        obtain ⟨s1, s2, s3, s4, s5⟩ := step R4 N4
        exact ⟨_, rfl, hlt, acc, xs, ds4.w, M4, s1, s2, s3, s4, s5, by omega, qq.2 rfl⟩
      | true =>
        rw [if_pos rfl]
        refine ⟨⟨fun b => g.ow b ∨ b = D, g.T, g.gh⟩, rfl, M4, ds4, _, _, R4, qq.1 rfl, fun _ _ _ _ _ _ z => z.elim, fun v H5 ⟨z, ds5, M5, R5, N5, rz, q5⟩ => ?_⟩
        obtain ⟨s1, s2, s3, s4, s5⟩ := step R5 (N4.trans N5)
        cases z with
        | m n => exact q5.elim
        | d y =>
          have hx : xs.length = acc.length := RepL.length s5
          refine ⟨xs, s1, by omega, _, rfl, hlt, acc ++ [y], xs ++ [v], ds5.w, M5, upd_same, ?_⟩
          obtain ⟨R6, m6⟩ := s2.outw (o := .lst (xs ++ [v])) (.inr rfl) (fun _ z => nomatch z) (fun _ z => nomatch z)
          have nD1 : H1 D = none := hD
          refine ⟨R6, ⟨⟨fun b o h n t => ?_, fun b ps h => ?_, s3.mv.new⟩, s3.pre, fun a ha => ?_⟩, s4.trans m6, RepL.append (RepL.mv m6 _ _ s5) ?_, by rw [List.length_append, List.length_singleton]; omega, q5⟩
          · rw [upd_ne (ne_of_none h nD1)]
            exact s3.mv.keep b o h n t
          · rw [upd_ne (ne_of_none h nD1)]
            exact s3.mv.tb b ps h
          · rw [upd_ne (fun z : a = D => nowD (z ▸ ha))]
            exact s3.out a ha
          · exact RepL.one (RepD.mv m6 _ _ rz)
theorem pe_any {X' : Cx} {e : Expr} {te : TD} (hK : X'.K = X.K) (h : ∀ g', g'.T = g.T → PX X' g' W0 e te) : PE X' e (fun σ H Q => ∃ g', g'.T = g.T ∧ lift X g' W0 te σ H Q) := by
  refine ⟨fun pins s σ H Q I ⟨g', e1, M, ds, QD, ED, R, ht, hE, hq⟩ => ?_⟩
  refine thn ((h g' e1).run pins s σ H M ds QD ED I (by rw [hK]; exact R) ht fun x ds' M' H' cls d q R' N r => hE x ds' M' H' cls d q (by rw [← hK]; exact R') N (by rw [← hK]; exact r)) fun u s' ⟨z, ds', M', v, H', I', r, R', N, rz, q⟩ => ⟨v, H', I', r, hq v H' ⟨z, ds', M', by rw [← hK]; exact R', N, by rw [← hK]; exact rz, q⟩⟩
/-- a comprehension, as data -/
theorem px_lc {elt tg iter : Expr} {ifs : List Expr} {scope : Scope} {own : List (Str × Nat)} {ti : TIt} {gt : TGd} {gl : TG} {tt : TBo} {ttl : TT} {te : TD} (hc : X.calm = true) (hN : X.N.Nodup) (hi : PXI X g W tg iter ti) (ok : BlkOk X.N X.env.scope scope own)
    (hg : ∀ (s : Shared) (H : Hp) (C : Addr) (cl : List (Str × Addr)) (fp : List Addr), PXC (X.blk s H scope (compEnvC scope cl C X.env) fp) tg (own.map (·.2)) gt gl)
    (ht : ∀ (s : Shared) (H : Hp) (C : Addr) (cl : List (Str × Addr)) (fp : List Addr), PXTs (X.blk s H scope (compEnvC scope cl C X.env) fp) g.T ifs tt ttl)
    (he : ∀ (g' : G) (s : Shared) (H : Hp) (C : Addr) (cl : List (Str × Addr)) (fp : List Addr), g'.T = g.T → PX (X.blk s H scope (compEnvC scope cl C X.env) fp) g' W0 elt te) (hs : ∀ x, foldedSetIterable iter X.env x = pure x := by intro _; rfl) :
    PX X g W (.ListComp elt [⟨tg, iter, ifs, 0⟩] scope pos) (dLc ti gt tt te (own.map (·.2))) := by
  refine .of (pe_lc hc hN hi.pi ok (fun s H C cl fp => (hg s H C cl fp).pg) (fun s H C cl fp => (ht s H C cl fp).pts) (fun s H C cl fp => pe_any (g := g) rfl fun g' e1 => he g' s H C cl fp e1) hs) fun σ H M ds QD ED R h hE => ?_
  refine lc_sim (X' := X.blk X.s_0 (fun _ => none) scope (compEnvC scope [] 0 X.env) []) rfl (hg X.s_0 (fun _ => none) 0 [] []) (ht X.s_0 (fun _ => none) 0 [] []) R h hE fun D acc xs M' ds' H' eD R' N nD rl q hD0 rl0 => ?_
  obtain ⟨R2, m2⟩ := R'.less (g := g) (fun a h => .inl h) rfl rfl
  exact ⟨.d (.lst acc), ds', M', R2, N, ⟨D, xs, rfl, rl, nD, eD⟩, q⟩
/-- name = [..] on one line, the name a plain local -/
theorem pxs_setLc {i : Nat} {y : Str} {py : Pos} {elt tg iter : Expr} {ifs : List Expr} {scope : Scope} {own : List (Str × Nat)} {spos : Pos} {ti : TIt} {gt : TGd} {gl : TG} {tt : TBo} {ttl : TT} {te : TD} (hc : X.calm = true) (hN : X.N.Nodup) (hy : X.N[i]? = some y) (hyl : X.env.scope.names.lookup y = some .local)
    (hsw : swapsWith (.ListComp elt [⟨tg, iter, ifs, 0⟩] scope pos) (some (.Name y py)) spos.line X.env = pure true) (hi : PXI X g W tg iter ti) (ok : BlkOk X.N X.env.scope scope own)
    (hg : ∀ (s : Shared) (H : Hp) (C : Addr) (cl : List (Str × Addr)) (fp : List Addr), PXC (X.blk s H scope (compEnvC scope cl C X.env) fp) tg (own.map (·.2)) gt gl)
    (ht : ∀ (s : Shared) (H : Hp) (C : Addr) (cl : List (Str × Addr)) (fp : List Addr), PXTs (X.blk s H scope (compEnvC scope cl C X.env) fp) g.T ifs tt ttl)
    (he : ∀ (g' : G) (s : Shared) (H : Hp) (C : Addr) (cl : List (Str × Addr)) (fp : List Addr), g'.T = g.T → PX (X.blk s H scope (compEnvC scope cl C X.env) fp) g' W0 elt te) (hs : ∀ x, foldedSetIterable iter X.env x = pure x := by intro _; rfl) :
    PXS X g W (.Assign [.Name y py] (.ListComp elt [⟨tg, iter, ifs, 0⟩] scope pos) spos) (dAsg (dLc ti gt tt te (own.map (·.2))) (dgName i)) := by
  refine ⟨fun pins s σ H M ds De I R h hE => ?_⟩
  have h0 := (ps_setLc (i := i) hc hN hy hyl hsw hi.pi ok (fun s H C cl fp => (hg s H C cl fp).pg) (fun s H C cl fp => (ht s H C cl fp).pts) (fun s H C cl fp => pe_any (g := g) rfl fun g' e1 => he g' s H C cl fp e1) hs).run pins s σ H
    ⟨fun σ' H' => ∃ ds' M', RepS X.K g M' ds' σ' H' ∧ Nxt g M ds H M' ds' H' ∧ De.nx ds', fun _ _ => False, fun _ _ => False, fun _ _ => False⟩ I
    (lc_sim (X' := X.blk X.s_0 (fun _ => none) scope (compEnvC scope [] 0 X.env) []) rfl (hg X.s_0 (fun _ => none) 0 [] []) (ht X.s_0 (fun _ => none) 0 [] []) R h hE.ew fun D acc xs M' ds' H' eD R' N nD rl q hD0 rl0 => by
      obtain ⟨R2, m2⟩ := R'.less (g := g) (fun a h => .inl h) rfl rfl
      exact ⟨ds'.set i (.d (.lst acc)), M', R2.set i (z := .d (.lst acc)) ⟨D, xs, rfl, rl, nD, eD⟩, N.trans .set, q⟩)
  refine thn h0 fun f s1 q => ?_
  cases f with
  | next =>
    obtain ⟨σ', H', I', ds', M', R', N', q⟩ := q
    exact ⟨ds', M', σ', H', I', R', N', q⟩
  | brk => obtain ⟨_, _, _, q⟩ := q; exact q.elim
  | cont => obtain ⟨_, _, _, q⟩ := q; exact q.elim
  | ret u => obtain ⟨_, _, _, _, _, q⟩ := q; exact q.elim
end
end L3

set_option Elab.async false
set_option linter.all false
set_option maxRecDepth 100000
set_option maxHeartbeats 1000000
namespace L3
open PySem PySem.Spec PyProof.Rows L2
theorem valV_zip {ks : List Key} (hn : ks.Nodup) : ∀ {xs : List V} {j : Nat} {k : Key} {x : V}, ks[j]? = some k → xs[j]? = some x → valV (ks.zip xs) k = some x := by
  induction ks with
  | nil => intro xs j k x h; simp at h
  | cons a ks ih =>
    intro xs j k x h1 h2
    cases xs with
    | nil => simp at h2
    | cons y xs =>
      cases j with
      | zero =>
        simp at h1 h2
        subst h1; subst h2
        exact valV_pos rfl
      | succ j =>
        have hk : k ∈ ks := List.mem_of_getElem? (by simpa using h1)
        rw [List.zip_cons_cons, valV_neg (fun e => by
          have e' : a = k := e
          rw [e'] at hn
          exact (List.nodup_cons.mp hn).1 hk)]
        exact ih (List.nodup_cons.mp hn).2 (by simpa using h1) (by simpa using h2)
theorem putK_zip {ks : List Key} (hn : ks.Nodup) {xs : List V} {j : Nat} {k : Key} (v : V) (h1 : ks[j]? = some k) (hl : xs.length = ks.length) : putK (ks.zip xs) k v = ks.zip (xs.set j v) := by
  have hj : j < ks.length := (List.getElem?_eq_some_iff.mp h1).1
  have hx : xs[j]? = some xs[j] := List.getElem?_eq_getElem (by omega)
  unfold putK
  rw [valV_any, valV_zip hn h1 hx, Option.isSome_some, if_pos rfl]
  clear hx
  induction ks generalizing xs j with
  | nil => simp at h1
  | cons a ks ih =>
    cases xs with
    | nil => simp at hl
    | cons y xs =>
      have hn' := List.nodup_cons.mp hn
      cases j with
      | zero =>
        simp at h1
        subst h1
        rw [List.zip_cons_cons, List.map_cons, List.set_cons_zero, List.zip_cons_cons]
        congr 1
        · simp
        · have : ∀ p ∈ ks.zip xs, (if p.1 = a then (p.1, v) else p) = p := fun p hp => by
            rw [if_neg]
            intro e
            exact hn'.1 (e ▸ (List.of_mem_zip hp).1)
          rw [List.map_congr_left this, List.map_id']
      | succ j =>
        have hk : k ∈ ks := List.mem_of_getElem? (by simpa using h1)
        rw [List.zip_cons_cons, List.map_cons, List.set_cons_succ, List.zip_cons_cons]
        congr 1
        · rw [if_neg (fun e => by
            have e' : a = k := e
            exact hn'.1 (e' ▸ hk))]
        · exact ih hn'.2 (by simpa using h1) (by simpa using hl) (by simpa using hj)
theorem RepL.set {K : PySem.W.Frag} {own : Addr → Prop} {H : Hp} : ∀ {l : List D} {xs : List V} {d : D} {v : V} (i : Nat), RepL K own H l xs → RepD K own H d v → RepL K own H (l.set i d) (xs.set i v)
  | [], xs, z, v, i, h, hz => by cases h; exact rfl
  | c :: l, xs, z, v, 0, h, hz => by
    obtain ⟨u, r, rfl, h1, h2⟩ := h
    exact ⟨v, r, rfl, hz, h2⟩
  | c :: l, xs, z, v, i + 1, h, hz => by
    obtain ⟨u, r, rfl, h1, h2⟩ := h
    exact ⟨u, r.set i v, rfl, h1, RepL.set i h2 hz⟩
section
variable {X : Cx} {g : G} {W : WX} {pos : Pos} {o value : Expr} {to tv : TD}
def rdDget (j : Nat) (key : Str) (z : Z) (ds : DS) (Q : QZ) : Prop := match z with
  | .m n => match ds.w[n]? with
    | some (some (.dic ks l)) => (ks[j]? = some (.inr key) ∧ ks.Nodup) ∧ (match l[j]? with
      | some x => Q (.d x) ds
      | none => False)
    | _ => False
  | _ => False
def dDget (j : Nat) (key : Str) (to : TD) : TD := fun ds Q E => to ds (fun z ds1 => rdDget j key z ds1 Q) E
theorem px_dgetS {j : Nat} {key : Str} {jj : Nat} {p2 : Pos} (hu : X.A.units + 1 < cLine) (ho : PX X g W o to) : PX X g W (.Subscript o (.Constant (.str key) jj p2) pos) (dDget j key to) := by
  refine .of (pe_dget hu ho.pe pe_str (by intro _ _; rfl)) fun σ H M ds QD ED R ht he => ?_
  refine lift_in R ht he fun z ds1 M1 v H1 R1 N1 rz q => ?_
  show ∃ a v', v = .ref a ∧ DGet H1 a (.str key) (some v') ∧ _
  unfold rdDget at q
  split at q
  · split at q
    · rename_i ks l hw
      obtain ⟨⟨h1, hn⟩, q⟩ := q
      split at q
      · rename_i x hx
        obtain ⟨a, ha, rfl⟩ := rz
        obtain ⟨xs, r, hl, e⟩ := R1.obj _ _ _ hw ha
        obtain ⟨y, hy, ry⟩ := r.get hx
        refine ⟨a, y, rfl, ?_, (Mid.same R1 (z := .d x) ry q).nxt N1⟩
        have := DGet.k (k := .inr key) e
        rw [valV_zip hn h1 hy] at this
        exact this
      · exact q.elim
    · exact q.elim
  · exact q.elim
def rdDput (j : Nat) (key : Str) (x : D) (z : Z) (ds : DS) (P : DS → Prop) : Prop := match z with
  | .m n => match ds.w[n]? with
    | some (some (.dic ks l)) => (ks[j]? = some (.inr key) ∧ ks.Nodup ∧ ks.length < sizeLine) ∧ P (ds.put n (.dic ks (l.set j x)))
    | _ => False
  | _ => False
def dDput (j : Nat) (key : Str) (tv to : TD) : TSd := fun De ds => tv ds (fun y ds1 => kD (fun x => to ds1 (fun z ds2 => rdDput j key x z ds2 De.nx) De.er) y) De.er
theorem pxs_dputS {j : Nat} {key : Str} {jj : Nat} {p2 pos' : Pos} (hu : X.A.units + 1 < cLine) (hv : PX X g W value tv) (ho : PX X g W o to) (hs : swapsWith value (some (.Subscript o (.Constant (.str key) jj p2) pos')) pos.line X.env = pure false := by rfl) :
    PXS X g W (.Assign [.Subscript o (.Constant (.str key) jj p2) pos'] value pos) (dDput j key tv to) := by
  refine ⟨fun pins s σ H M ds De I R h hE => ?_⟩
  have h0 := (ps_dput (X := X) (pos := pos) (pos' := pos') hu ho.pe (pe_str (x := key) (j := jj) (pos := p2)) hv.pe hs).run pins s σ H ⟨fun σ' H' => ∃ ds' M', RepS X.K g M' ds' σ' H' ∧ Nxt g M ds H M' ds' H' ∧ De.nx ds', fun _ _ => False, fun _ _ => False, fun _ _ => False⟩ I
    (lift_in R h hE.ew fun y ds1 M1 v H1 R1 N1 ry q => by
      cases y with
      | m n => exact q.elim
      | d x =>
        refine lift_in R1 q (hE.nxt N1).ew fun z ds2 M2 u H2 R2 N2 rz q2 => ?_
        show ∃ a H4, u = .ref a ∧ DPut H2 a (.str key) v H4 ∧ _
        unfold rdDput at q2
        split at q2
        · split at q2
          · rename_i ks l hw
            obtain ⟨⟨h1, hn, hlt⟩, q2⟩ := q2
            obtain ⟨a, ha, rfl⟩ := rz
            obtain ⟨xs, r, hl, e⟩ := R2.obj _ _ _ hw ha
            have hlx : xs.length = ks.length := by rw [RepL.length r, hl]
            have hp := DPut.k (k := .inr key) (v := v) e (Nat.lt_of_le_of_lt (by rw [List.length_zip]; exact Nat.min_le_left _ _) hlt)
            rw [putK_zip hn v h1 hlx] at hp
            obtain ⟨R3, N3⟩ := R2.put (c := .dic ks (l.set j x)) (o := .dK (ks.zip (xs.set j v))) hw ha (fun _ z => nomatch z) (fun _ z => nomatch z) fun own' m => ⟨xs.set j v, RepL.set j (RepL.mv m _ _ r) (RepD.mv m _ _ (RepD.mv N2.mv _ _ ry)), by rw [List.length_set]; exact hl, upd_same⟩
            exact ⟨a, _, rfl, hp, _, M2, R3, (N1.trans N2).trans N3, q2⟩
          · exact q2.elim
        · exact q2.elim)
  refine thn h0 fun f s1 q => ?_
  cases f with
  | next =>
    obtain ⟨σ', H', I', ds', M', R', N', q⟩ := q
    exact ⟨ds', M', σ', H', I', R', N', q⟩
  | brk => obtain ⟨_, _, _, q⟩ := q; exact q.elim
  | cont => obtain ⟨_, _, _, q⟩ := q; exact q.elim
  | ret u => obtain ⟨_, _, _, _, _, q⟩ := q; exact q.elim
end
section
variable {K : PySem.W.Frag} {g : G} {M : List Addr} {ds : DS} {σ : L2.St} {H H' : Hp}
theorem RepS.moreH (R : RepS K g M ds σ H) {p : Addr} {c : MC} (hp : H p = none) (f : Fr0 H H') (t : LamX.Tabs g.T H') (hc : ∀ own', (∀ b, own' b → g.own M ds b ∨ b = p) → RepM K own' (M ++ [p]) H' p c) :
    RepS K g (M ++ [p]) (ds.more c) σ H' ∧ Nxt g M ds H (M ++ [p]) (ds.more c) H' := by
  have e : ∀ b u, H b = some u → (∀ ps, u ≠ .tbl ps) → H' b = some u := f.1
  have pM : p ∉ M := fun h => by
    obtain ⟨u, q, _⟩ := R.ex p h
    rw [hp] at q; cases q
  have ow : ∀ b, g.own (M ++ [p]) (ds.more c) b → g.own M ds b ∨ b = p := fun b h => by
    rcases h with h | h
    · exact .inl (.inl h)
    · rcases live_more R.mlen h with h | h
      · exact .inl (.inr h)
      · exact .inr h
  have m : Mv (g.own M ds) (g.own (M ++ [p]) (ds.more c)) H H' := ⟨fun b u h _ t => e b u h t, f.2, fun b h => (ow b h).imp id fun z => by rw [z]; exact hp⟩
  have rp := hc _ ow
  obtain ⟨op, hop, ht, _, hx⟩ := rp.ex
  have pr : ∃ more, M ++ [p] = M ++ more := ⟨[p], rfl⟩
  refine ⟨{ len := R.len, slot := fun i z h => ?_, mlen := ?_, nd := ?_, apart := fun a h => ?_, obj := fun n x a h1 h2 => ?_, gh := fun p hp => RepD.mv m _ _ (R.gh p hp), tabs := t, out := fun a h => ?_, ex := fun a h => ?_ }, m, pr, fun a h => ?_⟩
  · obtain ⟨v, h1, h2⟩ := R.slot i z h
    exact ⟨v, h1, h2.mv m pr⟩
  · show (M ++ [p]).length = (ds.w ++ [some c]).length
    rw [List.length_append, List.length_append, R.mlen]; rfl
  · rw [List.nodup_append]
    refine ⟨R.nd, by simp, fun a ha b hb z => ?_⟩
    have : b = p := by simpa using hb
    subst this
    exact pM (z ▸ ha)
  · rcases List.mem_append.mp h with h | h
    · exact R.apart a h
    · have : a = p := by simpa using h
      subst this
      exact fun z => by
        obtain ⟨u, q, _⟩ := R.out _ z
        rw [hp] at q; cases q
  · rcases get_more h1 with h1 | ⟨h4, h3⟩
    · have hn : n < M.length := by
        obtain ⟨q, _⟩ := List.getElem?_eq_some_iff.mp h1
        rw [R.mlen]; exact q
      rw [List.getElem?_append_left hn] at h2
      have r := R.obj n x a h1 h2
      obtain ⟨u, q1, q2, _⟩ := r.ex
      exact r.mv m pr (by rw [e a u q1 q2, q1])
    · have h3 := Option.some.inj h3
      subst h3
      rw [h4, ← R.mlen, List.getElem?_append_right (Nat.le_refl _), Nat.sub_self] at h2
      have : p = a := Option.some.inj h2
      subst this
      exact rp
  · obtain ⟨u, q1, q2, q3⟩ := R.out a h
    exact ⟨u, e a u q1 q2, q2, q3⟩
  · rcases List.mem_append.mp h with h | h
    · obtain ⟨u, q1, q2, q3⟩ := R.ex a h
      exact ⟨u, e a u q1 q2, q2, q3⟩
    · have : a = p := by simpa using h
      subst this
      exact ⟨op, hop, ht, hx⟩
  · obtain ⟨u, q1, q2, q3⟩ := R.out a h
    rw [e a u q1 q2, q1]
end
/-- .. the promise: new, as told -/
abbrev SC := List D → (MC → Prop) → Prop
def spC (K : PySem.W.Frag) (T : List (Addr × Str)) (S : SC) : Sp := fun vs H Q E => ∃ (ow : Addr → Prop) (ds : List D) (QD : MC → Prop),
  OutOk ow H ∧ RepL K ow H ds vs ∧ LamX.Tabs T H ∧ S ds QD ∧
  (∀ c a H', QD c → Fr0 H H' → H a = none → (∀ own', (∀ b, own' b → ow b ∨ b = a) → RepM K own' [] H' a c) → LamX.Tabs T H' → Q (.ref a) H')
section
variable {X : Cx} {g : G} {W : WX} {gd : Bool} {k : Nat} {f : Addr} {fd : FuncData} {ps : List Str} {T : List (Addr × Str)} {S : SC} {x : Str} {p pos : Pos} {e : Expr} {es : List Expr} {t : TLi}
def kC (S : SC) (Q : QZ) : List Z → DS → Prop := fun zs ds1 => match unD zs with
  | some l => S l (fun c => c.closed ∧ Q (.m ds1.w.length) (ds1.more c))
  | none => False
def dCallC (S : SC) (t : TLi) : TD := fun ds Q E => t ds (kC S Q) E
theorem px_callC (F : FnG gd X.prog X.w X.K X.mg X.base k f fd ps (spC X.K T S)) (hT : g.T = T) (hr : RoomG gd k X.A) (tk : Takes X W) (hg : Gl X x) (hm : X.mg x = some (.ref f)) (hk : PySem.W.keepIn X.K (.ref f) = true) (hb : Binds X.K fd ps [])
    (ha : PXA X g W (e :: es) t) (hdb : (x == ("__debug__" : Str)) = false := by decide) (he : starEach (e :: es) X.env = (false, eval e X.env) :: starEach es X.env := by rfl) (hpl : (backTo pos (starEach es X.env)).any (·.1) = false := by rfl) :
    PX X g W (.Call (.Name x p) (e :: es) [] pos) (dCallC S t) := by
  subst hT
  refine ⟨fun pins s σ H M ds QD ED I R ht hE => ?_⟩
  refine wpAny_Call_Name_kw (ld_glob I hg hm ?_ hdb)
  refine PySem.W.callWith_K (h₀ := X.base) I.ok.mod.kin hk (thn (ha.run pos pins s σ H M ds _ ED I R ht hE) fun us s1 ⟨zs, ds1, M1, vs, H1, I1, r1, R1, N1, rz, q1⟩ => ⟨I1.kIn, ?_⟩) he hpl
  unfold kC at q1
  split at q1
  · rename_i l el
    obtain rfl := unD_of el
    have sp : spC X.K g.T S vs H1 (Mid X g σ M1 ds1 H1 QD) (fun cls d H' => W cls d σ H') := ⟨g.own M1 ds1, l, _, R1.outOk, rz.toD, R1.tabs, q1, fun c a H' q f hn hc t => by
      obtain ⟨R2, N2⟩ := R1.moreH hn f t fun own' ho => (hc own' ho).shut .refl q.1
      exact ⟨.m ds1.w.length, _, _, R2, N2, ⟨a, by rw [← R1.mlen, List.getElem?_append_right (Nat.le_refl _), Nat.sub_self]; rfl, rfl⟩, q.2⟩⟩
    have hl : (us ++ []).length = ps.length := by rw [List.append_nil, ← r1.length]; exact F.len _ _ _ _ sp
    have b1 := hb s1 us I1.kIn hl
    rw [List.append_nil] at b1
    exact thn (run_fnX F hr tk I1 b1 r1 sp) fun _ _ h => (EPD.of h).nxt N1
  · exact q1.elim
end
def pkey (a b : Str) : List Key := [.inr "cells", .inr a, .inr b]
def pen (ks : List Key) (cells : List Int) (t l : Int) : MC := .dic ks [.lst (cells.map D.int), .int t, .int l]
/-- a pen that k more numbers may be drawn from -/
def PenC (ks : List Key) (k : Nat) (c : MC) : Prop := ∃ cells t l, c = pen ks cells t l ∧ cells.length ≤ 63 ∧ (∀ z ∈ cells, z.natAbs < 2 ^ 1048577) ∧ 0 ≤ t ∧ t + k ≤ 2 ^ 60 ∧ 0 ≤ l ∧ l < 2 ^ 1048577
theorem PenC.closed {ks : List Key} {k : Nat} {c : MC} (h : PenC ks k c) : c.closed := by
  obtain ⟨cells, t, l, rfl, _⟩ := h
  exact True.intro
theorem PenC.le {ks : List Key} {k j : Nat} {c : MC} (h : PenC ks k c) (hj : j ≤ k) : PenC ks j c := by
  obtain ⟨cells, t, l, e, h1, h2, h3, h4, h5⟩ := h
  exact ⟨cells, t, l, e, h1, h2, h3, by omega, h5⟩
/-- def _law_pen: the script's numbers -/
def S_pen (ks : List Key) : SC := fun ds Q => ∃ ns : List Int, ds = [.lsf (ns.map D.int)] ∧ ns.length ≤ 63 ∧ (∀ z ∈ ns, z.natAbs < 2 ^ 1048577) ∧ ∀ c, PenC ks (2 ^ 59) c → Q c
/-- def _law_draw: some number from 0 to many - 1 -/
def S_draw (ks : List Key) : SB := fun c ds Q _ => ∃ (k : Nat) (n : Int), PenC ks k c ∧ 1 ≤ k ∧ ds = [.int n] ∧ 0 < n ∧ n < 2 ^ 64 ∧ ∀ d c', 0 ≤ d → d < n → PenC ks (k - 1) c' → Q (.int d) c'
end L3

set_option Elab.async false
set_option linter.all false
set_option maxRecDepth 100000
set_option maxHeartbeats 1000000
namespace L3
open PySem PySem.Spec PyProof.Rows L2
/-- a def of the program's top, by its promise -/
structure OwnF (gd : Bool) (P : Program) (w : World) (K : PySem.W.Frag) (mg : Str → Option Value) (base : Heap) (x : Str) (k : Nat) (f : Addr) (fd : FuncData) (ps : List Str) (sp : Sp) : Prop where
  ok : FnG gd P w K mg base k f fd ps sp
  g : mg x = some (.ref f)
  kp : PySem.W.keepIn K (.ref f) = true
section
variable {X : Cx} {g : G} {W : WX} {gd : Bool} {k : Nat} {f : Addr} {fd : FuncData} {ps : List Str} {T : List (Addr × Str)} {S : SA} {Sb : SB} {Sc : SC} {x : Str} {p pos : Pos} {e : Expr} {es : List Expr} {t tkw : TLi} {n : Nat} {ks : List Str} {gD : List D → List D → List D} {kws : List Keyword}
theorem px_own (Go : OwnF gd X.prog X.w X.K X.mg X.base x k f fd ps (spA X.K T S)) (hb : Binds X.K fd ps []) (hT : g.T = T) (hr : RoomG gd k X.A) (tk : Takes X W) (ha : PXA X g W (e :: es) t) (hg : Gl X x := by rfl) (hdb : (x == ("__debug__" : Str)) = false := by decide)
    (he : starEach (e :: es) X.env = (false, eval e X.env) :: starEach es X.env := by rfl) (hpl : (backTo pos (starEach es X.env)).any (·.1) = false := by rfl) : PX X g W (.Call (.Name x p) (e :: es) [] pos) (dCallA S [] t) :=
  px_callA Go.ok hT hr tk hg Go.g Go.kp hb .nil (fun _ _ => rfl) ha hdb he hpl
theorem px_ownB (Go : OwnF gd X.prog X.w X.K X.mg X.base x k f fd ps (spB X.K T Sb)) (hb : Binds X.K fd ps []) (hT : g.T = T) (hr : RoomG gd k X.A) (tk : Takes X W) (ha : PXA X g W (e :: es) t) (hg : Gl X x := by rfl) (hdb : (x == ("__debug__" : Str)) = false := by decide)
    (he : starEach (e :: es) X.env = (false, eval e X.env) :: starEach es X.env := by rfl) (hpl : (backTo pos (starEach es X.env)).any (·.1) = false := by rfl) : PX X g W (.Call (.Name x p) (e :: es) [] pos) (dCallB Sb [] t) :=
  px_callB' Go.ok hT hr tk hg Go.g Go.kp hb .nil (fun _ _ => rfl) ha hdb he hpl
theorem px_ownC (Go : OwnF gd X.prog X.w X.K X.mg X.base x k f fd ps (spC X.K T Sc)) (hb : Binds X.K fd ps []) (hT : g.T = T) (hr : RoomG gd k X.A) (tk : Takes X W) (ha : PXA X g W (e :: es) t) (hg : Gl X x := by rfl) (hdb : (x == ("__debug__" : Str)) = false := by decide)
    (he : starEach (e :: es) X.env = (false, eval e X.env) :: starEach es X.env := by rfl) (hpl : (backTo pos (starEach es X.env)).any (·.1) = false := by rfl) : PX X g W (.Call (.Name x p) (e :: es) [] pos) (dCallC Sc t) :=
  px_callC Go.ok hT hr tk hg Go.g Go.kp hb ha hdb he hpl
theorem px_ownK (Go : OwnF gd X.prog X.w X.K X.mg X.base x k f fd ps (spA X.K T S)) (hb : KB X.K fd ps n ks gD) (hT : g.T = T) (hr : RoomG gd k X.A) (tk : Takes X W) (ha : PXA X g W (e :: es) t) (hkw : PXK X g W kws tkw) (hg : Gl X x := by rfl)
    (hall : (backToKw pos (keywordEach kws X.env)).all (·.1.isSome) = true := by rfl) (hks : (backToKw pos (keywordEach kws X.env)).filterMap (·.1) = ks := by rfl)
    (hdb : (x == ("__debug__" : Str)) = false := by decide) (he : starEach (e :: es) X.env = (false, eval e X.env) :: starEach es X.env := by rfl)
    (hpl : ((backTo pos (starEach (e :: es) X.env)).any (·.1) || (backToKw pos (keywordEach kws X.env)).any (·.1.isNone)) = false := by rfl) : PX X g W (.Call (.Name x p) (e :: es) kws pos) (dCallK n ks.length S gD t tkw) :=
  px_callK Go.ok hT hr tk hg Go.g Go.kp hb ha hkw hall hks hdb he hpl
end
/-- a def with defaults, called with keywords -/
theorem FunD.kb {K : PySem.W.Frag} {x qual : Str} {params : Arguments} {body : List Stmt} {scope : Scope} {dvs : List V} {kws : List (Str × V)} {f : Addr} {fd : FuncData} {ps : List Str} (F : FunD K x qual params body scope dvs kws f fd) (n : Nat) (ks : List Str)
    (gV : List Value → List Value → List Value → List Value) (gD : List D → List D → List D) (hd : dvs ≠ [])
    (h : ∀ (T : Addr) (kV doc pm : Value) (an : Option Addr) (cdv ct : Value) (us its ws : List Value), us.length = n → its.length = dvs.length → ws.length = ks.length →
      ∃ k, bindArgs (PySem.W.fnOf x qual params body scope (.ref T) kV doc pm an cdv ct) ⟨us, ks.zip ws⟩ = seqItems? (.ref T) >>= k ∧ k (some its.toArray) = pure (ps.zip (gV us its ws)))
    (hrep : ∀ (own : Addr → Prop) (H : Hp) (l m : List D) (vs zs : List V) (us its ws : List Value), RepL K own H l vs → RepL K own H m zs → Vals vs us → Vals zs ws → Vals dvs its → us.length = n → ws.length = ks.length → ∃ vs', RepL K own H (gD l m) vs' ∧ Vals vs' (gV us its ws)) : KB K fd ps n ks gD := by
  obtain ⟨oc, od, dV, kV, doc, pm, an, cdv, ct, osl, rfl, lk, hcd, hD, hK⟩ := F.ex
  rcases hD with ⟨e, _⟩ | ⟨_, T, o, its, m, rfl, lT, oT, rT⟩
  · exact absurd e hd
  · refine ⟨fun s own H l m vs zs us ws X rl rm rv rz l1 l2 => ?_⟩
    obtain ⟨vs', h1, h2⟩ := hrep own H l m vs zs us its ws rl rm rv rz rT l1 l2
    obtain ⟨k, e1, e2⟩ := h T kV doc pm an cdv ct us its ws l1 rT.length.symm l2
    refine ⟨vs', _, BindsTo.of_looks fun M => ?_, h1, h2⟩
    rw [e1]
    exact looks_items X lT oT (.of_pure e2)
theorem absI (i : Int) : (if i < 0 then -i else i) = (i.natAbs : Int) := by split <;> omega
theorem wmul {i j : Int} {a b : Nat} (ha : i.natAbs < 2 ^ a) (hb : j.natAbs < 2 ^ b) (h : a + b ≤ 999990) : CMulW i j := by
  by_cases h0 : a = 0
  · subst h0
    have : i = 0 := by omega
    subst this
    have hb' : j.natAbs.log2 ≤ b := by
      by_cases hz : j.natAbs = 0
      · rw [hz]; simp
      · exact Nat.le_of_lt ((Nat.log2_lt hz).mpr hb)
    unfold CMulW
    simp
    omega
  · by_cases h1 : b = 0
    · subst h1
      have : j = 0 := by omega
      subst this
      have hb' : i.natAbs.log2 ≤ a := by
        by_cases hz : i.natAbs = 0
        · rw [hz]; simp
        · exact Nat.le_of_lt ((Nat.log2_lt hz).mpr ha)
      unfold CMulW
      simp
      omega
    · exact wide_mul ha hb (by omega) (by omega) (by omega)
theorem wdiv {j : Int} {b : Nat} (h : 0 < j) (hb : j.natAbs < 2 ^ b) (h9 : b ≤ 9000) : CDivW j j := by
  have hb0 : 0 < b := by
    rcases Nat.eq_zero_or_pos b with z | z
    · subst z; omega
    · exact z
  exact wide_div h hb hb0 h9
theorem CDivW.any {i i' j : Int} (h : CDivW i j) : CDivW i' j := h
end L3

set_option Elab.async false
set_option linter.all false
set_option maxRecDepth 100000
set_option maxHeartbeats 1000000
namespace L3
open PySem PySem.Spec PyProof.Rows L2
theorem mergeK_new : ∀ {more kvs : List (Key × V)}, ((kvs ++ more).map (·.1)).Nodup → mergeK kvs more = kvs ++ more
  | [], kvs, _ => by show kvs = kvs ++ []; simp
  | p :: r, kvs, h => by
    have hv : valV kvs p.1 = none := by
      cases hc : valV kvs p.1 with
      | none => rfl
      | some x =>
        have hany : (valV kvs p.1).isSome = true := by rw [hc]; rfl
        rw [← valV_any, List.any_eq_true] at hany
        obtain ⟨q, hq, e⟩ := hany
        have e' : q.1 = p.1 := by simpa using e
        rw [List.map_append, List.nodup_append] at h
        exact absurd e' (h.2.2 q.1 (List.mem_map_of_mem hq) p.1 (by simp))
    show mergeK (putK kvs p.1 p.2) r = _
    rw [putK_new _ hv, mergeK_new (by simpa using h)]
    simp
section
variable {X : Cx} {g : G} {W : WX} {pos : Pos}
def dVals : List TD → TLi
  | [] => dNil
  | t :: r => dCons t (dVals r)
structure PXD (X : Cx) (g : G) (W : WX) (pos : Pos) (keys : List (Option Expr)) (values : List Expr) (ks : List Str) (ts : List TD) : Prop where
  pps : PPs X pos keys values (List.zipWith (fun k t => (tC (.str k), lift X g W t)) ks ts)
  len : ks.length = ts.length
theorem pxd_nil : PXD X g W pos [] [] [] [] := ⟨pps_nil, rfl⟩
theorem pxd_cons {k : Str} {j : Nat} {p2 : Pos} {v : Expr} {keys : List (Option Expr)} {values : List Expr} {ks : List Str} {t : TD} {ts : List TD} (hv : PX X g W v t) (hr : PXD X g W pos keys values ks ts) :
    PXD X g W pos (some (.Constant (.str k) j p2) :: keys) (v :: values) (k :: ks) (t :: ts) :=
  ⟨pps_cons (pe_str (x := k) (j := j) (pos := p2)) hv.pe hr.pps, by rw [List.length_cons, List.length_cons, hr.len]⟩
theorem pairs_in : ∀ {ks : List Str} {ts : List TD} {σ : L2.St} {H : Hp} {M : List Addr} {ds : DS} {QD : List Z → DS → Prop} {ED : QE} {Q : List (V × V) → Hp → Prop}, ks.length = ts.length → RepS X.K g M ds σ H → dVals ts ds QD ED → EW X g W σ M ds H ED →
    (∀ zs ds' M' vs H', RepS X.K g M' ds' σ H' → Nxt g M ds H M' ds' H' → RepZs X.K (g.own M' ds') M' H' zs vs → zs.length = ks.length → QD zs ds' → Q ((ks.map V.str).zip vs) H') →
    tPairs (List.zipWith (fun k t => (tC (.str k), lift X g W t)) ks ts) σ H Q
  | [], [], σ, H, M, ds, QD, ED, Q, _, R, h, he, hq => by
    show Q [] H
    exact hq [] ds M [] H R .refl rfl rfl h
  | k :: ks, t :: ts, σ, H, M, ds, QD, ED, Q, hl, R, h, he, hq => by
    show tC (.str k) σ H fun x H1 => lift X g W t σ H1 fun y H2 => tPairs _ σ H2 fun ps H3 => Q ((x, y) :: ps) H3
    refine lift_in R (h : t ds _ ED) he fun z ds1 M1 v H1 R1 N1 rz q => ?_
    refine pairs_in (by simpa using hl) R1 q (he.nxt N1) fun zs ds2 M2 vs H2 R2 N2 rzs hlen q2 => ?_
    exact hq (z :: zs) ds2 M2 (v :: vs) H2 R2 (N1.trans N2) ⟨v, vs, rfl, rz.mv N2.mv N2.pre, rzs⟩ (by simpa using hlen) q2
def kDic (n : Nat) (ks : List Str) (Q : QZ) : List Z → DS → Prop := fun zs ds => match unD zs, ds.w[n]? with
  | some l, some (some (.dic [] [])) => Q (.m n) (ds.put n (.dic (ks.map .inr) l))
  | _, _ => False
def dDic (ks : List Str) (ts : List TD) : TD := fun ds Q E => dVals ts (ds.more (.dic [] [])) (kDic ds.w.length ks Q) E
theorem px_dic {keys : List (Option Expr)} {values : List Expr} {ks : List Str} {ts : List TD} (h : PXD X g W pos keys values ks ts) (hn : ks.Nodup := by decide) (hall : keys.all (·.isSome) = true := by rfl) (hl : keys.length = values.length := by rfl) (h0 : keys ≠ [] := by simp)
    (h15 : keys.length ≤ 15 := by decide) (hk15 : ks.length ≤ 15 := by decide) : PX X g W (.Dict keys values pos) (dDic ks ts) := by
  refine .of (pe_disp h.pps hall hl h0 h15) fun σ H M ds QD ED R ht he => ?_
  intro p hp
  obtain ⟨R1, N1⟩ := R.more (c := .dic [] []) (o := .dK []) hp (fun _ z => nomatch z) (by intro φ z; cases z) fun own' m => ⟨[], rfl, rfl, upd_same⟩
  refine pairs_in h.len R1 ht (he.nxt N1) fun zs ds2 M2 vs H2 R2 N2 rzs hlen q => ?_
  unfold kDic at q
  split at q
  · rename_i l el hw
    obtain rfl := unD_of el
    have h0M : (M ++ [p])[ds.w.length]? = some p := by rw [← R.mlen, List.getElem?_append_right (Nat.le_refl _), Nat.sub_self]; rfl
    have hpM : M2[ds.w.length]? = some p := pre_get N2.pre h0M
    obtain ⟨xs, r, hlx, e⟩ := R2.obj _ _ _ hw hpM
    have rl := rzs.toD
    have hvl : vs.length = ks.length := by rw [RepL.length rl]; simpa using hlen
    have hxs : xs = [] := by
      cases xs with
      | nil => rfl
      | cons => have := RepL.length r; simp at this
    have e2 : H2 p = some (.dK []) := by subst hxs; exact e
    have nd : (ks.map (Sum.inr : Str → Key)).Nodup := by
      rw [List.nodup_iff_pairwise_ne, List.pairwise_map]
      exact hn.imp fun h z => h (Sum.inr.inj z)
    have em : mergeK [] ((ks.map (Sum.inr : Str → Key)).zip vs) = (ks.map (Sum.inr : Str → Key)).zip vs := by
      rw [mergeK_new]
      · rfl
      · rw [List.nil_append, List.map_fst_zip (by rw [List.length_map, hvl]; exact Nat.le_refl _)]
        exact nd
    refine ⟨e2, (ks.map (Sum.inr : Str → Key)).zip vs, ?_, ?_, ?_⟩
    · rw [List.zip_map_left, List.zip_map_left, List.map_map]
      rfl
    · rw [List.length_zip, List.length_map]; omega
    · rw [em]
      obtain ⟨R3, N3⟩ := R2.put (c := .dic (ks.map .inr) l) (o := .dK ((ks.map (Sum.inr : Str → Key)).zip vs)) hw hpM (fun _ z => nomatch z) (fun _ z => nomatch z) fun own' m => ⟨vs, RepL.mv m _ _ rl, by rw [List.length_map]; rw [List.length_map] at hlen; omega, upd_same⟩
      exact ⟨.m ds.w.length, _, M2, R3, (N1.trans N2).trans N3, ⟨p, hpM, rfl⟩, q⟩
  · exact q.elim
end
def toDC (QD : MC → Prop) : QZ := fun z ds => match z with
  | .m n => match ds.w[n]? with
    | some (some c) => c.closed ∧ QD c
    | _ => False
  | .d _ => False
def enC (QD : MC → Prop) : DE := { nx := fun _ => False, rt := toDC QD, er := fun _ _ => False }
section
variable {P : Program} {w : World} {K : PySem.W.Frag} {mg : Str → Option Value} {base : Heap} {x qual : Str} {params : Arguments} {body : List Stmt} {scope : Scope} {dvs : List V} {kws : List (Str × V)} {f : Addr} {fd : FuncData} {T : List (Addr × Str)}
theorem bodyC {gd : Bool} {N ps : List Str} {k : Nat} {S : SC} (F : FunD K x qual params body scope dvs kws f fd) (sc : FnScope N ps scope) (len : ∀ ds QD, S ds QD → ds.length = ps.length)
    (hbody : ∀ (cdv : Value), CodeIs K f cdv → ∀ (A : Around) (outer : List Env) (s : Shared) (H : Hp) (E : XK) (g : G), g.T = T → RoomG gd k (A.deeper (envOfC qual scope s.heap.objs.size f cdv)) →
      ∃ t, PXB (cxOf (L2.CX P w) P w K mg base N qual scope f cdv A outer s H E) g (fun cls d _ H => E cls d H) body t ∧ ∀ ds QD, S ds QD → t (enC QD) ⟨ent N ds, []⟩) : FnG gd P w K mg base (k + 1) f fd ps (spC K T S) := by
  have hpl : ps.length ≤ N.length := by have := congrArg List.length sc.pre; rw [List.length_take] at this; omega
  refine FunD.okG F sc (fun vs H Q E h => ?_) (fun cdv hcd A outer s H vs Q E hr h => ?_)
  · obtain ⟨ow, ds, QD, _, r, _, hS, _⟩ := h
    rw [RepL.length r]; exact len _ _ hS
  · obtain ⟨ow, ds, QD, ho, r, ht, hS, hQ⟩ := h
    obtain ⟨t, hp, hq⟩ := hbody cdv hcd A outer s H E ⟨ow, T, []⟩ rfl hr
    have hl : vs.length ≤ N.length := by rw [RepL.length r, len _ _ hS]; exact hpl
    have R := repS_A (T := T) (N := N) ho r ht hl
    have fr : ∀ {M' : List Addr} {ds' : DS} {H' : Hp}, Nxt ⟨ow, T, []⟩ [] ⟨ent N ds, []⟩ H M' ds' H' → Fr0 H H' := fun {M' ds' H'} N' => by
      refine ⟨fun b o hb t => ?_, N'.mv.tb⟩
      by_cases hw : ow b
      · rw [N'.out b hw]; exact hb
      · exact N'.mv.keep b o hb (by rw [own_nil]; exact hw) t
    refine ⟨fun De σ H0 => σ = L2.start N vs ∧ H0 = H ∧ De = { nx := fun _ H' => Q .non H', rt := Q }, ⟨fun pins s1 σ H0 De I hh => ?_⟩, rfl, rfl, rfl⟩
    obtain ⟨rfl, rfl, rfl⟩ := hh
    refine thn (hp.run pins s1 _ _ [] ⟨ent N ds, []⟩ (enC QD) I R (hq ds QD hS) (fun y ds' M' σ' H' cls d he R' N' re => False.elim he)) fun fl s2 q => ?_
    · cases fl with
      | next => obtain ⟨_, _, _, _, _, _, _, q⟩ := q; exact False.elim q
      | brk => obtain ⟨_, _, _, _, _, _, _, q⟩ := q; exact False.elim q
      | cont => obtain ⟨_, _, _, _, _, _, _, q⟩ := q; exact False.elim q
      | ret u =>
        obtain ⟨z, ds', M', v, σ', H', τ, I', r', R', N', rz, q⟩ := q
        have q' : toDC QD z ds' := q
        unfold toDC at q'
        split at q'
        · rename_i n
          split at q'
          · rename_i c hw
            obtain ⟨a, ha, rfl⟩ := rz
            have rc := R'.obj _ _ _ hw ha
            have na : ¬ ow a := R'.apart a (List.mem_of_getElem? ha)
            have hn : H0 a = none := by
              rcases N'.mv.new a (.inr ⟨n, c, ha, hw⟩) with h | h
              · rw [own_nil] at h; exact absurd h na
              · exact h
            have ex : ∃ o, H' a = some o := by obtain ⟨o, e, _⟩ := rc.ex; exact ⟨o, e⟩
            refine ⟨.ref a, σ', H', I', r', hQ c a H' q'.2 (fr N') hn (fun own' ho' => ?_) R'.tabs⟩
            have m : Mv (G.own ⟨ow, T, []⟩ M' ds') own' H' H' := ⟨fun _ _ h _ _ => h, fun _ ps h => ⟨ps, h⟩, fun b h => .inl ((ho' b h).elim .inl fun e => .inr ⟨n, c, by rw [e]; exact ha, hw⟩)⟩
            exact rc.shut m q'.1
          · exact q'.elim
        · exact q'.elim
end
end L3

set_option Elab.async false
set_option linter.all false
set_option maxRecDepth 100000
set_option maxHeartbeats 1000000
namespace L3
open PySem PySem.Spec PyProof.Rows L2
mutual
/-- data of at most n layers that == may look at -/
def D.lay : Nat → D → Bool
  | _, .non => true
  | _, .bl _ => true
  | _, .int _ => true
  | _, .str s => PyData.strOk s
  | n + 1, .tup l => lays n l
  | n + 1, .lst l => lays n l
  | n + 1, .lsf l => lays n l
  | _, _ => false
def lays : Nat → List D → Bool
  | _, [] => true
  | n, d :: l => d.lay n && lays n l
end
mutual
theorem lay_ok : ∀ (n : Nat) (d : D), d.lay n = true → d.flat = true ∧ d.pd.canLay0 = true ∧ d.pd.depth ≤ n
  | n, .non, _ => ⟨rfl, by simp [D.pd, PyData.canLay0], by simp [D.pd, PyData.depth]⟩
  | n, .bl _, _ => ⟨rfl, by simp [D.pd, PyData.canLay0], by simp [D.pd, PyData.depth]⟩
  | n, .int _, _ => ⟨rfl, by simp [D.pd, PyData.canLay0], by simp [D.pd, PyData.depth]⟩
  | n, .str s, h => ⟨rfl, by simpa [D.pd, PyData.canLay0, D.lay] using h, by simp [D.pd, PyData.depth]⟩
  | n + 1, .tup l, h => by
    obtain ⟨a, b, c⟩ := lays_ok n l (by simpa [D.lay] using h)
    exact ⟨by simpa [D.flat] using a, by simpa [D.pd, PyData.canLay0] using b, by simpa [D.pd, PyData.depth] using c⟩
  | n + 1, .lst l, h => by
    obtain ⟨a, b, c⟩ := lays_ok n l (by simpa [D.lay] using h)
    exact ⟨by simpa [D.flat] using a, by simpa [D.pd, PyData.canLay0] using b, by simpa [D.pd, PyData.depth] using c⟩
  | n + 1, .lsf l, h => by
    obtain ⟨a, b, c⟩ := lays_ok n l (by simpa [D.lay] using h)
    exact ⟨by simpa [D.flat] using a, by simpa [D.pd, PyData.canLay0] using b, by simpa [D.pd, PyData.depth] using c⟩
  | 0, .tup l, h => by simp [D.lay] at h
  | 0, .lst l, h => by simp [D.lay] at h
  | 0, .lsf l, h => by simp [D.lay] at h
  | _, .ref _, h => by simp [D.lay] at h
  | _, .ty _, h => by simp [D.lay] at h
  | _, .dic _ _, h => by simp [D.lay] at h
  | _, .ins _ _ _, h => by simp [D.lay] at h
  | _, .exn _ _ _ _ _, h => by simp [D.lay] at h
  | _, .exo _ _ _ _ _, h => by simp [D.lay] at h
  | _, .cod _ _, h => by simp [D.lay] at h
theorem lays_ok : ∀ (n : Nat) (l : List D), lays n l = true → flats l = true ∧ PyData.canLayAll0 (pds l) = true ∧ PyData.depthAll (pds l) ≤ n
  | n, [], _ => ⟨rfl, by simp [pds, PyData.canLayAll0], by simp [pds, PyData.depthAll]⟩
  | n, d :: l, h => by
    have h' : (d.lay n && lays n l) = true := by simpa [lays] using h
    rw [Bool.and_eq_true] at h'
    obtain ⟨a, b, c⟩ := lay_ok n d h'.1
    obtain ⟨a2, b2, c2⟩ := lays_ok n l h'.2
    exact ⟨by simp [flats, a, a2], by simp [pds, PyData.canLayAll0, b, b2], by simp only [pds, PyData.depthAll]; omega⟩
end
theorem lay_shaped {n : Nat} {d : D} (h : d.lay n = true) (hn : n ≤ 64) : d.flat = true ∧ SeqAt.shaped d.pd = true := by
  obtain ⟨a, b, c⟩ := lay_ok n d h
  refine ⟨a, ?_⟩
  unfold SeqAt.shaped
  rw [b, Bool.true_and, decide_eq_true_eq]
  omega
theorem lay_eqOk {n m : Nat} {x y : D} (h : x.lay n = true) (h' : y.lay m = true) (hn : n ≤ 64) (hm : m ≤ 64) : eqOk x y :=
  ⟨(lay_shaped h hn).1, (lay_shaped h' hm).1, (lay_shaped h hn).2, (lay_shaped h' hm).2⟩
theorem lays_of {n : Nat} {l : List D} (h : ∀ d ∈ l, d.lay n = true) : lays n l = true := by
  induction l with
  | nil => simp [lays]
  | cons d l ih =>
    simp only [lays, Bool.and_eq_true]
    exact ⟨h d (by simp), ih fun x hx => h x (by simp [hx])⟩
theorem lays_int (n : Nat) (l : List Int) : lays n (l.map D.int) = true := lays_of fun d h => by
  obtain ⟨i, _, rfl⟩ := List.mem_map.mp h
  simp [D.lay]
mutual
/-- data on which == is = : no bools -/
def D.sim : D → Bool
  | .non => true
  | .int _ => true
  | .str _ => true
  | .tup l => sims l
  | .lst l => sims l
  | _ => false
def sims : List D → Bool
  | [] => true
  | d :: l => d.sim && sims l
end
mutual
theorem sim_eqv : ∀ (x y : D), x.sim = true → y.sim = true → (PyData.eqv x.pd y.pd = true ↔ x = y)
  | .non, y, _, hy => by cases y <;> simp [D.sim] at hy <;> simp [D.pd, PyData.eqv]
  | .int i, y, _, hy => by cases y <;> simp [D.sim] at hy <;> simp [D.pd, PyData.eqv]
  | .str i, y, _, hy => by cases y <;> simp [D.sim] at hy <;> simp [D.pd, PyData.eqv]
  | .tup l, y, hx, hy => by
    cases y <;> simp [D.sim] at hy <;> simp [D.pd, PyData.eqv]
    exact sims_eqv l _ (by simpa [D.sim] using hx) hy
  | .lst l, y, hx, hy => by
    cases y <;> simp [D.sim] at hy <;> simp [D.pd, PyData.eqv]
    exact sims_eqv l _ (by simpa [D.sim] using hx) hy
  | .bl _, y, hx, _ => by simp [D.sim] at hx
  | .lsf _, y, hx, _ => by simp [D.sim] at hx
  | .ref _, y, hx, _ => by simp [D.sim] at hx
  | .ty _, y, hx, _ => by simp [D.sim] at hx
  | .dic _ _, y, hx, _ => by simp [D.sim] at hx
  | .ins _ _ _, y, hx, _ => by simp [D.sim] at hx
  | .exn _ _ _ _ _, y, hx, _ => by simp [D.sim] at hx
  | .exo _ _ _ _ _, y, hx, _ => by simp [D.sim] at hx
  | .cod _ _, y, hx, _ => by simp [D.sim] at hx
theorem sims_eqv : ∀ (x y : List D), sims x = true → sims y = true → (PyData.eqvAll (pds x) (pds y) = true ↔ x = y)
  | [], y, _, _ => by cases y <;> simp [pds, PyData.eqvAll]
  | a :: x, y, hx, hy => by
    cases y with
    | nil => simp [pds, PyData.eqvAll]
    | cons b y =>
      simp only [sims, Bool.and_eq_true] at hx hy
      simp only [pds, PyData.eqvAll, Bool.and_eq_true, List.cons.injEq]
      rw [sim_eqv a b hx.1 hy.1, sims_eqv x y hx.2 hy.2]
end
theorem sims_int (l : List Int) : sims (l.map D.int) = true := by
  induction l with
  | nil => simp [sims]
  | cons a l ih => simp [sims, ih, D.sim]
theorem eqv_self {x : D} (h : x.sim = true) : PyData.eqv x.pd x.pd = true := (sim_eqv x x h h).mpr rfl
end L3

set_option Elab.async false
set_option linter.all false
set_option maxRecDepth 100000
set_option maxHeartbeats 1000000
namespace L3
open PySem PySem.Spec PyProof.Rows L2
theorem atI_get {α : Type} {l : List α} {i : Int} (h0 : 0 ≤ i) : atI l i = l[i.toNat]? := by
  unfold atI ixN
  rw [if_pos h0]
  by_cases h : i < l.length
  · rw [if_pos h]; rfl
  · rw [if_neg h, List.getElem?_eq_none (by omega)]; rfl
theorem atI_in {α : Type} {l : List α} {i : Int} (h0 : 0 ≤ i) (h1 : i < l.length) : ∃ y, atI l i = some y ∧ y ∈ l ∧ l[i.toNat]? = some y := by
  rw [atI_get h0]
  have : i.toNat < l.length := by omega
  exact ⟨l[i.toNat], List.getElem?_eq_getElem this, List.getElem_mem this, List.getElem?_eq_getElem this⟩
theorem atI_ints {l : List Int} {i : Int} (h0 : 0 ≤ i) (h1 : i < l.length) : ∃ z ∈ l, atI (l.map D.int) i = some (.int z) := by
  obtain ⟨y, h, hm, _⟩ := atI_in (l := l.map D.int) h0 (by rw [List.length_map]; exact h1)
  obtain ⟨z, hz, rfl⟩ := List.mem_map.mp hm
  exact ⟨z, hz, h⟩
theorem natAbs_mod {i j : Int} (h : 0 < j) : 0 ≤ i % j ∧ i % j < j := ⟨Int.emod_nonneg _ (by omega), Int.emod_lt_of_pos _ h⟩
/-- i has at most n bits -/
def Bd (n : Nat) (i : Int) : Prop := i.natAbs < 2 ^ n
theorem Bd.mono {n m : Nat} {i : Int} (h : Bd n i) (hn : n ≤ m) : Bd m i := Nat.lt_of_lt_of_le h (Nat.pow_le_pow_right (by decide) hn)
theorem Bd.add {n : Nat} {i j : Int} (h : Bd n i) (h' : Bd n j) : Bd (n + 1) (i + j) := by
  unfold Bd at *
  have : 2 ^ (n + 1) = 2 ^ n + 2 ^ n := by omega
  omega
theorem Bd.sub {n : Nat} {i j : Int} (h : Bd n i) (h' : Bd n j) : Bd (n + 1) (i - j) := by
  unfold Bd at *
  have : 2 ^ (n + 1) = 2 ^ n + 2 ^ n := by omega
  omega
theorem Bd.neg {n : Nat} {i : Int} (h : Bd n i) : Bd n (-i) := by unfold Bd at *; omega
theorem Bd.mul {n m : Nat} {i j : Int} (h : Bd n i) (h' : Bd m j) : Bd (n + m) (i * j) := by
  unfold Bd at *
  rw [Int.natAbs_mul, Nat.pow_add]
  exact Nat.mul_lt_mul_of_lt_of_le h (Nat.le_of_lt h') (Nat.pos_of_ne_zero fun z => by rw [z] at h'; omega)
theorem Bd.div {n : Nat} {i j : Int} (h : Bd n i) : Bd n (i / j) := by
  unfold Bd at *
  exact Nat.lt_of_le_of_lt (Int.natAbs_ediv_le_natAbs i j) h
theorem Bd.mod {n : Nat} {i j : Int} (h : Bd n j) (hj : 0 < j) : Bd n (i % j) := by
  unfold Bd at *
  have := natAbs_mod (i := i) hj
  omega
theorem Bd.lt {n : Nat} {i j : Int} (h : Bd n j) (h0 : 0 ≤ i) (h1 : i ≤ j) : Bd n i := by
  unfold Bd at *
  omega
theorem Bd.mulW {n m : Nat} {i j : Int} (h : Bd n i) (h' : Bd m j) (hs : n + m ≤ 999990 := by decide) : CMulW i j := wmul h h' hs
theorem Bd.divW {n : Nat} {i j : Int} (h : Bd n j) (hj : 0 < j) (hs : n ≤ 9000 := by decide) : CDivW i j := wdiv hj h hs
theorem Bd.of {n : Nat} {i : Int} (h : i.natAbs < 2 ^ n) : Bd n i := h
theorem natAbs_ltI {i : Int} {n : Nat} (h : i.natAbs < 2 ^ n) : (i.natAbs : Int) < 2 ^ n := by
  have := Int.ofNat_lt.mpr h
  simpa using this
/-- what is left of a great cell -/
theorem left_lt {i n : Int} {m : Nat} (h : i.natAbs < 2 ^ m) (h1 : (10 : Int) ^ 18 ≤ i.natAbs) : 0 ≤ ((i.natAbs : Int) - 10 ^ 18) / n ∨ n ≤ 0 := by
  by_cases hn : n ≤ 0
  · exact .inr hn
  · exact .inl (Int.ediv_nonneg (by omega) (by omega))
theorem left_lt' {i n : Int} {m : Nat} (h : i.natAbs < 2 ^ m) (h1 : (10 : Int) ^ 18 ≤ i.natAbs) : ((i.natAbs : Int) - 10 ^ 18) / n < 2 ^ m := by
  refine Int.lt_of_le_of_lt (Int.ediv_le_self _ (by omega)) ?_
  have := natAbs_ltI h
  omega
theorem pow18 : CPow 10 18 := by unfold CPow; decide
theorem bd10 {d : Int} {f n : Nat} (h : (d.natAbs : Int) < 10 ^ f) (hn : 4 * f ≤ n) : Bd n d := by
  have h1 : d.natAbs < 10 ^ f := by
    have : ((10 ^ f : Nat) : Int) = (10 : Int) ^ f := by simp
    omega
  have h2 : 10 ^ f ≤ 2 ^ (4 * f) := by
    rw [Nat.pow_mul]
    exact Nat.pow_le_pow_left (by decide) f
  exact Nat.lt_of_lt_of_le (Nat.lt_of_lt_of_le h1 h2) (Nat.pow_le_pow_right (by decide) hn)
theorem ten_le {a b : Nat} (h : a ≤ b) : (10 : Int) ^ a ≤ 10 ^ b := by
  have : (10 : Nat) ^ a ≤ 10 ^ b := Nat.pow_le_pow_right (by decide) h
  exact_mod_cast this
theorem ten3 (i : Nat) : (10 : Int) ^ (3 * (i + 1)) = 1000 * 10 ^ (3 * i) := by
  have : 3 * (i + 1) = 3 * i + 3 := by omega
  rw [this, Int.pow_add, Int.mul_comm]
  rfl
theorem ten_pos (i : Nat) : (0 : Int) < 10 ^ i := Int.pow_pos (by decide)
theorem sz {n : Nat} (h : Nat.ble n 100 = true) : n ≤ sizeLine := Nat.le_trans (Nat.le_of_ble_eq_true h) (by rw [sizeLine_eq]; decide)
theorem sz' {n : Nat} (h : Nat.ble n 100 = true) : n < sizeLine := Nat.lt_of_le_of_lt (Nat.le_of_ble_eq_true h) (by rw [sizeLine_eq]; decide)
theorem lt60 {n : Nat} (h : Nat.ble n 100 = true) : n < 2 ^ 60 := Nat.lt_of_le_of_lt (Nat.le_of_ble_eq_true h) (by decide)
theorem pos1 {n : Nat} (h : Nat.ble 1 n = true) : 0 < n := Nat.le_of_ble_eq_true h
theorem neT {P : Prop} {x y : Int} (e : x = y) (h : (!decide (x = y)) = true) : P := by simp [e] at h
theorem eqF {P : Prop} {x y : Int} (e : x = y) (h : decide (x = y) = false) : P := by simp [e] at h
theorem eqT {P : Prop} {x y : Int} (e : x ≠ y) (h : decide (x = y) = true) : P := by simp [e] at h
theorem dLoop_list {gt : TGd} {tb : TSd} {De : DE} {items : List D} {ds : DS} (I : Nat → DS → Prop) (h0 : I 0 ds)
    (step : ∀ i x ds (N : DS → Prop), items[i]? = some x → I i ds → (∀ ds', I (i + 1) ds' → N ds') → gt (.d x) ds fun ds1 => tb { De with nx := N, ct := N, bk := De.nx } ds1)
    (fin : ∀ ds, I items.length ds → De.nx ds) : dLoop gt tb De items ds := by
  have : ∀ (r : List D) (i : Nat) (ds : DS), items.drop i = r → i ≤ items.length → I i ds → dLoop gt tb De r ds := by
    intro r
    induction r with
    | nil =>
      intro i ds e hi hI
      have hl : items.length ≤ i := by
        have := congrArg List.length e
        rw [List.length_drop] at this
        simp at this; omega
      have : i = items.length := by omega
      subst this
      exact fin ds hI
    | cons x r ih =>
      intro i ds e hi hI
      have hl : i < items.length := by
        have := congrArg List.length e
        rw [List.length_drop, List.length_cons] at this
        omega
      have hx : items[i]? = some x := by
        have := congrArg (·[0]?) e
        simpa using this
      have hr : items.drop (i + 1) = r := by
        rw [← List.tail_drop, e]; rfl
      exact step i x ds _ hx hI fun ds' h => ih (i + 1) ds' hr (by omega) h
  exact this items 0 ds rfl (Nat.zero_le _) h0
theorem rangeD_get {lo : Int} {n i : Nat} {x : D} (h : (rangeD lo n)[i]? = some x) : i < n ∧ x = .int (lo + (i : Nat)) := by
  unfold rangeD at h
  rw [List.getElem?_map] at h
  by_cases hi : i < n
  · rw [List.getElem?_range hi] at h
    exact ⟨hi, (Option.some.inj h).symm⟩
  · rw [List.getElem?_eq_none (by simpa using hi)] at h
    cases h
theorem rangeD_length {lo : Int} {n : Nat} : (rangeD lo n).length = n := by
  unfold rangeD
  rw [List.length_map, List.length_range]
theorem dLoop_rng {gt : TGd} {tb : TSd} {De : DE} {lo : Int} {n : Nat} {ds : DS} (I : Nat → DS → Prop) (h0 : I 0 ds)
    (step : ∀ i ds (N : DS → Prop), i < n → I i ds → (∀ ds', I (i + 1) ds' → N ds') → gt (.d (.int (lo + (i : Nat)))) ds fun ds1 => tb { De with nx := N, ct := N, bk := De.nx } ds1)
    (fin : ∀ ds, I n ds → De.nx ds) : dLoop gt tb De (rangeD lo n) ds :=
  dLoop_list I h0 (fun i x ds N hx hI hN => by
    obtain ⟨h1, rfl⟩ := rangeD_get hx
    exact step i ds N h1 hI hN) (fun ds h => fin ds (by rwa [rangeD_length] at h))
theorem cLoop_list {gt : TGd} {tt : TBo} {te : TD} {vs : List Nat} {Q : List D → DS → Prop} {items : List D} {s0 : List (Option Z)} {w0 : List (Option MC)} (I : Nat → List D → List (Option MC) → Prop) (h0 : I 0 [] w0)
    (step : ∀ i x acc w (N : List D → List (Option MC) → Prop), items[i]? = some x → I i acc w → (∀ acc' w', I (i + 1) acc' w' → N acc' w') →
      gt (.d x) ⟨wipeD s0 vs, w⟩ fun ds1 => tt ds1 (fun b ds2 => (b = true → te ds2 (fun z ds3 => kD (fun y => N (acc ++ [y]) ds3.w) z) (fun _ _ => False)) ∧ (b = false → N acc ds2.w)) (fun _ _ => False))
    (fin : ∀ acc w, I items.length acc w → Q acc ⟨s0, w⟩) : cLoop gt tt te vs Q items [] ⟨s0, w0⟩ := by
  have : ∀ (r : List D) (i : Nat) (acc : List D) (w : List (Option MC)), items.drop i = r → i ≤ items.length → I i acc w → cLoop gt tt te vs Q r acc ⟨s0, w⟩ := by
    intro r
    induction r with
    | nil =>
      intro i acc w e hi hI
      have hl : items.length ≤ i := by
        have := congrArg List.length e
        rw [List.length_drop] at this
        simp at this; omega
      have : i = items.length := by omega
      subst this
      exact fin acc w hI
    | cons x r ih =>
      intro i acc w e hi hI
      have hl : i < items.length := by
        have := congrArg List.length e
        rw [List.length_drop, List.length_cons] at this
        omega
      have hx : items[i]? = some x := by
        have := congrArg (·[0]?) e
        simpa using this
      have hr : items.drop (i + 1) = r := by
        rw [← List.tail_drop, e]; rfl
      exact step i x acc w (fun acc w => cLoop gt tt te vs Q r acc ⟨s0, w⟩) hx hI fun acc' w' h => ih (i + 1) acc' w' hr (by omega) h
  exact this items 0 [] w0 rfl (Nat.zero_le _) h0
/-- .. each item makes its own -/
theorem cLoop_map {gt : TGd} {tt : TBo} {te : TD} {vs : List Nat} {Q : List D → DS → Prop} {items : List D} {s0 : List (Option Z)} {w0 : List (Option MC)} (f : D → D)
    (step : ∀ x acc (N : List D → List (Option MC) → Prop), x ∈ items → N (acc ++ [f x]) w0 →
      gt (.d x) ⟨wipeD s0 vs, w0⟩ fun ds1 => tt ds1 (fun b ds2 => (b = true → te ds2 (fun z ds3 => kD (fun y => N (acc ++ [y]) ds3.w) z) (fun _ _ => False)) ∧ (b = false → N acc ds2.w)) (fun _ _ => False))
    (fin : Q (items.map f) ⟨s0, w0⟩) : cLoop gt tt te vs Q items [] ⟨s0, w0⟩ := by
  refine cLoop_list (fun i acc w => w = w0 ∧ acc = (items.take i).map f) ⟨rfl, rfl⟩ (fun i x acc w N hx hI hN => ?_) (fun acc w h => ?_)
  · obtain ⟨rfl, rfl⟩ := hI
    refine step x _ N (List.mem_of_getElem? hx) (hN _ _ ⟨rfl, ?_⟩)
    rw [List.take_succ, hx]; simp
  · obtain ⟨rfl, rfl⟩ := h
    rw [List.take_length]; exact fin
theorem two_lt {n m : Nat} (h : n < m) : 2 ^ n < 2 ^ m := Nat.pow_lt_pow_right (by decide) h
end L3

set_option Elab.async false
set_option linter.all false
set_option maxRecDepth 100000
set_option maxHeartbeats 2000000
namespace L3
open PySem PySem.Spec PyProof.Rows L2
theorem bits_lt {z : Int} {n : Nat} (h : Builtin.Int.intBits z ≤ n) : z.natAbs < 2 ^ (n + 1) := by
  unfold Builtin.Int.intBits at h
  by_cases h0 : z = 0
  · subst h0; exact Nat.pow_pos (by decide)
  · have e : (z == 0) = false := by simpa using h0
    rw [e] at h
    have h' : z.natAbs.log2 + 1 ≤ n := h
    exact (Nat.log2_lt (by omega)).mp (by omega)
/-- a law, with the script's bits told -/
theorem walk_D {l : PySem.W.OpenLaw} {n k : Nat} {q : Program} {loose : List Str} {XP : (Str → Option Value) → Heap → Prop} {YP : World → Heap → Prop} {d : DefRec} {x : Str}
    (hn : l.most = some n) (hn2 : n ≤ sizeLine) (hdf : d.params.defaults = []) (hr : Room k callerA)
    (F : ∀ (w : World) (mg : Str → Option Value) (fa : Addr) (h : Heap), YP w h → h.Ns mainGlobals mg → mg d.name = some (.ref fa) →
      ∃ (K : PySem.W.Frag) (fd : FuncData) (S : SA) (T : List (Addr × Str)), K.In h ∧ (∀ (s : Shared) (u : Value), BindsTo s fd ⟨[u], []⟩ [(x, u)]) ∧ (∀ H, Only H → LamX.Tabs T H) ∧
        (∀ (ns : List Int), ns.length ≤ n → (∀ z ∈ ns, z.natAbs < 2 ^ 1048577) → S [.lsf (ns.map D.int)] (fun r => r = .bl true) (fun _ => False)) ∧
        ∀ base : Heap, K.In base → base.Ns mainGlobals mg → FnOk l.prog w K mg base (L2.CX l.prog w) k fa fd [x] (spA K T S)) :
    PySem.W.WalkO q loose XP YP l.row.toRowW d [] (fun f vs => PySem.call f vs) := by
  refine Att.attach_callB hn hdf fun w s₀ s₁ mg mb fa o pm cd doc a vs ns G Y ho hd hcd hmg hobj hints hlen hbits hg => ?_
  obtain ⟨K, fd, S, T, KX, hb, hT, hS, hF⟩ := F w mg fa _ Y G.T.g hmg
  refine law_call KX G.T.g G.T.b G.T.builtins G.T.nolimit hg hobj hints (Nat.le_trans hlen hn2) hr hF hb (fun H hO hq => ?_) fun H e s' h => ?_
  · refine ⟨fun _ => False, [.lsf (ns.map D.int)], fun r => r = .bl true, fun _ => False, fun _ h => h.elim, ⟨.ref a, [], rfl, ?_, rfl⟩, hT H hO, hS ns hlen fun z hz => bits_lt (hbits z hz), fun r v H' e _ rv _ => ?_, fun _ _ _ _ h => h.elim⟩
    · refine ⟨a, ns.map V.int, rfl, ?_, ?_⟩
      · clear hq hints hlen hbits
        induction ns with
        | nil => exact rfl
        | cons i r ih => exact ⟨.int i, r.map V.int, rfl, rfl, ih⟩
      · rcases hq with hq | hq
        · exact .inl ⟨fun z => z, hq⟩
        · exact .inr hq
    · subst e; exact rv
  · unfold L2.CX at h
    obtain ⟨_, _, _, _, _, _, _, _, _, _, _, _, z⟩ := h
    exact z
end L3

set_option Elab.async false
set_option linter.all false
set_option maxRecDepth 100000
set_option maxHeartbeats 1000000
namespace L3
open PySem PySem.Spec PyProof.Rows L2
section
variable {X : Cx} {g : G} {W : WX}
/-- what repr answers -/
def showI (i : Int) : Str := toString i
def rdRepr : List Z → DS → QZ → Prop := fun zs ds Q => match zs with
  | [.d (.int i)] => Bd 1920 i ∧ Q (.d (.str (showI i))) ds
  | [.d .non] => Q (.d (.str "None")) ds
  | [.d (.bl b)] => Q (.d (.str (if b then "True" else "False"))) ds
  | _ => False
theorem bd_log {i : Int} {n : Nat} (h : Bd n i) (hn : 0 < n) : i.natAbs.log2 < n := by
  by_cases h0 : i.natAbs = 0
  · rw [h0]; simpa using hn
  · exact (Nat.log2_lt h0).mpr h
theorem call_repr_none : CallR X (.builtin "repr") (fun xs H Q => xs = [.non] ∧ Q (.str "None") H) := by
  intro pins s σ H xs us Q I r h
  obtain ⟨rfl, q⟩ := h
  obtain ⟨u, rfl, hu⟩ := vals1 r
  cases hu
  exact PySem.P.repr_of_none ⟨.str _, H, I.tok _, ⟨_, rfl⟩, q⟩
theorem call_repr_bool : CallR X (.builtin "repr") (fun xs H Q => ∃ b, xs = [.bl b] ∧ Q (.str (if b then "True" else "False")) H) := by
  intro pins s σ H xs us Q I r h
  obtain ⟨b, rfl, q⟩ := h
  obtain ⟨u, rfl, hu⟩ := vals1 r
  cases hu
  refine PySem.P.repr_of_bool ⟨.str _, H, I.tok _, ⟨_, rfl⟩, ?_⟩
  cases b <;> exact q
theorem cd_repr : CallD X g (.builtin "repr") rdRepr := by
  intro pins s σ H M ds zs vs us QD I R rz rv h
  unfold rdRepr at h
  split at h
  · obtain ⟨v, rfl, r1⟩ := zs1 rz
    cases r1
    exact thn (SkE.call_repr_int pins s σ H _ us _ I rv ⟨_, rfl, bd_log h.1 (by decide), Mid.same R (z := .d (.str _)) rfl h.2⟩) fun _ _ z => .of z
  · obtain ⟨v, rfl, r1⟩ := zs1 rz
    cases r1
    exact thn (call_repr_none pins s σ H _ us _ I rv ⟨rfl, Mid.same R (z := .d (.str _)) rfl h⟩) fun _ _ z => .of z
  · obtain ⟨v, rfl, r1⟩ := zs1 rz
    cases r1
    exact thn (call_repr_bool pins s σ H _ us _ I rv ⟨_, rfl, Mid.same R (z := .d (.str _)) rfl h⟩) fun _ _ z => .of z
  · exact h.elim
end
theorem sneT {P : Prop} {x y : Str} (e : x = y) (h : (!decide (x = y)) = true) : P := by simp [e] at h
theorem show0 : showI 0 = ("0" : Str) := by decide +kernel
end L3
namespace L3
open PySem PySem.Spec PyProof.Rows L2
/-- what the unwritten parameters get -/
structure DB (K : PySem.W.Frag) (fd : FuncData) (ps : List Str) (dvs : List D) : Prop where
  ex : ∃ (dus : List Value) (dws : List V), Binds K fd ps dus ∧ Vals dws dus ∧ ∀ own H, RepL K own H dvs dws
theorem px_ownD {X : Cx} {g : G} {W : WX} {gd : Bool} {k : Nat} {f : Addr} {fd : FuncData} {ps : List Str} {T : List (Addr × Str)} {S : SA} {x : Str} {p pos : Pos} {e : Expr} {es : List Expr} {t : TLi} {dvs : List D}
    (Go : OwnF gd X.prog X.w X.K X.mg X.base x k f fd ps (spA X.K T S)) (hb : DB X.K fd ps dvs) (hT : g.T = T) (hr : RoomG gd k X.A) (tk : Takes X W) (ha : PXA X g W (e :: es) t) (hg : Gl X x := by rfl) (hdb : (x == ("__debug__" : Str)) = false := by decide)
    (he : starEach (e :: es) X.env = (false, eval e X.env) :: starEach es X.env := by rfl) (hpl : (backTo pos (starEach es X.env)).any (·.1) = false := by rfl) : PX X g W (.Call (.Name x p) (e :: es) [] pos) (dCallA S dvs t) := by
  obtain ⟨dus, dws, h1, h2, h3⟩ := hb.ex
  exact px_callA Go.ok hT hr tk hg Go.g Go.kp h1 h2 h3 ha hdb he hpl
theorem FunD.db {K : PySem.W.Frag} {x qual : Str} {params : Arguments} {body : List Stmt} {scope : Scope} {dvs : List V} {f : Addr} {fd : FuncData} {ps : List Str} (F : FunD K x qual params body scope dvs [] f fd) (n j : Nat) (ds : List D) (hd : dvs ≠ []) (hn : n + (dvs.length - j) = ps.length)
    (h : ∀ (T : Addr) (kV doc pm : Value) (an : Option Addr) (cdv ct : Value) (us its : List Value), us.length = n → its.length = dvs.length →
      ∃ k, bindArgs (PySem.W.fnOf x qual params body scope (.ref T) kV doc pm an cdv ct) ⟨us, []⟩ = seqItems? (.ref T) >>= k ∧ k (some its.toArray) = pure (ps.zip (us ++ its.drop j)))
    (hr : ∀ own H, RepL K own H ds (dvs.drop j)) : DB K fd ps ds := by
  obtain ⟨dus, v, b⟩ := FunD.binds1 F n j hd hn h
  exact ⟨dus, _, b, v, hr⟩
end L3

set_option Elab.async false
set_option linter.all false
set_option maxRecDepth 100000
set_option maxHeartbeats 1000000
namespace L3
open PySem PySem.Spec PyProof.Rows L2
section
variable {X : Cx} {g : G} {W : WX} {pos : Pos} {o e : Expr} {to te : TD}
theorem RepL.snoc {K : PySem.W.Frag} {own : Addr → Prop} {H : Hp} {l : List D} {xs : List V} {d : D} {v : V} (r : RepL K own H l xs) (h : RepD K own H d v) : RepL K own H (l ++ [d]) (xs ++ [v]) := RepL.append r ⟨v, [], rfl, h, rfl⟩
theorem RepL.reverse {K : PySem.W.Frag} {own : Addr → Prop} {H : Hp} : ∀ {l : List D} {xs : List V}, RepL K own H l xs → RepL K own H l.reverse xs.reverse
  | [], xs, h => by cases h; exact rfl
  | d :: l, xs, h => by
    obtain ⟨v, r, rfl, h1, h2⟩ := h
    rw [List.reverse_cons, List.reverse_cons]
    exact RepL.snoc (RepL.reverse h2) h1
/-- xs[::-1] -/
def rdRev (z : Z) (ds : DS) (Q : QZ) : Prop := match itemsL ds z with
  | some l => Q (.d (.lst l.reverse)) ds
  | none => False
def dRev (t : TD) : TD := fun ds Q E => t ds (fun z ds1 => rdRev z ds1 Q) E
theorem px_slrev {k : Nat} {p1 p2 p3 : Pos} (h : PX X g W o to) : PX X g W (.Subscript o (.Slice none none (some (.UnaryOp .USub (.Constant (.int 1) k p1) p2)) p3) pos) (dRev to) := by
  refine .of (pe_revL h.pe) fun σ H M ds QD ED R ht he => ?_
  refine lift_in R ht he fun z ds1 M1 v H1 R1 N1 rz q => ?_
  unfold rdRev at q
  split at q
  · rename_i l el
    obtain ⟨a, xs, rfl, r, hq⟩ := itemsL_rep R1 rz el
    exact ⟨a, xs, rfl, hq, fun p hp => (Mid.lst R1 hp (RepL.reverse r) q).nxt N1⟩
  · exact q.elim
/-- xs.append(e) -/
def rdApp (z y : Z) (ds : DS) (Q : QZ) : Prop := match z, y with
  | .m n, .d x => match ds.w[n]? with
    | some (some (.lst l)) => l.length < sizeLine ∧ Q (.d .non) (ds.put n (.lst (l ++ [x])))
    | _ => False
  | _, _ => False
/-- the thing written to is a list -/
def rdIsL (z : Z) (ds : DS) : Prop := match z with
  | .m n => match ds.w[n]? with
    | some (some (.lst _)) => True
    | _ => False
  | _ => False
def dApp (to te : TD) : TD := fun ds Q E => to ds (fun z ds1 => rdIsL z ds1 ∧ te ds1 (fun y ds2 => rdApp z y ds2 Q) E) E
theorem isL_rep {σ : L2.St} {H : Hp} {M : List Addr} {ds : DS} {z : Z} {v : V} (R : RepS X.K g M ds σ H) (rz : RepZ X.K (g.own M ds) M H z v) (h : rdIsL z ds) : tyV X.K "list" v H := by
  unfold rdIsL at h
  split at h
  · split at h
    · rename_i n l hw
      obtain ⟨a, ha, rfl⟩ := rz
      obtain ⟨xs, r, hH⟩ := R.obj _ _ _ hw ha
      exact .inl ⟨rfl, xs, .of hH⟩
    · exact h.elim
  · exact h.elim
theorem px_append {apos : Pos} (ho : PX X g W o to) (hv : PX X g W e te) (hbase : attributeBase o "append" X.env (eval o X.env) = eval o X.env := by rfl) (hline : (apos.endLine == pos.line) = true := by rfl) (hs : starEach [e] X.env = (false, eval e X.env) :: starEach [] X.env := by rfl)
    (hfew : ((backTo pos (starEach [e] X.env)).all (fun x => !x.1) && (backToKw pos (keywordEach [] X.env)).all (fun x => x.1.isSome) && decide ([e].length + ([] : List Keyword).length + (if ([] : List Keyword).isEmpty then 0 else 1) < 30)) = true := by rfl)
    (hpl : (backTo pos (starEach [] X.env)).any (·.1) = false := by rfl) :
    PX X g W (.Call (.Attribute o "append" apos) [e] [] pos) (dApp to te) := by
  refine .of (pe_bm PySem.F.plainAttrs_list PySem.F.slot_list_append PySem.F.type_list_append mt_append ho.pe (pa_cons hv.pe pa_nil hs) hbase hfew hline hs hpl) fun σ H M ds QD ED R ht he => ?_
  refine lift_in R ht he fun z ds1 M1 v H1 R1 N1 rz q => ?_
  refine ⟨isL_rep R1 rz q.1, ?_⟩
  refine lift_in R1 q.2 (he.nxt N1) fun y ds2 M2 u H2 R2 N2 ry q2 => ?_
  have rz := rz.mv N2.mv N2.pre
  unfold rdApp at q2
  split at q2
  · rename_i n x rz0
    split at q2
    · rename_i l hw
      obtain ⟨a, ha, rfl⟩ := rz
      obtain ⟨xs, r, hH⟩ := R2.obj _ _ _ hw ha
      refine ⟨a, xs, u, rfl, rfl, hH, by rw [RepL.length r]; exact q2.1, ?_⟩
      obtain ⟨R3, N3⟩ := R2.put (c := .lst (l ++ [x])) (o := .lst (xs ++ [u])) hw ha (fun _ z => nomatch z) (fun _ z => nomatch z) fun own' m => ⟨xs ++ [u], RepL.snoc (RepL.mv m _ _ r) (RepD.mv m _ _ ry), upd_same⟩
      exact ⟨.d .non, _, M2, R3, (N1.trans N2).trans N3, rfl, q2.2⟩
    · exact q2.elim
  · exact q2.elim
end
section
variable {X : Cx} {g : G} {W : WX}
theorem cd_maxL (hc : X.calm = true) : CallD X g (.builtin "max") rdMaxL := .of (cr_max hc) fun σ H M ds zs vs QD R rz h => by
  unfold rdMaxL at h
  split at h
  · obtain ⟨v, rfl, r1⟩ := zs1 rz
    split at h
    · rename_i l e
      obtain ⟨p, xs, rfl, r, hq⟩ := itemsL_rep R r1 e
      obtain ⟨ns, rfl, h0, q⟩ := h
      obtain rfl := r.ints
      exact ⟨p, ns, rfl, hq, h0, fun m hm ha => .same R (z := .d (.int _)) rfl (q m hm ha)⟩
    · exact h.elim
  · exact h.elim
theorem cd_minL (hc : X.calm = true) : CallD X g (.builtin "min") rdMinL := .of (cr_min hc) fun σ H M ds zs vs QD R rz h => by
  unfold rdMinL at h
  split at h
  · obtain ⟨v, rfl, r1⟩ := zs1 rz
    split at h
    · rename_i l e
      obtain ⟨p, xs, rfl, r, hq⟩ := itemsL_rep R r1 e
      obtain ⟨ns, rfl, h0, q⟩ := h
      obtain rfl := r.ints
      exact ⟨p, ns, rfl, hq, h0, fun m hm ha => .same R (z := .d (.int _)) rfl (q m hm ha)⟩
    · exact h.elim
  · exact h.elim
/-- what is no container -/
def D.atom : D → Bool
  | .non => true
  | .bl _ => true
  | .int _ => true
  | .str _ => true
  | _ => false
def D.toV : D → V
  | .bl b => .bl b
  | .int i => .int i
  | .str s => .str s
  | _ => .non
theorem RepD.atom {K : PySem.W.Frag} {own : Addr → Prop} {H : Hp} : ∀ {d : D} {v : V}, d.atom = true → RepD K own H d v → v = d.toV
  | .non, v, _, h => h
  | .bl _, v, _, h => h
  | .int _, v, _, h => h
  | .str _, v, _, h => h
  | .ref _, v, e, _ => by cases e
  | .ty _, v, e, _ => by cases e
  | .tup _, v, e, _ => by cases e
  | .lst _, v, e, _ => by cases e
  | .lsf _, v, e, _ => by cases e
  | .dic _ _, v, e, _ => by cases e
  | .ins _ _ _, v, e, _ => by cases e
  | .exn _ _ _ _ _, v, e, _ => by cases e
  | .exo _ _ _ _ _, v, e, _ => by cases e
  | .cod _ _, v, e, _ => by cases e
theorem RepL.atoms {K : PySem.W.Frag} {own : Addr → Prop} {H : Hp} : ∀ {l : List D} {xs : List V}, l.all D.atom = true → RepL K own H l xs → xs = l.map D.toV
  | [], xs, _, h => h
  | d :: l, xs, e, h => by
    obtain ⟨v, r, rfl, h1, h2⟩ := h
    rw [List.all_cons, Bool.and_eq_true] at e
    rw [RepD.atom e.1 h1, RepL.atoms e.2 h2]; rfl
theorem flat_toV : ∀ d : D, flatV d.toV = true
  | .non => rfl
  | .bl _ => rfl
  | .int _ => rfl
  | .str _ => rfl
  | .ref _ => rfl
  | .ty _ => rfl
  | .tup _ => rfl
  | .lst _ => rfl
  | .lsf _ => rfl
  | .dic _ _ => rfl
  | .ins _ _ _ => rfl
  | .exn _ _ _ _ _ => rfl
  | .exo _ _ _ _ _ => rfl
  | .cod _ _ => rfl
theorem flat_all (l : List D) : (l.map D.toV).all flatV = true := by
  rw [List.all_map, List.all_eq_true]
  exact fun x _ => flat_toV x
/-- x in xs: what is no container -/
def isIn (x : D) (l : List D) : Bool := inV x.toV (l.map D.toV)
def rdIn : Z → Z → DS → QZ → Prop := fun x y ds Q => match x, itemsOf ds y with
  | .d x, some l => (x.atom = true ∧ l.all D.atom = true) ∧ Q (.d (.bl (isIn x l))) ds
  | _, _ => False
def rdNotIn : Z → Z → DS → QZ → Prop := fun x y ds Q => match x, itemsOf ds y with
  | .d x, some l => (x.atom = true ∧ l.all D.atom = true) ∧ Q (.d (.bl (!isIn x l))) ds
  | _, _ => False
theorem od_in : OpD X g (compareOp .In) rdIn := by
  intro pins s σ H M ds x y v u vv uu QD I R rx vx ry vy h
  unfold rdIn at h
  split at h
  · rename_i x l el
    obtain ⟨⟨a1, a2⟩, h⟩ := h
    obtain ⟨p, xs, rfl, r, hq⟩ := items_rep R ry el
    obtain rfl := RepD.atom a1 rx
    obtain rfl := RepL.atoms a2 r
    exact thn (op_in_seq pins s σ H _ _ vv uu _ I vx vy ⟨p, _, rfl, hq, flat_toV x, flat_all l, .same R (z := .d (.bl _)) rfl h⟩) fun _ _ z => .of z
  · exact h.elim
theorem od_notIn : OpD X g (compareOp .NotIn) rdNotIn := by
  intro pins s σ H M ds x y v u vv uu QD I R rx vx ry vy h
  unfold rdNotIn at h
  split at h
  · rename_i x l el
    obtain ⟨⟨a1, a2⟩, h⟩ := h
    obtain ⟨p, xs, rfl, r, hq⟩ := items_rep R ry el
    obtain rfl := RepD.atom a1 rx
    obtain rfl := RepL.atoms a2 r
    exact thn (op_notIn_seq pins s σ H _ _ vv uu _ I vx vy ⟨p, _, rfl, hq, flat_toV x, flat_all l, .same R (z := .d (.bl _)) rfl h⟩) fun _ _ z => .of z
  · exact h.elim
end
theorem isIn_int {i : Int} {l : List Int} : isIn (.int i) (l.map D.int) = decide (i ∈ l) := by
  unfold isIn inV
  induction l with
  | nil => simp
  | cons a l ih =>
    rw [List.map_cons, List.map_cons, List.any_cons, ih]
    have : eqV (D.int a).toV (D.int i).toV = decide (a = i) := by
      show eqV (.int a) (.int i) = _
      simp only [eqV]; rfl
    rw [this]
    by_cases h : a = i
    · simp [h]
    · have h2 : ¬ i = a := fun z => h z.symm
      simp [h, h2]
end L3

set_option Elab.async false
set_option linter.all false
set_option maxRecDepth 100000
set_option maxHeartbeats 1000000
namespace L3
open PySem PySem.Spec PyProof.Rows L2
section
variable {X : Cx} {g : G} {W : WX} {pos : Pos}
theorem px_gI {x : Str} {i : Int} (h : ∃ t, X.mg x = some (.int i t)) (hg : Gl X x := by rfl) (hd : (x == ("__debug__" : Str)) = false := by decide) : PX X g W (.Name x pos) (dC (.int i)) := by
  obtain ⟨t, h⟩ := h
  exact px_globI hg h hd
theorem px_gS {x : Str} {z : Str} (h : ∃ t, X.mg x = some (.str z t)) (hg : Gl X x := by rfl) (hd : (x == ("__debug__" : Str)) = false := by decide) : PX X g W (.Name x pos) (dC (.str z)) := by
  obtain ⟨t, h⟩ := h
  exact px_globS hg h hd
/-- a name of the program whose value is a written tuple -/
def TupG (K : PySem.W.Frag) (mg : Str → Option Value) (x : Str) (l : List D) : Prop := ∃ a xs, mg x = some (.ref a) ∧ WrT K a xs ∧ ∀ own H, RepL K own H l xs
theorem px_gT {x : Str} {l : List D} (h : TupG X.K X.mg x l) (hg : Gl X x := by rfl) (hd : (x == ("__debug__" : Str)) = false := by decide) : PX X g W (.Name x pos) (dC (.tup l)) := by
  obtain ⟨a, xs, h1, h2, h3⟩ := h
  exact px_globT hg h1 h2 h3 hd
end
theorem wrT_of {K : PySem.W.Frag} {x : Str} {vs : List He.Dv} (h : He.tupB K x vs = true) : WrT K (He.ga K x) (vs.map (He.Dv.v K)) := by
  unfold He.tupB at h
  split at h
  · rename_i c od its n sl e
    simp only [Bool.and_eq_true, decide_eq_true_eq] at h
    obtain ⟨rfl, h2, h3⟩ := h
    exact ⟨_, its, n, e, rfl, rfl, h2, He.relAll_ok h3⟩
  · cases h
theorem TupG.of {K : PySem.W.Frag} {mg : Str → Option Value} {x : Str} {l : List D} {vs : List He.Dv} (hm : mg x = some (.ref (He.ga K x))) (h : He.tupB K x vs = true) (hl : ∀ own H, RepL K own H l (vs.map (He.Dv.v K))) : TupG K mg x l := ⟨_, _, hm, wrT_of h, hl⟩
end L3

set_option Elab.async false
set_option linter.all false
set_option maxRecDepth 100000
set_option maxHeartbeats 1000000
namespace L3
open PySem PySem.Spec PyProof.Rows L2
section
variable {X : Cx} {g : G} {W : WX} {pos : Pos}
def rdPl (f : D → Bool) (z : Z) (ds : DS) (Q : QZ) : Prop := match z with
  | .d x => x.plain = true ∧ Q (.d (.bl (f x))) ds
  | _ => False
def dIsi2 (f : D → Bool) (te : TD) : TD := fun ds Q E => te ds (fun z ds1 => rdPl f z ds1 Q) E
def Two (f : D → Bool) (n1 n2 : String) : Prop := ∀ d : D, d.plain = true → ∃ b1 b2, kitB d.tyName n1 = some b1 ∧ kitB d.tyName n2 = some b2 ∧ f d = (b1 || b2)
theorem px_isi2 {f : D → Bool} {n1 n2 : String} {x1 x2 : Str} {e : Expr} {te : TD} {p p1 p2 pt : Pos} {k : Nat} (hf : Two f n1 n2) (hg : Gl X "isinstance") (hm : X.mg "isinstance" = none) (hb : bootBuiltins "isinstance" = some (.builtin "isinstance"))
    (hv : PX X g W e te) (m1 : X.mg x1 = none) (b1 : bootBuiltins x1 = some (.type n1)) (m2 : X.mg x2 = none) (b2 : bootBuiltins x2 = some (.type n2)) (g1 : Gl X x1 := by rfl) (g2 : Gl X x2 := by rfl)
    (a1 : x1 ≠ "__name__" := by decide) (a2 : x2 ≠ "__name__" := by decide) (a3 : (x1 == ("__debug__" : Str)) = false := by decide) (a4 : (x2 == ("__debug__" : Str)) = false := by decide)
    (s1 : starEach [e, .Tuple [.Name x1 p1, .Name x2 p2] k pt] X.env = (false, eval e X.env) :: starEach [.Tuple [.Name x1 p1, .Name x2 p2] k pt] X.env := by rfl)
    (s2 : starEach [.Tuple [.Name x1 p1, .Name x2 p2] k pt] X.env = (false, eval (.Tuple [.Name x1 p1, .Name x2 p2] k pt) X.env) :: starEach [] X.env := by rfl)
    (hpl : (backTo pos (starEach [.Tuple [.Name x1 p1, .Name x2 p2] k pt] X.env)).any (·.1) = false := by rfl) :
    PX X g W (.Call (.Name "isinstance" p) [e, .Tuple [.Name x1 p1, .Name x2 p2] k pt] [] pos) (dIsi2 f te) := by
  have hT : PE X (.Tuple [.Name x1 p1, .Name x2 p2] k pt) _ := pe_tup (pa_cons (pe_bltn (v := .ty n1) g1 m1 b1 rfl a1 a3) (pa_cons (pe_bltn (v := .ty n2) g2 m2 b2 rfl a2 a4) pa_nil rfl) rfl)
  refine .of (pe_callB call_isiT hg hm hb (pa_cons hv.pe (pa_cons hT pa_nil s2) s1) (by decide) (by decide) s1 hpl) fun σ H M ds QD ED R ht he => ?_
  refine lift_in R ht he fun z ds1 M1 v H1 R1 N1 rz q => ?_
  unfold rdPl at q
  split at q
  · rename_i x
    refine ⟨sz (n := 2) rfl, fun a ha => ?_⟩
    obtain ⟨R2, N2⟩ := R1.upd (o := .tup [.ty n1, .ty n2]) ha
    have rx : RepD X.K (g.own M1 ds1) (L2.upd H1 a (.tup [.ty n1, .ty n2])) x v := RepD.mv N2.mv _ _ rz
    obtain ⟨c1, c2, k1, k2, e⟩ := hf x q.1
    refine ⟨v, a, [.ty n1, .ty n2], _, [.type n1, .type n2], f x, rfl, upd_same, .cons (.ty _) (.cons (.ty _) .nil), RepD.tyX rx q.1, ?_, .bl (f x) |> Z.d, ds1, M1, R2, N1.trans N2, rfl, q.2⟩
    refine kitAny_cons (kit_ty k1) (fun h => kitAny_cons (kit_ty k2) (fun h2 => ?_) fun h2 => ?_) fun h => ?_
    · rw [e, h, h2]; exact kitAny_nil
    · rw [e, h2]; simp
    · rw [e, h]; simp
  · exact q.elim
def D.isSeq (d : D) : Bool := d.isList || d.isTuple
theorem two_seq : Two D.isSeq "list" "tuple" := fun d h => by
  cases d with
  | non => exact ⟨_, _, (by decide +kernel : kitB "NoneType" "list" = some false), (by decide +kernel : kitB "NoneType" "tuple" = some false), rfl⟩
  | bl b => exact ⟨_, _, (by decide +kernel : kitB "bool" "list" = some false), (by decide +kernel : kitB "bool" "tuple" = some false), rfl⟩
  | int b => exact ⟨_, _, (by decide +kernel : kitB "int" "list" = some false), (by decide +kernel : kitB "int" "tuple" = some false), rfl⟩
  | str b => exact ⟨_, _, (by decide +kernel : kitB "str" "list" = some false), (by decide +kernel : kitB "str" "tuple" = some false), rfl⟩
  | tup b => exact ⟨_, _, (by decide +kernel : kitB "tuple" "list" = some false), (by decide +kernel : kitB "tuple" "tuple" = some true), rfl⟩
  | lst b => exact ⟨_, _, (by decide +kernel : kitB "list" "list" = some true), (by decide +kernel : kitB "list" "tuple" = some false), rfl⟩
  | lsf b => exact ⟨_, _, (by decide +kernel : kitB "list" "list" = some true), (by decide +kernel : kitB "list" "tuple" = some false), rfl⟩
  | dic b c => exact ⟨_, _, (by decide +kernel : kitB "dict" "list" = some false), (by decide +kernel : kitB "dict" "tuple" = some false), rfl⟩
  | ref b => cases h
  | ty b => cases h
  | ins a b c => cases h
  | exn a b c d e => cases h
  | exo a b c d e => cases h
  | cod a b => cases h
end
end L3

set_option Elab.async false
set_option linter.all false
set_option maxRecDepth 100000
set_option maxHeartbeats 1000000
namespace L3
open PySem PySem.Spec PyProof.Rows L2
theorem enumD_at {l : List D} {k i : Nat} {x : D} (h : (enumD k l)[i]? = some x) : ∃ y, l[i]? = some y ∧ x = .tup [.int ((k + i : Nat) : Int), y] := by
  rw [enumD_get] at h
  cases e : l[i]? with
  | none => rw [e] at h; cases h
  | some y => rw [e] at h; exact ⟨y, rfl, (Option.some.inj h).symm⟩
theorem enumD_len : ∀ {l : List D} {k : Nat}, (enumD k l).length = l.length
  | [], k => rfl
  | d :: l, k => by
    show (enumD (k + 1) l).length + 1 = l.length + 1
    rw [enumD_len]
/-- those that pass make their own -/
theorem cLoop_filter {gt : TGd} {tt : TBo} {te : TD} {vs : List Nat} {Q : List D → DS → Prop} {items : List D} {s0 : List (Option Z)} {w0 : List (Option MC)} (b : D → Bool) (f : D → D)
    (step : ∀ x acc (N : List D → List (Option MC) → Prop), x ∈ items → (b x = true → N (acc ++ [f x]) w0) → (b x = false → N acc w0) →
      gt (.d x) ⟨wipeD s0 vs, w0⟩ fun ds1 => tt ds1 (fun b ds2 => (b = true → te ds2 (fun z ds3 => kD (fun y => N (acc ++ [y]) ds3.w) z) (fun _ _ => False)) ∧ (b = false → N acc ds2.w)) (fun _ _ => False))
    (fin : Q ((items.filter b).map f) ⟨s0, w0⟩) : cLoop gt tt te vs Q items [] ⟨s0, w0⟩ := by
  refine cLoop_list (fun i acc w => w = w0 ∧ acc = ((items.take i).filter b).map f) ⟨rfl, rfl⟩ (fun i x acc w N hx hI hN => ?_) (fun acc w h => ?_)
  · obtain ⟨rfl, rfl⟩ := hI
    refine step x _ N (List.mem_of_getElem? hx) (fun hb => hN _ _ ⟨rfl, ?_⟩) (fun hb => hN _ _ ⟨rfl, ?_⟩)
    · rw [List.take_succ, hx]; simp [hb]
    · rw [List.take_succ, hx]; simp [hb]
  · obtain ⟨rfl, rfl⟩ := h
    rw [List.take_length]; exact fin
/-- records -/
structure Rc where
  lo : Bool
  t : Int
  n : Int
def Rc.d (r : Rc) : D := .tup [.str (if r.lo then "at least" else "at most"), .int r.t, .int r.n]
/-- the greatest, or none -/
def IsMax (ns : List Int) (x : D) : Prop := (ns = [] ∧ x = .non) ∨ ∃ m, x = .int m ∧ m ∈ ns ∧ ∀ y ∈ ns, y ≤ m
def IsMin (ns : List Int) (x : D) : Prop := (ns = [] ∧ x = .non) ∨ ∃ m, x = .int m ∧ m ∈ ns ∧ ∀ y ∈ ns, m ≤ y
def RcOk (n : Nat) (r : Rc) : Prop := Bd n r.t ∧ Bd n r.n
/-- a rule fits a record -/
def fitsR (p q c : Int) (r : Rc) : Bool := if r.lo then decide (r.n ≤ (p * r.t + c) / q) else decide ((p * r.t + c) / q ≤ r.n)
theorem rc_in (b : Bool) : isIn (.str (if b = true then "at least" else "at most")) [.str "at least", .str "at most"] = true := by cases b <;> decide +kernel
theorem rc_low (b : Bool) : decide ((if b = true then ("at least" : Str) else "at most") = "at least") = b := by cases b <;> decide +kernel
theorem rc_high (b : Bool) : decide ((if b = true then ("at least" : Str) else "at most") = "at most") = !b := by cases b <;> decide +kernel
theorem filt_rc (b : D → Bool) (f : D → D) (b' : Rc → Bool) (h : Rc → Int) (h1 : ∀ r : Rc, b r.d = b' r) (h2 : ∀ r : Rc, f r.d = .int (h r)) (l : List Rc) : ((l.map Rc.d).filter b).map f = ((l.filter b').map h).map D.int := by
  induction l with
  | nil => rfl
  | cons r l ih =>
    rw [List.map_cons, List.filter_cons, List.filter_cons, h1]
    split
    · rw [List.map_cons, List.map_cons, List.map_cons, ih, h2]
    · exact ih
/-- does a datum of a record bear this word -/
def wordD (w : Str) : D → Bool
  | .tup [.str s, _, _] => decide (s = w)
  | _ => false
def recF (h : Int → Int → Int) : D → D
  | .tup [.str _, .int t, .int n] => .int (h t n)
  | d => d
theorem word_low (r : Rc) : wordD "at least" r.d = r.lo := rc_low r.lo
theorem word_high (r : Rc) : wordD "at most" r.d = !r.lo := rc_high r.lo
end L3

set_option Elab.async false
set_option linter.all false
set_option maxRecDepth 100000
set_option maxHeartbeats 1000000
namespace L3
open PySem PySem.Spec PyProof.Rows L2
theorem cutD_mem {l : List D} {lo hi : Option Int} {x : D} (h : x ∈ L3.cutD l lo hi) : x ∈ l := List.mem_of_mem_drop (List.mem_of_mem_take h)
theorem cut_first (l : List D) (k : Nat) : (L3.cutD l none (some (k : Int))).length ≤ k := by
  unfold L3.cutD
  rw [List.length_take, HT.sIx_nat]
  omega
theorem cut_last (l : List D) (k : Nat) (hk : 0 < k) : (L3.cutD l (some (-(k : Int))) none).length ≤ k := by
  unfold L3.cutD
  rw [List.length_take, List.length_drop]
  have e : HT.sIx l.length 0 (some (-(k : Int))) = (-(k : Int) + (l.length : Int)).toNat := by
    show (if -(k : Int) < 0 then (-(k : Int) + (l.length : Int)).toNat else min (-(k : Int)).toNat l.length) = _
    rw [if_pos (by omega)]
  rw [e]
  omega
end L3

set_option Elab.async false
set_option linter.all false
set_option maxRecDepth 100000
set_option maxHeartbeats 1000000
namespace L3
open PySem PySem.Spec PyProof.Rows L2
def lows (p q : Int) (l : List Rc) : List Int := (l.filter (·.lo)).map fun r => r.n * q - p * r.t
def highs (p q : Int) (l : List Rc) : List Int := (l.filter (fun r => !r.lo)).map fun r => (r.n + 1) * q - p * r.t - 1
def lowB (u : D) (c : Int) : Bool := match u with
  | .int a => decide (a ≤ c)
  | _ => true
def highB (v : D) (c : Int) : Bool := match v with
  | .int a => decide (c ≤ a)
  | _ => true
theorem fits_iff (p q c : Int) (r : Rc) (hq : 1 ≤ q) : fitsR p q c r = true ↔ if r.lo then r.n * q - p * r.t ≤ c else c ≤ (r.n + 1) * q - p * r.t - 1 := by
  unfold fitsR
  cases h : r.lo
  · simp only [Bool.false_eq_true, if_false, decide_eq_true_eq]
    rw [← Int.lt_add_one_iff, Int.ediv_lt_iff_lt_mul (by omega)]
    omega
  · simp only [if_true, decide_eq_true_eq]
    rw [Int.le_ediv_iff_mul_le (by omega)]
    omega
theorem all_fits (p q c : Int) (l : List Rc) (hq : 1 ≤ q) : l.all (fitsR p q c) = true ↔ (∀ x ∈ lows p q l, x ≤ c) ∧ ∀ y ∈ highs p q l, c ≤ y := by
  rw [List.all_eq_true]
  constructor
  · intro h
    refine ⟨fun x hx => ?_, fun y hy => ?_⟩
    · obtain ⟨r, hr, rfl⟩ := List.mem_map.mp hx
      obtain ⟨hm, hl⟩ := List.mem_filter.mp hr
      have := (fits_iff p q c r hq).mp (h r hm)
      have hl : r.lo = true := hl
      rwa [if_pos hl] at this
    · obtain ⟨r, hr, rfl⟩ := List.mem_map.mp hy
      obtain ⟨hm, hl⟩ := List.mem_filter.mp hr
      have := (fits_iff p q c r hq).mp (h r hm)
      have hl : ¬ r.lo = true := by simpa using hl
      rwa [if_neg hl] at this
  · rintro ⟨h1, h2⟩ r hr
    rw [fits_iff p q c r hq]
    by_cases hl : r.lo = true
    · rw [if_pos hl]
      exact h1 _ (List.mem_map.mpr ⟨r, List.mem_filter.mpr ⟨hr, hl⟩, rfl⟩)
    · rw [if_neg hl]
      exact h2 _ (List.mem_map.mpr ⟨r, List.mem_filter.mpr ⟨hr, by simpa using hl⟩, rfl⟩)
theorem max_low {ns : List Int} {u : D} (h : IsMax ns u) (c : Int) : (∀ x ∈ ns, x ≤ c) ↔ lowB u c = true := by
  rcases h with ⟨rfl, rfl⟩ | ⟨m, rfl, hm, ha⟩
  · simp [lowB]
  · simp only [lowB, decide_eq_true_eq]
    exact ⟨fun h => h m hm, fun h x hx => Int.le_trans (ha x hx) h⟩
theorem min_high {ns : List Int} {v : D} (h : IsMin ns v) (c : Int) : (∀ y ∈ ns, c ≤ y) ↔ highB v c = true := by
  rcases h with ⟨rfl, rfl⟩ | ⟨m, rfl, hm, ha⟩
  · simp [highB]
  · simp only [highB, decide_eq_true_eq]
    exact ⟨fun h => h m hm, fun h x hx => Int.le_trans h (ha x hx)⟩
/-- which rules of a rate fit -/
theorem fits_phase {p q : Int} {l : List Rc} {u v : D} (hq : 1 ≤ q) (hu : IsMax (lows p q l) u) (hv : IsMin (highs p q l) v) (c : Int) : l.all (fitsR p q c) = (lowB u c && highB v c) := by
  have h : l.all (fitsR p q c) = true ↔ (lowB u c && highB v c) = true := by
    rw [all_fits p q c l hq, max_low hu, min_high hv, Bool.and_eq_true]
  cases h1 : l.all (fitsR p q c) <;> cases h2 : (lowB u c && highB v c) <;> simp_all
/-- comprehensions that keep ints -/
def intB (b : Int → Bool) : D → Bool
  | .int c => b c
  | _ => false
theorem filt_int (b : Int → Bool) (l : List Int) : (((l.map D.int).filter (intB b)).map fun x => x) = (l.filter b).map D.int := by
  rw [List.map_id']
  induction l with
  | nil => rfl
  | cons a l ih =>
    rw [List.map_cons, List.filter_cons, List.filter_cons]
    show (if b a = true then _ else _) = _
    split
    · rw [List.map_cons, ih]
    · exact ih
end L3

set_option Elab.async false
set_option linter.all false
set_option maxRecDepth 100000
set_option maxHeartbeats 2000000
namespace L3
open PySem PySem.Spec PyProof.Rows L2
section
variable {X : Cx} {pins : List (Addr × Obj)} {σ : L2.St} {H : Hp} {s : Shared}
/-- a thing that stands in the heap is told of from now on -/
theorem Inv.track {a : Addr} {o : HO} (I : L2.Inv X pins σ H s) (hn : H a = none) (h0 : X.s_0.heap.get? a = none) (hL : a ≠ X.env.locals) (hc : ∀ x c, X.env.cells.lookup x = some c → c ≠ a) (hp : ∀ p ∈ X.pn ++ pins, p.1 ≠ a)
    (new : ObjOk X.prog X.w (upd H a o) s.heap a o) : L2.Inv X pins σ (upd H a o) s := by
  have na : ∀ {b : Addr} {u : HO}, H b = some u → b ≠ a := fun {b u} h z => by rw [z, hn] at h; cases h
  refine ⟨I.ok, I.os, I.bare, ?_, I.loc, I.cell, by rw [upd_ne (Ne.symm hL)]; exact I.free, fun x c e => by rw [upd_ne (hc x c e)]; exact I.freeC x c e, fun p q => ?_, fun b u e => ?_, I.len⟩
  · have B := I.base
    exact ⟨B.keep, B.slot, fun b o q n hx => by
        rw [upd_ne (fun z => by rw [z, h0] at q; cases q)]
        exact B.free b o q n hx, B.there, fun b xs q => by rw [upd_ne (na (B.tups b xs q))]; exact B.tups b xs q, fun b o u q => by rw [upd_ne (na (B.frzs b o u q))]; exact B.frzs b o u q, fun b ps q => by
          obtain ⟨more, e⟩ := B.tbls b ps q
          exact ⟨more, by rw [upd_ne (na e)]; exact e⟩⟩
  · obtain ⟨h1, h2, h3, h4, h5⟩ := I.pin p q
    exact ⟨h1, by rw [upd_ne (hp p q)]; exact h2, h3, h4, h5⟩
  · by_cases hb : b = a
    · subst hb
      rw [upd_same] at e; cases e
      exact new
    · rw [upd_ne hb] at e
      exact (I.hok b u e).stay (fun c v _ q => q) (fun c q => by rw [upd_ne (na q)]; exact q) fun c xs q => by rw [upd_ne (na q)]; exact q
end
theorem exV_ok {P : Program} {w : World} {H : Hp} {h : Heap} {cls : Value} {a : Addr} {d : Option Addr} {oe : Obj} (e : h.get? a = some oe) (hz : Zc cls d oe) (hd : ∃ vs, oe.data = .fields vs) : ObjOk P w H h a (exV cls a d) :=
  ⟨⟨oe, e, hz, hd⟩, ⟨oe, e⟩, fun h1 h2 ⟨o, e1, z, q⟩ st => ⟨o, st _ e1, z, q⟩⟩
/-- one clause: the class, the name's slot, the suite -/
structure Hd where
  c : Value
  i : Option Nat
  ts : Addr → Value → Option Addr → TS
def slotOn (σ : L2.St) (a : Addr) : Option Nat → L2.St
  | some i => σ.set i (some (.ref a))
  | none => σ
def slotOff (σ : L2.St) : Option Nat → L2.St
  | some i => σ.set i none
  | none => σ
def hdEnds (a : Addr) (cls : Value) (d : Option Addr) (i : Option Nat) (D : Ends) : Ends :=
  { nx := fun σ' H' => D.nx (slotOff σ' i) (upd H' a (exV cls a d)), rt := fun v H' => D.rt v (upd H' a (exV cls a d)), bk := fun σ' H' => D.bk (slotOff σ' i) (upd H' a (exV cls a d)), ct := fun σ' H' => D.ct (slotOff σ' i) (upd H' a (exV cls a d)) }
def wHd (K : PySem.W.Frag) (Wout : WX) (D : Ends) : List Hd → WX
  | [] => Wout
  | h :: r => fun cls d σ H => ∃ b, PySem.W.exmOne K cls h.c = some b ∧ (b = true → ∀ a, H a = none → h.ts a cls d (hdEnds a cls d h.i D) (slotOn σ a h.i) H) ∧ (b = false → wHd K Wout D r cls d σ H)
inductive HdN (X : Cx) : List ExceptHandler → List Hd → Prop
  | nil : HdN X [] []
  | only {x : Str} {c : Value} {ts : Addr → Value → Option Addr → TS} {b₀ : Stmt} {suite : List Stmt} {np pos' : Pos} {hds : List ExceptHandler} {l : List Hd} (hc : Names X x c)
      (hsu : ∀ (a : Addr) (oe : Obj) (cls : Value) (d : Option Addr) (pn : List (Addr × Obj)), Zc cls d oe → (∃ vs, oe.data = .fields vs) → PSs (X.suite a ((a, oe) :: pn)) (b₀ :: suite) (ts a cls d)) (r : HdN X hds l) :
      HdN X (.ExceptHandler (some (.Name x np)) none (b₀ :: suite) pos' :: hds) (⟨c, none, ts⟩ :: l)
  | as {x n : Str} {i : Nat} {c : Value} {ts : Addr → Value → Option Addr → TS} {b₀ : Stmt} {suite : List Stmt} {np pos' : Pos} {hds : List ExceptHandler} {l : List Hd} (hi : X.N[i]? = some n) (hln : X.env.kindOf n = some .local) (hc : Names X x c)
      (hsu : ∀ (a : Addr) (oe : Obj) (cls : Value) (d : Option Addr) (pn : List (Addr × Obj)), Zc cls d oe → (∃ vs, oe.data = .fields vs) → PSs (X.suite a ((a, oe) :: pn)) (b₀ :: suite) (ts a cls d)) (r : HdN X hds l) :
      HdN X (.ExceptHandler (some (.Name x np)) (some n) (b₀ :: suite) pos' :: hds) (⟨c, some i, ts⟩ :: l)
section
variable {X : Cx} {body : List Stmt} {h₀ : ExceptHandler} {hds : List ExceptHandler} {l : List Hd} {pos : Pos} {tb : WX → TS} {Wout : WX}
theorem ps_try_n (hs : X.stack = X.env :: X.outer) (hf : X.env.frame = some X.env.locals) (hN : X.N.Nodup) (hex : X.ex = []) (tk : Takes X Wout)
    (hb : ∀ (W : WX) (pn : List (Addr × Obj)) (xe : Value → Shared → Prop), Takes (X.tr pn xe) W → PassesOwn (model X.prog X.w) X.A X.env xe → PSs (X.tr pn xe) body (tb W))
    (hh : HdN X (h₀ :: hds) l) : PS X (.Try body (h₀ :: hds) [] [] pos) (fun D σ H => tb (wHd X.K Wout D l) D σ H) := by
  refine ⟨fun pins s σ H D I h => ?_⟩
  have ok := I.ok
  have hfr : X.A.frames = some (X.env :: X.outer) := by rw [ok.frames, hs]
  refine wpAny_Try_except ?_
  refine wpAny_mono ((hb (wHd X.K Wout D l) (X.pn ++ pins) (fun e s₁ => wpAny (model X.prog X.w) X.A (noteFrame e X.env) (fun _ s₂ => wpAny (model X.prog X.w) X.A (setFlight e none) (fun _ s₃ =>
    wpAny (model X.prog X.w) X.A (handleBy e X.env (h₀ :: hds)) (SP X pins D) X.xe s₃) X.xe s₂) X.xe s₁) (fun u s' xx => ?_) PassesOwn.looking).run [] s σ H D (I.toTry _) h) (fun f s1 hsp => ?_) (fun e s1 he => he)
  · -- the catch
    obtain ⟨a, B, sI, pins', σ', H', cls, d, rfl, J', nb, up, sky, na, os, ag, w⟩ := xx
    have J : L2.Inv X pins σ' H' sI := J'.ofTry ok
    have sky' : Sky B (X.env :: X.outer) a (Zc cls d) X.env.locals s'.heap := by rw [← hs]; exact sky
    have Ba : B.get? a = none := by
      rcases sky' with z | z | z
      · exact z.2.1
      · exact z.2.1
      · exact z.2.1
    show wpAny (model X.prog X.w) X.A (noteFrame (.ref a) X.env) _ _ _
    refine Sky.land Zc.steady hfr hf sky' fun h3 fl3 up3 => ?_
    have J3 : L2.Inv X pins σ' H' { s' with heap := h3 } := J.landed nb fl3.1 (up.trans up3) os ag
    obtain ⟨oe3, vs3, he3, hz3, hd3⟩ := fl3.there
    have notFr : ∀ {h : Heap} {o : Obj} {vs : Array Value}, h.FunFrames B (X.env :: X.outer) → h.get? a = some o → o.data = .fields vs → a ∉ frs (X.env :: X.outer) := fun {h o vs} ff e dd hm => by
      obtain ⟨_, o', e', hnf⟩ := ff.mem hm
      rw [e] at e'; cases e'
      exact hnf _ dd
    have nfr := notFr fl3.2.2.1 he3 hd3
    have nI : sI.heap.get? a = none := by
      cases q : sI.heap.get? a with
      | none => rfl
      | some o =>
        have := nb a o q (by rw [hs]; exact nfr)
        rw [Ba] at this; cases this
    have n0 : X.s_0.heap.get? a = none := by
      cases q : X.s_0.heap.get? a with
      | none => rfl
      | some o =>
        obtain ⟨o', q'⟩ := J.base.there a o q (by rw [hex]; simp)
        rw [nI] at q'; cases q'
    have npin : ∀ p ∈ X.pn ++ pins, p.1 ≠ a := fun p hp z => by
      have := (J.pin p hp).1
      rw [z, nI] at this; cases this
    have nL : a ≠ X.env.locals := fun z => nfr (List.mem_filterMap.mpr ⟨X.env, List.mem_cons_self, by rw [hf, z]⟩)
    have nF : a ∉ X.fs := fun hm => by
      obtain ⟨e, he, q⟩ := List.mem_filterMap.mp hm
      exact nfr (List.mem_filterMap.mpr ⟨e, List.mem_cons_of_mem _ he, q⟩)
    have S3 := J3.suite he3 hd3 na nL nF
    -- behind a suite
    have keep : ∀ {oe : Obj} {σ6 : L2.St} {H6 : Hp} {s6 : Shared}, Zc cls d oe → (∃ vs, oe.data = .fields vs) → L2.Inv (X.suite a ((a, oe) :: (X.pn ++ pins))) [] σ6 H6 s6 → L2.Inv X pins σ6 (upd H6 a (exV cls a d)) s6 := fun {oe σ6 H6 s6} hz hd S6 => by
      obtain ⟨p1, p2, _⟩ := S6.pin (a, oe) (List.mem_append_left _ List.mem_cons_self)
      have K6 : L2.Inv X pins σ6 H6 s6 := S6.unsuite ok
      refine Inv.track K6 p2 n0 nL (fun x c e z => ?_) npin (exV_ok p1 hz hd)
      obtain ⟨v, o, ho, hcell⟩ := K6.cell x c e
      obtain ⟨vs, hv⟩ := hd
      rw [z, p1] at ho; cases ho
      rw [hv] at hcell; cases hcell
    have go : ∀ {hds' : List ExceptHandler} {l' : List Hd}, HdN X hds' l' → wHd X.K Wout D l' cls d σ' H' →
        wpAny (model X.prog X.w) X.A (handleBy (.ref a) X.env hds') (SP X pins D) X.xe { s' with heap := h3 } := by
      intro hds' l' hk
      have LT : PySem.W.Looks (model X.prog X.w) h3 (typeOf (.ref a)) cls := fun A Q E s k q => wpAny_typeOf_ref (k _ _ he3) (by rw [hz3.1]; exact q)
      have test : ∀ {x : Str} {c : Value} {np : Pos} {Q : Value → Shared → Prop} {E : Value → Shared → Prop}, Names X x c → Q c { s' with heap := h3 } → wpAny (model X.prog X.w) (X.A.mark (some (.ref a))) (eval (.Name x np) X.env) Q E { s' with heap := h3 } := fun {x c np Q E} hc q => by
        obtain ⟨hg, hdbg, hm | ⟨hm, hv, hnn⟩⟩ := hc
        · exact ld_glob (X := X.suite a ((a, oe3) :: (X.pn ++ pins))) S3 hg hm q hdbg
        · exact ld_blt (X := X.suite a ((a, oe3) :: (X.pn ++ pins))) S3 hg hm hv q hnn hdbg
      induction hk with
      | nil =>
        intro w
        refine wpAny_handleBy_nil ?_
        obtain ⟨k1, k2, k3, oe, vs, T, oT, ts', he, hz, hd, h1, hr⟩ := id fl3
        unfold PySem.passOn
        refine wpAny_bind (wpAny_field he hd h1 ?_)
        rw [if_neg (show ¬ ((Value.ref T == Value.none) = true) from by simp)]
        have fin : wpAny (model X.prog X.w) X.A (setFlight (.ref a) X.env.frame) (fun _ s4 => wpAny (model X.prog X.w) X.A (throw (.ref a) : Sem Flow) (SP X pins D) X.xe s4) X.xe { s' with heap := h3 } := by
          rw [hf]
          refine HandSPX.setFlight_upZ fl3 fun h4 hh4 up4 => wpAny_throw (tk _ _ ?_)
          exact ⟨a, B, sI, pins, σ', H', cls, d, rfl, J, nb, (up.trans up3).trans up4, .inr (.inr (by rw [hs]; exact hh4)), na, os, ag, w⟩
        first
          | exact wpAny_bind (wpAny_pure (wpAny_bind fin))
          | exact wpAny_bind fin
      | @only x c ts b₀ suite np pos' hds2 l2 hc hsu r ih =>
        intro w
        obtain ⟨b, hb1, hyes, hno⟩ := w
        refine wpAny_handleBy_cons (codeAny_handlers_test ?_) (by intro q; cases q)
        have LM := PySem.W.exm_one (M := model X.prog X.w) (J3.kIn) LT hb1
        refine test hc (LM.here ?_)
        cases b with
        | true =>
          refine codeAny_handlers_suite ?_
          refine HandSPX.lands_againZ fl3 fun h4 fl4 up4 => ?_
          have J4 : L2.Inv X pins σ' H' { s' with heap := h4 } := J.landed nb fl4.1 ((up.trans up3).trans up4) os ag
          obtain ⟨oe4, vs4, he4, hz4, hd4⟩ := fl4.there
          have S4 := J4.suite he4 hd4 na nL nF
          refine wpAny_mono ((hsu a oe4 cls d (X.pn ++ pins) hz4 ⟨_, hd4⟩).run [] _ _ H' _ S4 (hyes rfl a na)) (fun f s6 hsp => ?_) (fun _ _ z => False.elim z)
          cases f with
          | next =>
            obtain ⟨σ6, H6, S6, q6⟩ := hsp
            exact ⟨_, _, keep hz4 ⟨_, hd4⟩ S6, q6⟩
          | brk =>
            obtain ⟨σ6, H6, S6, q6⟩ := hsp
            exact ⟨_, _, keep hz4 ⟨_, hd4⟩ S6, q6⟩
          | cont =>
            obtain ⟨σ6, H6, S6, q6⟩ := hsp
            exact ⟨_, _, keep hz4 ⟨_, hd4⟩ S6, q6⟩
          | ret u =>
            obtain ⟨v6, σ6, H6, S6, r6, q6⟩ := hsp
            exact ⟨_, _, _, keep hz4 ⟨_, hd4⟩ S6, r6, q6⟩
        | false =>
          show wpAny _ X.A (handleBy (.ref a) X.env hds2) _ _ _
          exact ih (hno rfl)
      | @as x n i c ts b₀ suite np pos' hds2 l2 hi hln hc hsu r ih =>
        intro w
        obtain ⟨b, hb1, hyes, hno⟩ := w
        have hloc : Loc X.env.scope n := .inl hln
        refine wpAny_handleBy_cons (codeAny_handlers_test ?_) (by intro q; cases q)
        have LM := PySem.W.exm_one (M := model X.prog X.w) (J3.kIn) LT hb1
        refine test hc (LM.here ?_)
        cases b with
        | true =>
          refine codeAny_handlers_suite_as ?_
          refine HandSPX.lands_againZ fl3 fun h4 fl4 up4 => ?_
          have J4 : L2.Inv X pins σ' H' { s' with heap := h4 } := J.landed nb fl4.1 ((up.trans up3).trans up4) os ag
          obtain ⟨oe4, vs4, he4, hz4, hd4⟩ := fl4.there
          have S4 := J4.suite he4 hd4 na nL nF
          refine store_ok (X := X.suite a ((a, oe4) :: (X.pn ++ pins))) (v := .ref a) S4 hN hi hloc rfl (fun s5 S5 => ?_) (.inr hln)
          refine wpAny_mono ((hsu a oe4 cls d (X.pn ++ pins) hz4 ⟨_, hd4⟩).run [] s5 _ H' _ S5 (hyes rfl a na)) (fun f s6 hsp => ?_) (fun _ _ z => False.elim z)
          have end_ : ∀ {σ6 : L2.St} {H6 : Hp} {Q : Shared → Prop}, L2.Inv (X.suite a ((a, oe4) :: (X.pn ++ pins))) [] σ6 H6 s6 → (∀ s7, L2.Inv X pins (σ6.set i none) (upd H6 a (exV cls a d)) s7 → Q s7) →
              wpAny (model X.prog X.w) X.A (do bindName X.env n .none; unbindBehindTheSuite X.env n pos') (fun _ s7 => Q s7) X.xe s6 := fun {σ6 H6 Q} S6 hq => gone_ok (keep hz4 ⟨_, hd4⟩ S6) hN hi hln hq
          cases f with
          | next =>
            obtain ⟨σ6, H6, S6, q6⟩ := hsp
            exact end_ S6 fun s7 J7 => ⟨_, _, J7, q6⟩
          | brk =>
            obtain ⟨σ6, H6, S6, q6⟩ := hsp
            exact end_ S6 fun s7 J7 => ⟨_, _, J7, q6⟩
          | cont =>
            obtain ⟨σ6, H6, S6, q6⟩ := hsp
            exact end_ S6 fun s7 J7 => ⟨_, _, J7, q6⟩
          | ret u =>
            obtain ⟨v6, σ6, H6, S6, r6, q6⟩ := hsp
            exact end_ S6 fun s7 J7 => ⟨_, _, _, J7, r6, q6⟩
        | false =>
          show wpAny _ X.A (handleBy (.ref a) X.env hds2) _ _ _
          exact ih (hno rfl)
    exact go hh w
  · cases f with
    | next =>
      obtain ⟨σ', H', J', q⟩ := hsp
      exact wpAny_execs_nil ⟨σ', H', J'.ofTry ok, q⟩
    | brk =>
      obtain ⟨σ', H', J', q⟩ := hsp
      exact ⟨σ', H', J'.ofTry ok, q⟩
    | cont =>
      obtain ⟨σ', H', J', q⟩ := hsp
      exact ⟨σ', H', J'.ofTry ok, q⟩
    | ret u =>
      obtain ⟨v, σ', H', J', r, q⟩ := hsp
      exact ⟨v, σ', H', J'.ofTry ok, r, q⟩
end
end L3

set_option Elab.async false
set_option linter.all false
set_option maxRecDepth 100000
set_option maxHeartbeats 2000000
namespace L3
open PySem PySem.Spec PyProof.Rows L2
def oexB (K : PySem.W.Frag) (C : Addr) : Bool := match K.lookup C with
  | some ⟨.type "type", _, .cls cd, sl⟩ => (match cd.mro, sl.toList with
    | .ref C' :: bm, [_, _, _, _, some (.builtin n), _] => C' == C && n == "ValueError.__new__" && !cd.hasDel && cd.hasDict && PySem.HandSPX.refsVE bm
    | _, _ => false)
  | _ => false
theorem oexB_ok {K : PySem.W.Frag} {C : Addr} (q : oexB K C = true) : ∃ nm q N bs bm sn sub ab col dd k0 k1 k2 k3 k5, K.lookup C = some (excClassObj nm q C N bs bm true sn sub ab col dd k0 k1 k2 k3 k5 "ValueError.__new__") ∧ PySem.HandSPX.refsVE bm = true := by
  unfold oexB at q
  split at q
  · rename_i dd cd sl ho
    split at q
    · rename_i C' bm k0 k1 k2 k3 n k5 hm hs
      simp only [Bool.and_eq_true, beq_iff_eq, Bool.not_eq_true'] at q
      obtain ⟨⟨⟨⟨rfl, rfl⟩, hdel⟩, hd⟩, hr⟩ := q
      obtain ⟨nm, bs, mro, ns, qn, hd', sn, sub, ab, col, del⟩ := cd
      dsimp only at hm hdel hd
      subst hm hdel hd
      have hsl : sl = #[k0, k1, k2, k3, some (.builtin "ValueError.__new__"), k5] := by
        obtain ⟨l⟩ := sl
        simp only at hs
        rw [hs]
      subst hsl
      exact ⟨nm, qn, ns, bs, bm, sn, sub, ab, col, dd, k0, k1, k2, k3, k5, ho, hr⟩
    · cases q
  · cases q
def eqV (a : Option (Option Value)) (b : Option (Option Value)) : Bool := decide (a = b)
/-- what is asked of an error's class -/
structure ExK (K : PySem.W.Frag) (C : Addr) : Prop where
  oex : OexC K C
  xf : XfC K C
  ca : PySem.W.findIn K (.ref C) "__class__" = some (some (.builtin "object.__class__"))
  cn : PySem.W.specialIn K (.builtin "object.__class__") "__get__" = some (some (.builtin "getset_descriptor.__get__"))
  ct : PySem.W.takesIn K (.builtin "object.__class__") = some true
  cm : PySem.W.mroIn K C (.type "object") = some true
def exKB (K : PySem.W.Frag) (C : Addr) : Bool :=
  oexB K C && (decide (PySem.W.findIn K (.ref C) "__setattr__" = some (some (.builtin "object.__setattr__"))) && (decide (PySem.W.subIn K (.ref C) (.type "BaseException") = some true) && (decide (PySem.W.typeIn K (.ref C) = some (.type "type")) && (PySem.W.keepIn K (.ref C) &&
  (xfB K C && (decide (PySem.W.findIn K (.ref C) "__class__" = some (some (.builtin "object.__class__"))) && (decide (PySem.W.specialIn K (.builtin "object.__class__") "__get__" = some (some (.builtin "getset_descriptor.__get__"))) &&
  (decide (PySem.W.takesIn K (.builtin "object.__class__") = some true) && decide (PySem.W.mroIn K C (.type "object") = some true)))))))))
theorem exKB_ok {K : PySem.W.Frag} {C : Addr} (h : exKB K C = true) : ExK K C := by
  unfold exKB at h
  simp only [Bool.and_eq_true, decide_eq_true_eq] at h
  obtain ⟨h1, h2, h3, h4, h5, h6, h7, h8, h9, h10⟩ := h
  exact ⟨⟨oexB_ok h1, h2, h3, h4, h5⟩, xfB_ok h6, h7, h8, h9, h10⟩
/-- LeapfitError, whose __init__ is ValueError's -/
structure ExB (K : PySem.W.Frag) (mg : Str → Option Value) : Prop where
  hm : mg "LeapfitError" = some (.ref (He.ga K "LeapfitError"))
  ga : PySem.W.specialIn K (.ref (He.ga K "LeapfitError")) "__getattribute__" = some (some (.builtin "type.__getattribute__"))
  rd : PySem.W.readsIn K (He.ga K "LeapfitError") (.type "type") = true
  at_ : PySem.W.findCls K (.ref (He.ga K "LeapfitError")) (.type "type") "__init__" = some (.val (.builtin "ValueError.__init__"))
def exBB (K : PySem.W.Frag) : Bool := decide (PySem.W.specialIn K (.ref (He.ga K "LeapfitError")) "__getattribute__" = some (some (.builtin "type.__getattribute__"))) && (PySem.W.readsIn K (He.ga K "LeapfitError") (.type "type") && (match PySem.W.findCls K (.ref (He.ga K "LeapfitError")) (.type "type") "__init__" with
  | some (.val (.builtin n)) => n == "ValueError.__init__"
  | _ => false))
theorem exBB_ok {K : PySem.W.Frag} {mg : Str → Option Value} (hm : mg "LeapfitError" = some (.ref (He.ga K "LeapfitError"))) (h : exBB K = true) : ExB K mg := by
  unfold exBB at h
  simp only [Bool.and_eq_true, decide_eq_true_eq] at h
  obtain ⟨h1, h2, h3⟩ := h
  refine ⟨hm, h1, h2, ?_⟩
  split at h3
  · rename_i n e
    rw [e]
    have : n = "ValueError.__init__" := by simpa using h3
    rw [this]
  · cases h3
section
variable {X : Cx} {e : Expr} {es : List Expr} {ta : TA} {p1 p2 pos : Pos}
/-- LeapfitError.__init__(self, ..) -/
theorem pe_leinit {pl : Sem Bool} (B : ExB X.K X.mg) (hg : Gl X "LeapfitError") (ha : PA X (e :: es) ta)
    (hc : eval (.Call (.Attribute (.Name "LeapfitError" p1) "__init__" p2) (e :: es) [] pos) X.env = (do
      let ov ← eval (.Name "LeapfitError" p1) X.env
      standAt p2.atName
      let (f, first) ← holding [ov] (getMethod ov "__init__" pl)
      callWith pos f first (backTo pos (starEach (e :: es) X.env)) (backToKw pos (keywordEach [] X.env))) := by rfl)
    (he : starEach (e :: es) X.env = (false, eval e X.env) :: starEach es X.env := by rfl) (hpl : (backTo pos (starEach es X.env)).any (·.1) = false := by rfl) :
    PE X (.Call (.Attribute (.Name "LeapfitError" p1) "__init__" p2) (e :: es) [] pos) (tVeI X.K ta) := by
  refine ⟨fun pins s σ H Q I h => ?_⟩
  refine PySem.W.methodCall_KW (ld_glob I hg B.hm ?_ (by decide)) hc
  refine PySem.W.method_cls I.kIn B.ga (PySem.W.cls_value I.kIn B.rd B.at_ (by decide +kernel) ?_)
  show wpAny _ _ (callWith pos (Value.builtin "ValueError.__init__") [] (backTo pos (starEach (e :: es) X.env)) []) _ _ _
  refine PyProof.Rows.callWith_method1 (thn (ha.run pos pins _ σ H _ (I.tok _) h) fun us s1 ⟨vs, H1, I1, r1, a, C, ws, ev, hl, T, ea, q⟩ => ?_) he hpl
  subst ev
  cases r1 with
  | @cons _ u0 _ ur ra rw' =>
    obtain rfl : u0 = Value.ref a := ra
    have hlen : ur.length ≤ sizeLine := by
      rw [← Paired.length rw', sizeLine_eq]
      omega
    exact oinit_ok T I1 ea hlen fun s' J => ⟨.non, H1, J, rfl, q⟩
end
def spI1 (K : PySem.W.Frag) (C : Addr) (fld : Str) : Sp := fun vs H Q _ => ∃ a v, vs = [.ref a, v] ∧ OexC K C ∧ PySem.W.findIn K (.ref C) fld = some none ∧ H a = some (exo a C none) ∧ ∀ dx, H dx = none → dx ≠ a → Q .non (upd (upd H dx (exd dx [(fld, v)])) a (exo a C (some dx)))
def spI0 (K : PySem.W.Frag) (C : Addr) : Sp := fun vs H Q _ => ∃ a, vs = [.ref a] ∧ OexC K C ∧ H a = some (exo a C none) ∧ Q .non H
section
variable {P : Program} {w : World} {K : PySem.W.Frag} {mg : Str → Option Value} {base : Heap} {q : Str} {params : Arguments} {scope : Scope} {f C : Addr} {fd : FuncData}
theorem init1_ok {fld arg : Str} {msg : Str} {j : Nat} {p1 p2 p3 p4 p5 p6 p7 p8 p9 p10 : Pos} {pl : Env → Sem Bool} (B : ExB K mg)
    (F : FunD K "__init__" q params [.Expr (.Call (.Attribute (.Name "LeapfitError" p1) "__init__" p2) [.Name "self" p3, .Constant (.str msg) j p4] [] p5) p6, .Assign [.Attribute (.Name "self" p7) fld p8] (.Name arg p9) p10] scope [] [] f fd) (sc : FnScope ["self", arg] ["self", arg] scope)
    (hg : scope.names.lookup ("LeapfitError" : Str) = some NameKind.globalImplicit) (hs1 : scope.names.lookup ("self" : Str) = some NameKind.local) (hs2 : scope.names.lookup arg = some NameKind.local) (ha1 : (arg == ("__debug__" : Str)) = false) (ha2 : (arg == ("__classdict__" : Str)) = false)
    (hc : ∀ env : Env, eval (.Call (.Attribute (.Name "LeapfitError" p1) "__init__" p2) [.Name "self" p3, .Constant (.str msg) j p4] [] p5) env = (do
      let ov ← eval (.Name "LeapfitError" p1) env
      standAt p2.atName
      let (f, first) ← holding [ov] (getMethod ov "__init__" (pl env))
      callWith p5 f first (backTo p5 (starEach [.Name "self" p3, .Constant (.str msg) j p4] env)) (backToKw p5 (keywordEach [] env)))) :
    FnOk P w K mg base (L2.CX P w) 1 f fd ["self", arg] (spI1 K C fld) := by
  refine F.ok (k := 0) sc (fun vs H Q E h => ?_) (fun cdv A outer s H vs Q E hr h => ?_)
  · obtain ⟨a, v, rfl, _⟩ := h; rfl
  · obtain ⟨a, v, rfl, T, hn, ha, hq⟩ := h
    refine ⟨_, pss_cons (ps_expr (pe_leinit (X := cxOf (L2.CX P w) P w K mg base ["self", arg] q scope f cdv A outer s H E) B hg (pa_cons (pe_var (i := 0) rfl (.inl hs1)) (pa_cons pe_str pa_nil)) (hc _))) (pss_one (ps_ost (pe_var (i := 0) rfl (.inl hs1)) (pe_var (i := 1) rfl (.inl hs2) ha1 ha2))), ?_⟩
    refine ⟨.ref a, rfl, a, C, [.str msg], rfl, (show 1 ≤ 1000 by decide), T, ha, v, rfl, .ref a, rfl, a, C, rfl, T, hn, .inl ⟨ha, fun dx h1 h2 => hq dx h1 h2⟩⟩
theorem init0_ok {msg : Str} {j : Nat} {p1 p2 p3 p4 p5 p6 : Pos} {pl : Env → Sem Bool} (B : ExB K mg)
    (F : FunD K "__init__" q params [.Expr (.Call (.Attribute (.Name "LeapfitError" p1) "__init__" p2) [.Name "self" p3, .Constant (.str msg) j p4] [] p5) p6] scope [] [] f fd) (sc : FnScope ["self"] ["self"] scope)
    (hg : scope.names.lookup ("LeapfitError" : Str) = some NameKind.globalImplicit) (hs1 : scope.names.lookup ("self" : Str) = some NameKind.local)
    (hc : ∀ env : Env, eval (.Call (.Attribute (.Name "LeapfitError" p1) "__init__" p2) [.Name "self" p3, .Constant (.str msg) j p4] [] p5) env = (do
      let ov ← eval (.Name "LeapfitError" p1) env
      standAt p2.atName
      let (f, first) ← holding [ov] (getMethod ov "__init__" (pl env))
      callWith p5 f first (backTo p5 (starEach [.Name "self" p3, .Constant (.str msg) j p4] env)) (backToKw p5 (keywordEach [] env)))) :
    FnOk P w K mg base (L2.CX P w) 1 f fd ["self"] (spI0 K C) := by
  refine F.ok (k := 0) sc (fun vs H Q E h => ?_) (fun cdv A outer s H vs Q E hr h => ?_)
  · obtain ⟨a, rfl, _⟩ := h; rfl
  · obtain ⟨a, rfl, T, ha, hq⟩ := h
    refine ⟨_, pss_one (ps_expr (pe_leinit (X := cxOf (L2.CX P w) P w K mg base ["self"] q scope f cdv A outer s H E) B hg (pa_cons (pe_var (i := 0) rfl (.inl hs1)) (pa_cons pe_str pa_nil)) (hc _))), ?_⟩
    exact ⟨.ref a, rfl, a, C, [.str msg], rfl, (show 1 ≤ 1000 by decide), T, ha, hq⟩
end
def tMkO0 (C : Addr) (sp : Sp) : L2.St → Hp → XK → Prop := fun σ H Q => ∀ a, H a = none → sp [.ref a] (upd H a (exo a C none)) (fun v H2 => v = .non ∧ H2 a = some (exo a C none) ∧ Q (.ref C) none (del H2 a)) (fun _ _ _ => False)
section
variable {X : Cx} {p pos : Pos}
theorem mk_endN {pins : List (Addr × Obj)} {σ : L2.St} {H1 H2 : Hp} {Q : XK} {hp hp2 h2 : Heap} {g1 g2 : Array GenState} {d1 d2 : Drawn} {t1 t2 : Nat} {os1 os2 : OsState} {a C : Addr} (T : Raises X (.ref C)) (I1 : L2.Inv X pins σ H1 ⟨hp, g1, d1, t1, os1⟩)
    (ha : hp.objs.size ≤ a) (k : ∀ b o, hp.get? b = some o → hp2.get? b = some o) (un : Un (frs X.stack) [] (upd H1 a (exo a C none)) H2 hp2 h2) (hok : HOk X.prog X.w H2 h2) (ho : os2 = os1) (hb : AllBare g2)
    (ea : H2 a = some (exo a C none)) (q : Q (.ref C) none (del H2 a)) : MkP X pins σ Q (.ref a) ⟨h2, g2, d2, t2, os2⟩ := by
  obtain ⟨t0, hoe⟩ := exo_at hok ea
  have hn : H1 a = none := I1.hok.fresh ha
  obtain ⟨G, g1', g2'⟩ := restrict h2 fun b => decide (b ≠ a)
  have gk : ∀ b, b ≠ a → G.get? b = h2.get? b := fun b hb => g1' b (decide_eq_true hb)
  have ge : G.get? a = none := g2' a (by simp)
  have nha : ∀ {b : Addr} {o : Obj}, hp.get? b = some o → b ≠ a := fun {b o} z => Nat.ne_of_lt (Nat.lt_of_lt_of_le (Heap.lt_size z) ha)
  have up : ∀ {b : Addr}, b ≠ a → H1 b = none → upd H1 a (exo a C none) b = none := fun {b} hb n => by rw [upd_ne hb]; exact n
  have U : Un (frs X.stack) [] H1 (del H2 a) hp G := {
    keep := fun b o z n hf hx => by
      rw [gk b (nha z)]
      exact un.keep b o (k b o z) (up (nha z) n) hf hx
    slot := fun b o z n hf hx => by
      rw [gk b (nha z)]
      exact un.slot b o (k b o z) (up (nha z) n) hf hx
    free := fun b o z n hx => by
      rw [del_ne (nha z)]
      exact un.free b o (k b o z) (up (nha z) n) hx
    there := fun b o z hx => by
      rw [gk b (nha z)]
      exact un.there b o (k b o z) hx
    tups := fun b xs z => by
      rw [del_ne (ne_of_none z hn)]
      exact un.tups b xs (by rw [upd_ne (ne_of_none z hn)]; exact z)
    frzs := fun b o v z => by
      rw [del_ne (ne_of_none z hn)]
      exact un.frzs b o v (by rw [upd_ne (ne_of_none z hn)]; exact z)
    tbls := fun b ps z => by
      rw [del_ne (ne_of_none z hn)]
      exact un.tbls b ps (by rw [upd_ne (ne_of_none z hn)]; exact z) }
  have hok3 : HOk X.prog X.w (del H2 a) G := fun b o z => by
    have hba : b ≠ a := fun e => by
      rw [e, del_same] at z
      cases z
    rw [del_ne hba] at z
    have noa : ∀ {c : Addr}, H2 c = some (.own b) → c ≠ a := fun {c} hc => at_ne ea hc exo_own
    exact (hok b o z).stay (fun c v hc y => by
        have hca : c ≠ a := by
          rcases hc with hc | hc
          · rw [hc]
            exact hba
          · exact noa hc
        rw [gk c hca]
        exact y)
      (fun c hc => by rw [del_ne (noa hc)]; exact hc) (fun c xs hc => by rw [del_ne (at_ne ea hc exo_tup)]; exact hc)
  have J : L2.Inv X pins σ (del H2 a) ⟨G, g2, d2, t2, os2⟩ := I1.call' (ch := []) ho U hok3 hb (fun b z => absurd z (by simp))
  refine ⟨a, _, _, ⟨G, g2, d2, t2, os2⟩, _, .ref C, none, rfl, J, fun b o z => ?_, ge, hoe, ⟨rfl, rfl⟩, rfl, rfl, del_same, rfl, hb, T, q⟩
  by_cases hba : b = a
  · rw [hba, ge] at z
    cases z
  · exact (gk b hba).symm.trans z
theorem pmk_oex0 {CX : CXT} {x : Str} {C fI : Addr} {k : Nat} {fd : FuncData} {ps : List Str} {sp : Sp} (T : OexC X.K C) (iC : PySem.W.findIn X.K (.ref C) "__init__" = some (some (.ref fI))) (tI : PySem.W.typeIn X.K (.ref fI) = some (.type "function"))
    (F1 : FnOk X.prog X.w X.K X.mg X.base CX k fI fd ps sp) (hr : Room (k + 1) X.A) (hb : Binds X.K fd ps []) (hx : Passes CX X (fun _ _ _ => False)) (hg : Gl X x) (hm : X.mg x = some (.ref C))
    (hdb : (x == ("__debug__" : Str)) = false := by decide) : PMk X (.Call (.Name x p) [] [] pos) (tMkO0 C sp) := by
  intro pins s σ H Q I h
  obtain ⟨nm, q, N, bs, bm, sn, sub, ab, col, dd, k0, k1, k2, k3, k5, hC, hbm⟩ := T.cls
  refine wpAny_Call_Name_kw (ld_glob I hg hm ?_ hdb)
  refine PySem.W.callWith_K0 I.kIn T.kC ?_
  show wpAny _ _ (call (.ref C) []) _ _ _
  obtain ⟨hp, g, dr, tk, os⟩ := s
  have hsz : hp.objs.size ≤ hp.objs.size + 1 := Nat.le_succ _
  have hn : H (hp.objs.size + 1) = none := I.hok.fresh hsz
  have hq := h (hp.objs.size + 1) hn
  have kk : ∀ b o, hp.get? b = some o → ((hp.push (PySem.W.kdv_tup [])).push (PySem.HandSPX.excO C hp.objs.size)).get? b = some o := fun b o e => Heap.get?_push_of_some _ (Heap.get?_push_of_some _ e)
  have hget : ((hp.push (PySem.W.kdv_tup [])).push (PySem.HandSPX.excO C hp.objs.size)).get? (hp.objs.size + 1) = some (PySem.HandSPX.excO C hp.objs.size) := by heap_get
  have I2 : L2.Inv X pins σ (upd H (hp.objs.size + 1) (exo (hp.objs.size + 1) C none)) ⟨(hp.push (PySem.W.kdv_tup [])).push (PySem.HandSPX.excO C hp.objs.size), g, dr, tk, os⟩ :=
    I.laid (t' := tk) (a := hp.objs.size + 1) (o := exo (hp.objs.size + 1) C none) (h' := (hp.push (PySem.W.kdv_tup [])).push (PySem.HandSPX.excO C hp.objs.size)) kk hsz (exo_ok hget)
  have r2 : Vals [V.ref (hp.objs.size + 1)] [Value.ref (hp.objs.size + 1)] := .cons rfl .nil
  have hl : ([Value.ref (hp.objs.size + 1)] ++ []).length = ps.length := by
    have e := r2.length
    rw [F1.len _ _ _ _ hq] at e
    exact e.symm
  refine wpAny_call (PySem.HandSPX.call_own F.excBase_ValueError (fun Y => PySem.HandSPX.refsVE_contains Y bm hbm) (I.kIn _ _ hC) (PySem.W.looks_findIn I.kIn iC) (fun self => PySem.W.bind_fn I.kIn self tI) (by rw [sizeLine_eq]; decide)
    (codeAny_mono (F1.run _ X.stack _ _ ⟨[Value.ref (hp.objs.size + 1)], []⟩ ([Value.ref (hp.objs.size + 1)] ++ []) _ _ (fun _ _ _ => False) (hr.make C [] []) (I2.env0.make C [] []) (hb _ [Value.ref (hp.objs.size + 1)] I2.kIn hl) r2 hq) fun r s' hq' => ?_))
  cases r with
  | error er => exact hx pins σ _ _ er s' I2 hq'
  | ok fl =>
    cases fl with
    | ret u =>
      obtain ⟨v, H2, os2, bare2, un2, hok2, rv, ev, ea, q2⟩ := hq'
      subst ev
      obtain ⟨h2, g2, d2, t2, os'⟩ := s'
      exact ⟨rv, mk_endN (raises_own T.exC T.tyC) I hsz kk un2 hok2 os2 bare2 ea q2⟩
    | next => exact False.elim hq'
    | brk => exact False.elim hq'
    | cont => exact False.elim hq'
end
/-- an error's class of the package, ready to be raised: its number, its field (or none) -/
structure ExR (P : Program) (w : World) (K : PySem.W.Frag) (mg : Str → Option Value) (base : Heap) (n : Nat) (x : Str) (fs : List Str) : Prop where
  nm : exName n = x
  hm : mg x = some (.ref (He.ga K x))
  k : ExK K (He.ga K x)
  mkx : (fs = [] ∧ ∃ fI fd, PySem.W.findIn K (.ref (He.ga K x)) "__init__" = some (some (.ref fI)) ∧ PySem.W.typeIn K (.ref fI) = some (.type "function") ∧ FnOk P w K mg base (L2.CX P w) 1 fI fd ["self"] (spI0 K (He.ga K x)) ∧ Binds K fd ["self"] []) ∨
    ∃ fld fI fd, fs = [fld] ∧ PySem.W.findIn K (.ref (He.ga K x)) fld = some none ∧ PySem.W.findIn K (.ref (He.ga K x)) "__init__" = some (some (.ref fI)) ∧ PySem.W.typeIn K (.ref fI) = some (.type "function") ∧ FnOk P w K mg base (L2.CX P w) 1 fI fd ["self", fld] (spI1 K (He.ga K x) fld) ∧ Binds K fd ["self", fld] []
def dRaise (n : Nat) (fs : List Str) (ta : TLi) : TSd := fun De ds => ta ds (fun zs ds1 => match unD zs with
  | some l => l.length = fs.length ∧ De.er ⟨n, fs, l⟩ ds1
  | none => False) De.er
section
variable {X : Cx} {g : G} {W : WX} {n : Nat} {x : Str} {fs : List Str} {e : Expr} {ta : TLi} {p pos pos' : Pos}
theorem room0 {k : Nat} {A : Around} (hr : Room k A) (h : 2 ≤ k) : Room 2 A := hr.mono h
theorem pxs_raise1 {gd : Bool} {k : Nat} {fl : Str} (C : ExR X.prog X.w X.K X.mg X.base n x [fl]) (hc : X.calm = true) (tk : Takes X W) (hr : RoomG gd k X.A) (ha : PXA X g W [e] ta) (hk : 2 ≤ k := by decide) (hg : Gl X x := by rfl) (hdb : (x == ("__debug__" : Str)) = false := by decide)
    (he : starEach [e] X.env = (false, eval e X.env) :: starEach [] X.env := by rfl) (hpl : (backTo pos (starEach [] X.env)).any (·.1) = false := by rfl) : PXS X g W (.Raise (some (.Call (.Name x p) [e] [] pos)) none pos') (dRaise n [fl] ta) := by
  refine ⟨fun pins s σ H M ds De I R h hE => ?_⟩
  rcases C.mkx with ⟨h, _⟩ | ⟨fld, fI, fd, hfl, hn, iC, tI, F1, hb⟩
  · cases h
  · obtain rfl : fl = fld := (List.cons.inj hfl).1
    have h0 := (ps_raise (pos := pos') hc tk (pmk_oex (p := p) (dvs := []) C.k.oex iC tI F1 (hr.1.mono hk) hb .nil passL hg C.hm ha.pa hdb he hpl)).run pins s σ H ⟨fun _ _ => False, fun _ _ => False, fun _ _ => False, fun _ _ => False⟩ I ?_
    · refine thn h0 fun f s1 q => ?_
      cases f with
      | next => obtain ⟨_, _, _, q⟩ := q; exact q.elim
      | brk => obtain ⟨_, _, _, q⟩ := q; exact q.elim
      | cont => obtain ⟨_, _, _, q⟩ := q; exact q.elim
      | ret u => obtain ⟨_, _, _, _, _, q⟩ := q; exact q.elim
    · refine liftA_in R h hE.ew fun zs ds1 M1 vs H1 R1 N1 rz q => ?_
      have q' : (match unD zs with
        | some l => l.length = [fl].length ∧ De.er ⟨n, [fl], l⟩ ds1
        | none => False) := q
      split at q'
      · rename_i l el
        obtain rfl := unD_of el
        have rl := rz.toD
        obtain ⟨hl, q⟩ := q'
        match l, hl with
        | [y], _ =>
          obtain ⟨v, r, rfl, rv, hr'⟩ := rl
          cases hr'
          refine ⟨(show 1 ≤ 1000 by decide), fun a ha => ⟨a, v, rfl, C.k.oex, hn, upd_same, fun dx h1 h2 => ?_⟩⟩
          have hdx : H1 dx = none := by rw [upd_ne h2] at h1; exact h1
          refine ⟨rfl, dx, [(fl, v)], upd_same, by rw [upd_ne h2, upd_same], hdx, ?_⟩
          have eH : upd (del (upd (upd (upd H1 a (exo a (He.ga X.K x) none)) dx (exd dx [(fl, v)])) a (exo a (He.ga X.K x) (some dx))) a) dx (.xd [(fl, v)]) = L2.upd H1 dx (.xd [(fl, v)]) := by
            funext b
            by_cases hb : b = dx
            · rw [hb, upd_same, upd_same]
            · rw [upd_ne hb, upd_ne hb]
              by_cases hba : b = a
              · rw [hba, del_same, ha]
              · rw [del_ne hba, upd_ne hba, upd_ne hb, upd_ne hba]
          rw [eH]
          obtain ⟨R2, N2⟩ := R1.upd (o := .xd [(fl, v)]) hdx
          refine hE ⟨n, [fl], [y]⟩ ds1 M1 σ _ _ _ q R2 (N1.trans N2) ⟨by show _ = _; rw [C.nm], fun a' => ⟨rfl, [v], ⟨v, [], rfl, RepD.mv N2.mv _ _ rv, rfl⟩, rfl, (fun z => nomatch z), fun _ => ⟨dx, rfl, R1.own_none hdx, upd_same⟩⟩⟩
      · exact q'.elim
theorem pxs_raise0 {gd : Bool} {k : Nat} (C : ExR X.prog X.w X.K X.mg X.base n x []) (hc : X.calm = true) (tk : Takes X W) (hr : RoomG gd k X.A) (hk : 2 ≤ k := by decide) (hg : Gl X x := by rfl) (hdb : (x == ("__debug__" : Str)) = false := by decide) :
    PXS X g W (.Raise (some (.Call (.Name x p) [] [] pos)) none pos') (dRaise n [] dNil) := by
  refine ⟨fun pins s σ H M ds De I R h hE => ?_⟩
  rcases C.mkx with ⟨_, fI, fd, iC, tI, F1, hb⟩ | ⟨fld, fI, fd, h, _⟩
  · have h0 := (ps_raise (pos := pos') hc tk (pmk_oex0 (p := p) (pos := pos) C.k.oex iC tI F1 (hr.1.mono hk) hb passL hg C.hm hdb)).run pins s σ H ⟨fun _ _ => False, fun _ _ => False, fun _ _ => False, fun _ _ => False⟩ I ?_
    · refine thn h0 fun f s1 q => ?_
      cases f with
      | next => obtain ⟨_, _, _, q⟩ := q; exact q.elim
      | brk => obtain ⟨_, _, _, q⟩ := q; exact q.elim
      | cont => obtain ⟨_, _, _, q⟩ := q; exact q.elim
      | ret u => obtain ⟨_, _, _, _, _, q⟩ := q; exact q.elim
    · intro a ha
      refine ⟨a, rfl, C.k.oex, upd_same, rfl, upd_same, ?_⟩
      have eH : del (upd H a (exo a (He.ga X.K x) none)) a = H := by
        funext b
        by_cases hba : b = a
        · rw [hba, del_same, ha]
        · rw [del_ne hba, upd_ne hba]
      rw [eH]
      exact hE ⟨n, [], []⟩ ds M σ H _ _ h.2 R .refl ⟨by show _ = _; rw [C.nm], fun a' => ⟨rfl, [], rfl, rfl, fun _ => rfl, fun z => absurd rfl z⟩⟩
  · cases h
end
end L3

set_option Elab.async false
set_option linter.all false
set_option maxRecDepth 100000
set_option maxHeartbeats 2000000
namespace L3
open PySem PySem.Spec PyProof.Rows L2
/-- the names of classes by numbers: those of the package, the built-in ones from 50 on -/
def bcNames : List String := ["ValueError", "LookupError", "RuntimeError", "ArithmeticError", "Exception"]
def clV (K : PySem.W.Frag) (h : Nat) : Value := match Nat.ble 50 h with
  | true => .type (bcNames.getD (h - 50) "ValueError")
  | false => .ref (He.ga K (exName h))
/-- an error of the class x is one of the class h -/
def catN (x h : Nat) : Bool := Nat.beq x h || Nat.beq h 20 || Nat.beq h 50 || Nat.beq h 54
/-- what the written part says of these classes -/
def catB (K : PySem.W.Frag) (xs hs : List Nat) : Bool := xs.all fun x => hs.all fun h => decide (PySem.W.exmOne K (.ref (He.ga K (exName x))) (clV K h) = some (catN x h)) && decide (PySem.W.kitOne K (.ref (He.ga K (exName x))) (clV K h) = some (catN x h))
def Cat (K : PySem.W.Frag) (xs : List Nat) (h : Nat) : Prop := ∀ x, List.elem x xs = true → PySem.W.exmOne K (.ref (He.ga K (exName x))) (clV K h) = some (catN x h) ∧ PySem.W.kitOne K (.ref (He.ga K (exName x))) (clV K h) = some (catN x h)
theorem catB_ok {K : PySem.W.Frag} {xs hs : List Nat} (b : catB K xs hs = true) {h : Nat} (hh : List.elem h hs = true) : Cat K xs h := fun x hx => by
  have e1 := List.all_eq_true.mp (List.all_eq_true.mp b x (List.mem_of_elem_eq_true hx)) h (List.mem_of_elem_eq_true hh)
  simp only [Bool.and_eq_true, decide_eq_true_eq] at e1
  exact e1
/-- one clause over data: its class, the name's slot, the slots that keep the exception behind the suite, the suite -/
structure DHd where
  h : Nat
  i : Option Nat
  js : List Nat
  ts : EX → Addr → Option Addr → TSd
def onD (ds : DS) (x : EX) (a : Addr) (d : Option Addr) : Option Nat → DS
  | some i => ds.set i (.d (.exn x.cls a d x.fs x.vals))
  | none => ds
def offD (ds : DS) : Option Nat → DS
  | some i => ⟨ds.s.set i none, ds.w⟩
  | none => ds
/-- behind the suite the exception that slots hold is a thing of its own -/
def holdD (x : EX) (a : Addr) (d : Option Addr) (P : DS → Prop) : List Nat → DS → Prop
  | [], ds => P ds
  | j :: r, ds => match ds.s[j]? with
    | some (some (.d (.exn C a' d' fs l))) => (C = x.cls ∧ a' = a ∧ d' = d) ∧ holdD x a d P r (ds.set j (.d (.exo C a d fs l)))
    | _ => holdD x a d P r ds
def erHd (xs : List Nat) (De : DE) (x : EX) (ds : DS) : List DHd → Prop
  | [] => De.er x ds
  | k :: r => (catN x.cls k.h = true → ∀ a d, k.ts x a d { nx := fun ds' => holdD x a d (fun ds2 => De.nx (offD ds2 k.i)) k.js ds', rt := De.rt, bk := fun ds' => holdD x a d (fun ds2 => De.bk (offD ds2 k.i)) k.js ds', ct := fun ds' => holdD x a d (fun ds2 => De.ct (offD ds2 k.i)) k.js ds', er := fun _ _ => False } (onD ds x a d k.i)) ∧ (catN x.cls k.h = false → erHd xs De x ds r)
def dTry (xs : List Nat) (tb : TSd) (l : List DHd) : TSd := fun De ds => tb { De with er := fun x ds1 => List.elem x.cls xs = true ∧ erHd xs De x ds1 l } ds
/-- what a suite may lean on -/
structure InX (K : PySem.W.Frag) (x : EX) (a : Addr) (d : Option Addr) (oe : Obj) : Prop where
  z : Zc (.ref (He.ga K (exName x.cls))) d oe
  f : ∃ vs, oe.data = .fields vs
section
variable (X : Cx) (g : G) (xs : List Nat)
inductive PHd : List ExceptHandler → List DHd → Prop
  | nil : PHd [] []
  | only {x : Str} {h : Nat} {js : List Nat} {ts : EX → Addr → Option Addr → TSd} {b₀ : Stmt} {suite : List Stmt} {np pos' : Pos} {hds : List ExceptHandler} {l : List DHd} (hc : Names X x (clV X.K h)) (hk : Cat X.K xs h)
      (hsu : ∀ (e : EX) (a : Addr) (d : Option Addr) (oe : Obj) (pn : List (Addr × Obj)), List.elem e.cls xs = true → InX X.K e a d oe → PXB (X.suite a ((a, oe) :: pn)) g (fun _ _ _ _ => False) (b₀ :: suite) (ts e a d)) (r : PHd hds l) :
      PHd (.ExceptHandler (some (.Name x np)) none (b₀ :: suite) pos' :: hds) (⟨h, none, js, ts⟩ :: l)
  | as {x n : Str} {i : Nat} {h : Nat} {js : List Nat} {ts : EX → Addr → Option Addr → TSd} {b₀ : Stmt} {suite : List Stmt} {np pos' : Pos} {hds : List ExceptHandler} {l : List DHd} (hi : X.N[i]? = some n) (hln : X.env.kindOf n = some .local) (hc : Names X x (clV X.K h)) (hk : Cat X.K xs h)
      (hsu : ∀ (e : EX) (a : Addr) (d : Option Addr) (oe : Obj) (pn : List (Addr × Obj)), List.elem e.cls xs = true → InX X.K e a d oe → PXB (X.suite a ((a, oe) :: pn)) g (fun _ _ _ _ => False) (b₀ :: suite) (ts e a d)) (r : PHd hds l) :
      PHd (.ExceptHandler (some (.Name x np)) (some n) (b₀ :: suite) pos' :: hds) (⟨h, some i, js, ts⟩ :: l)
end
/-- the ends of the layer below, met by data -/
structure EndOk (K : PySem.W.Frag) (g : G) (M : List Addr) (ds : DS) (H : Hp) (De : DE) (D : Ends) : Prop where
  nx : ∀ ds' M' σ' H', RepS K g M' ds' σ' H' → Nxt g M ds H M' ds' H' → De.nx ds' → D.nx σ' H'
  bk : ∀ ds' M' σ' H', RepS K g M' ds' σ' H' → Nxt g M ds H M' ds' H' → De.bk ds' → D.bk σ' H'
  ct : ∀ ds' M' σ' H', RepS K g M' ds' σ' H' → Nxt g M ds H M' ds' H' → De.ct ds' → D.ct σ' H'
  rt : ∀ z ds' M' v σ' H', RepS K g M' ds' σ' H' → Nxt g M ds H M' ds' H' → RepZ K (g.own M' ds') M' H' z v → De.rt z ds' → D.rt v H'
section
variable {X : Cx} {g : G} {W : WX}
theorem sp_of {pins : List (Addr × Obj)} {M : List Addr} {ds : DS} {H : Hp} {De : DE} {D : Ends} {f : Flow} {s : Shared} (e : EndOk X.K g M ds H De D) (h : SPD X g pins M ds H De f s) : SP X pins D f s := by
  cases f with
  | next => obtain ⟨ds', M', σ', H', I, R, N, q⟩ := h; exact ⟨σ', H', I, e.nx _ _ _ _ R N q⟩
  | brk => obtain ⟨ds', M', σ', H', I, R, N, q⟩ := h; exact ⟨σ', H', I, e.bk _ _ _ _ R N q⟩
  | cont => obtain ⟨ds', M', σ', H', I, R, N, q⟩ := h; exact ⟨σ', H', I, e.ct _ _ _ _ R N q⟩
  | ret u => obtain ⟨z, ds', M', v, σ', H', τ, I, r, R, N, rz, q⟩ := h; exact ⟨v, σ', H', I, r, e.rt _ _ _ _ _ _ R N rz q⟩
/-- a block over data, as one of the layer below -/
def liftB (X : Cx) (g : G) (W : WX) (t : TSd) : TS := fun D σ H => ∃ M ds De, RepS X.K g M ds σ H ∧ t De ds ∧ EWS X g W M ds H De.er ∧ EndOk X.K g M ds H De D
theorem PXB.ps {sts : List Stmt} {t : TSd} (h : PXB X g W sts t) : PSs X sts (liftB X g W t) :=
  ⟨fun pins s σ H D I ⟨M, ds, De, R, ht, hE, he⟩ => thn (h.run pins s σ H M ds De I R ht hE) fun _ _ q => sp_of he q⟩
end
section
variable {K : PySem.W.Frag} {g : G} {M : List Addr} {ds : DS} {σ : L2.St} {H : Hp}
theorem RepS.off (R : RepS K g M ds σ H) : ∀ i, RepS K g M (offD ds i) (slotOff σ i) H
  | none => R
  | some i => R.weak (l := ds.s.set i none) (by show (σ.set i none).length = _; rw [List.length_set, List.length_set]; exact R.len) fun j z h => by
      by_cases hj : i = j
      · subst hj
        by_cases hl : i < ds.s.length
        · rw [List.getElem?_set_self hl] at h; cases h
        · rw [List.getElem?_eq_none (by rw [List.length_set]; omega)] at h; cases h
      · rw [List.getElem?_set_ne hj] at h
        exact ⟨h, by show (σ.set i none)[j]? = _; rw [List.getElem?_set_ne hj]⟩
theorem Nxt.off {i : Option Nat} : Nxt g M ds H M (offD ds i) H := by
  cases i with
  | none => exact .refl
  | some i => exact ⟨⟨fun _ _ h _ _ => h, fun _ ps h => ⟨ps, h⟩, fun _ h => .inl h⟩, ⟨[], by simp⟩, fun _ _ => rfl⟩
theorem hold_ok {x : EX} {a : Addr} {d : Option Addr} {P : DS → Prop} {Q : Prop} (hH : H a = some (exV (.ref (He.ga K (exName x.cls))) a d)) (hf : ∀ ds', RepS K g M ds' σ H → ds'.w = ds.w → P ds' → Q) (na : ¬ g.own M ds a) : ∀ (js : List Nat) (ds1 : DS), RepS K g M ds1 σ H → ds1.w = ds.w → holdD x a d P js ds1 → Q
  | [], ds1, R, hw, h => hf ds1 R hw h
  | j :: r, ds1, R, hw, h => by
    unfold holdD at h
    split at h
    · rename_i C a' d' fs l e
      obtain ⟨⟨rfl, rfl, rfl⟩, h⟩ := h
      obtain ⟨v, hv, rv⟩ := R.slot j _ e
      obtain ⟨rfl, ys, h1, h2, h4, h3⟩ := rv
      have own : g.own M ds1 = g.own M ds := by unfold G.own; rw [hw]
      have R2 := R.set j (z := .d (.exo x.cls a' d' fs l)) (v := .ref a') ⟨rfl, ys, h1, h2, h4, h3, by rw [own]; exact na, hH⟩
      have es : σ.set j (some (.ref a')) = σ := by
        apply List.ext_getElem?
        intro i
        by_cases hi : j = i
        · subst hi
          rw [List.getElem?_set_self (List.getElem?_eq_some_iff.mp hv).1, hv]
        · rw [List.getElem?_set_ne hi]
      rw [es] at R2
      exact hold_ok hH hf na r _ R2 hw h
    · exact hold_ok hH hf na r ds1 R hw h
end
section
variable {X : Cx} {g : G} {W : WX} {xs : List Nat} {body : List Stmt} {h₀ : ExceptHandler} {hds : List ExceptHandler} {l : List DHd} {pos : Pos} {tb : TSd}
/-- the ends of a suite -/
structure EndA (K : PySem.W.Frag) (g : G) (a : Addr) (M : List Addr) (ds : DS) (H : Hp) (De : DE) (D : Ends) : Prop where
  nx : ∀ ds' M' σ' H', H' a = none → RepS K g M' ds' σ' H' → Nxt g M ds H M' ds' H' → De.nx ds' → D.nx σ' H'
  bk : ∀ ds' M' σ' H', H' a = none → RepS K g M' ds' σ' H' → Nxt g M ds H M' ds' H' → De.bk ds' → D.bk σ' H'
  ct : ∀ ds' M' σ' H', H' a = none → RepS K g M' ds' σ' H' → Nxt g M ds H M' ds' H' → De.ct ds' → D.ct σ' H'
  rt : ∀ z ds' M' v σ' H', H' a = none → RepS K g M' ds' σ' H' → Nxt g M ds H M' ds' H' → RepZ K (g.own M' ds') M' H' z v → De.rt z ds' → D.rt v H'
/-- the clauses of the layer below -/
def hdL (X : Cx) (g : G) (xs : List Nat) (k : DHd) : Hd := ⟨clV X.K k.h, k.i, fun a cls d D σ H => ∃ (e : EX) (M : List Addr) (ds : DS) (De : DE), cls = .ref (He.ga X.K (exName e.cls)) ∧ List.elem e.cls xs = true ∧
  RepS X.K g M ds σ H ∧ k.ts e a d De ds ∧ De.er = (fun _ _ => False) ∧ EndA X.K g a M ds H De D⟩
theorem hdN_of : ∀ {hds : List ExceptHandler} {l : List DHd}, PHd X g xs hds l → HdN X hds (l.map (hdL X g xs)) := by
  intro hds l h
  have go : ∀ {b₀ : Stmt} {suite : List Stmt} {k : DHd} {a : Addr} {oe : Obj} {cls : Value} {d : Option Addr} {pn : List (Addr × Obj)}, Zc cls d oe → (∃ vs, oe.data = .fields vs) →
      (∀ (e : EX), List.elem e.cls xs = true → InX X.K e a d oe → PXB (X.suite a ((a, oe) :: pn)) g (fun _ _ _ _ => False) (b₀ :: suite) (k.ts e a d)) → PSs (X.suite a ((a, oe) :: pn)) (b₀ :: suite) ((hdL X g xs k).ts a cls d) := fun {b₀ suite k a oe cls d pn} hz hd hsu => by
    refine ⟨fun pins s σ H D I hts => ?_⟩
    obtain ⟨e, M, ds, De, hcls, hx, R, ht, her, hend⟩ := hts
    subst hcls
    refine thn ((hsu e hx ⟨hz, hd⟩).run pins s σ H M ds De I R ht (fun x ds' M' σ' H' cls d q => by rw [her] at q; exact q.elim)) fun f s1 h => ?_
    have pn0 : ∀ {pins : List (Addr × Obj)} {σ' : L2.St} {H' : Hp}, L2.Inv (X.suite a ((a, oe) :: pn)) pins σ' H' s1 → H' a = none := fun {pins σ' H'} I => (I.pin (a, oe) (List.mem_append_left _ List.mem_cons_self)).2.1
    cases f with
    | next => obtain ⟨ds', M', σ', H', I, R, N, q⟩ := h; exact ⟨σ', H', I, hend.nx _ _ _ _ (pn0 I) R N q⟩
    | brk => obtain ⟨ds', M', σ', H', I, R, N, q⟩ := h; exact ⟨σ', H', I, hend.bk _ _ _ _ (pn0 I) R N q⟩
    | cont => obtain ⟨ds', M', σ', H', I, R, N, q⟩ := h; exact ⟨σ', H', I, hend.ct _ _ _ _ (pn0 I) R N q⟩
    | ret u => obtain ⟨z, ds', M', v, σ', H', τ, I, r, R, N, rz, q⟩ := h; exact ⟨v, σ', H', I, r, hend.rt _ _ _ _ _ _ (pn0 I) R N rz q⟩
  induction h with
  | nil => exact .nil
  | @only x h js ts b₀ suite np pos' hds l hc hk hsu r ih => exact .only hc (fun a oe cls d pn hz hd => go (k := ⟨h, none, js, ts⟩) hz hd fun e hx i => hsu e a d oe pn hx i) ih
  | @as x n i h js ts b₀ suite np pos' hds l hi hln hc hk hsu r ih => exact .as hi hln hc (fun a oe cls d pn hz hd => go (k := ⟨h, some i, js, ts⟩) hz hd fun e hx i => hsu e a d oe pn hx i) ih
theorem PHd.cat : ∀ {hds : List ExceptHandler} {l : List DHd}, PHd X g xs hds l → ∀ k ∈ l, Cat X.K xs k.h
  | _, _, .nil, _, h => by cases h
  | _, _, .only hc hk hsu r, k, h => by
    rcases List.mem_cons.mp h with rfl | h
    · exact hk
    · exact r.cat k h
  | _, _, .as hi hln hc hk hsu r, k, h => by
    rcases List.mem_cons.mp h with rfl | h
    · exact hk
    · exact r.cat k h
/-- an exception of the body, met by the clauses -/
theorem er_ok {D : Ends} {De : DE} {M : List Addr} {ds : DS} {H : Hp} (he : EndOk X.K g M ds H De D) (hE : EWS X g W M ds H De.er) {e : EX} {ds1 : DS} {M1 : List Addr} {σ1 : L2.St} {H1 : Hp} {d : Option Addr} (hx : List.elem e.cls xs = true) (R : RepS X.K g M1 ds1 σ1 H1) (N : Nxt g M ds H M1 ds1 H1)
    (re : ∀ a, RepD X.K (g.own M1 ds1) H1 (.exn e.cls a d e.fs e.vals) (.ref a)) : ∀ (l : List DHd), (∀ k ∈ l, Cat X.K xs k.h) → erHd xs De e ds1 l → wHd X.K W D (l.map (hdL X g xs)) (.ref (He.ga X.K (exName e.cls))) d σ1 H1
  | [], _, h => hE e ds1 M1 σ1 H1 _ d h R N ⟨rfl, re⟩
  | k :: r, hc, h => by
    refine ⟨catN e.cls k.h, (hc k (by simp) e.cls hx).1, fun hb a ha => ?_, fun hb => er_ok he hE hx R N re r (fun k hk => hc k (by simp [hk])) (h.2 hb)⟩
    have h1 := h.1 hb a d
    have R1 : RepS X.K g M1 (onD ds1 e a d k.i) (slotOn σ1 a k.i) H1 := by
      cases k.i with
      | none => exact R
      | some i => exact R.set i (z := .d (.exn e.cls a d e.fs e.vals)) (re a)
    have w1 : (onD ds1 e a d k.i).w = ds1.w := by cases k.i <;> rfl
    have N1 : Nxt g M1 ds1 H1 M1 (onD ds1 e a d k.i) H1 := by
      cases k.i with
      | none => exact .refl
      | some i => exact .set
    have up : ∀ {M' : List Addr} {ds' : DS} {σ' : L2.St} {H' : Hp}, H' a = none → RepS X.K g M' ds' σ' H' → RepS X.K g M' ds' σ' (upd H' a (exV (.ref (He.ga X.K (exName e.cls))) a d)) ∧ Nxt g M' ds' H' M' ds' (upd H' a (exV (.ref (He.ga X.K (exName e.cls))) a d)) ∧ ¬ g.own M' ds' a := fun hn R => ⟨(R.upd hn).1, (R.upd hn).2, R.own_none hn⟩
    have hold : ∀ {P : DS → Prop} {Q : L2.St → Hp → Prop}, (∀ ds' M' σ' H', RepS X.K g M' ds' σ' H' → Nxt g M ds H M' ds' H' → P ds' → Q σ' H') →
        ∀ ds' M' σ' H', H' a = none → RepS X.K g M' ds' σ' H' → Nxt g M1 (onD ds1 e a d k.i) H1 M' ds' H' → holdD e a d (fun ds2 => P (offD ds2 k.i)) k.js ds' → Q (slotOff σ' k.i) (upd H' a (exV (.ref (He.ga X.K (exName e.cls))) a d)) := fun {P Q} hPQ ds' M' σ' H' hn R' N' q => by
      obtain ⟨R2, N2, na⟩ := up hn R'
      refine hold_ok upd_same (fun ds2 R3 hw q2 => ?_) na k.js ds' R2 rfl q
      have N3 : Nxt g M' ds' (upd H' a (exV (.ref (He.ga X.K (exName e.cls))) a d)) M' ds2 (upd H' a (exV (.ref (He.ga X.K (exName e.cls))) a d)) := by
        have own : g.own M' ds2 = g.own M' ds' := by unfold G.own; rw [hw]
        exact ⟨by rw [own]; exact .refl, ⟨[], by simp⟩, fun _ _ => rfl⟩
      exact hPQ _ _ _ _ (R3.off k.i) (((((N.trans N1).trans N').trans N2).trans N3).trans .off) q2
    refine ⟨e, M1, _, _, rfl, hx, R1, h1, rfl, ⟨hold he.nx, hold he.bk, hold he.ct, fun z ds' M' v σ' H' hn R' N' rz q => ?_⟩⟩
    obtain ⟨R2, N2, na⟩ := up hn R'
    exact he.rt z ds' M' v σ' _ R2 ((((N.trans N1).trans N').trans N2)) (rz.mv N2.mv N2.pre) q
theorem pxs_try (hs : X.stack = X.env :: X.outer) (hf : X.env.frame = some X.env.locals) (hN : X.N.Nodup) (hex : X.ex = []) (tk : Takes X W)
    (hb : ∀ (W' : WX) (pn : List (Addr × Obj)) (xe : Value → Shared → Prop), Takes (X.tr pn xe) W' → PassesOwn (model X.prog X.w) X.A X.env xe → PXB (X.tr pn xe) g W' body tb)
    (hh : PHd X g xs (h₀ :: hds) l) : PXS X g W (.Try body (h₀ :: hds) [] [] pos) (dTry xs tb l) := by
  refine ⟨fun pins s σ H M ds De I R h hE => ?_⟩
  let D : Ends := { nx := fun σ' H' => ∃ ds' M', RepS X.K g M' ds' σ' H' ∧ Nxt g M ds H M' ds' H' ∧ De.nx ds', bk := fun σ' H' => ∃ ds' M', RepS X.K g M' ds' σ' H' ∧ Nxt g M ds H M' ds' H' ∧ De.bk ds', ct := fun σ' H' => ∃ ds' M', RepS X.K g M' ds' σ' H' ∧ Nxt g M ds H M' ds' H' ∧ De.ct ds', rt := fun v H' => ∃ z ds' M' σ', RepS X.K g M' ds' σ' H' ∧ Nxt g M ds H M' ds' H' ∧ RepZ X.K (g.own M' ds') M' H' z v ∧ De.rt z ds' }
  have he : EndOk X.K g M ds H De D := ⟨fun ds' M' σ' H' R N q => ⟨ds', M', R, N, q⟩, fun ds' M' σ' H' R N q => ⟨ds', M', R, N, q⟩, fun ds' M' σ' H' R N q => ⟨ds', M', R, N, q⟩, fun z ds' M' v σ' H' R N rz q => ⟨z, ds', M', σ', R, N, rz, q⟩⟩
  have h0 := (ps_try_n (pos := pos) (tb := fun W' => liftB X g W' tb) hs hf hN hex tk (fun W' pn xe tk' hp => ⟨(hb W' pn xe tk' hp).ps.run⟩) (hdN_of hh)).run pins s σ H D I
    ⟨M, ds, { De with er := fun x ds1 => List.elem x.cls xs = true ∧ erHd xs De x ds1 l }, R, h, fun x ds' M' σ' H' cls d q R' N' re => by
      obtain ⟨hcls, re⟩ := re
      subst hcls
      exact er_ok he hE q.1 R' N' re l hh.cat q.2, ⟨he.nx, he.bk, he.ct, he.rt⟩⟩
  refine thn h0 fun f s1 q => ?_
  cases f with
  | next =>
    obtain ⟨σ', H', I', ds', M', R', N', q⟩ := q
    exact ⟨ds', M', σ', H', I', R', N', q⟩
  | brk =>
    obtain ⟨σ', H', I', ds', M', R', N', q⟩ := q
    exact ⟨ds', M', σ', H', I', R', N', q⟩
  | cont =>
    obtain ⟨σ', H', I', ds', M', R', N', q⟩ := q
    exact ⟨ds', M', σ', H', I', R', N', q⟩
  | ret u =>
    obtain ⟨v, σ', H', I', r', z, ds', M', σ2, R', N', rz, q⟩ := q
    exact ⟨z, ds', M', v, σ', H', σ2, I', r', R', N', rz, q⟩
end
end L3

set_option Elab.async false
set_option linter.all false
set_option maxRecDepth 100000
set_option maxHeartbeats 2000000
namespace L3
open PySem PySem.Spec PyProof.Rows L2
def clD (K : PySem.W.Frag) (h : Nat) : D := match Nat.ble 50 h with
  | true => .ty (bcNames.getD (h - 50) "ValueError")
  | false => .ref (He.ga K (exName h))
def clW (K : PySem.W.Frag) (h : Nat) : V := match Nat.ble 50 h with
  | true => .ty (bcNames.getD (h - 50) "ValueError")
  | false => .ref (He.ga K (exName h))
theorem clW_rel {K : PySem.W.Frag} {h : Nat} {u : Value} (r : RelV (clW K h) u) : u = clV K h := by
  unfold clW at r
  unfold clV
  generalize Nat.ble 50 h = b at r
  cases b <;> exact r
theorem clW_of {K : PySem.W.Frag} {h : Nat} : RelV (clW K h) (clV K h) := by
  unfold clW clV
  cases Nat.ble 50 h <;> exact rfl
section
variable {X : Cx} {g : G} {W : WX} {pos : Pos} {e : Expr} {te : TD}
/-- a class by its name, as a value -/
theorem pe_cls {x : Str} {h : Nat} (hc : Names X x (clV X.K h)) : PE X (.Name x pos) (tC (clW X.K h)) := by
  obtain ⟨hg, hd, hm | ⟨hm, hv, hn⟩⟩ := hc
  · exact pe_glob (v := clW X.K h) hg hm clW_of hd
  · exact pe_bltn (v := clW X.K h) hg hm hv clW_of hn hd
/-- what the written part says of the errors of these classes -/
def exXB (K : PySem.W.Frag) (xs : List Nat) : Bool := xs.all fun x => exKB K (He.ga K (exName x)) && (decide (PySem.W.findIn K (.ref (He.ga K (exName x))) "value" = some none) && (decide (PySem.W.findIn K (.ref (He.ga K (exName x))) "index" = some none) && decide (PySem.W.findIn K (.ref (He.ga K (exName x))) "line" = some none)))
def ExX (K : PySem.W.Frag) (xs : List Nat) : Prop := ∀ x, List.elem x xs = true → ExK K (He.ga K (exName x)) ∧ ∀ f ∈ (["value", "index", "line"] : List Str), PySem.W.findIn K (.ref (He.ga K (exName x))) f = some none
theorem exXB_ok {K : PySem.W.Frag} {xs : List Nat} (h : exXB K xs = true) : ExX K xs := fun x hx => by
  have h1 := List.all_eq_true.mp h x (List.mem_of_elem_eq_true hx)
  simp only [Bool.and_eq_true, decide_eq_true_eq] at h1
  obtain ⟨h1, h2, h3, h4⟩ := h1
  refine ⟨exKB_ok h1, fun f hf => ?_⟩
  simp only [List.mem_cons, List.not_mem_nil, or_false] at hf
  rcases hf with rfl | rfl | rfl <;> assumption
theorem exn_inst {K : PySem.W.Frag} {P : Program} {w : World} {own : Addr → Prop} {H : Hp} {h : Heap} {C : Addr} {n : Nat} {a : Addr} {d : Option Addr} {fs : List Str} {l : List D} {oe : Obj} (hok : HOk P w H h) (r : RepD K own H (.exn n a d fs l) (.ref a)) (he : h.get? a = some oe) (hz : Zc (.ref C) d oe) (hf : ∃ vs, oe.data = .fields vs) :
    ∃ od, PySem.W.InstAt h a oe C od ∧ ∃ xs, RepL K own H l xs ∧ fs.length = l.length ∧ ∀ f v, (fs.zip xs).lookup f = some v → ∃ u, RelV v u ∧ od.isSome = true ∧ ∀ o, od = some o → PySem.W.lookIn f o = some (some u) := by
  obtain ⟨_, xs, rl, hl, h0, h1⟩ := r
  obtain ⟨vs, hd⟩ := hf
  by_cases hfs : fs = []
  · have hdn := h0 hfs
    subst hdn
    refine ⟨none, ⟨he, hz.1, by unfold PySem.W.notCls; rw [hd] <;> rfl, by rw [hz.2]; trivial⟩, xs, rl, hl, fun f v e => ?_⟩
    subst hfs
    cases e
  · obtain ⟨dx, rfl, _, hx⟩ := h1 hfs
    obtain ⟨mA, hns, hr⟩ := (show ObjOk P w H h dx (.xd (fs.zip xs)) from hok dx _ hx)
    obtain ⟨od, ho, hlk⟩ := lookIn_ns hns
    refine ⟨some od, ⟨he, hz.1, by unfold PySem.W.notCls; rw [hd] <;> rfl, by rw [hz.2]; exact ho⟩, xs, rl, hl, fun f v e => ?_⟩
    obtain ⟨u, hu, ru⟩ := RelO.some_of (v := v) (o := mA f) (by rw [← e]; exact hr f)
    exact ⟨u, ru, rfl, fun o eo => by cases eo; rw [hlk, hu]⟩
def rdXfS (x : EX) (a : Addr) (d : Option Addr) (f : Str) (z : Z) (ds : DS) (Q : QZ) : Prop := match z with
  | .d (.exn C a' d' (f' :: _) (y :: _)) => (C = x.cls ∧ a' = a ∧ d' = d ∧ f' = f) ∧ Q (.d y) ds
  | _ => False
def dXfS (x : EX) (a : Addr) (d : Option Addr) (f : Str) (te : TD) : TD := fun ds Q E => te ds (fun z ds1 => rdXfS x a d f z ds1 Q) E
theorem px_xfS {xs : List Nat} {x : EX} {a : Addr} {d : Option Addr} {oe : Obj} {pn : List (Addr × Obj)} {n : Str} (T : ExX X.K xs) (hx : List.elem x.cls xs = true) (i : InX X.K x a d oe) (he : PX (X.suite a ((a, oe) :: pn)) g W e te)
    (hn : n ∈ (["value", "index", "line"] : List Str) := by decide) (hb : attributeBase e n X.env (eval e X.env) = eval e X.env := by rfl) : PX (X.suite a ((a, oe) :: pn)) g W (.Attribute e n pos) (dXfS x a d n te) := by
  refine ⟨fun pins s σ H M ds QD ED I R h hE => ?_⟩
  refine attr_of hb (thn (he.run pins s σ H M ds _ ED I R h hE) fun u s1 ⟨z, ds1, M1, v, H1, I1, r1, R1, N1, rz, q⟩ => ?_)
  replace q : rdXfS x a d n z ds1 QD := q
  unfold rdXfS at q
  split at q
  · rename_i C a' d' f' ft y yt
    obtain ⟨⟨rfl, rfl, rfl, rfl⟩, q⟩ := q
    have e1 : v = .ref a' := rz.1
    subst e1
    obtain rfl : u = Value.ref a' := r1
    obtain ⟨ha, _⟩ := I1.pin (a', oe) (List.mem_append_left _ List.mem_cons_self)
    obtain ⟨od, J, ys, rl, hl, look⟩ := exn_inst (n := x.cls) I1.hok rz ha i.z i.f
    obtain ⟨y', yr, rfl, ry, _⟩ := rl
    obtain ⟨u, ru, hs, hu⟩ := look f' y' (by simp)
    obtain ⟨o, rfl⟩ := Option.isSome_iff_exists.mp hs
    obtain ⟨T1, T2⟩ := T _ hx
    exact HandSPX.exc_get I1.kIn J T1.xf.ga T1.xf.gg T1.xf.exC (PySem.W.findObj_own T1.xf.hdC (T2 _ hn) rfl (by rw [hu o rfl])) (handed_of ru) ⟨.d y, ds1, M1, y', H1, I1.tok _, ru, R1, N1, ry, q⟩
  · exact q.elim
def rdXfH (xs : List Nat) (f : Str) (z : Z) (ds : DS) (Q : QZ) : Prop := match z with
  | .d (.exo C _ _ (f' :: _) (y :: _)) => (List.elem C xs = true ∧ f' = f) ∧ Q (.d y) ds
  | _ => False
def dXfH (xs : List Nat) (f : Str) (te : TD) : TD := fun ds Q E => te ds (fun z ds1 => rdXfH xs f z ds1 Q) E
theorem px_xfH {xs : List Nat} {n : Str} (T : ExX X.K xs) (he : PX X g W e te)
    (hn : n ∈ (["value", "index", "line"] : List Str) := by decide) (hb : attributeBase e n X.env (eval e X.env) = eval e X.env := by rfl) : PX X g W (.Attribute e n pos) (dXfH xs n te) := by
  refine ⟨fun pins s σ H M ds QD ED I R h hE => ?_⟩
  refine attr_of hb (thn (he.run pins s σ H M ds _ ED I R h hE) fun u s1 ⟨z, ds1, M1, v, H1, I1, r1, R1, N1, rz, q⟩ => ?_)
  replace q : rdXfH xs n z ds1 QD := q
  unfold rdXfH at q
  split at q
  · rename_i C a' d' f' ft y yt
    obtain ⟨⟨hx, rfl⟩, q⟩ := q
    obtain ⟨e1, ys, h1, h2, h3, h4, h5, h6⟩ := rz
    subst e1
    obtain rfl : u = Value.ref a' := r1
    obtain ⟨⟨oe, ha, hz, hd⟩, _⟩ := (show ObjOk X.prog X.w H1 s1.heap a' (exV _ a' d') from I1.hok a' _ h6)
    obtain ⟨od, J, ys', rl, hl, look⟩ := exn_inst (K := X.K) (own := g.own M1 ds1) (n := C) (fs := f' :: ft) (l := y :: yt) I1.hok ⟨rfl, ys, h1, h2, h3, h4⟩ ha hz hd
    obtain ⟨y', yr, rfl, ry, _⟩ := rl
    obtain ⟨u, ru, hs, hu⟩ := look f' y' (by simp)
    obtain ⟨o, rfl⟩ := Option.isSome_iff_exists.mp hs
    obtain ⟨T1, T2⟩ := T _ hx
    exact HandSPX.exc_get I1.kIn J T1.xf.ga T1.xf.gg T1.xf.exC (PySem.W.findObj_own T1.xf.hdC (T2 _ hn) rfl (by rw [hu o rfl])) (handed_of ru) ⟨.d y, ds1, M1, y', H1, I1.tok _, ru, R1, N1, ry, q⟩
  · exact q.elim
def NonC (K : PySem.W.Frag) (h : Nat) : Prop := PySem.W.kitOne K (.type "NoneType") (clV K h) = some false
def rdIsX (K : PySem.W.Frag) (xs : List Nat) (h : Nat) (x : EX) (a : Addr) (d : Option Addr) (z : Z) (ds : DS) (Q : QZ) : Prop := match z with
  | .d (.exn C a' d' _ _) => (C = x.cls ∧ a' = a ∧ d' = d) ∧ Q (.d (.bl (catN C h))) ds
  | _ => False
def rdIsH (xs : List Nat) (h : Nat) (z : Z) (ds : DS) (Q : QZ) : Prop := match z with
  | .d (.exo C _ _ _ _) => List.elem C xs = true ∧ Q (.d (.bl (catN C h))) ds
  | .d .non => Q (.d (.bl false)) ds
  | _ => False
theorem kia_ex {xs : List Nat} {n h : Nat} {own : Addr → Prop} {pins : List (Addr × Obj)} {σ : L2.St} {H : Hp} {s : Shared} {a : Addr} {d : Option Addr} {fs : List Str} {l : List D} {oe : Obj} {Q : Value → Shared → Prop} {E : Value → Shared → Prop} {A : Around} (T : ExX X.K xs) (hk : Cat X.K xs h) (hx : List.elem n xs = true)
    (I : L2.Inv X pins σ H s) (r : RepD X.K own H (.exn n a d fs l) (.ref a)) (he : s.heap.get? a = some oe) (hz : Zc (.ref (He.ga X.K (exName n))) d oe) (hf : ∃ vs, oe.data = .fields vs) (q : ∀ tk, Q (.bool (catN n h)) { s with toks := tk }) :
    wpAny (model X.prog X.w) A (call (.builtin "isinstance") [.ref a, clV X.K h]) Q E s := by
  obtain ⟨od, J, _⟩ := exn_inst I.hok r he hz hf
  obtain ⟨T1, _⟩ := T _ hx
  have hcl : (PySem.W.clsIn X.K (He.ga X.K (exName n))).isSome = true := by
    have := T1.xf.hdC
    obtain ⟨cd, hc, _⟩ := PySem.W.any_some this
    rw [hc]; rfl
  exact PySem.W.kia_one (PySem.W.kitx_exc hcl T1.xf.ga T1.xf.gg T1.xf.exC T1.ca T1.cn T1.ct T1.cm) I.kIn J (hk n hx).2 (fun z => nomatch z) q
theorem isi_call {t : TD} {x : Str} {h : Nat} {p p1 p2 : Pos} {RD : Z → DS → QZ → Prop} (hc : Names X x (clV X.K h)) (hg : Gl X "isinstance") (hm : X.mg "isinstance" = none) (hb : bootBuiltins "isinstance" = some (.builtin "isinstance")) (he : PX X g W e t)
    (hr : ∀ (pins : List (Addr × Obj)) (s : Shared) (σ : L2.St) (H : Hp) (M : List Addr) (ds : DS) (z : Z) (v : V) (vv : Value) (QD : QZ), L2.Inv X pins σ H s → RepS X.K g M ds σ H → RepZ X.K (g.own M ds) M H z v → RelV v vv → RD z ds QD → wpAny (model X.prog X.w) X.A (call (.builtin "isinstance") [vv, clV X.K h]) (EPD X g pins σ M ds H QD) X.xe s)
    (hst : starEach [e, .Name x p1] X.env = (false, eval e X.env) :: starEach [.Name x p1] X.env := by rfl) (hpl : (backTo p2 (starEach [.Name x p1] X.env)).any (·.1) = false := by rfl) (hst2 : starEach [.Name x p1] X.env = (false, eval (.Name x p1) X.env) :: starEach [] X.env := by rfl) :
    PX X g W (.Call (.Name "isinstance" p) [e, .Name x p1] [] p2) (fun ds Q E => t ds (fun z ds1 => RD z ds1 Q) E) := by
  refine ⟨fun pins s σ H M ds QD ED I R ht hE => ?_⟩
  refine wpAny_Call_Name_kw (ld_blt I hg hm hb ?_ (by decide) (by decide))
  refine PyProof.Rows.callWith_builtin1 ?_ hst hpl
  rw [hst]
  refine Calls.spliced_cons (thn (he.run pins s σ H M ds _ ED I R ht hE) fun vv s1 ⟨z, ds1, M1, v, H1, I1, r1, R1, N1, z1, q1⟩ => ?_)
  rw [hst2]
  refine Calls.spliced_cons (thn ((pe_cls hc).run pins s1 σ H1 (fun v2 H2 => v2 = clW X.K h ∧ H2 = H1) I1 ⟨rfl, rfl⟩) fun u s2 ⟨v2, H2, I2, r2, e1, e2⟩ => ?_)
  subst e1 e2
  have := clW_rel r2
  subst this
  exact Calls.spliced_nil (thn (hr pins s2 σ _ M1 ds1 z v vv QD I2 R1 z1 r1 q1) fun _ _ h => h.nxt N1)
theorem px_isiH {t : TD} {xs : List Nat} {x : Str} {h : Nat} {p p1 p2 : Pos} (T : ExX X.K xs) (hk : Cat X.K xs h) (hno : NonC X.K h) (hc : Names X x (clV X.K h)) (hg : Gl X "isinstance") (hm : X.mg "isinstance" = none) (hb : bootBuiltins "isinstance" = some (.builtin "isinstance")) (he : PX X g W e t)
    (hst : starEach [e, .Name x p1] X.env = (false, eval e X.env) :: starEach [.Name x p1] X.env := by rfl) (hpl : (backTo p2 (starEach [.Name x p1] X.env)).any (·.1) = false := by rfl) (hst2 : starEach [.Name x p1] X.env = (false, eval (.Name x p1) X.env) :: starEach [] X.env := by rfl) :
    PX X g W (.Call (.Name "isinstance" p) [e, .Name x p1] [] p2) (fun ds Q E => t ds (fun z ds1 => rdIsH xs h z ds1 Q) E) := by
  refine isi_call hc hg hm hb he (fun pins s σ H M ds z v vv QD I R rz rv q => ?_) hst hpl hst2
  unfold rdIsH at q
  split at q
  · rename_i C a' d' fs l
    obtain ⟨hx, q⟩ := q
    obtain ⟨e1, ys, h1, h2, h3, h4, h5, h6⟩ := rz
    subst e1
    obtain rfl : vv = Value.ref a' := rv
    obtain ⟨⟨oe, ha, hz, hd⟩, _⟩ := (show ObjOk X.prog X.w H s.heap a' (exV _ a' d') from I.hok a' _ h6)
    exact kia_ex (own := g.own M ds) (fs := fs) (l := l) T hk hx I ⟨rfl, ys, h1, h2, h3, h4⟩ ha hz hd fun tk => ⟨.d (.bl _), ds, M, .bl _, H, I.tok tk, rfl, R, .refl, rfl, q⟩
  · cases rz
    cases rv
    exact PySem.W.kia_one PySem.W.kitx_none I.kIn True.intro hno (fun z => nomatch z) fun tk => ⟨.d (.bl _), ds, M, .bl _, H, I.tok tk, rfl, R, .refl, rfl, q⟩
  · exact q.elim
theorem px_isiS {t : TD} {xs : List Nat} {x : Str} {h : Nat} {p p1 p2 : Pos} {ex : EX} {a : Addr} {d : Option Addr} {oe : Obj} {pn : List (Addr × Obj)} (T : ExX X.K xs) (hk : Cat X.K xs h) (hx : List.elem ex.cls xs = true) (i : InX X.K ex a d oe) (hc : Names X x (clV X.K h)) (hg : Gl X "isinstance") (hm : X.mg "isinstance" = none) (hb : bootBuiltins "isinstance" = some (.builtin "isinstance")) (he : PX (X.suite a ((a, oe) :: pn)) g W e t)
    (hst : starEach [e, .Name x p1] X.env = (false, eval e X.env) :: starEach [.Name x p1] X.env := by rfl) (hpl : (backTo p2 (starEach [.Name x p1] X.env)).any (·.1) = false := by rfl) (hst2 : starEach [.Name x p1] X.env = (false, eval (.Name x p1) X.env) :: starEach [] X.env := by rfl) :
    PX (X.suite a ((a, oe) :: pn)) g W (.Call (.Name "isinstance" p) [e, .Name x p1] [] p2) (fun ds Q E => t ds (fun z ds1 => rdIsX X.K xs h ex a d z ds1 Q) E) := by
  refine isi_call (X := X.suite a ((a, oe) :: pn)) hc hg hm hb he (fun pins s σ H M ds z v vv QD I R rz rv q => ?_) hst hpl hst2
  unfold rdIsX at q
  split at q
  · rename_i C a' d' fs l
    obtain ⟨⟨rfl, rfl, rfl⟩, q⟩ := q
    have e1 : v = .ref a' := rz.1
    subst e1
    obtain rfl : vv = Value.ref a' := rv
    obtain ⟨ha, _⟩ := I.pin (a', oe) (List.mem_append_left _ List.mem_cons_self)
    exact kia_ex (X := X.suite a' ((a', oe) :: pn)) T hk hx I rz ha i.z i.f fun tk => ⟨.d (.bl _), ds, M, .bl _, H, I.tok tk, rfl, R, .refl, rfl, q⟩
  · exact q.elim
end
end L3

set_option Elab.async false
set_option linter.all false
set_option maxRecDepth 100000
set_option maxHeartbeats 2000000
namespace L3
open PySem PySem.Spec PyProof.Rows L2 LamX
theorem valsGet : ∀ {vs : List V} {us : List Value} {i : Nat} {v : V}, Vals vs us → vs[i]? = some v → ∃ u, us[i]? = some u ∧ RelV v u := by
  intro vs us i v rv
  induction rv generalizing i with
  | nil => intro h; simp at h
  | cons r t ih =>
    intro h
    cases i with
    | zero => simp at h; subst h; exact ⟨_, rfl, r⟩
    | succ i =>
      obtain ⟨u, h1, h2⟩ := ih (i := i) (by simpa using h)
      exact ⟨u, by simpa using h1, h2⟩
theorem zipLook : ∀ {ps : List Str} {us : List Value} {i : Nat} {x : Str} {u : Value}, ps.Nodup → ps[i]? = some x → us[i]? = some u → (ps.zip us).reverse.lookup x = some u := by
  intro ps us i x u hn h1 h2
  have key : ∀ (l : List (Str × Value)), (l.map (·.1)).Nodup → (x, u) ∈ l → l.lookup x = some u := by
    intro l
    induction l with
    | nil => intro _ h; cases h
    | cons p l ih =>
      intro hd h
      obtain ⟨y, z⟩ := p
      rw [List.map_cons, List.nodup_cons] at hd
      rcases List.mem_cons.mp h with e | e
      · cases e
        simp
      · have ne : x ≠ y := fun z => hd.1 (List.mem_map.mpr ⟨(x, u), e, z⟩)
        rw [List.lookup_cons]
        have : (x == y) = false := by simpa using ne
        rw [this]
        exact ih hd.2 e
  have hm : (x, u) ∈ ps.zip us := List.mem_iff_getElem?.mpr ⟨i, by rw [List.getElem?_zip_eq_some]; exact ⟨h1, h2⟩⟩
  refine key _ ?_ (List.mem_reverse.mpr hm)
  have rev : ∀ {l : List Str}, l.Nodup → l.reverse.Nodup := fun {l} h => by
    unfold List.Nodup at *
    rw [List.pairwise_reverse]
    exact h.imp fun z e => z e.symm
  rw [List.map_reverse]
  refine rev ?_
  have hsub : ((ps.zip us).map (·.1)).Sublist ps := by
    have : ∀ (ps : List Str) (us : List Value), ((ps.zip us).map (·.1)).Sublist ps := by
      intro ps
      induction ps with
      | nil => intro us; simp
      | cons p ps ih =>
        intro us
        cases us with
        | nil => simp
        | cons u us => simpa using ih us
    exact this ps us
  exact hsub.nodup hn
/-- parameters, captured names, globals -/
structure LamP (sc scope : Scope) (ps N : List Str) : Prop where
  kind : scope.kind = .function
  co : scope.isCoroutine = false
  gen : scope.isGenerator = false
  nocell : ∀ y ∈ scope.names, y.2 ≠ .cell
  par : ∀ x ∈ ps, scope.names.lookup x = some .local
  loc : ∀ y ∈ scope.names, y.2 = .local → y.1 ∈ ps
  dis : ∀ x ∈ ps, x ∉ N
  nd : ps.Nodup
  free : ∀ y ∈ scope.names, y.2 = .free → sc.names.lookup y.1 = some .cell ∨ sc.names.lookup y.1 = some .free
def lamPB (sc scope : Scope) (ps N : List Str) : Bool :=
  decide (scope.kind = .function) && (!scope.isCoroutine && (!scope.isGenerator && ((scope.names.all fun y => !decide (y.2 = .cell)) && ((ps.all fun x => decide (scope.names.lookup x = some .local)) && ((scope.names.all fun y => !decide (y.2 = .local) || decide (y.1 ∈ ps)) && ((ps.all fun x => !decide (x ∈ N)) && (decide ps.Nodup &&
    scope.names.all fun y => !decide (y.2 = .free) || decide (sc.names.lookup y.1 = some .cell) || decide (sc.names.lookup y.1 = some .free))))))))
theorem lamP_by {sc scope : Scope} {ps N : List Str} (h : lamPB sc scope ps N = true) : LamP sc scope ps N := by
  unfold lamPB at h
  simp only [Bool.and_eq_true, Bool.or_eq_true, Bool.not_eq_true', decide_eq_true_eq, decide_eq_false_iff_not, List.all_eq_true] at h
  obtain ⟨h1, h2, h3, h4, h5, h6, h7, h8, h9⟩ := h
  refine ⟨h1, h2, h3, h4, h5, fun y hy e => (h6 y hy).resolve_left (fun z => z e), h7, h8, fun y hy e => ?_⟩
  rcases h9 y hy with (z | z) | z
  · exact absurd e z
  · exact .inl z
  · exact .inr z
theorem LamP.has {X : Cx} {scope : Scope} {ps N : List Str} (L : LamP X.env.scope scope ps N) (ok : X.Ok) : ∀ y ∈ scope.names, y.2 = .free → ∃ c, X.env.cells.lookup y.1 = some c := fun y hy e => by
  rcases L.free y hy e with k | k
  · exact ok.has _ (.inl k)
  · exact ok.has _ (.inr k)
/-- the context of the lambda's body -/
def lamCxP (X : Cx) (ps : List Str) (A : Around) (outer : List Env) (s : Shared) (H : Hp) (E : XK) (scope : Scope) (f c' : Addr) : Cx := { lamCx X A outer s H E scope f c' with N := ps ++ X.N }
section
variable {X : Cx} {pins : List (Addr × Obj)} {σ : L2.St} {H HZ : Hp} {s s1 : Shared}
theorem lam_startP {ps : List Str} {A : Around} {outer : List Env} {E : XK} {scope : Scope} {f c' : Addr} {h₁ : Heap} {tk : Nat} {us : List Value} {vs : List V} (I : Inv X pins σ H s) (L : LamP X.env.scope scope ps X.N) (e0 : Env0 X.prog X.w X.K X.mg X.base A outer s1 HZ) (hd : A.handled = none)
    (un : Un (frs X.stack) [] H HZ s.heap s1.heap) (rv : Vals vs us) (hl : us.length = ps.length) (hns : h₁.Ns s1.heap.objs.size fun y => (ps.zip us).reverse.lookup y) (kp : ∀ b o, s1.heap.get? b = some o → h₁.get? b = some o) :
    Inv (lamCxP X ps A outer s1 HZ E scope f c') [] (vs.map some ++ σ) HZ { s1 with heap := h₁, toks := tk } := by
  have hfree := L.has I.ok
  have cm : ∀ {y c}, (cloFrom X.env.cells scope.names []).lookup y = some c → X.env.cells.lookup y = some c := fun {y c} e => by
    rcases cloFrom_mem (PySem.mem_of_lookup e) with hm | ⟨h1, h2⟩
    · cases hm
    · obtain ⟨c1, hc⟩ := hfree _ h1 rfl
      have hc : X.env.cells.lookup y = some c1 := hc
      have e2 : c = c1 := by
        rw [h2, hc] <;> rfl
      rw [e2]
      exact hc
  have look : ∀ {y}, scope.names.lookup y = some .free → ∃ c, (cloFrom X.env.cells scope.names []).lookup y = some c := fun {y} hl => by
    have hy : (y, NameKind.free) ∈ scope.names := PySem.mem_of_lookup hl
    exact mem_lookup (cloFrom_has (cells := X.env.cells) (acc := []) hy)
  have cellK : ∀ {c : Addr} {v : Option Value}, H c = none → s.heap.IsCell c v → h₁.IsCell c v := fun {c v} n ⟨o, ho, hd⟩ => by
    obtain ⟨sl, q⟩ := un.any ho n (by simp)
    exact ⟨_, kp _ _ q, hd⟩
  have lv : vs.length = ps.length := by rw [rv.length, hl]
  have noA : ∀ b : Addr, b ∉ (lamCxP X ps A outer s1 HZ E scope f c').ex := fun b z => absurd (show b ∈ ([] : List Addr) from z) (by simp)
  refine ⟨⟨e0.mod, L.kind, rfl, rfl, Nat.le_refl _, fun y z c e1 e2 => I.ok.inj y z c (cm e1) (cm e2), fun y hy => ?_, fun y c z _ => ?_, fun _ => hd, Around.frames_deeper e0.frames, .inr ⟨rfl, rfl⟩, fun b z => absurd z (noA b), e0.bs, e0.bsz, fun b _ _ => noA b,
      fun b z => absurd z (noA b), e0.funs, e0.frf⟩,
    rfl, e0.bare, Un.kept kp, ⟨_, hns, fun i y v e1 e2 e3 => ?_⟩, fun y c e => ?_, e0.hok.fresh (Nat.le_refl _), fun y c e => ?_, fun q hq => absurd (show q ∈ ([] : List (Addr × Obj)) ++ [] from hq) (by simp), e0.hok.kept kp, ?_⟩
  · have hy : scope.names.lookup y = some .cell ∨ scope.names.lookup y = some .free := hy
    rcases hy with hy | hy
    · exact absurd rfl (L.nocell _ (PySem.mem_of_lookup hy))
    · exact look hy
  · have z : false = true := z
    cases z
  · have e1 : (ps ++ X.N)[i]? = some y := e1
    have e3 : Vis scope y := e3
    by_cases hi : i < ps.length
    · rw [List.getElem?_append_left hi] at e1
      rw [List.getElem?_append_left (by rw [List.length_map, lv]; exact hi), List.getElem?_map] at e2
      cases hv : vs[i]? with
      | none => rw [hv] at e2; cases e2
      | some v' =>
        rw [hv] at e2
        cases e2
        obtain ⟨u, hu, ru⟩ := valsGet rv hv
        exact ⟨u, ru, .inl ⟨L.par y (List.mem_of_getElem? e1), zipLook L.nd e1 hu⟩⟩
    · rw [List.getElem?_append_right (by omega)] at e1
      rw [List.getElem?_append_right (by rw [List.length_map, lv]; omega), List.length_map, lv] at e2
      rcases e3 with k | k | k
      · exact absurd (List.mem_of_getElem? e1) (L.dis y (L.loc _ (PySem.mem_of_lookup k) rfl))
      · exact absurd rfl (L.nocell _ (PySem.mem_of_lookup k))
      · obtain ⟨m, hn, hl⟩ := I.loc
        have hvis : Vis X.env.scope y := (L.free _ (PySem.mem_of_lookup k) rfl).elim (fun k => .inr (.inl k)) (fun k => .inr (.inr k))
        obtain ⟨w', r, q⟩ := hl _ y v e1 e2 hvis
        obtain ⟨c2, h2⟩ := look k
        refine ⟨w', r, .inr ⟨.inr k, c2, h2, ?_⟩⟩
        have c1 := cm h2
        rcases q with ⟨k', _⟩ | ⟨_, c3, e', z⟩
        · have k' : X.env.scope.names.lookup y = some .local := k'
          rcases L.free _ (PySem.mem_of_lookup k) rfl with k2 | k2 <;> rw [show X.env.scope.names.lookup y = _ from k2] at k' <;> cases k'
        · rw [c1] at e'
          cases e'
          exact cellK (I.freeC y _ c1) z
  · obtain ⟨w', z⟩ := I.cell y c (cm e)
    exact ⟨w', cellK (I.freeC y c (cm e)) z⟩
  · obtain ⟨v, o, ho, hd⟩ := I.cell y c (cm e)
    exact un.free c o ho (I.freeC y c (cm e)) (by simp)
  · show (vs.map some ++ σ).length = (ps ++ X.N).length
    rw [List.length_append, List.length_append, List.length_map, lv, I.len]
/-- the lambda is called, by whom ever; what its maker keeps is as it was -/
theorem lam_runP {ps : List Str} {A : Around} {outer : List Env} {E : XK} {scope : Scope} {f c' : Addr} {pm ctv : Value} {params : Arguments} {body : Expr} {us : List Value} {vs : List V} {k : Nat} {Q : VK} {tb : TE} (I : Inv X pins σ H s) (L : LamP X.env.scope scope ps X.N)
    (hf : s1.heap.get? f = some (PySem.W.kla_obj "<lambda>" (X.env.qual ++ "<lambda>") params body scope (cloFrom X.env.cells scope.names []) pm c' ctv))
    (hbind : bindArgs (PySem.W.kla_fn "<lambda>" (X.env.qual ++ "<lambda>") params body scope (cloFrom X.env.cells scope.names []) pm (.ref c') ctv) ⟨us, []⟩ = pure (ps.zip us)) (hr : Room (k + 1) A)
    (e0 : Env0 X.prog X.w X.K X.mg X.base A outer s1 HZ) (un : Un (frs X.stack) [] H HZ s.heap s1.heap) (lim : s1.heap.NoLimit) (hc : HZ c' = some (CodeO c' (X.env.qual ++ "<lambda>"))) (rv : Vals vs us) (hl : us.length = ps.length)
    (hbody : Room k (A.deeper (lamEnv X scope s1.heap.objs.size f c')) → PE (lamCxP X ps A outer s1 HZ E scope f c') body tb) (ht : tb (vs.map some ++ σ) HZ Q) :
    codeAny (model X.prog X.w) A (.call (.ref f) ⟨us, []⟩) (CR (L2.CX X.prog X.w) outer X.prog X.w HZ s1 Q E) s1 := by
  obtain ⟨⟨oc, vs', t, hoc, hdc, hvc⟩, _, _⟩ := e0.hok c' _ hc
  refine PySem.W.kla_callFunE hr.depth hf rfl L.co L.gen rfl ⟨c', oc, vs', t, rfl, hoc, hdc, hvc⟩ ?_
  rw [hbind]
  refine wpAny_pure (wpAny_newFunctionEnv (fun y hy => L.nocell y hy) (fun y hy => L.par y.1 (List.of_mem_zip hy).1) (fun h₁ hns hsb => ⟨lim.fresh _ hsb, ?_⟩) L.kind)
  show codeAny _ _ (.expr body (lamEnv X scope s1.heap.objs.size f c')) _ _
  have kp : ∀ b o, s1.heap.get? b = some o → h₁.get? b = some o := fun b o e => hsb.extBut b o (Nat.ne_of_lt (Heap.lt_size e)) (Heap.get?_push_of_some _ e)
  have J : Inv (lamCxP X ps A outer s1 HZ E scope f c') [] (vs.map some ++ σ) HZ { s1 with heap := h₁, toks := s1.toks + (ps.zip us).length } := lam_startP I L e0 hr.hd un rv hl hns kp
  refine PySem.W.kla_codeExpr (wpAny_mono ((hbody (hr.deeper _)).run [] _ _ HZ Q J ht) (fun v s' hq => ?_) fun e s' hq => hq)
  obtain ⟨w', H', J', rv, q⟩ := hq
  exact ⟨w', H', J'.os, J'.bare, J'.base, J'.hok, rv, q⟩
end
end L3

set_option Elab.async false
set_option linter.all false
set_option maxRecDepth 100000
set_option maxHeartbeats 2000000
namespace L3
open PySem PySem.Spec PyProof.Rows L2 LamX
def ghs : List (Option Z) → L2.St → List (D × V)
  | some (.d x) :: r, some v :: t => (x, v) :: ghs r t
  | _ :: r, _ :: t => ghs r t
  | _, _ => []
def frzO : Option Z → Option Z
  | some (.d x) => some (.d x)
  | _ => none
def frzS (l : List (Option Z)) : List (Option Z) := l.map frzO
theorem ghs_mem : ∀ {l : List (Option Z)} {σ : L2.St} {i : Nat} {x : D} {v : V}, l[i]? = some (some (Z.d x)) → σ[i]? = some (some v) → (x, v) ∈ ghs l σ
  | [], σ, i, x, v, h, _ => by simp at h
  | a :: l, [], i, x, v, _, h => by simp at h
  | a :: l, b :: σ, 0, x, v, h1, h2 => by
    simp at h1 h2
    subst h1 h2
    simp [ghs]
  | a :: l, b :: σ, i + 1, x, v, h1, h2 => by
    have := ghs_mem (i := i) (show l[i]? = _ by simpa using h1) (show σ[i]? = _ by simpa using h2)
    unfold ghs
    split
    · rename_i e1 e2; cases e1; cases e2; exact List.mem_cons_of_mem _ this
    · rename_i e1 e2; cases e1; cases e2; exact this
    · rename_i e1; exact absurd rfl (e1 a l b σ rfl)
theorem ghs_of : ∀ {l : List (Option Z)} {σ : L2.St} {p : D × V}, p ∈ ghs l σ → ∃ i : Nat, l[i]? = some (some (Z.d p.1)) ∧ σ[i]? = some (some p.2)
  | [], σ, p, h => by simp [ghs] at h
  | a :: l, [], p, h => by
    unfold ghs at h
    split at h <;> simp_all
  | a :: l, b :: σ, p, h => by
    have go : p ∈ ghs l σ → ∃ i : Nat, (a :: l)[i]? = some (some (Z.d p.1)) ∧ (b :: σ)[i]? = some (some p.2) := fun h => by
      obtain ⟨i, h1, h2⟩ := ghs_of h
      exact ⟨i + 1, by simpa using h1, by simpa using h2⟩
    unfold ghs at h
    split at h
    · rename_i e1 e2; cases e1; cases e2
      rcases List.mem_cons.mp h with rfl | h
      · exact ⟨0, rfl, rfl⟩
      · exact go h
    · rename_i e1 e2; cases e1; cases e2; exact go h
    · cases h
/-- what a lambda does to data: tb is its body's reading, s its maker's slots -/
def lamS (tb : TD) (s : List (Option Z)) : SA := fun args Q E => tb ⟨(args.map fun d => some (Z.d d)) ++ frzS s, []⟩ (fun z _ => match z with
  | .d y => Q y
  | .m _ => False) (fun x _ => E x)
def dAct (i : Nat) (f : Addr) (n : Nat) (S : SA) (t : TLi) : TD := fun ds Q E => ds.s[i]? = some (some (.d (.ref f))) ∧ t ds (fun zs ds1 => match unD zs with
  | some l => l.length = n ∧ S l (fun y => Q (.d y) ds1) (fun x => E x ds1)
  | none => False) E
/-- in the def that got it: its calls -/
structure ActOk (Zc : Cx) (g : G) (i : Nat) (a : Str) (n : Nat) (f : Addr) (S : SA) : Prop where
  act0 : n = 0 → ∀ (W : WX) (pn : List (Addr × Obj)) (xe : Value → Shared → Prop) (p1 p2 : Pos), Takes (Zc.tr pn xe) W → PX (Zc.tr pn xe) g W (.Call (.Name a p1) [] [] p2) (dAct i f n S dNil)
  act1 : ∀ (W : WX) (pn : List (Addr × Obj)) (xe : Value → Shared → Prop) (p1 p2 : Pos) (e : Expr) (t : TLi), Takes (Zc.tr pn xe) W → PXA (Zc.tr pn xe) g W [e] t → (starEach [e] Zc.env = (false, eval e Zc.env) :: starEach [] Zc.env) → PX (Zc.tr pn xe) g W (.Call (.Name a p1) [e] [] p2) (dAct i f n S t)
/-- the lambda's body, wherever it is called -/
def LamBody (X : Cx) (ps : List Str) (scope : Scope) (body : Expr) (T : List (Addr × Str)) (k : Nat) (tb : TD) : Prop :=
  ∀ (A : Around) (outer : List Env) (s : Shared) (H : Hp) (E : XK) (f c' : Addr) (g : G) (W : WX), g.T = T → Room k (A.deeper (lamEnv X scope s.heap.objs.size f c')) → Takes (lamCxP X ps A outer s H E scope f c') W → PX (lamCxP X ps A outer s H E scope f c') g W body tb
section
variable {X : Cx} {g : G} {W : WX} {pins : List (Addr × Obj)} {σ : L2.St} {H : Hp} {M : List Addr} {ds : DS} {s : Shared}
theorem act_ok {ps : List Str} {scope : Scope} {f c' : Addr} {pm ctv : Value} {params : Arguments} {body : Expr} {k : Nat} {tb : TD} {Ng : List Str} {qg : Str} {sg : Scope} {gf : Addr} {cdg : Value} {Eg : XK} {gZ : G} {i : Nat} {a : Str}
    (I : L2.Inv X pins σ H s) (R : RepS X.K g M ds σ H) (L : LamP X.env.scope scope ps X.N)
    (hf : s.heap.get? f = some (PySem.W.kla_obj "<lambda>" (X.env.qual ++ "<lambda>") params body scope (cloFrom X.env.cells scope.names []) pm c' ctv)) (hfn : H f = none) (hfr : f ∉ frs X.stack)
    (hbind : ∀ us : List Value, us.length = ps.length → bindArgs (PySem.W.kla_fn "<lambda>" (X.env.qual ++ "<lambda>") params body scope (cloFrom X.env.cells scope.names []) pm (.ref c') ctv) ⟨us, []⟩ = pure (ps.zip us))
    (hr : Room (k + 1) (X.A.deeper (envOfC qg sg s.heap.objs.size gf cdg))) (hbody : LamBody X ps scope body gZ.T k tb)
    (hg1 : ∀ p ∈ ghs ds.s σ, p ∈ gZ.gh) (hg2 : (D.cod (X.env.qual ++ "<lambda>") c', V.ref c') ∈ gZ.gh) (hN : Ng[i]? = some a) (hv : Vis sg a) (hd : (a == ("__debug__" : Str)) = false) (hcd : (a == ("__classdict__" : Str)) = false) :
    ActOk (cxOf (L2.CX X.prog X.w) X.prog X.w X.K X.mg X.base Ng qg sg gf cdg X.A X.stack s H Eg) gZ i a ps.length f (lamS tb ds.s) := by
  have key : ∀ (W : WX) (pn : List (Addr × Obj)) (xe : Value → Shared → Prop), Takes ((cxOf (L2.CX X.prog X.w) X.prog X.w X.K X.mg X.base Ng qg sg gf cdg X.A X.stack s H Eg).tr pn xe) W →
      ∀ (pinsZ : List (Addr × Obj)) (s1 : Shared) (σZ : L2.St) (H1 : Hp) (M1 : List Addr) (ds1 : DS) (l : List D) (vs : List V) (us : List Value) (QD : QZ) (ED : QE),
      L2.Inv ((cxOf (L2.CX X.prog X.w) X.prog X.w X.K X.mg X.base Ng qg sg gf cdg X.A X.stack s H Eg).tr pn xe) pinsZ σZ H1 s1 → RepS X.K gZ M1 ds1 σZ H1 → RepL X.K (gZ.own M1 ds1) H1 l vs → Vals vs us → l.length = ps.length →
      lamS tb ds.s l (fun y => QD (.d y) ds1) (fun x => ED x ds1) → EW ((cxOf (L2.CX X.prog X.w) X.prog X.w X.K X.mg X.base Ng qg sg gf cdg X.A X.stack s H Eg).tr pn xe) gZ W σZ M1 ds1 H1 ED →
      wpAny (model X.prog X.w) (X.A.deeper (envOfC qg sg s.heap.objs.size gf cdg)) (call (.ref f) us) (EPD ((cxOf (L2.CX X.prog X.w) X.prog X.w X.K X.mg X.base Ng qg sg gf cdg X.A X.stack s H Eg).tr pn xe) gZ pinsZ σZ M1 ds1 H1 QD) xe s1 := by
    intro W pn xe tk pinsZ s1 σZ H1 M1 ds1 l vs us QD ED I1 R1 rl rv hlen ht hE
    have un : Un (frs X.stack) [] H H1 s.heap s1.heap := I1.base
    have of1 := un.keep f _ hf hfn hfr (by simp)
    have hcode : H1 c' = some (CodeO c' (X.env.qual ++ "<lambda>")) := (R1.gh _ hg2).2.2
    have hlu : us.length = ps.length := by rw [← rv.length, RepL.length rl, hlen]
    let gL : G := ⟨gZ.own M1 ds1, gZ.T, []⟩
    have RL : RepS X.K gL [] ⟨(l.map fun d => some (Z.d d)) ++ frzS ds.s, []⟩ (vs.map some ++ σ) H1 := by
      have ow : gL.own [] ⟨(l.map fun d => some (Z.d d)) ++ frzS ds.s, []⟩ = gZ.own M1 ds1 := own_nil
      refine { len := ?_, slot := fun j z h => ?_, mlen := rfl, nd := .nil, apart := fun a h => (nomatch h), obj := fun n c a h => by simp at h, tabs := R1.tabs, gh := fun p hp => (nomatch hp), out := R1.outOk, ex := fun a h => (nomatch h) }
      · show (vs.map some ++ σ).length = ((l.map fun d => some (Z.d d)) ++ frzS ds.s).length
        unfold frzS
        rw [List.length_append, List.length_append, List.length_map, List.length_map, List.length_map, RepL.length rl, R.len]
      · rw [ow]
        have h' : ((l.map fun d => some (Z.d d)) ++ frzS ds.s)[j]? = some (some z) := h
        by_cases hj : j < l.length
        · rw [List.getElem?_append_left (by rw [List.length_map]; exact hj), List.getElem?_map] at h'
          cases e : l[j]? with
          | none => rw [e] at h'; cases h'
          | some d =>
            rw [e] at h'
            cases h'
            obtain ⟨v, hv, rd⟩ := rl.get e
            exact ⟨v, by rw [List.getElem?_append_left (by rw [List.length_map, RepL.length rl]; exact hj), List.getElem?_map, hv]; rfl, rd⟩
        · rw [List.getElem?_append_right (by rw [List.length_map]; omega), List.length_map] at h'
          unfold frzS at h'
          rw [List.getElem?_map] at h'
          cases e : ds.s[j - l.length]? with
          | none => rw [e] at h'; cases h'
          | some oz =>
            rw [e] at h'
            have h2 : frzO oz = some z := Option.some.inj h'
            cases oz with
            | none => cases h2
            | some y =>
              cases y with
              | m n => cases h2
              | d x =>
                cases h2
                obtain ⟨v, hv, _⟩ := R.slot _ _ e
                exact ⟨v, by rw [List.getElem?_append_right (by rw [List.length_map, RepL.length rl]; omega), List.length_map, RepL.length rl]; exact hv, R1.gh _ (hg1 _ (ghs_mem e hv))⟩
    refine wpAny_call (codeAny_mono (lam_runP (k := k) (E := fun cls d H' => W cls d σZ H') (Q := fun v H' => Mid X gZ σZ M1 ds1 H1 QD v H') (tb := fun σ' H' Q' => σ' = vs.map some ++ σ ∧ H' = H1 ∧ Q' = fun v H' => Mid X gZ σZ M1 ds1 H1 QD v H') I L of1 (hbind us hlu) hr I1.env0 un I1.nolimit hcode rv hlu (fun hrk => ⟨fun pins' s' σ' H' Q' J hh => ?_⟩) ⟨rfl, rfl, rfl⟩) fun r s' hq => ?_)
    · obtain ⟨rfl, rfl, rfl⟩ := hh
      have tk' : Takes (lamCxP X ps (X.A.deeper (envOfC qg sg s.heap.objs.size gf cdg)) (envOfC qg sg s.heap.objs.size gf cdg :: X.stack) s1 H' (fun cls d H'' => W cls d σZ H'') scope f c') (fun cls d _ H'' => W cls d σZ H'') := takes_of rfl rfl rfl rfl
      have fr : ∀ {M' : List Addr} {ds' : DS} {H'' : Hp}, Nxt gL [] ⟨(l.map fun d => some (Z.d d)) ++ frzS ds.s, []⟩ H' M' ds' H'' → Fr0 H' H'' := fun {M' ds' H''} N' => by
        refine ⟨fun b o hb t => ?_, N'.mv.tb⟩
        by_cases hw : gL.ow b
        · rw [N'.out b hw]; exact hb
        · exact N'.mv.keep b o hb (by rw [show gL.own [] ⟨(l.map fun d => some (Z.d d)) ++ frzS ds.s, []⟩ = gL.ow from own_nil]; exact hw) t
      have back : ∀ {M' : List Addr} {ds' : DS} {H'' : Hp}, Mv (gL.own M' ds') (gZ.own M1 ds1) H'' H'' := fun {M' ds' H''} => ⟨fun _ _ h _ _ => h, fun _ ps h => ⟨ps, h⟩, fun b h => .inl (.inl h)⟩
      refine thn ((hbody _ _ s1 H' (fun cls d H'' => W cls d σZ H'') f c' gL _ rfl hrk tk').run pins' s' _ H' [] _ _ _ J RL ht fun x ds' M' H'' cls d q R' N' re => ?_) fun u s2 ⟨z, ds', M', v, H'', J', r', R', N', rz, q⟩ => ?_
      · have q' : ED x ds1 := q
        obtain ⟨R2, N2⟩ := R1.fr0 (fr N') R'.tabs
        exact hE x ds1 M1 H'' cls d q' R2 N2 ⟨re.1, fun a => RepD.mv back _ _ (re.2 a)⟩
      · cases z with
        | m n => exact q.elim
        | d y =>
          obtain ⟨R2, N2⟩ := R1.fr0 (fr N') R'.tabs
          exact ⟨v, H'', J', r', .d y, ds1, M1, R2, N2, RepD.mv back _ _ rz, q⟩
    · cases r with
      | error e => exact tk e s' (XE.of_call I1 (fun _ _ _ h => h) hq)
      | ok fl =>
        cases fl with
        | ret u =>
          obtain ⟨v, H', J, rv', z, ds', M', R2, N2, rz, q⟩ := I1.after hq
          exact ⟨z, ds', M', v, H', J, rv', R2, N2, rz, q⟩
        | next => exact False.elim hq
        | brk => exact False.elim hq
        | cont => exact False.elim hq
  refine ⟨fun hn W pn xe p1 p2 tk => ⟨fun pinsZ sZ σZ HZ MZ dsZ QD ED IZ RZ ht hE => ?_⟩, fun W pn xe p1 p2 e t tk ha hst => ⟨fun pinsZ sZ σZ HZ MZ dsZ QD ED IZ RZ ht hE => ?_⟩⟩
  · obtain ⟨hs, ht⟩ := ht
    obtain ⟨v, hv', rv'⟩ := RZ.slot i _ hs
    have rv' : v = .ref f := rv'
    subst rv'
    refine wpAny_Call_Name_kw (thn ((pe_var (pos := p1) (i := i) hN hv hd hcd).run pinsZ sZ σZ HZ (fun v H1 => v = .ref f ∧ H1 = HZ) IZ ⟨.ref f, hv', rfl, rfl⟩) fun u s1 ⟨v, H1, I1, r1, e1, e2⟩ => ?_)
    subst e1 e2
    obtain rfl : u = Value.ref f := r1
    have of1 : s1.heap.get? f = _ := I1.base.keep f _ hf hfn hfr (fun z => nomatch (show f ∈ ([] : List Addr) from z))
    refine PySem.W.callWith_F0 ⟨_, _, _, _, of1⟩ ?_
    obtain ⟨h1, h2⟩ := (show ([] : List D).length = ps.length ∧ lamS tb ds.s [] (fun y => QD (.d y) dsZ) (fun x => ED x dsZ) from ht)
    exact key W pn xe tk pinsZ s1 σZ _ MZ dsZ [] [] [] QD ED I1 RZ rfl .nil h1 h2 hE
  · obtain ⟨hs, ht⟩ := ht
    obtain ⟨v, hv', rv'⟩ := RZ.slot i _ hs
    have rv' : v = .ref f := rv'
    subst rv'
    refine wpAny_Call_Name_kw (thn ((pe_var (pos := p1) (i := i) hN hv hd hcd).run pinsZ sZ σZ HZ (fun v H1 => v = .ref f ∧ H1 = HZ) IZ ⟨.ref f, hv', rfl, rfl⟩) fun u s1 ⟨v, H1, I1, r1, e1, e2⟩ => ?_)
    subst e1 e2
    obtain rfl : u = Value.ref f := r1
    have of1 : ∀ {s2 : Shared} {σ2 : L2.St} {H2 : Hp} {pins2 : List (Addr × Obj)}, L2.Inv ((cxOf (L2.CX X.prog X.w) X.prog X.w X.K X.mg X.base Ng qg sg gf cdg X.A X.stack s H Eg).tr pn xe) pins2 σ2 H2 s2 → s2.heap.get? f = _ := fun I2 => I2.base.keep f _ hf hfn hfr (fun z => nomatch (show f ∈ ([] : List Addr) from z))
    refine PySem.W.callWith_F ⟨_, _, _, _, of1 I1⟩ (thn (ha.run p2 pinsZ s1 σZ _ MZ dsZ _ ED I1 RZ ht hE) fun us s2 ⟨zs, ds2, M2, vs, H2, I2, r2, R2, N2, rz, q⟩ => ⟨⟨_, _, _, _, of1 I2⟩, ?_⟩) hst
    have q' : (match unD zs with
      | some l => l.length = ps.length ∧ lamS tb ds.s l (fun y => QD (.d y) ds2) (fun x => ED x ds2)
      | none => False) := q
    split at q'
    · rename_i l el
      obtain rfl := unD_of el
      exact thn (key W pn xe tk pinsZ s2 σZ H2 M2 ds2 l vs us QD ED I2 R2 rz.toD r2 q'.1 q'.2 (hE.nxt N2)) fun _ _ h => h.nxt N2
    · exact q'.elim
end
end L3

set_option Elab.async false
set_option linter.all false
set_option maxRecDepth 100000
set_option maxHeartbeats 2000000
namespace L3
open PySem PySem.Spec PyProof.Rows L2 LamX
/-- a def that is handed a function at its i-th place: what it does, by what the function does -/
abbrev SL := SA → Addr → SA
/-- such a def: its body keeps Sg whenever its calls of the handed function keep S -/
structure GiveF (gd : Bool) (P : Program) (w : World) (K : PySem.W.Frag) (mg : Str → Option Value) (base : Heap) (T : List (Addr × Str)) (x : Str) (k : Nat) (params : Arguments) (body : List Stmt) (scope : Scope) (fa : Addr) (fd : FuncData) (N ps : List Str) (i : Nat) (a : Str) (n : Nat) (Sg : SL) : Prop where
  F : FunD K x x params body scope [] [] fa fd
  sc : FnScope N ps scope
  hm : mg x = some (.ref fa)
  hN : N[i]? = some a
  hv : Vis scope a
  hd : (a == ("__debug__" : Str)) = false
  hcd : (a == ("__classdict__" : Str)) = false
  len : ∀ S f ds QD ED, Sg S f ds QD ED → ds.length = ps.length
  b : Binds K fd ps []
  gives : ∀ (S : SA) (f : Addr) (cdv : Value) (A : Around) (outer : List Env) (s : Shared) (H : Hp) (E : XK) (g : G), CodeIs K fa cdv → g.T = T → RoomG gd k (A.deeper (envOfC x scope s.heap.objs.size fa cdv)) → ActOk (cxOf (L2.CX P w) P w K mg base N x scope fa cdv A outer s H E) g i a n f S →
    ∃ t, PXB (cxOf (L2.CX P w) P w K mg base N x scope fa cdv A outer s H E) g (fun cls d _ H => E cls d H) body t ∧ ∀ ds QD ED, Sg S f ds QD ED → t (enA QD ED) ⟨ent N ds, []⟩
abbrev TLf := DS → (Addr → List Z → DS → Prop) → QE → Prop
/-- the object that a lambda of X makes -/
abbrev lamO (X : Cx) (params : Arguments) (body : Expr) (scope : Scope) (pm : Value) (c' : Addr) (ctv : Value) : Obj := PySem.W.kla_obj "<lambda>" (X.env.qual ++ "<lambda>") params body scope (cloFrom X.env.cells scope.names []) pm c' ctv
section
variable (X : Cx) (g : G) (W : WX) (params : Arguments) (body : Expr) (scope : Scope)
def LPF (pins : List (Addr × Obj)) (σ : L2.St) (M : List Addr) (ds : DS) (H : Hp) (QD : Addr → List Z → DS → Prop) (us : List Value) (s' : Shared) : Prop :=
  ∃ f c' pm ctv zs ds' M' vs H', Inv X ((f, lamO X params body scope pm c' ctv) :: pins) σ H' s' ∧ f ∉ frs X.stack ∧ H' c' = some (CodeO c' (X.env.qual ++ "<lambda>")) ∧ Vals vs us ∧ RepS X.K g M' ds' σ H' ∧ Nxt g M ds H M' ds' H' ∧ RepZs X.K (g.own M' ds') M' H' zs vs ∧ QD f zs ds'
structure PXF (es : List Expr) (t : TLf) : Prop where
  run : ∀ (pos : Pos) (pins : List (Addr × Obj)) (s : Shared) (σ : L2.St) (H : Hp) (M : List Addr) (ds : DS) (QD : Addr → List Z → DS → Prop) (ED : QE), Inv X pins σ H s → RepS X.K g M ds σ H → t ds QD ED → EW X g W σ M ds H ED →
    wpAny (model X.prog X.w) X.A (spliced (backTo pos (starEach es X.env))) (LPF X g params body scope pins σ M ds H QD) X.xe s
end
def dLamHere (tr : TLi) : TLf := fun ds Q E => ∀ f, tr ds (fun zs ds1 => Q f (.d (.ref f) :: zs) ds1) E
def dConsF (t : TD) (u : TLf) : TLf := fun ds Q E => t ds (fun x ds1 => u ds1 (fun f xs ds2 => Q f (x :: xs) ds2) E) E
/-- what the making of lambdas asks of the maker -/
structure Maker (X : Cx) (T : List (Addr × Str)) : Prop where
  ex : ∃ c P, TabB X.base X.mg c P ∧ X.env.code = .ref c ∧ (P, X.env.qual ++ "<lambda>") ∈ T ∧ ∀ p ∈ T, p.1 = P → p.2 = X.env.qual ++ "<lambda>"
section
variable {X : Cx} {g : G} {W : WX} {params : Arguments} {body : Expr} {scope : Scope} {e : Expr} {es : List Expr} {ps : List Str}
theorem RepS.code_own {K : PySem.W.Frag} {M : List Addr} {ds : DS} {σ : L2.St} {H : Hp} {c : Addr} {q : Str} (R : RepS K g M ds σ H) (h : H c = some (CodeO c q)) : ¬ g.own M ds c := fun z => by
  rcases z with z | z
  · obtain ⟨o, e, _, hx⟩ := R.out c z
    rw [h] at e; cases e
    unfold CodeO at hx
    exact hx _ rfl
  · obtain ⟨o, e, _, _, hx⟩ := R.own_some z
    rw [h] at e; cases e
    unfold CodeO at hx
    exact hx _ rfl
/-- a lambda is made; all other things stay, tables stay tables -/
theorem lam_make3 {X : Cx} {pins : List (Addr × Obj)} {σ : L2.St} {H : Hp} {s : Shared} {T : List (Addr × Str)} {c P : Addr} {params : Arguments} {body : Expr} {scope : Scope} {pos : Pos} {E : Value → Shared → Prop} {Q : Value → Shared → Prop} (I : L2.Inv X pins σ H s) (TB : TabB X.base X.mg c P) (hcode : X.env.code = .ref c)
    (hm : (P, X.env.qual ++ "<lambda>") ∈ T) (hu : ∀ p ∈ T, p.1 = P → p.2 = X.env.qual ++ "<lambda>") (hT : Tabs T H) (hdef : defaultsOf params X.env = ([], [])) (hfree : ∀ y ∈ scope.names, y.2 = .free → ∃ c, X.env.cells.lookup y.1 = some c)
    (h : ∀ (f c' : Addr) (pm ctv : Value) (H1 : Hp) (s' : Shared), L2.Inv X pins σ H1 s' → ExtN H H1 → Tabs T H1 → (∀ b ps, H b = some (.tbl ps) → ∃ qs, H1 b = some (.tbl qs)) →
      s'.heap.get? f = some (lamO X params body scope pm c' ctv) → H1 f = none → f ∉ frs X.stack → H1 c' = some (CodeO c' (X.env.qual ++ "<lambda>")) → Q (.ref f) s') :
    wpAny (model X.prog X.w) X.A (eval (.Lambda params body scope pos) X.env) Q E s := by
  obtain ⟨ps, hP, ht, ha⟩ := hT _ hm
  refine PySem.W.kla_eval hdef ?_
  have bP := TB.bm.keeps I.bk
  have oP : s.heap.get? P = some { cls := .none, data := .fields ps } := I.hok P _ hP
  have away : ∀ {f : Addr}, s.heap.objs.size ≤ f → f ∉ frs X.stack := fun {f} hf z => by
    rcases List.mem_cons.mp (I.stkSub _ z) with e | e
    · have := I.lt
      rw [← e] at this
      exact absurd this (Nat.not_lt.mpr hf)
    · exact I.nofs hf e
  rcases hc : codeAmong pos ps.toList with _ | cv
  · refine PySem.W.kla_makeFunction (mg := X.mg) (c := c) (P := P) (ps := ps) (closure_ok hfree) I.ok.glob (I.mod.glob.keeps I.bk) hcode (TB.code.keeps I.bk) oP ht hc TB.gP bP fun c' ctv h' tk hx hge hlt hrec htb => ?_
    obtain ⟨c2, oc, vs, t, e2, hoc, hd, hv⟩ := hrec
    cases e2
    have sz : s.heap.objs.size ≤ h'.objs.size := Nat.le_trans hge (Nat.le_of_lt hlt)
    have nC : H c' = none := I.hok.fresh hge
    let H1 : Hp := upd (upd H P (.tbl (ps ++ #[rawInt pos.line, rawInt pos.col, .ref c']))) c' (CodeO c' (X.env.qual ++ "<lambda>"))
    have at1 : ∀ b, b ≠ P → b ≠ c' → H1 b = H b := fun b h1 h2 => by
      show upd _ _ _ b = _
      rw [upd_ne h2, upd_ne h1]
    have atP : H1 P = some (.tbl (ps ++ #[rawInt pos.line, rawInt pos.col, .ref c'])) := by
      show upd _ _ _ P = _
      rw [upd_ne (ne_of_none hP nC), upd_same]
    have I1 : L2.Inv X pins σ H1 _ := inv_table (t' := tk) (more := #[rawInt pos.line, rawInt pos.col, .ref c']) (h' := h'.push (lamO X params body scope ((X.mg "__name__").getD .none) c' ctv)) I hP (fun b o hb e => Heap.get?_push_of_some _ (hx b o hb e)) (Heap.get?_push_of_some _ htb) hge ⟨oc, vs, t, Heap.get?_push_of_some _ hoc, hd, hv⟩
    have hE : ExtN H H1 := fun b o e n => by
      rw [at1 b (fun z => n ps (Option.some.inj (e.symm.trans (by rw [z]; exact hP)))) (ne_of_none e nC)]
      exact e
    have eL : (ps ++ #[rawInt pos.line, rawInt pos.col, .ref c']).toList = ps.toList ++ [rawInt pos.line, rawInt pos.col, .ref c'] := by simp
    refine h h'.objs.size c' ((X.mg "__name__").getD .none) ctv H1 _ I1 hE (fun p hp => ?_) (fun b qs e => ?_) (Heap.get?_push_size _ rfl) ?_ (away sz) upd_same
    · by_cases hb : p.1 = P
      · rw [hu p hp hb, hb]
        refine ⟨_, atP, by rw [eL]; exact PySem.TriplesOk_snoc _ _ _ _ ht, fun p' cv hcv => ?_⟩
        rw [eL] at hcv
        rcases among_app _ ht hcv with z | z
        · obtain ⟨c0, e1, e2⟩ := ha p' cv z
          exact ⟨c0, e1, hE _ _ e2 codeO_ne⟩
        · exact ⟨c', z, upd_same⟩
      · obtain ⟨ps', a1, a2, a3⟩ := hT p hp
        refine ⟨ps', by rw [at1 _ hb (ne_of_none a1 nC)]; exact a1, a2, fun p' cv hcv => ?_⟩
        obtain ⟨c0, e1, e2⟩ := a3 p' cv hcv
        exact ⟨c0, e1, hE _ _ e2 codeO_ne⟩
    · by_cases hb : b = P
      · rw [hb]; exact ⟨_, atP⟩
      · exact ⟨qs, by rw [at1 b hb (ne_of_none e nC)]; exact e⟩
    · rw [at1 _ (Nat.ne_of_gt (Nat.lt_of_lt_of_le (Heap.lt_size oP) sz)) (Nat.ne_of_gt hlt)]
      exact I.hok.fresh sz
  · obtain ⟨c', e, hco⟩ := ha pos cv hc
    subst e
    refine PySem.W.kla_makeFunctionHit (mg := X.mg) (c := c) (P := P) (ps := ps) (closure_ok hfree) I.ok.glob (I.mod.glob.keeps I.bk) hcode (TB.code.keeps I.bk) oP ht hc bP fun ctv h' tk hx hsz => ?_
    have I1 : L2.Inv X pins σ H { s with heap := h'.push (lamO X params body scope ((X.mg "__name__").getD .none) c' ctv), toks := tk } := I.kept fun b o e => Heap.get?_push_of_some _ (hx b o e)
    exact h h'.objs.size c' ((X.mg "__name__").getD .none) ctv H _ I1 (ExtN.refl H) hT (fun b qs e => ⟨qs, e⟩) (Heap.get?_push_size _ rfl) (I.hok.fresh hsz) (away hsz) hco
theorem pxf_here {t : TLi} {lpos : Pos} (hs1 : X.stack = X.env :: X.outer) (hs2 : X.env.frame = some X.env.locals) (mk : Maker X g.T) (L : LamP X.env.scope scope ps X.N) (hdef : defaultsOf params X.env = ([], [])) (hr : PXA X g W es t) (hs : starEach (.Lambda params body scope lpos :: es) X.env = (false, eval (.Lambda params body scope lpos) X.env) :: starEach es X.env := by rfl) :
    PXF X g W params body scope (.Lambda params body scope lpos :: es) (dLamHere t) := by
  refine ⟨fun pos pins s σ H M ds QD ED I R h hE => ?_⟩
  obtain ⟨c, P, TB, hcode, hmT, hu⟩ := mk.ex
  rw [hs]
  show wpAny _ _ (spliced ((false, eval (.Lambda params body scope lpos) X.env) :: backTo pos (starEach es X.env))) _ _ s
  refine Calls.spliced_cons (lam_make3 I TB hcode hmT hu R.tabs hdef (L.has I.ok) fun f c' pm' ctv H1 s1 I1 eN T1 tb hf hfn hfr hco => ?_)
  obtain ⟨R1, N1⟩ := R.same eN tb T1
  have J : L2.Inv X ((f, lamO X params body scope pm' c' ctv) :: pins) σ H1 s1 := I1.pins_of fun p hp => by
    rcases List.mem_cons.mp hp with rfl | hp
    · refine ⟨hf, hfn, fun z => hfr ?_, fun z => hfr ?_, fun v z => nomatch z⟩
      · rw [hs1]; exact List.mem_filterMap.mpr ⟨X.env, List.mem_cons_self, by rw [hs2]; exact congrArg some z.symm⟩
      · rw [hs1]
        obtain ⟨e, he, q⟩ := List.mem_filterMap.mp z
        exact List.mem_filterMap.mpr ⟨e, List.mem_cons_of_mem _ he, q⟩
    · exact I1.pin p (List.mem_append_right _ hp)
  refine thn (hr.run pos _ s1 σ H1 M ds _ ED J R1 (h f) (hE.nxt N1)) fun us s2 ⟨zs, ds2, M2, vs, H2, I2, r2, R2, N2, rz, q⟩ => ?_
  exact ⟨f, c', pm', ctv, .d (.ref f) :: zs, ds2, M2, .ref f :: vs, H2, I2, hfr, N2.mv.keep _ _ hco (R1.code_own hco) codeO_ne, .cons rfl r2, R2, N1.trans N2, ⟨.ref f, vs, rfl, rfl, rz⟩, q⟩
theorem pxf_cons {t : TD} {u : TLf} (ha : PX X g W e t) (hr : PXF X g W params body scope es u) (hs : starEach (e :: es) X.env = (false, eval e X.env) :: starEach es X.env := by rfl) : PXF X g W params body scope (e :: es) (dConsF t u) := by
  refine ⟨fun pos pins s σ H M ds QD ED I R t he => ?_⟩
  rw [hs]
  show wpAny _ _ (spliced ((false, eval e X.env) :: backTo pos (starEach es X.env))) _ _ s
  refine Calls.spliced_cons (thn (ha.run pins s σ H M ds _ ED I R t he) fun vv s1 ⟨x, ds1, M1, v, H1, I1, r1, R1, N1, z1, q1⟩ => ?_)
  exact thn (hr.run pos pins s1 σ H1 M1 ds1 _ ED I1 R1 q1 (he.nxt N1)) fun us s2 ⟨f, c', pm, ctv, xs, ds2, M2, vs, H2, I2, hfr, hco, r2, R2, N2, z2, q2⟩ => ⟨f, c', pm, ctv, x :: xs, ds2, M2, v :: vs, H2, I2, hfr, hco, .cons r1 r2, R2, N1.trans N2, ⟨v, vs, rfl, z1.mv N2.mv N2.pre, z2⟩, q2⟩
/-- f(.., lambda ps: body, ..) -/
def dLamCall (Sg : SL) (tb : TD) (t : TLf) : TD := fun ds Q E => t ds (fun f zs ds1 => match unD zs with
  | some l => Sg (lamS tb ds1.s) f l (fun y => Q (.d y) ds1) (fun x => E x ds1)
  | none => False) E
theorem px_lam {gd : Bool} {T : List (Addr × Str)} {x : Str} {k k2 : Nat} {pg : Arguments} {bg : List Stmt} {sg : Scope} {fa : Addr} {fd : FuncData} {Ng psg : List Str} {i : Nat} {a : Str} {n : Nat} {Sg : SL} {tb : TD} {t : TLf} {p pos : Pos}
    (Gv : GiveF gd X.prog X.w X.K X.mg X.base T x k pg bg sg fa fd Ng psg i a n Sg) (hT : g.T = T) (hr : RoomG gd (k + 1) X.A) (tk : Takes X W) (hk : k2 + 1 ≤ k) (hn : ps.length = n) (L : LamP X.env.scope scope ps X.N)
    (hbind : ∀ (cl : List (Str × Addr)) (pm cv ctv : Value) (us : List Value), us.length = ps.length → bindArgs (PySem.W.kla_fn "<lambda>" (X.env.qual ++ "<lambda>") params body scope cl pm cv ctv) ⟨us, []⟩ = pure (ps.zip us))
    (ha : PXF X g W params body scope (e :: es) t) (hb : LamBody X ps scope body T k2 tb) (hg : Gl X x := by rfl) (hdb : (x == ("__debug__" : Str)) = false := by decide)
    (he : ∃ e0, starEach (e :: es) X.env = (false, e0) :: starEach es X.env := by exact ⟨_, rfl⟩) (hpl : (backTo pos (starEach es X.env)).any (·.1) = false := by rfl)
    (he2 : starEach (e :: es) X.env = (false, eval e X.env) :: starEach es X.env := by rfl) :
    PX X g W (.Call (.Name x p) (e :: es) [] pos) (dLamCall Sg tb t) := by
  subst hT
  refine ⟨fun pins s σ H M ds QD ED I R ht hE => ?_⟩
  refine wpAny_Call_Name_kw (ld_glob I hg Gv.hm ?_ hdb)
  refine PySem.W.callWith_K (h₀ := X.base) I.ok.mod.kin Gv.F.kp (thn (ha.run pos pins s σ H M ds _ ED I R ht hE) fun us s1 ⟨f, c', pm, ctv, zs, ds1, M1, vs, H1, I1, hfr, hco, r1, R1, N1, rz, q1⟩ => ⟨I1.kIn, ?_⟩) he2 hpl
  have q' : (match unD zs with
    | some l => Sg (lamS tb ds1.s) f l (fun y => QD (.d y) ds1) (fun x => ED x ds1)
    | none => False) := q1
  split at q'
  · rename_i l el
    obtain rfl := unD_of el
    have rl := rz.toD
    obtain ⟨hf, hfn, _⟩ := I1.pin (f, lamO X params body scope pm c' ctv) (List.mem_append_right _ List.mem_cons_self)
    have J : L2.Inv X pins σ H1 s1 := I1.pins_of fun p hp => I1.pin p (List.mem_append_right _ (List.mem_cons_of_mem _ hp))
    have hl := Gv.len _ _ _ _ _ q'
    have hlv : vs.length = psg.length := by rw [RepL.length rl]; exact hl
    have hlu : us.length = psg.length := by rw [← r1.length]; exact hlv
    obtain ⟨oc, od, dV, kV, doc, pm', an, cdv, ct, osl, rfl, lk, hcd, _, _⟩ := Gv.F.ex
    have b1 := Gv.b s1 us I1.kIn (by rw [List.append_nil]; exact hlu)
    rw [List.append_nil] at b1
    let gZ : G := ⟨g.own M1 ds1, g.T, (D.cod (X.env.qual ++ "<lambda>") c', V.ref c') :: ghs ds1.s σ⟩
    have rc := run_ofS (CX := L2.CX X.prog X.w) (Q := fun v H' => Mid X g σ M1 ds1 H1 QD v H') (E := fun cls d H' => W cls d σ H') lk hcd Gv.sc hr.1 J.env0 b1 r1 hlv fun hr' => by
      have act := act_ok (k := k2) (Ng := Ng) (qg := x) (sg := sg) (gf := fa) (cdg := cdv) (Eg := fun cls d H' => W cls d σ H') (gZ := gZ) (i := i) (a := a) J R1 L hf hfn hfr (hbind _ _ _ _) (hr'.mono hk) hb (fun p hp => List.mem_cons_of_mem _ hp) List.mem_cons_self Gv.hN Gv.hv Gv.hd Gv.hcd
      rw [hn] at act
      obtain ⟨t', ht', hq'⟩ := Gv.gives (lamS tb ds1.s) f cdv X.A X.stack s1 H1 (fun cls d H' => W cls d σ H') gZ ⟨_, _, _, _, _, lk, rfl, hcd⟩ rfl ⟨hr', hr.2⟩ act
      have RZ : RepS X.K gZ [] ⟨ent Ng l, []⟩ (L2.start Ng vs) H1 := by
        have R0 := repS_A (K := X.K) (N := Ng) (T := g.T) R1.outOk rl R1.tabs (by rw [hlv]; have := congrArg List.length Gv.sc.pre; rw [List.length_take] at this; omega)
        have gh : ∀ p ∈ gZ.gh, RepD X.K (gZ.own [] ⟨ent Ng l, []⟩) H1 p.1 p.2 := fun p hp => by
          rw [show gZ.own [] ⟨ent Ng l, []⟩ = g.own M1 ds1 from own_nil (T := g.T)]
          rcases List.mem_cons.mp hp with rfl | hp
          · exact ⟨rfl, R1.code_own hco, hco⟩
          · obtain ⟨j, e1, e2⟩ := ghs_of hp
            obtain ⟨v, h1, h2⟩ := R1.slot j _ e1
            rw [e2] at h1; cases h1
            exact h2
        exact { len := R0.len, slot := R0.slot, mlen := R0.mlen, nd := R0.nd, apart := R0.apart, obj := R0.obj, tabs := R0.tabs, out := R0.out, ex := R0.ex, gh := gh }
      have fr : ∀ {M' : List Addr} {ds' : DS} {H' : Hp}, Nxt gZ [] ⟨ent Ng l, []⟩ H1 M' ds' H' → Fr0 H1 H' := fun {M' ds' H'} N' => by
        refine ⟨fun b o hb t => ?_, N'.mv.tb⟩
        by_cases hw : gZ.ow b
        · rw [N'.out b hw]; exact hb
        · exact N'.mv.keep b o hb (by rw [show gZ.own [] ⟨ent Ng l, []⟩ = gZ.ow from own_nil (T := g.T)]; exact hw) t
      have back : ∀ {M' : List Addr} {ds' : DS} {H' : Hp}, Mv (gZ.own M' ds') (g.own M1 ds1) H' H' := fun {M' ds' H'} => ⟨fun _ _ h _ _ => h, fun _ ps h => ⟨ps, h⟩, fun b h => .inl (.inl h)⟩
      refine ⟨fun De σ' H0 => σ' = L2.start Ng vs ∧ H0 = H1 ∧ De = { nx := fun _ H' => Mid X g σ M1 ds1 H1 QD .non H', rt := fun v H' => Mid X g σ M1 ds1 H1 QD v H' }, ⟨fun pins1 s2 σ' H0 De I' hh => ?_⟩, rfl, rfl, rfl⟩
      obtain ⟨rfl, rfl, rfl⟩ := hh
      refine thn (ht'.run pins1 s2 _ _ [] ⟨ent Ng l, []⟩ _ I' RZ (hq' l _ _ q') (fun y ds' M' σ' H' cls d he R' N' re => ?_)) fun fl s3 q => ?_
      · obtain ⟨R2, N2⟩ := R1.fr0 (fr N') R'.tabs
        exact hE y ds1 M1 H' cls d he R2 (N1.trans N2) ⟨re.1, fun a => RepD.mv back _ _ (re.2 a)⟩
      · cases fl with
        | next =>
          obtain ⟨ds', M', σ', H', I', R', N', q⟩ := q
          obtain ⟨R2, N2⟩ := R1.fr0 (fr N') R'.tabs
          exact ⟨σ', H', I', .d .non, ds1, M1, R2, N2, rfl, q⟩
        | brk => obtain ⟨_, _, _, _, _, _, _, q⟩ := q; exact False.elim q
        | cont => obtain ⟨_, _, _, _, _, _, _, q⟩ := q; exact False.elim q
        | ret u =>
          obtain ⟨z, ds', M', v, σ', H', τ, I', r', R', N', rz, q⟩ := q
          cases z with
          | m n => exact False.elim q
          | d y =>
            obtain ⟨R2, N2⟩ := R1.fr0 (fr N') R'.tabs
            exact ⟨v, σ', H', I', r', .d y, ds1, M1, R2, N2, RepD.mv back _ _ rz, q⟩
    refine wpAny_call (codeAny_mono rc fun r s' hq => ?_)
    cases r with
    | error e => exact tk e s' (XE.of_call J (fun _ _ _ h => h) hq)
    | ok fl =>
      cases fl with
      | ret u =>
        obtain ⟨v, H', J', rv, z, ds', M', R2, N2, rz, q⟩ := J.after hq
        exact ⟨z, ds', M', v, H', J', rv, R2, N1.trans N2, rz, q⟩
      | next => exact False.elim hq
      | brk => exact False.elim hq
      | cont => exact False.elim hq
  · exact q'.elim
end
end L3

set_option Elab.async false
set_option linter.all false
set_option maxRecDepth 100000
set_option maxHeartbeats 2000000
namespace L3
open PySem PySem.Spec PyProof.Rows L2 LamX
/-- what is tracked at the law's call: the tables, the script (if the written part does not know it) -/
def endH (tabs : List Addr) (scr : Option (Addr × HO)) : Hp := fun b => if b ∈ tabs then some (.tbl #[]) else match scr with
  | some (a, o) => if b = a then some o else none
  | none => none
theorem endH_cases {tabs : List Addr} {scr : Option (Addr × HO)} {b : Addr} {u : HO} (h : endH tabs scr b = some u) : (b ∈ tabs ∧ u = .tbl #[]) ∨ scr = some (b, u) := by
  unfold endH at h
  split at h
  · rename_i hb; cases h; exact .inl ⟨hb, rfl⟩
  · split at h
    · split at h
      · rename_i hb; cases h; subst hb; exact .inr rfl
      · cases h
    · cases h
theorem law_callG {P : Program} {w : World} {K : PySem.W.Frag} {mg mb : Str → Option Value} {k : Nat} {fa a : Addr} {cs : List (Addr × Addr)} {fd : FuncData} {x : Str} {sp : Sp} {s₁ : Shared} {vs : List Value} {ns : List Int}
    (KX : K.In s₁.heap) (hns : s₁.heap.Ns mainGlobals mg) (hb : s₁.heap.Ns builtinsNs mb) (hbb : ∀ x : Str, x ≠ "__name__" → mb x = bootBuiltins x) (hlim : s₁.heap.NoLimit) (hg : s₁.gens = #[])
    (hT : ∀ p ∈ cs, s₁.heap.get? p.2 = some { cls := .none, data := .fields #[] }) (nT : ∀ p ∈ cs, K.lookup p.2 = none) (C : ∀ p ∈ cs, PySem.W.CodeHd s₁.heap p.1 p.2)
    (hbm : ∃ (bm : Addr) (ob : Obj), mg "__builtins__" = some (.ref bm) ∧ bm ≠ builtinsNs ∧ s₁.heap.get? bm = some ob ∧ ob.cls = .type "module" ∧ ob.dict = some builtinsNs ∧ ob.data = .plain)
    (ha : s₁.heap.get? a = some { cls := .type "list", data := .seq vs.toArray }) (hi : IntsAre vs ns) (hl : ns.length ≤ sizeLine) (hr : Room k callerA)
    (F : ∀ base : Heap, K.In base → base.Ns mainGlobals mg → (∀ p ∈ cs, TabB base mg p.1 p.2) → FnG true P w K mg base k fa fd [x] sp) (hbind : ∀ (s : Shared) (u : Value), BindsTo s fd ⟨[u], []⟩ [(x, u)])
    (hsp : ∀ H : Hp, (∀ p ∈ cs, H p.2 = some (.tbl #[])) → SqL K H a (ns.map V.int) → sp [.ref a] H (fun v _ => v = .bl true) fun _ _ _ => False) :
    codeAny (model P w) callerA (.call (.ref fa) ⟨[.ref a], []⟩) (fun r s' => r = .ok (.ret (.bool true)) ∧ OldK s₁.heap s'.heap ∧ s'.os = s₁.os ∧ AllBare s'.gens) s₁ := by
  have rv := vals_ints hi
  have lenV := hi.length
  let tabs := cs.map (·.2)
  have memT : ∀ p ∈ cs, p.2 ∈ tabs := fun p hp => List.mem_map.mpr ⟨p, hp, rfl⟩
  have isT : ∀ b ∈ tabs, s₁.heap.get? b = some { cls := .none, data := .fields #[] } ∧ K.lookup b = none := fun b hb => by
    obtain ⟨p, hp, rfl⟩ := List.mem_map.mp hb
    exact ⟨hT p hp, nT p hp⟩
  have aT : a ∉ tabs := fun z => by
    have q := (isT a z).1
    rw [ha] at q
    exact Data.noConfusion (congrArg Obj.data (Option.some.inj q))
  -- the script's own record, if it is wanted
  obtain ⟨scr, hS1, hS2, hS3⟩ : ∃ scr : Option (Addr × HO), (scr = none ∨ (scr = some (a, .frz { cls := .type "list", data := .seq vs.toArray } (.lst (ns.map V.int))) ∧ K.lookup a = none)) ∧
      SqL K (endH tabs scr) a (ns.map V.int) ∧ True := by
    cases hk : K.lookup a with
    | some o =>
      have e := KX a o hk
      rw [ha] at e
      cases e
      exact ⟨none, .inl rfl, .inr ⟨_, vs.toArray, _, hk, rfl, rfl, rfl, by rw [List.size_toArray, lenV]; exact hl, by simpa using rv⟩, trivial⟩
    | none =>
      refine ⟨some _, .inr ⟨rfl, rfl⟩, .inl (.inr ⟨{ cls := .type "list", data := .seq vs.toArray }, ?_⟩), trivial⟩
      unfold endH
      rw [if_neg aT]
      exact if_pos rfl
  generalize hH : endH tabs scr = H at hS2
  have look : ∀ {b : Addr} {u : HO}, H b = some u → (b ∈ tabs ∧ u = .tbl #[]) ∨ (b = a ∧ u = .frz { cls := .type "list", data := .seq vs.toArray } (.lst (ns.map V.int)) ∧ K.lookup a = none) := fun {b u} h => by
    rw [← hH] at h
    rcases endH_cases h with h | h
    · exact .inl h
    · rcases hS1 with z | ⟨z, hk⟩
      · rw [z] at h; cases h
      · rw [z] at h; cases h
        exact .inr ⟨rfl, rfl, hk⟩
  have tabH : ∀ p ∈ cs, H p.2 = some (.tbl #[]) := fun p hp => by
    rw [← hH]
    exact if_pos (memT p hp)
  have hok : HOk P w H s₁.heap := fun b u h => by
    rcases look h with ⟨hb, rfl⟩ | ⟨rfl, rfl, _⟩
    · exact (isT b hb).1
    · exact ⟨ha, by rw [List.length_map]; exact hl, vs, _, rv, ha⟩
  -- all else is not tracked
  have other : ∀ {b : Addr} {o : Obj}, s₁.heap.get? b = some o → (∀ vs n, o.data ≠ .seq vs n) → o.data ≠ .fields #[] → H b = none := fun {b o} e h1 h2 => by
    cases q : H b with
    | none => rfl
    | some u =>
      rcases look q with ⟨hb, _⟩ | ⟨rfl, _, _⟩
      · rw [(isT b hb).1] at e; cases e; exact (h2 rfl).elim
      · rw [ha] at e; cases e; exact (h1 _ _ rfl).elim
  let base := hidT s₁.heap H
  have inb : ∀ {b : Addr} {o : Obj}, s₁.heap.get? b = some o → (∀ vs n, o.data ≠ .seq vs n) → o.data ≠ .fields #[] → base.get? b = some o := fun {b o} e h1 h2 => hidT_get e (other e h1 h2)
  have nsb : ∀ {b : Addr} {m : Str → Option Value}, s₁.heap.Ns b m → base.Ns b m := fun {b m} ⟨o, es, ep, e, d, r⟩ => ⟨o, es, ep, inb e (by intro vs n z; rw [d] at z; cases z) (by intro z; rw [d] at z; cases z), d, r⟩
  have Kb : K.In base := fun b o e => hidT_get (KX b o e) (by
    cases q : H b with
    | none => rfl
    | some u =>
      rcases look q with ⟨hb, _⟩ | ⟨rfl, _, hk⟩
      · rw [(isT b hb).2] at e; cases e
      · rw [hk] at e; cases e)
  have hM : L2.Mod K mg base := ⟨Kb, nsb hns, ⟨mb, nsb hb, hbb⟩, let ⟨mc, h1, h2⟩ := hlim; ⟨mc, nsb h1, h2⟩⟩
  obtain ⟨og, esg, epg, eg, dg, _⟩ := id hns
  have TB : ∀ p ∈ cs, TabB base mg p.1 p.2 := fun p hp => by
    have tp := hT p hp
    obtain ⟨bm, ob, b1, b2, b3, b4, b5, b6⟩ := hbm
    have nG : bm ≠ mainGlobals := fun q => by rw [q, eg] at b3; cases b3; rw [dg] at b6; cases b6
    have nP : bm ≠ p.2 := fun q => by rw [q, tp] at b3; cases b3; cases b6
    have gP : mainGlobals ≠ p.2 := fun q => by rw [q, tp] at eg; cases eg; cases dg
    obtain ⟨o, us, file, tf, flags, tg, inF, text, tt, e1, r1, r2, r3, rest⟩ := C p hp
    exact ⟨⟨o, us, file, tf, flags, tg, inF, text, tt, inb e1 (by intro vs n z; rw [r2] at z; cases z) (by intro z; rw [r2] at z; cases z; simp at r3), r1, r2, r3, rest⟩,
      ⟨bm, ob, b1, b2, nG, nP, inb b3 (by intro vs n z; rw [b6] at z; cases z) (by intro z; rw [b6] at z; cases z), b4, b5, b6⟩, gP⟩
  have e0 : Env0 P w K mg base callerA [] s₁ H := ⟨rfl, hM, fun b o e => of_hidT e, Nat.le_of_eq (hidT_size _ _), trivial, (fun b hb => nomatch hb), hok, .of_eq hg⟩
  refine codeAny_mono ((F base Kb (nsb hns) TB).run callerA [] s₁ H ⟨[.ref a], []⟩ [.ref a] [.ref a] _ _ ⟨hr, fun _ => rfl⟩ e0 (hbind s₁ (.ref a)) (.cons rfl .nil) (hsp H tabH hS2)) fun r s' h => ?_
  cases r with
  | error e =>
    unfold CR L2.CX at h
    obtain ⟨_, _, _, _, _, _, _, _, _, _, _, _, z⟩ := h
    exact z.elim
  | ok fl =>
    cases fl with
    | next => exact False.elim h
    | brk => exact False.elim h
    | cont => exact False.elim h
    | ret u =>
      obtain ⟨v, H', os, bare, un, hok', r', q⟩ := h
      have q' : v = .bl true := q
      subst q'
      obtain rfl : u = Value.bool true := r'
      have nfr : ∀ b, b ∉ frs ([] : List Env) := fun b z => nomatch z
      have kept : ∀ b o, b ∉ tabs → s₁.heap.get? b = some o → s'.heap.get? b = some o := fun b o nb e => by
        cases q : H b with
        | none => exact un.keep b o e q (nfr b) (by simp)
        | some u =>
          rcases look q with ⟨hb, _⟩ | ⟨rfl, rfl, _⟩
          · exact absurd hb nb
          · have e2 := (hok' b _ (un.frzs b _ _ q)).1
            rw [ha] at e; cases e
            exact e2
      have grown : ∀ b ∈ tabs, ∃ more : Array Value, s'.heap.get? b = some { cls := .none, data := .fields more } := fun b hb => by
        obtain ⟨p, hp, rfl⟩ := List.mem_map.mp hb
        obtain ⟨more, z⟩ := un.tbls p.2 #[] (tabH p hp)
        exact ⟨_, hok' p.2 _ z⟩
      refine ⟨rfl, ⟨fun b o e => ?_, fun b o e => ?_⟩, os, bare⟩
      · by_cases hb : b ∈ tabs
        · obtain ⟨p, hp, rfl⟩ := List.mem_map.mp hb
          obtain ⟨more, hm⟩ := grown p.2 hb
          rw [hT p hp] at e; cases e
          exact .inr (.inl ⟨((C p hp).tab (hT p hp)).isCodeTable, rfl, #[], more, rfl, by rw [Array.empty_append]; exact hm⟩)
        · exact .inl (kept b o hb e)
      · by_cases hb : b ∈ tabs
        · obtain ⟨more, hm⟩ := grown b hb
          exact ⟨_, hm⟩
        · exact ⟨o, kept b o hb e⟩
/-- a law over data, its lambdas' tables T -/
theorem walk_G {l : PySem.W.OpenLaw} {n k : Nat} {q : Program} {loose : List Str} {XP : (Str → Option Value) → Heap → Prop} {YP : World → Heap → Prop} {d : DefRec} {x : Str}
    (hn : l.most = some n) (hn2 : n ≤ sizeLine) (hdf : d.params.defaults = []) (hr : Room k callerA)
    (F : ∀ (w : World) (mg : Str → Option Value) (fa : Addr) (h : Heap), YP w h → h.Ns mainGlobals mg → mg d.name = some (.ref fa) →
      ∃ (K : PySem.W.Frag) (fd : FuncData) (S : SA) (T : List (Addr × Str)) (cs : List (Addr × Addr)), K.In h ∧ (∀ p ∈ cs, h.get? p.2 = some { cls := .none, data := .fields #[] }) ∧ (∀ p ∈ cs, K.lookup p.2 = none) ∧ (∀ p ∈ cs, PySem.W.CodeHd h p.1 p.2) ∧ (∀ p ∈ T, ∃ r ∈ cs, p.1 = r.2) ∧
        (∀ (s : Shared) (u : Value), BindsTo s fd ⟨[u], []⟩ [(x, u)]) ∧
        (∀ (ns : List Int), ns.length ≤ n → (∀ z ∈ ns, z.natAbs < 2 ^ 1048577) → S [.lsf (ns.map D.int)] (fun r => r = .bl true) (fun _ => False)) ∧
        ∀ base : Heap, K.In base → base.Ns mainGlobals mg → (∀ p ∈ cs, TabB base mg p.1 p.2) → FnG true l.prog w K mg base k fa fd [x] (spA K T S)) :
    PySem.W.WalkO q loose XP YP l.row.toRowW d [] (fun f vs => PySem.call f vs) := by
  refine Att.attach_callB hn hdf fun w s₀ s₁ mg mb fa o pm cd doc a vs ns G Y ho hd hcd hmg hobj hints hlen hbits hg => ?_
  obtain ⟨K, fd, S, T, cs, KX, hT, nT, C, hTc, hb, hS, hF⟩ := F w mg fa _ Y G.T.g hmg
  refine law_callG KX G.T.g G.T.b G.T.builtins G.T.nolimit hg hT nT C G.T.bmain hobj hints (Nat.le_trans hlen hn2) hr hF hb fun H hH hq => ?_
  refine ⟨fun _ => False, [.lsf (ns.map D.int)], fun r => r = .bl true, fun _ => False, fun _ h => h.elim, ⟨.ref a, [], rfl, ?_, rfl⟩, fun p hp => ?_, hS ns hlen fun z hz => bits_lt (hbits z hz), fun r v H' e _ rv _ => ?_, fun _ _ _ _ h => h.elim⟩
  · refine ⟨a, ns.map V.int, rfl, RepL.ofInts ns, ?_⟩
    rcases hq with hq | hq
    · exact .inl ⟨fun z => z, hq⟩
    · exact .inr hq
  · obtain ⟨r, hr1, e⟩ := hTc p hp
    exact TabS.nil (by rw [e]; exact hH r hr1)
  · subst e; exact rv
end L3

set_option Elab.async false
set_option linter.all false
set_option maxRecDepth 100000
set_option maxHeartbeats 2000000
namespace L3
open PySem PySem.Spec PyProof.Rows L2
section
variable {prog : Program} {w : World} {A : Around} {E : Value → Shared → Prop} {s : Shared}
/-- repr by the slot -/
theorem repr_by {T id : String} {v : Value} {Q : Value → Shared → Prop} (hu : A.in1.units < cLine) (hT : s.TypeIs v T) (sl : SlotG T "__repr__" id)
    (h : wpAny (model prog w) A.in1 (call (.builtin id) [v]) (fun r s' => ∃ x t, r = .str x t ∧ Q r s') E s) : wpAny (model prog w) A (call (.builtin "repr") [v]) Q E s := by
  refine Calls.call_function_entry F.kind_repr F.plain_repr F.entry_repr (F.args_repr1 _) ?_
  unfold Builtin.«repr»
  refine wpAny_bind (m := oneArg "repr" _) (wpAny_pure ?_)
  refine wpAny_bind (wpAny_cRoomFor hu ?_)
  refine wpAny_bind (wpAny_specialOf (name := Str.ofString "__repr__") hT sl.lookup ?_)
  refine wpAny_bind (m := callSpecialIfBound? v (Str.ofString "__repr__")) (wpAny_callSpecialIfBound?_slotG (name := Str.ofString "__repr__") hT sl (wpAny_mono h (fun r s' ⟨x, t, e, q⟩ => ?_) fun _ _ z => z))
  subst e
  exact wpAny_bind (wpAny_isInstance (T := "str") (b := true) rfl isSubtype_str_str (wpAny_pure ⟨_, rfl, q⟩))
theorem repr_list {v : Value} {xs : List PyData} {as : List Addr} {Q : Value → Shared → Prop} (r : Reads s.heap v (.list xs) as) (hs : (PyData.list xs).showable = true) (hsm : (PyData.list xs).hasDict = false) (hz : (PyData.list xs).shown.length ≤ sizeLine) (hg : A.guards = some []) (hu : A.units + 1 + (PyData.list xs).depth < cLine)
    (hQ : ∀ h' u tk, (∀ b o, s.heap.get? b = some o → h'.get? b = some o) → Q (.str (PyData.list xs).shown u) { s with heap := h', toks := tk }) : wpAny (model prog w) A (call (.builtin "repr") [v]) Q E s := by
  cases r with
  | @list a o vs n _ as h1 h2 h3 h4 =>
    have u1 : A.in1.units = A.units + 1 := rfl
    have e1 : (PyData.list xs).depth = 1 + PyData.depthAll xs ∨ (PyData.list xs).depth = PyData.depthAll xs + 1 := by simp only [PyData.depth]; omega
    refine repr_by (by omega) ⟨o, h1, h2⟩ F.slot_list_repr.toG ?_
    have hz' : (listText (PyData.shownAll xs)).length ≤ sizeLine := by simpa only [PyData.shown] using hz
    have rr : Reads s.heap (.ref a) (.list xs) _ := .list h1 h2 h3 h4
    obtain ⟨bs, hb, hk⟩ := ReprAllK.of_readsAll (prog := prog) (w := w) h4 (by simpa [PyData.showable] using hs) (fun hx => by simp only [PyData.hasDict] at hsm; rw [hsm] at hx; cases hx) (fun t ht => Nat.le_trans (listText_mem_le ht) hz')
    have na : a ∉ bs := not_mem_of_deeper rr (by omega) hb
    simp only [PyData.shown] at hQ
    obtain ⟨l⟩ := vs
    cases l with
    | nil =>
      have h4' : ReadsAll s.heap [] xs _ := h4
      cases h4'
      simp only [PyData.shownAll, listText_nil] at hQ
      exact call_list_repr_empty ⟨o, h1, h2⟩ h1 h3 ⟨_, _, rfl, hQ s.heap _ _ fun _ _ e => e⟩
    | cons x l =>
      exact call_list_reprK h1 h2 h3 na (by simpa using hk.length_eq) (fun i y e => hk.item i y (by simpa using e)) hg (fun b _ => Clear.nil b) (by omega) (fun _ _ e => e) (fun h' u tk hk' => ⟨_, _, rfl, hQ h' u tk hk'⟩) hz'
theorem repr_tuple {v : Value} {xs : List PyData} {as : List Addr} {Q : Value → Shared → Prop} (r : Reads s.heap v (.tuple xs) as) (hs : (PyData.tuple xs).showable = true) (hsm : (PyData.tuple xs).hasDict = false) (hz : (PyData.tuple xs).shown.length ≤ sizeLine) (hg : A.guards = some []) (hu : A.units + 1 + (PyData.tuple xs).depth < cLine)
    (hQ : ∀ h' u tk, (∀ b o, s.heap.get? b = some o → h'.get? b = some o) → Q (.str (PyData.tuple xs).shown u) { s with heap := h', toks := tk }) : wpAny (model prog w) A (call (.builtin "repr") [v]) Q E s := by
  cases r with
  | @tuple a o vs n _ as h1 h2 h3 h4 =>
    have u1 : A.in1.units = A.units + 1 := rfl
    have e1 : (PyData.tuple xs).depth = 1 + PyData.depthAll xs ∨ (PyData.tuple xs).depth = PyData.depthAll xs + 1 := by simp only [PyData.depth]; omega
    refine repr_by (by omega) ⟨o, h1, h2⟩ F.slot_tuple_repr ?_
    have hz' : (tupleText (PyData.shownAll xs)).length ≤ sizeLine := by simpa only [PyData.shown] using hz
    have rr : Reads s.heap (.ref a) (.tuple xs) _ := .tuple h1 h2 h3 h4
    obtain ⟨bs, hb, hk⟩ := ReprAllK.of_readsAll (prog := prog) (w := w) h4 (by simpa [PyData.showable] using hs) (fun hx => by simp only [PyData.hasDict] at hsm; rw [hsm] at hx; cases hx) (fun t ht => Nat.le_trans (tupleText_mem_le ht) hz')
    have na : a ∉ bs := not_mem_of_deeper rr (by omega) hb
    simp only [PyData.shown] at hQ
    exact call_tuple_reprK h1 h2 h3 na hk hg (fun b _ => Clear.nil b) (by omega) (fun _ _ e => e) (fun h' u tk hk' => ⟨_, _, rfl, hQ h' u tk hk'⟩) hz'
theorem repr_dict0 {a : Addr} {o : Obj} {n : Nat} {Q : Value → Shared → Prop} (h1 : s.heap.get? a = some o) (h2 : o.cls = .type "dict") (h3 : o.data = .dict #[] n) (hsys : (a == sysModules) = false) (hg : A.guards = some []) (hu : A.units + 2 < cLine)
    (hQ : ∀ h' u tk, (∀ b o, s.heap.get? b = some o → h'.get? b = some o) → Q (.str "{}" u) { s with heap := h', toks := tk }) : wpAny (model prog w) A (call (.builtin "repr") [.ref a]) Q E s := by
  have u1 : A.in1.units = A.units + 1 := rfl
  refine repr_by (by omega) ⟨o, h1, h2⟩ F.slot_dict_repr ?_
  exact call_dict_reprK (as := []) (d := 0) (ps := []) h1 h2 h3 hsys (by simp) (ReprEntriesK.of_two [] [] [] .nil .nil) hg (fun b _ => Clear.nil b) (by omega) (fun _ _ e => e) (fun h' u tk hk' => ⟨_, _, rfl, by
    have e : dictText [] = ("{}" : Str) := by decide +kernel
    rw [e]; exact hQ h' u tk hk'⟩) (by rw [sizeLine_eq]; decide +kernel)
end
mutual
/-- data whose repr is short enough -/
def D.ro : D → Prop
  | .non => True
  | .bl _ => True
  | .int i => Bd 1900 i
  | .str s => (s.cps.size ≤ 1000 ∧ PyData.leavesShort 600 (.str s) = true)
  | .tup l => l.length ≤ 250 ∧ ros l
  | .lst l => l.length ≤ 250 ∧ ros l
  | .lsf l => l.length ≤ 250 ∧ ros l
  | _ => False
def ros : List D → Prop
  | [] => True
  | d :: l => d.ro ∧ ros l
end
def D.show (d : D) : Str := d.pd.shown
theorem bd_pow {i : Int} (h : Bd 1900 i) : i.natAbs < 10 ^ 599 := by
  unfold Bd at h
  exact Nat.lt_of_lt_of_le h (by decide +kernel)
theorem int_short {i : Int} (h : Bd 1900 i) : PyData.leavesShort 600 (.int i) = true := by
  have e := int_text_length_le10 (k := 599) (by decide) (bd_pow h)
  unfold PyData.leavesShort
  rw [decide_eq_true_eq]
  show (Str.ofString (toString i)).length ≤ 600
  rw [PySem.ofString_length]; exact e
mutual
theorem ro_ok : ∀ d : D, d.ro → d.flat = true ∧ d.pd.showable = true ∧ d.pd.hasDict = false ∧ d.pd.leavesShort 600 = true
  | .non, _ => ⟨rfl, rfl, rfl, rfl⟩
  | .bl b, _ => ⟨rfl, rfl, rfl, rfl⟩
  | .int i, h => ⟨rfl, by
      show decide (i.natAbs.log2 < 1920) = true
      rw [decide_eq_true_eq]
      exact Nat.lt_trans (bd_log h (by decide)) (by decide), rfl, int_short h⟩
  | .str s, h => ⟨rfl, rfl, rfl, h.2⟩
  | .tup l, h => by
    obtain ⟨a, b, c, d⟩ := ros_ok l h.2
    exact ⟨by simpa [D.flat] using a, by simpa [D.pd, PyData.showable] using b, by simpa [D.pd, PyData.hasDict] using c, by simpa [D.pd, PyData.leavesShort] using d⟩
  | .lst l, h => by
    obtain ⟨a, b, c, d⟩ := ros_ok l h.2
    exact ⟨by simpa [D.flat] using a, by simpa [D.pd, PyData.showable] using b, by simpa [D.pd, PyData.hasDict] using c, by simpa [D.pd, PyData.leavesShort] using d⟩
  | .lsf l, h => by
    obtain ⟨a, b, c, d⟩ := ros_ok l h.2
    exact ⟨by simpa [D.flat] using a, by simpa [D.pd, PyData.showable] using b, by simpa [D.pd, PyData.hasDict] using c, by simpa [D.pd, PyData.leavesShort] using d⟩
  | .ref _, h => h.elim
  | .ty _, h => h.elim
  | .dic _ _, h => h.elim
  | .ins _ _ _, h => h.elim
  | .exn _ _ _ _ _, h => h.elim
  | .exo _ _ _ _ _, h => h.elim
  | .cod _ _, h => h.elim
theorem ros_ok : ∀ l : List D, ros l → flats l = true ∧ PyData.showableAll (pds l) = true ∧ PyData.hasDictAll (pds l) = false ∧ PyData.leavesShortAll 600 (pds l) = true
  | [], _ => ⟨rfl, rfl, rfl, rfl⟩
  | d :: l, h => by
    obtain ⟨a, b, c, e⟩ := ro_ok d h.1
    obtain ⟨a2, b2, c2, e2⟩ := ros_ok l h.2
    exact ⟨by simp [flats, a, a2], by simp [pds, PyData.showableAll, b, b2], by simp [pds, PyData.hasDictAll, c, c2], by simp [pds, PyData.leavesShortAll, e, e2]⟩
end
/-- repr(x) -/
def rdReprG : List Z → DS → QZ → Prop := fun zs ds Q => match zs with
  | [.d (.dic [] [])] => Q (.d (.str "{}")) ds
  | [.d x] => (x.ro ∧ x.pd.bulk ≤ 20000 ∧ x.pd.depth ≤ 60) ∧ Q (.d (.str x.show)) ds
  | _ => False
variable {X : Cx} {g : G}
theorem cd_reprG (hg : X.A.guards = some []) (hu : X.A.units + 64 < cLine) : CallD X g (.builtin "repr") rdReprG := by
  intro pins s σ H M ds zs vs us QD I R rz rv h
  unfold rdReprG at h
  split at h
  · obtain ⟨v, rfl, r1⟩ := zs1 rz
    obtain ⟨u, rfl, hu'⟩ := vals1 rv
    obtain ⟨a, xs, rfl, rl, hl, na, e⟩ := r1
    cases rl
    obtain rfl : u = Value.ref a := hu'
    obtain ⟨_, hsys, kvs, kv, o, es, ep, h1, h2, h3, _, hp, _⟩ := (show ObjOk X.prog X.w H s.heap a (.dK []) from I.hok a _ e)
    have hes : es = #[] := by
      cases kv
      have : es.toList = [] := by
        cases he : es.toList with
        | nil => rfl
        | cons x l => rw [he] at hp; cases hp
      exact Array.toList_inj.mp this
    subst hes
    refine repr_dict0 h1 h2.1 h3 hsys hg (by omega) fun h' u tk hk => ⟨.d (.str _), ds, M, .str _, H, I.kept hk, ⟨_, rfl⟩, R, .refl, rfl, h⟩
  · rename_i x _
    obtain ⟨v, rfl, r1⟩ := zs1 rz
    obtain ⟨u, rfl, hu'⟩ := vals1 rv
    obtain ⟨⟨ro, hb, hd⟩, q⟩ := h
    obtain ⟨hf, hsh, hnd, hls⟩ := ro_ok x ro
    have hz : x.pd.shown.length ≤ sizeLine := by
      have := PyData.shown_le_bulk 600 (by decide) x.pd hls
      rw [sizeLine_eq]; omega
    have fin : ∀ h' u tk, (∀ b o, s.heap.get? b = some o → h'.get? b = some o) → EPD X g pins σ M ds H QD (.str x.pd.shown u) { s with heap := h', toks := tk } := fun h' u tk hk => ⟨.d (.str _), ds, M, .str x.pd.shown, H, I.kept hk, ⟨_, rfl⟩, R, .refl, rfl, q⟩
    have dp := RepD.dp x v hf r1
    obtain ⟨as, rd⟩ := Dp.reads I x.pd v u dp hu'
    have lists : ∀ l : List D, x.pd = .list (pds l) → wpAny (model X.prog X.w) X.A (call (.builtin "repr") [u]) (EPD X g pins σ M ds H QD) X.xe s := fun l e => by
      rw [e] at rd hsh hnd hz hd fin
      exact repr_list rd hsh hnd hz hg (by omega) fin
    cases x with
    | non =>
      cases r1; cases hu'
      exact PySem.P.repr_of_none (fin s.heap _ _ fun _ _ e => e)
    | bl b =>
      cases r1; cases hu'
      refine PySem.P.repr_of_bool ?_
      have := fin s.heap s.toks (s.toks + 1) fun _ _ e => e
      simpa only [D.pd, PyData.shown] using this
    | int i =>
      cases r1
      obtain ⟨t, rfl⟩ := (show ∃ t, u = Value.int i t from hu')
      exact PySem.P.repr_of_int (by simpa [D.pd, PyData.showable] using hsh) (fin s.heap _ _ fun _ _ e => e)
    | str i =>
      cases r1
      obtain ⟨t, rfl⟩ := (show ∃ t, u = Value.str i t from hu')
      exact PySem.P.repr_of_str (fin s.heap _ _ fun _ _ e => e) hz
    | tup l => exact repr_tuple rd hsh hnd hz hg (by show X.A.units + 1 + (D.tup l).pd.depth < cLine; omega) fin
    | lst l => exact lists l rfl
    | lsf l => exact lists l rfl
    | ref _ => exact ro.elim
    | ty _ => exact ro.elim
    | dic _ _ => exact ro.elim
    | ins _ _ _ => exact ro.elim
    | exn _ _ _ _ _ => exact ro.elim
    | exo _ _ _ _ _ => exact ro.elim
    | cod _ _ => exact ro.elim
  · exact h.elim
variable {W : WX} {pos : Pos}
def dDic0 : TD := fun ds Q _ => Q (.d (.dic [] [])) ds
theorem px_dic0 : PX X g W (.Dict [] [] pos) dDic0 :=
  .of pe_dnewK fun σ H M ds QD ED R ht he => fun p hp => by
    obtain ⟨R', N⟩ := R.upd (o := .dK []) hp
    exact ⟨.d (.dic [] []), ds, M, R', N, ⟨p, [], rfl, rfl, rfl, R.own_none hp, upd_same⟩, ht⟩
end L3

set_option Elab.async false
set_option linter.all false
set_option maxRecDepth 100000
set_option maxHeartbeats 2000000
namespace L3
open PySem PySem.Spec PyProof.Rows L2 LamX
/-- what the def at p asks, that makes lambdas -/
def MkD (K : PySem.W.Frag) (mg : Str → Option Value) (base : Heap) (T : List (Addr × Str)) (p : He.Defn) (q : Str) : Prop :=
  TabB base mg (He.cT K p).1 (He.cT K p).2 ∧ ((He.cT K p).2, q) ∈ T ∧ ∀ r ∈ T, r.1 = (He.cT K p).2 → r.2 = q
theorem mk_of {X : Cx} {T : List (Addr × Str)} {p : He.Defn} {cdv : Value} (hcd : CodeIs X.K (He.fAd X.K p) cdv) (h : MkD X.K X.mg X.base T p (X.env.qual ++ "<lambda>")) (hc : X.env.code = cdv) : Maker X T := by
  obtain ⟨oc, od, fd, osl, q, lk, e, ci⟩ := hcd
  obtain ⟨c, hc'⟩ := He.codeIn_ref ci
  refine ⟨_, _, h.1, ?_, h.2.1, h.2.2⟩
  rw [hc, hc']
  show Value.ref c = Value.ref (He.codeOf X.K p)
  rw [He.codeOf_eq lk (e.trans hc')]
theorem rg0 {k : Nat} {A : Around} (h : Room k A) : RoomG false k A := ⟨h, fun z => nomatch z⟩
theorem rgu {gd : Bool} {k : Nat} {A : Around} (h : RoomG gd k A) : A.units + 1 < cLine := Nat.lt_of_le_of_lt (Nat.add_le_add_left (by decide : 1 ≤ 64) _) h.units
/-- the tables of distinct defs are distinct -/
theorem mkD_of {K : PySem.W.Frag} {mg : Str → Option Value} {base : Heap} {T : List (Addr × Str)} {p : He.Defn} {q : Str} (tb : TabB base mg (He.cT K p).1 (He.cT K p).2) (hm : ((He.cT K p).2, q) ∈ T) (hn : (T.map (·.1)).Nodup) : MkD K mg base T p q := by
  refine ⟨tb, hm, fun r hr e => ?_⟩
  have key : ∀ (l : List (Addr × Str)), (l.map (·.1)).Nodup → ∀ a ∈ l, ∀ b ∈ l, a.1 = b.1 → a.2 = b.2 := by
    intro l
    induction l with
    | nil => intro _ a h; cases h
    | cons x l ih =>
      intro hd a ha b hb e
      rw [List.map_cons, List.nodup_cons] at hd
      rcases List.mem_cons.mp ha with e1 | ha1 <;> rcases List.mem_cons.mp hb with e2 | hb1
      · rw [e1, e2]
      · rw [e1] at e; exact (hd.1 (List.mem_map.mpr ⟨b, hb1, e.symm⟩)).elim
      · rw [e2] at e; exact (hd.1 (List.mem_map.mpr ⟨a, ha1, e⟩)).elim
      · exact ih hd.2 a ha1 b hb1 e
  exact key T hn r hr _ hm e
theorem codeHd_of {K : PySem.W.Frag} {h : Heap} {c P : Addr} (X : K.In h) (e : PySem.W.codeHdIn K c P = true) : PySem.W.CodeHd h c P := PySem.W.codeHd_of_K X e
def nonB (K : PySem.W.Frag) (hs : List Nat) : Bool := hs.all fun h => decide (PySem.W.kitOne K (.type "NoneType") (clV K h) = some false)
theorem nonB_ok {K : PySem.W.Frag} {hs : List Nat} (b : nonB K hs = true) {h : Nat} (hh : List.elem h hs = true) : NonC K h := by
  have := List.all_eq_true.mp b h (List.mem_of_elem_eq_true hh)
  unfold NonC; exact of_decide_eq_true this
def exIB (K : PySem.W.Frag) (x : Str) : Bool := decide (PySem.W.findIn K (.ref (He.ga K x)) "__init__" = some (some (.ref (He.fAd K (x, some "__init__"))))) && decide (PySem.W.typeIn K (.ref (He.fAd K (x, some "__init__"))) = some (.type "function"))
theorem exIB_ok {K : PySem.W.Frag} {x : Str} (b : exIB K x = true) : PySem.W.findIn K (.ref (He.ga K x)) "__init__" = some (some (.ref (He.fAd K (x, some "__init__")))) ∧ PySem.W.typeIn K (.ref (He.fAd K (x, some "__init__"))) = some (.type "function") := by
  unfold exIB at b
  simp only [Bool.and_eq_true, decide_eq_true_eq] at b
  exact b
theorem fnG_up {P : Program} {w : World} {K : PySem.W.Frag} {mg : Str → Option Value} {base : Heap} {k : Nat} {f : Addr} {fd : FuncData} {ps : List Str} {sp : Sp} (F : FnG false P w K mg base k f fd ps sp) : FnG true P w K mg base k f fd ps sp :=
  ⟨F.len, fun A outer s H args us vs Q E hr => F.run A outer s H args us vs Q E ⟨hr.1, fun z => nomatch z⟩⟩
inductive Res where
  | ret (y : D)
  | exc (x : EX)
def Res.go (r : Res) (Q : D → Prop) (E : EX → Prop) : Prop := match r with
  | .ret y => Q y
  | .exc x => E x
theorem ifT {c : Bool} {A B : Prop} (h : c = true) (a : A) : (c = true → A) ∧ (c = false → B) := ⟨fun _ => a, fun z => by rw [h] at z; cases z⟩
theorem ifF {c : Bool} {A B : Prop} (h : c = false) (b : B) : (c = true → A) ∧ (c = false → B) := ⟨fun z => (by rw [h] at z; cases z), fun _ => b⟩
theorem ifN {c : Bool} {A B : Prop} (a : c = true → A) (b : c = false → B) : (c = true → A) ∧ (c = false → B) := ⟨a, b⟩
/-- an integer that is no bool -/
def isI : D → Bool
  | .int _ => true
  | _ => false
def exNum (x : D) : EX := ⟨1, ["value"], [x]⟩
def exRule (x : D) : EX := ⟨0, ["value"], [x]⟩
def exRate (x : D) : EX := ⟨2, ["value"], [x]⟩
def exRec (i : Int) : EX := ⟨12, ["index"], [.int i]⟩
end L3

set_option Elab.async false
set_option linter.all false
set_option maxRecDepth 100000
set_option maxHeartbeats 1000000
namespace L3
open PySem PySem.Spec PyProof.Rows L2
namespace B
theorem mul {n m : Nat} {i j : Int} (h : Bd n i) (h' : Bd m j) : Bd (n + m) (i * j) := Bd.mul h h'
theorem add {n m : Nat} {i j : Int} (h : Bd n i) (h' : Bd m j) : Bd (max n m + 1) (i + j) := Bd.add (h.mono (Nat.le_max_left ..)) (h'.mono (Nat.le_max_right ..))
theorem sub {n m : Nat} {i j : Int} (h : Bd n i) (h' : Bd m j) : Bd (max n m + 1) (i - j) := Bd.sub (h.mono (Nat.le_max_left ..)) (h'.mono (Nat.le_max_right ..))
theorem neg {n : Nat} {i : Int} (h : Bd n i) : Bd n (-i) := Bd.neg h
theorem div {n : Nat} {i j : Int} (h : Bd n i) : Bd n (i / j) := Bd.div h
theorem mod {n : Nat} {i j : Int} (h : Bd n j) (hj : 0 < j) : Bd n (i % j) := Bd.mod h hj
theorem abs {n : Nat} {i : Int} (h : Bd n i) : Bd n (i.natAbs : Int) := by unfold Bd at *; omega
theorem abs' {n : Nat} {i : Int} (h : Bd n i) : Bd n (if i < 0 then -i else i) := by unfold Bd at *; split <;> omega
theorem max' {n m : Nat} {i j : Int} (h : Bd n i) (h' : Bd m j) : Bd (max n m) (max i j) := by
  have a := h.mono (Nat.le_max_left n m)
  have b := h'.mono (Nat.le_max_right n m)
  rcases Int.le_total i j with z | z
  · rw [Int.max_eq_right z]; exact b
  · rw [Int.max_eq_left z]; exact a
theorem min' {n m : Nat} {i j : Int} (h : Bd n i) (h' : Bd m j) : Bd (max n m) (min i j) := by
  have a := h.mono (Nat.le_max_left n m)
  have b := h'.mono (Nat.le_max_right n m)
  rcases Int.le_total i j with z | z
  · rw [Int.min_eq_left z]; exact a
  · rw [Int.min_eq_right z]; exact b
theorem lit {i : Int} (h : i.natAbs < 18446744073709551616) : Bd 64 i := h
theorem om {i : Int} (h : -18446744073709551616 < i ∧ i < 18446744073709551616) : Bd 64 i := by
  have e : (2 : Nat) ^ 64 = 18446744073709551616 := by decide
  unfold Bd; rw [e]; omega
theorem nat {n : Nat} (h : n < 18446744073709551616) : Bd 64 (n : Int) := om ⟨by omega, by omega⟩
theorem up {n m : Nat} {i : Int} (h : Bd n i) (hn : Nat.ble n m = true) : Bd m i := h.mono (Nat.le_of_ble_eq_true hn)
theorem raw {n m : Nat} {i : Int} (h : Bd n i) (hn : Nat.ble n m = true) : i.natAbs < 2 ^ m := h.mono (Nat.le_of_ble_eq_true hn)
theorem mulW {n m : Nat} {i j : Int} (h : Bd n i) (h' : Bd m j) (hs : Nat.ble (n + m) 999990 = true) : CMulW i j := wmul h h' (Nat.le_of_ble_eq_true hs)
theorem divW {n : Nat} {i j : Int} (h : Bd n j) (hj : 0 < j) (hs : Nat.ble n 9000 = true) : CDivW i j := CDivW.any (wdiv hj h (Nat.le_of_ble_eq_true hs))
theorem powW {i j : Int} (h : 0 ≤ j ∧ j ≤ 1000000) (h2 : i.natAbs < 2 ^ 64) : CPow i j := ⟨h.1, h.2, h2⟩
theorem ten {f : Nat} : Bd (4 * f + 1) ((10 : Int) ^ f) := by
  unfold Bd
  rw [Int.natAbs_pow, Nat.pow_succ, Nat.pow_mul]
  have h1 : (Int.natAbs 10) ^ f ≤ (2 ^ 4) ^ f := Nat.pow_le_pow_left (by decide) f
  have h2 : 0 < (2 ^ 4) ^ f := Nat.pow_pos (by decide)
  omega
end B
theorem splitD {p : Prop} [Decidable p] {A B : Prop} (a : p → A) (b : ¬ p → B) : (decide p = true → A) ∧ (decide p = false → B) := ⟨fun h => a (of_decide_eq_true h), fun h => b (of_decide_eq_false h)⟩
theorem splitN {p : Prop} [Decidable p] {A B : Prop} (a : ¬ p → A) (b : p → B) : ((!decide p) = true → A) ∧ ((!decide p) = false → B) := ⟨fun h => a (by simpa using h), fun h => b (by simpa using h)⟩
theorem splitB {c : Bool} {A B : Prop} (a : c = true → A) (b : c = false → B) : (c = true → A) ∧ (c = false → B) := ⟨a, b⟩
theorem splitM {c : Bool} {A B : Prop} (a : c = false → A) (b : c = true → B) : ((!c) = true → A) ∧ ((!c) = false → B) := ⟨fun h => a (by simpa using h), fun h => b (by simpa using h)⟩
theorem splitZ {i : Int} {A B : Prop} (a : i ≠ 0 → A) (b : i = 0 → B) : ((i != 0) = true → A) ∧ ((i != 0) = false → B) := ⟨fun h => a (by simpa using h), fun h => b (by simpa using h)⟩
theorem wT {p : Prop} [Decidable p] {A B : Prop} (h : p) (a : A) : (decide p = true → A) ∧ (decide p = false → B) := ifT (decide_eq_true h) a
theorem wF {p : Prop} [Decidable p] {A B : Prop} (h : ¬ p) (b : B) : (decide p = true → A) ∧ (decide p = false → B) := ifF (decide_eq_false h) b
theorem uT {p : Prop} [Decidable p] {A B : Prop} (h : ¬ p) (a : A) : ((!decide p) = true → A) ∧ ((!decide p) = false → B) := ifT (by simpa using h) a
theorem uF {p : Prop} [Decidable p] {A B : Prop} (h : p) (b : B) : ((!decide p) = true → A) ∧ ((!decide p) = false → B) := ifF (by simpa using h) b
theorem oT {i : Int} {A B : Prop} (h : i ≠ 0) (a : A) : ((i != 0) = true → A) ∧ ((i != 0) = false → B) := ifT (by simpa using h) a
theorem oF {i : Int} {A B : Prop} (h : i = 0) (b : B) : ((i != 0) = true → A) ∧ ((i != 0) = false → B) := ifF (by simpa using h) b
theorem rF {c : Bool} {A B : Prop} (h : c = false) (b : B) : (c = true → A) ∧ (c = false → B) := ifF h b
end L3

set_option Elab.async false
set_option linter.all false
set_option maxRecDepth 100000
set_option maxHeartbeats 2000000
namespace L3
open PySem PySem.Spec PyProof.Rows L2
section
variable {X : Cx} {g : G} {W : WX} {gd : Bool} {k : Nat} {f : Addr} {fd : FuncData} {ps : List Str} {T : List (Addr × Str)} {S : SA} {x : Str} {p pos : Pos} {tkw : TLi} {ks : List Str} {gD : List D → List D → List D} {kws : List Keyword}
theorem px_ownK0 (Go : OwnF gd X.prog X.w X.K X.mg X.base x k f fd ps (spA X.K T S)) (hb : KB X.K fd ps 0 ks gD) (hT : g.T = T) (hr : RoomG gd k X.A) (tk : Takes X W) (hkw : PXK X g W kws tkw) (hg : Gl X x := by rfl)
    (hall : (backToKw pos (keywordEach kws X.env)).all (·.1.isSome) = true := by rfl) (hks : (backToKw pos (keywordEach kws X.env)).filterMap (·.1) = ks := by rfl)
    (hdb : (x == ("__debug__" : Str)) = false := by decide) (hpl : ((backTo pos (starEach [] X.env)).any (·.1) || (backToKw pos (keywordEach kws X.env)).any (·.1.isNone)) = false := by rfl) :
    PX X g W (.Call (.Name x p) [] kws pos) (dCallK 0 ks.length S gD dNil tkw) := by
  refine ⟨fun pins s σ H M ds QD ED I R ht hE => ?_⟩
  refine wpAny_Call_Name_kw (ld_glob I hg Go.g ?_ hdb)
  have ht : tkw ds (kKA 0 ks.length S gD QD ED []) ED := ht
  refine PySem.W.callWith_KW0 (h₀ := X.base) I.ok.mod.kin Go.kp hall (thn (hkw.run pos pins s σ H M ds _ ED I R ht hE) fun ws s2 ⟨ys, ds2, M2, vz, H2, I2, r2, R2, N2, ry, q2⟩ => ⟨I2.kIn, ?_⟩) hpl
  unfold kKA at q2
  split at q2
  · rename_i l r el er
    obtain rfl : l = [] := by cases el; rfl
    obtain rfl := unD_of er
    obtain ⟨⟨_, l2⟩, q2⟩ := q2
    have e2 : ws.length = ks.length := by rw [← r2.length, RepL.length ry.toD, l2]
    obtain ⟨vs', us', hbt, rr, rv⟩ := hb.ex s2 _ H2 [] r [] vz [] ws I2.kIn rfl ry.toD .nil r2 rfl e2
    rw [hks]
    exact thn (run_fnX Go.ok hr tk I2 hbt rv (spA_in hT R2 rr (hE.nxt N2) q2)) fun _ _ h => (EPD.of h).nxt N2
  · exact q2.elim
/-- f() -/
theorem px_own0 (Go : OwnF gd X.prog X.w X.K X.mg X.base x k f fd ps (spA X.K T S)) (hb : Binds X.K fd ps []) (hT : g.T = T) (hr : RoomG gd k X.A) (tk : Takes X W) (hg : Gl X x := by rfl)
    (hdb : (x == ("__debug__" : Str)) = false := by decide) : PX X g W (.Call (.Name x p) [] [] pos) (dCallA S [] dNil) := by
  refine ⟨fun pins s σ H M ds QD ED I R ht hE => ?_⟩
  refine wpAny_Call_Name_kw (ld_glob I hg Go.g ?_ hdb)
  refine PySem.W.callWith_K0 I.kIn Go.kp ?_
  have ht : S [] (fun y => QD (.d y) ds) (fun y => ED y ds) := ht
  have sp := spA_in (l := []) (vs := []) hT R rfl hE ht
  have hl : ([] : List Value).length = ps.length := Go.ok.len _ _ _ _ sp
  exact thn (run_fnX Go.ok hr tk I (hb s [] I.kIn hl) .nil sp) fun _ _ h => EPD.of h
end
/-- a def without defaults, called with keywords -/
theorem FunD.kb0 {K : PySem.W.Frag} {x qual : Str} {params : Arguments} {body : List Stmt} {scope : Scope} {f : Addr} {fd : FuncData} {ps : List Str} (F : FunD K x qual params body scope [] [] f fd) (n : Nat) (ks : List Str)
    (gV : List Value → List Value → List Value) (gD : List D → List D → List D)
    (h : ∀ (kV doc pm : Value) (an : Option Addr) (cdv ct : Value) (us ws : List Value), us.length = n → ws.length = ks.length →
      bindArgs (PySem.W.fnOf x qual params body scope .none kV doc pm an cdv ct) ⟨us, ks.zip ws⟩ = pure (ps.zip (gV us ws)))
    (hrep : ∀ (own : Addr → Prop) (H : Hp) (l m : List D) (vs zs : List V) (us ws : List Value), RepL K own H l vs → RepL K own H m zs → Vals vs us → Vals zs ws → us.length = n → ws.length = ks.length → ∃ vs', RepL K own H (gD l m) vs' ∧ Vals vs' (gV us ws)) : KB K fd ps n ks gD := by
  obtain ⟨oc, od, dV, kV, doc, pm, an, cdv, ct, osl, rfl, lk, hcd, hD, hK⟩ := F.ex
  rcases hD with ⟨_, rfl⟩ | ⟨e, _⟩
  · refine ⟨fun s own H l m vs zs us ws X rl rm rv rz l1 l2 => ?_⟩
    obtain ⟨vs', h1, h2⟩ := hrep own H l m vs zs us ws rl rm rv rz l1 l2
    refine ⟨vs', _, BindsTo.of_looks fun M => ?_, h1, h2⟩
    rw [h kV doc pm an cdv ct us ws l1 l2]
    exact PySem.W.Looks.of_pure rfl
  · exact absurd rfl e
end L3

set_option Elab.async false
set_option linter.all false
set_option maxRecDepth 100000
set_option maxHeartbeats 2000000
namespace L3
open PySem PySem.Spec PyProof.Rows L2
/-- what the names reach in n steps, and the statics -/
def asY (g : Addr → Option Obj) (n : Nat) : List Addr := cStatics :: He.asD g n
def obsY (n : Nat) (fa : List He.Fa) (fn : List He.DefD) (tf : List He.Defn) (ex : PySem.W.Frag → Bool) (g : Addr → Option Obj) : He.AlX := (He.obsT fa fn [] (He.frT g (asY g n)), ex (He.frT g (asY g n)) && He.tabsB g tf (He.frT g (asY g n)))
theorem saysY_of {n : Nat} {fa : List He.Fa} {fn : List He.DefD} {tf : List He.Defn} {ex : PySem.W.Frag → Bool} {w : World} {h : Heap} (e : obsY n fa fn tf ex h.get? = He.valX fn [] w) : He.SaysX fa fn [] tf ex w h (He.frT h.get? (asY h.get? n)) := by
  have e2 : (ex (He.frT h.get? (asY h.get? n)) && He.tabsB h.get? tf (He.frT h.get? (asY h.get? n))) = true := congrArg (fun z : He.AlX => z.2) e
  rw [Bool.and_eq_true] at e2
  obtain ⟨h1, h2⟩ := e2
  have key : ∀ p ∈ tf, PySem.W.codeHdIn (He.frT h.get? (asY h.get? n)) (He.cT (He.frT h.get? (asY h.get? n)) p).1 (He.cT (He.frT h.get? (asY h.get? n)) p).2 = true ∧ ∃ o, h.get? (He.cT (He.frT h.get? (asY h.get? n)) p).2 = some o ∧ He.emptyTab o = true := fun p hp => by
    have h3 := List.all_eq_true.mp h2 p hp
    rw [Bool.and_eq_true] at h3
    obtain ⟨h3, h4⟩ := h3
    refine ⟨h3, ?_⟩
    split at h4
    · rename_i o q
      exact ⟨o, q, h4⟩
    · cases h4
  refine ⟨congrArg (fun z : He.AlX => z.1) e, h1, fun p hp => (key p hp).1, fun p hp => ?_, fun p hp => ?_⟩
  · obtain ⟨_, o, q, z⟩ := key p hp
    exact He.frT_none q z
  · obtain ⟨_, o, q, z⟩ := key p hp
    rw [q, He.emptyTab_eq z]
def hookY (n : Nat) (fa : List He.Fa) (fn : List He.DefD) (tf : List He.Defn) (ex : PySem.W.Frag → Bool) : PySem.W.Hook where
  α := He.AlX
  obs := fun s => obsY n fa fn tf ex s.heap.get?
  val := fun w => He.valX fn [] w
  says := fun w h => ∃ K : PySem.W.Frag, K.In h ∧ He.SaysX fa fn [] tf ex w h K
  of := fun _ _ e => ⟨_, He.frT_in, saysY_of e⟩
  keeps := fun _ _ _ ⟨K, hK, c⟩ k => ⟨K, PySem.W.Frag.In.keeps hK k, ⟨c.t, c.more, c.hd, c.out, fun p hp => k _ _ (c.empty p hp)⟩⟩
theorem obsY_eq {n : Nat} {fa : List He.Fa} {fn : List He.DefD} {tf : List He.Defn} {ex : PySem.W.Frag → Bool} {g : Addr → Option Obj} {s : Shared} (h : ∀ a, g a = s.heap.get? a) : obsY n fa fn tf ex g = (hookY n fa fn tf ex).obs s := by
  have e : g = s.heap.get? := funext h
  rw [e] <;> rfl
end L3

set_option Elab.async false
set_option linter.all false
set_option maxRecDepth 100000
set_option maxHeartbeats 2000000
namespace L3
open PySem PySem.Spec PyProof.Rows L2
mutual
/-- what stands in the heap for a datum; a dict is none of the interpreter's -/
inductive RX (h : Heap) : Value → PyData → Prop
  | none : RX h .none .none
  | bool (b : Bool) : RX h (.bool b) (.bool b)
  | int (i : Int) (t : Tok) : RX h (.int i t) (.int i)
  | str (x : Str) (t : Tok) : RX h (.str x t) (.str x)
  | list {a : Addr} {o : Obj} {us : Array Value} {n : Nat} {xs : List PyData} (g : h.get? a = some o) (c : o.cls = .type "list") (e : o.data = .seq us n) (r : RXs h us.toList xs) : RX h (.ref a) (.list xs)
  | tuple {a : Addr} {o : Obj} {us : Array Value} {n : Nat} {xs : List PyData} (g : h.get? a = some o) (c : o.cls = .type "tuple") (e : o.data = .seq us n) (r : RXs h us.toList xs) : RX h (.ref a) (.tuple xs)
  | dict {a : Addr} {o : Obj} {es : Array DictEntry} {n : Nat} {ps : List (PyData × PyData)} (ns : (a == sysModules) = false) (g : h.get? a = some o) (c : o.cls = .type "dict") (e : o.data = .dict es n) (r : RXs h (es.toList.map (·.key)) (ps.map (·.1))) (r2 : RXs h (es.toList.map (·.val)) (ps.map (·.2))) : RX h (.ref a) (.dict ps)
inductive RXs (h : Heap) : List Value → List PyData → Prop
  | nil : RXs h [] []
  | cons {u : Value} {us : List Value} {x : PyData} {xs : List PyData} (r : RX h u x) (rs : RXs h us xs) : RXs h (u :: us) (x :: xs)
end
section
variable {prog : Program} {w : World} {h : Heap}
mutual
theorem RX.rd : ∀ {v : Value} {x : PyData}, RX h v x → ∃ as, Reads h v x as
  | _, _, .none => ⟨_, .none⟩
  | _, _, .bool b => ⟨_, .bool b⟩
  | _, _, .int i t => ⟨_, .int i t⟩
  | _, _, .str s t => ⟨_, .str s t⟩
  | _, _, .list g c e r => have ⟨_, q⟩ := RXs.rd r; ⟨_, .list g c e q⟩
  | _, _, .tuple g c e r => have ⟨_, q⟩ := RXs.rd r; ⟨_, .tuple g c e q⟩
  | _, _, .dict _ g c e r r2 => have ⟨_, q⟩ := RXs.rd r; have ⟨_, q2⟩ := RXs.rd r2; ⟨_, .dict g c e q q2⟩
theorem RXs.rd : ∀ {vs : List Value} {xs : List PyData}, RXs h vs xs → ∃ as, ReadsAll h vs xs as
  | _, _, .nil => ⟨_, .nil⟩
  | _, _, .cons r rs => have ⟨_, q⟩ := RX.rd r; have ⟨_, q2⟩ := RXs.rd rs; ⟨_, .cons q q2⟩
end
/-- a list's parts, shown -/
abbrev PartsK (prog : Program) (w : World) (h : Heap) (us : List Value) (xs : List PyData) : Prop := ∃ bs, ReadAtMost h (PyData.depthAll xs) bs ∧ ReprAllK prog w bs h (PyData.depthAll xs) us (PyData.shownAll xs)
theorem rk_list {a : Addr} {o : Obj} {us : Array Value} {n : Nat} {xs : List PyData} (g : h.get? a = some o) (c : o.cls = .type "list") (e : o.data = .seq us n) (r : RXs h us.toList xs) (k : PartsK prog w h us.toList xs) :
    ∃ bs, ReadAtMost h (PyData.list xs).depth bs ∧ ReprK prog w bs h (PyData.list xs).depth (.ref a) (PyData.list xs).shown := by
  obtain ⟨bs, q1, q2⟩ := k
  obtain ⟨as, q⟩ := (RX.list g c e r).rd
  have hn : PyData.depthAll xs < (PyData.list xs).depth := by simp only [PyData.depth]; omega
  refine ⟨a :: bs, ReadAtMost.cons q (by omega) q1, ?_⟩
  simp only [PyData.depth, PyData.shown]
  rcases us with ⟨_ | ⟨y, l⟩⟩
  · have r' : RXs h [] xs := r
    cases r'
    simp only [PyData.shownAll, listText_nil]
    exact ReprK.listEmpty g c e
  · exact ReprK.list g c e (not_mem_of_deeper q hn q1) (by simpa using q2.length_eq) (fun i z ez => q2.item i z (by simpa using ez))
theorem rk_tup {a : Addr} {o : Obj} {us : Array Value} {n : Nat} {xs : List PyData} (g : h.get? a = some o) (c : o.cls = .type "tuple") (e : o.data = .seq us n) (r : RXs h us.toList xs) (k : PartsK prog w h us.toList xs) :
    ∃ bs, ReadAtMost h (PyData.tuple xs).depth bs ∧ ReprK prog w bs h (PyData.tuple xs).depth (.ref a) (PyData.tuple xs).shown := by
  obtain ⟨bs, q1, q2⟩ := k
  obtain ⟨as, q⟩ := (RX.tuple g c e r).rd
  have hn : PyData.depthAll xs < (PyData.tuple xs).depth := by simp only [PyData.depth]; omega
  refine ⟨a :: bs, ReadAtMost.cons q (by omega) q1, ?_⟩
  simp only [PyData.depth, PyData.shown]
  exact ReprK.tuple g c e (not_mem_of_deeper q hn q1) q2
theorem rk_dict {a : Addr} {o : Obj} {es : Array DictEntry} {n : Nat} {ps : List (PyData × PyData)} (ns : (a == sysModules) = false) (g : h.get? a = some o) (c : o.cls = .type "dict") (e : o.data = .dict es n) (r : RXs h (es.toList.map (·.key)) (ps.map (·.1))) (r2 : RXs h (es.toList.map (·.val)) (ps.map (·.2)))
    (k : PartsK prog w h (es.toList.map (·.key)) (ps.map (·.1))) (k2 : PartsK prog w h (es.toList.map (·.val)) (ps.map (·.2))) :
    ∃ bs, ReadAtMost h (PyData.depthKv ps) bs ∧ a ∉ bs ∧ ReprEntriesK prog w bs h (PyData.depthKv ps) es.toList (PyData.shownKv ps) := by
  obtain ⟨b1, q1, q2⟩ := k
  obtain ⟨b2, p1, p2⟩ := k2
  obtain ⟨as, q⟩ := (RX.dict ns g c e r r2).rd
  have hb : ReadAtMost h (PyData.depthKv ps) (b1 ++ b2) := (q1.mono (PyData.depthAll_keys_le ps)).append (p1.mono (PyData.depthAll_vals_le ps))
  refine ⟨b1 ++ b2, hb, not_mem_of_deeper q (by simp only [PyData.depth]; omega) hb, ?_⟩
  rw [PyData.shownKv_eq]
  exact ReprEntriesK.of_two es.toList _ _ (q2.more_le (fun b z => List.mem_append_left _ z) (PyData.depthAll_keys_le ps)) (p2.more_le (fun b z => List.mem_append_right _ z) (PyData.depthAll_vals_le ps))
mutual
theorem RX.rk : ∀ {v : Value} {x : PyData}, RX h v x → x.showable = true → x.shown.length ≤ sizeLine → ∃ bs, ReadAtMost h x.depth bs ∧ ReprK prog w bs h x.depth v x.shown
  | _, _, .none, _, _ => ⟨[], fun _ z => (nomatch z), by simp only [PyData.shown]; exact .of_is ReprIs.none _ _ _⟩
  | _, _, .bool b, _, _ => ⟨[], fun _ z => (nomatch z), by simp only [PyData.shown]; exact .of_is (ReprIs.bool b) _ _ _⟩
  | _, _, .int i t, s, _ => ⟨[], fun _ z => (nomatch z), by simp only [PyData.shown]; exact .of_is (ReprIs.int t (by simpa [PyData.showable] using s)) _ _ _⟩
  | _, _, .str x t, _, z => ⟨[], fun _ z => (nomatch z), by simp only [PyData.shown]; exact .of_is (ReprIs.str x t (by simpa only [PyData.shown] using z)) _ _ _⟩
  | _, _, .list (xs := xs) g c e r, s, z => rk_list g c e r (RXs.rk r (by simpa [PyData.showable] using s) fun t ht => Nat.le_trans (listText_mem_le ht) (by simpa only [PyData.shown] using z))
  | _, _, .tuple (xs := xs) g c e r, s, z => rk_tup g c e r (RXs.rk r (by simpa [PyData.showable] using s) fun t ht => Nat.le_trans (tupleText_mem_le ht) (by simpa only [PyData.shown] using z))
  | _, _, .dict (a := a) (ps := ps) ns g c e r r2, s, z => by
    have z' : (dictText (PyData.shownKv ps)).length ≤ sizeLine := by simpa only [PyData.shown] using z
    obtain ⟨s1, s2⟩ := PyData.showableKv_split ps (by simpa [PyData.showable] using s)
    obtain ⟨bs, q1, q2, q3⟩ := rk_dict ns g c e r r2 (RXs.rk r s1 fun t ht => have ⟨p, hp, hl⟩ := PyData.shownKv_key_le ps t ht; Nat.le_trans hl (Nat.le_trans (dictText_mem_le hp) z')) (RXs.rk r2 s2 fun t ht => have ⟨p, hp, hl⟩ := PyData.shownKv_val_le ps t ht; Nat.le_trans hl (Nat.le_trans (dictText_mem_le hp) z'))
    obtain ⟨as, q⟩ := (RX.dict ns g c e r r2).rd
    refine ⟨a :: bs, ReadAtMost.cons q (by simp only [PyData.depth]; omega) q1, ?_⟩
    simp only [PyData.depth, PyData.shown]
    exact ReprK.dict g c e ns q2 q3
theorem RXs.rk : ∀ {vs : List Value} {xs : List PyData}, RXs h vs xs → PyData.showableAll xs = true → (∀ t ∈ PyData.shownAll xs, t.length ≤ sizeLine) → PartsK prog w h vs xs
  | _, _, .nil, _, _ => ⟨[], fun _ z => (nomatch z), by simp only [PyData.shownAll]; exact .nil⟩
  | _, _, .cons (x := x) (xs := xs) r rs, s, z => by
    have s' : x.showable = true ∧ PyData.showableAll xs = true := by simpa [PyData.showableAll] using s
    obtain ⟨b1, q1, q2⟩ := RX.rk r s'.1 (z _ (by simp only [PyData.shownAll]; exact List.mem_cons_self ..))
    obtain ⟨b2, p1, p2⟩ := RXs.rk rs s'.2 fun t ht => z t (by simp only [PyData.shownAll]; exact List.mem_cons_of_mem _ ht)
    have m1 : x.depth ≤ PyData.depthAll (x :: xs) := by simp only [PyData.depthAll]; omega
    have m2 : PyData.depthAll xs ≤ PyData.depthAll (x :: xs) := by simp only [PyData.depthAll]; omega
    refine ⟨b1 ++ b2, (q1.mono m1).append (p1.mono m2), ?_⟩
    rw [show PyData.shownAll (x :: xs) = x.shown :: PyData.shownAll xs by simp only [PyData.shownAll]]
    exact .cons ((q2.more fun b hb => List.mem_append_left _ hb).level_le m1) (p2.more_le (fun b hb => List.mem_append_right _ hb) m2)
end
/-- repr(v) -/
theorem repr_RX {A : Around} {E : Value → Shared → Prop} {s : Shared} {v : Value} {x : PyData} {Q : Value → Shared → Prop} (r : RX s.heap v x) (sh : x.showable = true) (z : x.shown.length ≤ sizeLine) (hg : A.guards = some []) (hu : A.units + 2 + x.depth < cLine)
    (hQ : ∀ h' u tk, (∀ b o, s.heap.get? b = some o → h'.get? b = some o) → Q (.str x.shown u) { s with heap := h', toks := tk }) : wpAny (model prog w) A (call (.builtin "repr") [v]) Q E s := by
  have u1 : A.in1.units = A.units + 1 := rfl
  cases r with
  | none => exact PySem.P.repr_of_none (by simpa only [PyData.shown] using hQ s.heap _ _ fun _ _ e => e)
  | bool b => exact PySem.P.repr_of_bool (by simpa only [PyData.shown] using hQ s.heap s.toks (s.toks + 1) fun _ _ e => e)
  | int i t => exact PySem.P.repr_of_int (by simpa [PyData.showable] using sh) (by simpa only [PyData.shown] using hQ s.heap _ _ fun _ _ e => e)
  | str x t => exact PySem.P.repr_of_str (by simpa only [PyData.shown] using hQ s.heap _ _ fun _ _ e => e) (by simpa only [PyData.shown] using z)
  | @list a o us n xs g c e r =>
    have dp : PyData.depthAll xs + 1 = (PyData.list xs).depth := by simp only [PyData.depth]
    have z' : (listText (PyData.shownAll xs)).length ≤ sizeLine := by simpa only [PyData.shown] using z
    obtain ⟨bs, q1, q2⟩ := RXs.rk (prog := prog) (w := w) r (by simpa [PyData.showable] using sh) fun t ht => Nat.le_trans (listText_mem_le ht) z'
    obtain ⟨as, q⟩ := (RX.list g c e r).rd
    simp only [PyData.shown] at hQ
    refine repr_by (by omega) ⟨o, g, c⟩ F.slot_list_repr.toG ?_
    rcases us with ⟨_ | ⟨y, l⟩⟩
    · have r' : RXs s.heap [] xs := r
      cases r'
      simp only [PyData.shownAll, listText_nil] at hQ
      exact call_list_repr_empty ⟨o, g, c⟩ g e ⟨_, _, rfl, hQ s.heap _ _ fun _ _ e => e⟩
    · exact call_list_reprK g c e (not_mem_of_deeper q (by omega) q1) (by simpa using q2.length_eq) (fun i y ey => q2.item i y (by simpa using ey)) hg (fun b _ => Clear.nil b) (by omega) (fun _ _ e => e) (fun h' u tk hk => ⟨_, _, rfl, hQ h' u tk hk⟩) z'
  | @tuple a o us n xs g c e r =>
    have dp : PyData.depthAll xs + 1 = (PyData.tuple xs).depth := by simp only [PyData.depth]
    have z' : (tupleText (PyData.shownAll xs)).length ≤ sizeLine := by simpa only [PyData.shown] using z
    obtain ⟨bs, q1, q2⟩ := RXs.rk (prog := prog) (w := w) r (by simpa [PyData.showable] using sh) fun t ht => Nat.le_trans (tupleText_mem_le ht) z'
    obtain ⟨as, q⟩ := (RX.tuple g c e r).rd
    simp only [PyData.shown] at hQ
    refine repr_by (by omega) ⟨o, g, c⟩ F.slot_tuple_repr ?_
    exact call_tuple_reprK g c e (not_mem_of_deeper q (by omega) q1) q2 hg (fun b _ => Clear.nil b) (by omega) (fun _ _ e => e) (fun h' u tk hk => ⟨_, _, rfl, hQ h' u tk hk⟩) z'
  | @dict a o es n ps ns g c e r r2 =>
    have dp : PyData.depthKv ps + 1 = (PyData.dict ps).depth := by simp only [PyData.depth]
    have z' : (dictText (PyData.shownKv ps)).length ≤ sizeLine := by simpa only [PyData.shown] using z
    obtain ⟨s1, s2⟩ := PyData.showableKv_split ps (by simpa [PyData.showable] using sh)
    obtain ⟨bs, q1, q2, q3⟩ := rk_dict (prog := prog) (w := w) ns g c e r r2 (RXs.rk r s1 fun t ht => have ⟨p, hp, hl⟩ := PyData.shownKv_key_le ps t ht; Nat.le_trans hl (Nat.le_trans (dictText_mem_le hp) z')) (RXs.rk r2 s2 fun t ht => have ⟨p, hp, hl⟩ := PyData.shownKv_val_le ps t ht; Nat.le_trans hl (Nat.le_trans (dictText_mem_le hp) z'))
    simp only [PyData.shown] at hQ
    refine repr_by (by omega) ⟨o, g, c⟩ F.slot_dict_repr ?_
    exact call_dict_reprK g c e ns q2 q3 hg (fun b _ => Clear.nil b) (by omega) (fun _ _ e => e) (fun h' u tk hk => ⟨_, _, rfl, hQ h' u tk hk⟩) z'
end
def kpd : Key → PyData
  | .inl i => .int i
  | .inr s => .str s
def kro : Key → Prop
  | .inl i => Bd 1900 i
  | .inr s => PyData.leavesShort 600 (.str s) = true
mutual
/-- the datum that repr shows -/
def D.pe : D → PyData
  | .bl b => .bool b
  | .int i => .int i
  | .str s => .str s
  | .tup l => .tuple (pes l)
  | .lst l => .list (pes l)
  | .lsf l => .list (pes l)
  | .dic ks l => .dict ((ks.map kpd).zip (pes l))
  | _ => .none
def pes : List D → List PyData
  | [] => []
  | d :: l => d.pe :: pes l
end
mutual
def D.re : D → Prop
  | .non => True
  | .bl _ => True
  | .int i => Bd 1900 i
  | .str s => PyData.leavesShort 600 (.str s) = true
  | .tup l => res l
  | .lst l => res l
  | .lsf l => res l
  | .dic ks l => ks.length = l.length ∧ (∀ k ∈ ks, kro k) ∧ res l
  | _ => False
def res : List D → Prop
  | [] => True
  | d :: l => d.re ∧ res l
end
theorem pes_length : ∀ l : List D, (pes l).length = l.length
  | [] => rfl
  | d :: l => by simp [pes, pes_length l]
theorem int_show {i : Int} (h : Bd 1900 i) : PyData.showable (.int i) = true := by
  show decide (i.natAbs.log2 < 1920) = true
  rw [decide_eq_true_eq]
  exact Nat.lt_trans (bd_log h (by decide)) (by decide)
theorem kro_ok : ∀ k : Key, kro k → (kpd k).showable = true ∧ (kpd k).leavesShort 600 = true
  | .inl i, h => ⟨int_show h, int_short h⟩
  | .inr s, h => ⟨rfl, h⟩
mutual
theorem re_ok : ∀ d : D, d.re → d.pe.showable = true ∧ d.pe.leavesShort 600 = true
  | .non, _ => ⟨rfl, rfl⟩
  | .bl b, _ => ⟨rfl, rfl⟩
  | .int i, h => ⟨int_show h, int_short h⟩
  | .str s, h => ⟨rfl, h⟩
  | .tup l, h => by
    obtain ⟨a, b⟩ := res_ok l h
    exact ⟨by simpa [D.pe, PyData.showable] using a, by simpa [D.pe, PyData.leavesShort] using b⟩
  | .lst l, h => by
    obtain ⟨a, b⟩ := res_ok l h
    exact ⟨by simpa [D.pe, PyData.showable] using a, by simpa [D.pe, PyData.leavesShort] using b⟩
  | .lsf l, h => by
    obtain ⟨a, b⟩ := res_ok l h
    exact ⟨by simpa [D.pe, PyData.showable] using a, by simpa [D.pe, PyData.leavesShort] using b⟩
  | .dic ks l, ⟨e, hk, h⟩ => by
    obtain ⟨a, b⟩ := res_ok l h
    have key : ∀ (ks : List Key) (xs : List PyData), (∀ k ∈ ks, kro k) → PyData.showableAll xs = true → PyData.leavesShortAll 600 xs = true → PyData.showableKv ((ks.map kpd).zip xs) = true ∧ PyData.leavesShortKv 600 ((ks.map kpd).zip xs) = true := by
      intro ks
      induction ks with
      | nil => intro xs _ _ _; exact ⟨by simp [PyData.showableKv], by simp [PyData.leavesShortKv]⟩
      | cons k ks ih =>
        intro xs h1 h2 h3
        cases xs with
        | nil => exact ⟨by simp [PyData.showableKv], by simp [PyData.leavesShortKv]⟩
        | cons x xs =>
          have h2 : x.showable = true ∧ PyData.showableAll xs = true := by simpa [PyData.showableAll] using h2
          have h3 : x.leavesShort 600 = true ∧ PyData.leavesShortAll 600 xs = true := by simpa [PyData.leavesShortAll] using h3
          obtain ⟨i1, i2⟩ := ih xs (fun k hk => h1 k (List.mem_cons_of_mem _ hk)) h2.2 h3.2
          obtain ⟨j1, j2⟩ := kro_ok k (h1 k List.mem_cons_self)
          exact ⟨by simp [PyData.showableKv, i1, j1, h2.1], by simp [PyData.leavesShortKv, i2, j2, h3.1]⟩
    obtain ⟨c, d⟩ := key ks (pes l) hk a b
    exact ⟨by simpa [D.pe, PyData.showable] using c, by simpa [D.pe, PyData.leavesShort] using d⟩
  | .ref _, h => h.elim
  | .ty _, h => h.elim
  | .ins _ _ _, h => h.elim
  | .exn _ _ _ _ _, h => h.elim
  | .exo _ _ _ _ _, h => h.elim
  | .cod _ _, h => h.elim
theorem res_ok : ∀ l : List D, res l → PyData.showableAll (pes l) = true ∧ PyData.leavesShortAll 600 (pes l) = true
  | [], _ => ⟨rfl, rfl⟩
  | d :: l, h => by
    obtain ⟨a, b⟩ := re_ok d h.1
    obtain ⟨a2, b2⟩ := res_ok l h.2
    exact ⟨by simp [pes, PyData.showableAll, a, a2], by simp [pes, PyData.leavesShortAll, b, b2]⟩
end
section
variable {X : Cx} {own : Addr → Prop} {pins : List (Addr × Obj)} {σ : L2.St} {H : Hp} {s : Shared}
theorem rx_keys {kvs : List (Key × Value)} : ∀ {es : List DictEntry}, Pairs (mixKind X.prog X.w) es kvs → RXs s.heap (es.map (·.key)) ((kvs.map (·.1)).map kpd) ∧ es.map (·.val) = kvs.map (·.2)
  | _, .nil => ⟨.nil, rfl⟩
  | e :: es, .cons (kv := kv) hk hv r => by
    obtain ⟨i1, i2⟩ := rx_keys r
    refine ⟨.cons ?_ i1, by rw [List.map_cons, List.map_cons, hv, i2]⟩
    rcases keyIs_shape hk with ⟨i, t, e1, e2⟩ | ⟨x, t, e1, e2⟩
    · show RX s.heap e.key (kpd kv.1)
      rw [e1, e2]; exact .int i t
    · show RX s.heap e.key (kpd kv.1)
      rw [e1, e2]; exact .str x t
theorem kv_split : ∀ {ks : List Key} {xs : List V} {kvs : List (Key × Value)}, ks.length = xs.length → KV (ks.zip xs) kvs → kvs.map (·.1) = ks ∧ Vals xs (kvs.map (·.2))
  | [], [], _, _, r => by cases r; exact ⟨rfl, .nil⟩
  | k :: ks, x :: xs, _, e, r => by
    have r : KV ((k, x) :: ks.zip xs) _ := r
    cases r with
    | @cons _ q _ qs a b =>
      obtain ⟨i1, i2⟩ := kv_split (Nat.succ.inj e) b
      exact ⟨by rw [List.map_cons, i1, ← a.1], .cons a.2 i2⟩
  | [], _ :: _, _, e, _ => by cases e
  | _ :: _, [], _, e, _ => by cases e
mutual
theorem RepD.rx (I : L2.Inv X pins σ H s) : ∀ (d : D) (v : V) (u : Value), d.re → RepD X.K own H d v → RelV v u → RX s.heap u d.pe
  | .non, v, u, _, r, q => by cases r; cases q; exact .none
  | .bl b, v, u, _, r, q => by cases r; cases q; exact .bool b
  | .int i, v, u, _, r, q => by
    cases r
    obtain ⟨t, rfl⟩ := (show ∃ t, u = Value.int i t from q)
    exact .int i t
  | .str i, v, u, _, r, q => by
    cases r
    obtain ⟨t, rfl⟩ := (show ∃ t, u = Value.str i t from q)
    exact .str i t
  | .tup l, v, u, h, r, q => by
    obtain ⟨a, xs, rfl, rl, hx⟩ := r
    obtain rfl : u = Value.ref a := q
    obtain ⟨its, rv, ⟨o, ho, hc, n, hd⟩, _⟩ := I.tuple (sqT_of hx)
    exact .tuple ho hc hd (RepL.rxs I l xs its h rl rv)
  | .lst l, v, u, h, r, q => by
    obtain ⟨a, xs, rfl, rl, na, hx⟩ := r
    obtain rfl : u = Value.ref a := q
    obtain ⟨its, rv, ⟨o, n, ho, hc, _, hd⟩, _⟩ := I.list (SqL.of hx)
    exact .list ho hc hd (RepL.rxs I l xs its h rl rv)
  | .lsf l, v, u, h, r, q => by
    obtain ⟨a, xs, rfl, rl, hx⟩ := r
    obtain rfl : u = Value.ref a := q
    obtain ⟨its, rv, ⟨o, n, ho, hc, _, hd⟩, _⟩ := I.list (sqL_of hx)
    exact .list ho hc hd (RepL.rxs I l xs its h rl rv)
  | .dic ks l, v, u, ⟨e, hk, h⟩, r, q => by
    obtain ⟨a, xs, rfl, rl, hl, na, hx⟩ := r
    obtain rfl : u = Value.ref a := q
    obtain ⟨_, hsys, kvs, kv, o, es, ep, h1, h2, h3, _, hp, _⟩ := (show ObjOk X.prog X.w H s.heap a (.dK (ks.zip xs)) from I.hok a _ hx)
    have hlx : ks.length = xs.length := by rw [RepL.length rl]; exact e
    obtain ⟨k1, k2⟩ := kv_split hlx kv
    obtain ⟨j1, j2⟩ := rx_keys (X := X) (s := s) hp
    have m1 : ((ks.map kpd).zip (pes l)).map (·.1) = ks.map kpd := List.map_fst_zip (by rw [List.length_map, pes_length, e]; exact Nat.le_refl _)
    have m2 : ((ks.map kpd).zip (pes l)).map (·.2) = pes l := List.map_snd_zip (by rw [List.length_map, pes_length, e]; exact Nat.le_refl _)
    refine .dict hsys h1 h2.1 h3 ?_ ?_
    · rw [m1, ← k1]; exact j1
    · rw [m2, j2]; exact RepL.rxs I l xs _ h rl k2
  | .ref _, _, _, h, _, _ => h.elim
  | .ty _, _, _, h, _, _ => h.elim
  | .ins _ _ _, _, _, h, _, _ => h.elim
  | .exn _ _ _ _ _, _, _, h, _, _ => h.elim
  | .exo _ _ _ _ _, _, _, h, _, _ => h.elim
  | .cod _ _, _, _, h, _, _ => h.elim
theorem RepL.rxs (I : L2.Inv X pins σ H s) : ∀ (l : List D) (vs : List V) (us : List Value), res l → RepL X.K own H l vs → Vals vs us → RXs s.heap us (pes l)
  | [], _, _, _, r, q => by cases r; cases q; exact .nil
  | d :: l, _, _, h, ⟨v, vs, rfl, r1, r2⟩, q => by
    cases q with
    | cons q1 q2 => exact .cons (RepD.rx I d v _ h.1 r1 q1) (RepL.rxs I l vs _ h.2 r2 q2)
end
end
/-- the text that repr gives -/
def repD (d : D) : Str := d.pe.shown
def repOk (d : D) : Prop := d.re ∧ d.pe.bulk ≤ 20000 ∧ d.pe.depth ≤ 60
/-- repr(x): a word at which whnf stops -/
structure ReprH (zs : List Z) (ds : DS) (Q : QZ) : Prop where
  h : ∃ d, zs = [.d d] ∧ repOk d ∧ Q (.d (.str (repD d))) ds
def rdReprH : List Z → DS → QZ → Prop := ReprH
theorem reprH_ok {v : D} {ds : DS} {Q : QZ} (h : repOk v) (q : Q (.d (.str (repD v))) ds) : ReprH [.d v] ds Q := ⟨v, rfl, h, q⟩
theorem cd_reprH {X : Cx} {g : G} (hg : X.A.guards = some []) (hu : X.A.units + 64 < cLine) : CallD X g (.builtin "repr") rdReprH := by
  intro pins s σ H M ds zs vs us QD I R rz rv ⟨d, e, ⟨h1, h2, h3⟩, q⟩
  subst e
  obtain ⟨v, rfl, r1⟩ := zs1 rz
  obtain ⟨u, rfl, hu'⟩ := vals1 rv
  obtain ⟨s1, s2⟩ := re_ok d h1
  have z : d.pe.shown.length ≤ sizeLine := by
    have := PyData.shown_le_bulk 600 (by decide) d.pe s2
    rw [sizeLine_eq]; omega
  exact repr_RX (RepD.rx I d v u h1 r1 hu') s1 z hg (by omega) fun h' u tk hk => ⟨.d (.str _), ds, M, .str d.pe.shown, H, I.kept hk, ⟨_, rfl⟩, R, .refl, rfl, q⟩
theorem bdT {n : Nat} {i : Int} (h : i.natAbs < 10) (hn : 4 ≤ n := by decide) : Bd n i := Nat.lt_of_lt_of_le h (Nat.le_trans (by decide : 10 ≤ 2 ^ 4) (Nat.pow_le_pow_right (by decide) hn))
theorem repOk_bd {i : Int} (h : Bd 1900 i) : repOk (.int i) := ⟨h, Nat.le_of_ble_eq_true rfl, Nat.le_of_ble_eq_true rfl⟩
end L3

set_option Elab.async false
set_option linter.all false
set_option maxRecDepth 100000
set_option maxHeartbeats 2000000
namespace L3
open PySem PySem.Spec PyProof.Rows L2
section
variable {prog : Program} {w : World} {A : Around} {E : Value → Shared → Prop} {s : Shared}
theorem sliceApplied_rev2 {sl : Addr} {vs : Value} {Q : Int × Int × Nat → Shared → Prop} (hs : s.heap.IsSliceOf sl .none .none vs) (ps : IsPart vs (some (-1)))
    (h : Q ((1 : Int), -1, 2) s) : wpAny (model prog w) A (Builtin.Slice.sliceApplied (.ref sl) (pure ((2 : Nat) : Int))) Q E s := by
  obtain ⟨os, hos, hcs, hds⟩ := id hs
  unfold Builtin.Slice.sliceApplied Builtin.Slice.sliceFields
  refine wpAny_bind (wpAny_bind (wpAny_field hos hds (x := .none) rfl (wpAny_bind (wpAny_field hos hds (x := .none) rfl (wpAny_bind (wpAny_field hos hds (x := vs) rfl (wpAny_pure ?_)))))))
  refine wpAny_bind (HT.slicePart_ ps ?_)
  show wpAny _ _ (if ((-1 : Int) == 0) = true then _ else _) _ _ s
  rw [if_neg (by decide)]
  refine wpAny_bind (slicePart_none (wpAny_bind (slicePart_none (wpAny_bind (wpAny_pure ?_)))))
  exact wpAny_pure h
theorem getItem_pair_rev {t sl : Addr} {a b vs : Value} {Q : Value → Shared → Prop} (ht : IsTup s.heap t #[a, b]) (hs : s.heap.IsSliceOf sl .none .none vs) (ps : IsPart vs (some (-1)))
    (h : Q (.ref s.heap.objs.size) { s with heap := s.heap.push { cls := .type "tuple", data := .seq #[b, a] } }) : wpAny (model prog w) A (getItem (.ref t) (.ref sl)) Q E s := by
  have two : sizeOk (.seq #[b, a]) := by show 2 ≤ sizeLine; decide
  obtain ⟨os, hos, hcs, hds⟩ := id hs
  have kind : s.TypeIs (.ref sl) "slice" := ⟨os, hos, hcs⟩
  unfold getItem
  try with_reducible refine wpAny_holding ?_
  first | refine wpAny_bind (wpAny_pure ?_) | skip
  refine wpAny_bind (wpAny_sequenceKey ht.typeIs (by decide) ?_)
  refine wpAny_bind (wpAny_callSpecial?_slot (name := Str.ofString "__getitem__") ht.typeIs slot_tuple_getitem (wpAny_call_entry slot_tuple_getitem ht.typeIs entry_tuple_getitem ?_ (args_tuple_getitem _ _)))
  show wpAny _ _ (Builtin.Tuple.tupleItemsOf (.ref t) >>= _) _ _ s
  refine wpAny_bind (tupleItemsOf_ ht ?_)
  refine wpAny_bind (wpAny_typeOf kind ?_)
  rw [if_pos (by decide)]
  refine wpAny_bind (sliceApplied_rev2 hs ps ?_)
  first
    | exact wpAny_bind (m := Builtin.Tuple.tupleExact _) (wpAny_newObj_type (wpAny_pure ⟨_, rfl, wpAny_pure h⟩) two)
    | exact wpAny_bind (m := Builtin.Tuple.tupleExact _) (wpAny_newObj_type (wpAny_bind (wpAny_pure (wpAny_pure ⟨_, rfl, wpAny_pure h⟩))) two)
    | exact wpAny_bind (wpAny_bind (m := Builtin.Tuple.tupleExact _) (wpAny_newObj_type (wpAny_pure (wpAny_pure ⟨_, rfl, wpAny_pure h⟩)) two))
    | exact wpAny_bind (wpAny_bind (m := Builtin.Tuple.tupleExact _) (wpAny_newObj_type (wpAny_pure ⟨_, rfl, wpAny_pure h⟩) two))
end
section
variable {X : Cx} {g : G} {W : WX} {pos : Pos} {o : Expr} {to : TD}
def tRevP (K : PySem.W.Frag) (te : TE) : TE := fun σ H Q => te σ H fun x H1 => ∃ a v1 v2, x = .ref a ∧ SqT K H1 a [v1, v2] ∧ ∀ p, H1 p = none → Q (.ref p) (upd H1 p (.tup [v2, v1]))
theorem pe_revP {e : Expr} {te : TE} {k : Nat} {p1 p2 p3 pos : Pos} (he : PE X e te) : PE X (.Subscript e (.Slice none none (some (.UnaryOp .USub (.Constant (.int 1) k p1) p2)) p3) pos) (tRevP X.K te) := by
  refine ⟨fun pins s σ H Q I h => ?_⟩
  refine Subscript_ (thn (he.run pins s σ H _ I h) fun v s1 ⟨x, H1, I1, r1, a, v1, v2, ex, hx, q⟩ => ?_)
  subst ex
  cases r1
  have minus : PO X (some (.UnaryOp .USub (.Constant (.int 1) k p1) p2)) (tPart (tUn (rU fun i => .int (-i)) (tC (.int 1)))) := po_some (pe_un un_neg pe_int)
  refine wpAny_Slice (thn (po_none.run pins s1 σ H1 (fun o H2 => o = none ∧ H2 = H1) I1 ⟨rfl, rfl⟩) fun vl s2 ⟨l, H2, I2, pl, el, e2⟩ => ?_)
  subst el e2
  cases pl
  refine thn (po_none.run pins s2 σ H2 (fun o H3 => o = none ∧ H3 = H2) I2 ⟨rfl, rfl⟩) fun vu s3 ⟨u, H3, I3, pu, eu, e3⟩ => ?_
  subst eu e3
  cases pu
  refine thn (minus.run pins s3 σ H3 (fun o H4 => o = some (-1) ∧ H4 = H3) I3 ⟨1, rfl, -1, rfl, rfl, rfl⟩) fun vs s4 ⟨o, H4, I4, ps, eo, e4⟩ => ?_
  subst eo e4
  have I5 : Inv X pins σ H4 { s4 with heap := s4.heap.push { cls := .type "slice", data := .fields #[.none, .none, vs] } } := I4.kept (t' := s4.toks) fun b ob q => Heap.get?_push_of_some _ q
  obtain ⟨its, r, ht, hz⟩ := I5.tuple hx
  obtain ⟨u1, u2, rfl, r1, r2⟩ : ∃ u1 u2, its = [u1, u2] ∧ RelV v1 u1 ∧ RelV v2 u2 := by
    cases r with
    | cons a1 b1 =>
      cases b1 with
      | cons a2 b2 =>
        cases b2
        exact ⟨_, _, rfl, a1, a2⟩
  show wpAny (model X.prog X.w) X.A (subscriptTail e (.Slice none none (some (.UnaryOp .USub (.Constant (.int 1) k p1) p2)) p3) (.ref a) (.ref s4.heap.objs.size)) (EP X pins σ Q) X.xe { s4 with heap := s4.heap.push { cls := .type "slice", data := .fields #[.none, .none, vs] } }
  refine tail_any (ops := [.ref a, .ref s4.heap.objs.size]) ht.typeIs (slot_tuple_getitem.lookup) ?_ (by with_unfolding_all rfl)
  refine getItem_pair_rev ht (Heap.IsSliceOf.new _ _ _ vs) ps ?_
  refine ⟨.ref _, _, I5.laid (t' := s4.toks) (o := .tup [v2, v1]) (fun b ob q => Heap.get?_push_of_some _ q) (Nat.le_refl _) ?_, rfl, q _ (I5.hok.fresh (Nat.le_refl _))⟩
  exact ⟨by show 2 ≤ sizeLine; decide, [u2, u1], .cons r2 (.cons r1 .nil), IsTup.new _ _⟩
/-- t[::-1] -/
def rdRevP (z : Z) (ds : DS) (Q : QZ) : Prop := match z with
  | .d (.tup [a, b]) => Q (.d (.tup [b, a])) ds
  | _ => False
def dRevP (t : TD) : TD := fun ds Q E => t ds (fun z ds1 => rdRevP z ds1 Q) E
theorem px_slrevP {k : Nat} {p1 p2 p3 : Pos} (h : PX X g W o to) : PX X g W (.Subscript o (.Slice none none (some (.UnaryOp .USub (.Constant (.int 1) k p1) p2)) p3) pos) (dRevP to) := by
  refine .of (pe_revP h.pe) fun σ H M ds QD ED R ht he => ?_
  refine lift_in R ht he fun z ds1 M1 v H1 R1 N1 rz q => ?_
  unfold rdRevP at q
  split at q
  · rename_i d e
    obtain ⟨a, xs, rfl, ⟨v1, r, rfl, q1, v2, r2, rfl, q2, rfl⟩, hq⟩ := rz
    exact ⟨a, v1, v2, rfl, sqT_of hq, fun p hp => (Mid.tup (l := [e, d]) (xs := [v2, v1]) R1 hp ⟨v2, _, rfl, q2, v1, _, rfl, q1, rfl⟩ q).nxt N1⟩
  · exact q.elim
end
/-- a join point: what holds behind the first statement, the rest once -/
theorem dSeq_join {a b : TSd} {De : DE} {ds : DS} (P : DS → Prop) (tail : ∀ ds', P ds' → b De ds') (h : ∀ K : DS → Prop, (∀ ds', P ds' → K ds') → a { De with nx := K } ds) : dSeq a b De ds := h _ tail
end L3

set_option Elab.async false
set_option linter.all false
set_option maxRecDepth 100000
set_option maxHeartbeats 2000000
namespace L3
open PySem PySem.Spec PyProof.Rows L2
section
variable {X : Cx} {g : G}
theorem is_bool {M : Model} {A : Around} {E : Value → Shared → Prop} {s : Shared} {Q : Value → Shared → Prop} {a b : Bool} (h : Q (.bool (a == b)) s) : wpAny M A (compareOp .Is (.bool a) (.bool b)) Q E s := by
  cases a <;> cases b <;> exact wpAny_pure h
theorem isnot_bool {M : Model} {A : Around} {E : Value → Shared → Prop} {s : Shared} {Q : Value → Shared → Prop} {a b : Bool} (h : Q (.bool (!(a == b))) s) : wpAny M A (compareOp .IsNot (.bool a) (.bool b)) Q E s := by
  cases a <;> cases b <;> exact wpAny_pure h
def rdIsB : Z → Z → DS → QZ → Prop := fun x y ds Q => match x, y with
  | .d (.bl a), .d (.bl b) => Q (.d (.bl (a == b))) ds
  | _, _ => False
def rdNotB : Z → Z → DS → QZ → Prop := fun x y ds Q => match x, y with
  | .d (.bl a), .d (.bl b) => Q (.d (.bl (!(a == b)))) ds
  | _, _ => False
theorem od_isB : OpD X g (compareOp .Is) rdIsB := by
  intro pins s σ H M ds x y v u vv uu QD I R rx vx ry vy h
  unfold rdIsB at h
  split at h
  · rename_i a b
    cases rx; cases ry; cases vx; cases vy
    exact is_bool ⟨.d (.bl (a == b)), ds, M, .bl (a == b), H, I, rfl, R, .refl, rfl, h⟩
  · exact h.elim
theorem od_notB : OpD X g (compareOp .IsNot) rdNotB := by
  intro pins s σ H M ds x y v u vv uu QD I R rx vx ry vy h
  unfold rdNotB at h
  split at h
  · rename_i a b
    cases rx; cases ry; cases vx; cases vy
    exact isnot_bool ⟨.d (.bl (!(a == b))), ds, M, .bl (!(a == b)), H, I, rfl, R, .refl, rfl, h⟩
  · exact h.elim
end
end L3

set_option Elab.async false
set_option linter.all false
set_option maxRecDepth 100000
set_option maxHeartbeats 2000000
namespace L3
open PySem PySem.Spec PyProof.Rows L2
theorem clW_cls {K : PySem.W.Frag} {h : Nat} : ClsV (clW K h) (clV K h) := by
  unfold clW clV
  cases Nat.ble 50 h
  · exact .own _
  · exact .ty _
theorem clW_clss {K : PySem.W.Frag} : ∀ {hs : List Nat}, Paired ClsV (hs.map (clW K)) (hs.map (clV K))
  | [] => .nil
  | _ :: _ => .cons clW_cls clW_clss
theorem kit_cat {K : PySem.W.Frag} {xs : List Nat} {C : Nat} (hx : List.elem C xs = true) : ∀ {hs : List Nat}, (∀ h ∈ hs, Cat K xs h) → PySem.W.kitAny K (.ref (He.ga K (exName C))) (hs.map (clV K)) = some (hs.any (catN C))
  | [], _ => rfl
  | h :: hs, hc => kitAny_cons ((hc h List.mem_cons_self) C hx).2 (fun e => by rw [List.any_cons, e, Bool.false_or]; exact kit_cat hx fun h' m => hc h' (List.mem_cons_of_mem _ m)) (fun e => by rw [List.any_cons, e, Bool.true_or])
theorem kit_non {K : PySem.W.Frag} : ∀ {hs : List Nat}, (∀ h ∈ hs, NonC K h) → PySem.W.kitAny K (.type "NoneType") (hs.map (clV K)) = some false
  | [], _ => rfl
  | h :: hs, hc => kitAny_cons (hc h List.mem_cons_self) (fun _ => kit_non fun h' m => hc h' (List.mem_cons_of_mem _ m)) (fun e => nomatch e)
section
variable {X : Cx} {g : G} {W : WX} {pos : Pos} {e : Expr} {te : TD}
def rdIsT (xs hs : List Nat) (z : Z) (ds : DS) (Q : QZ) : Prop := match z with
  | .d (.exo C _ _ _ _) => List.elem C xs = true ∧ Q (.d (.bl (hs.any (catN C)))) ds
  | .d .non => Q (.d (.bl false)) ds
  | _ => False
def rIsiH (K : PySem.W.Frag) (xs hs : List Nat) : List V → Hp → VK → Prop := fun vs H Q => ∃ (x : V) (tp : Addr), vs = [x, .ref tp] ∧ H tp = some (.tup (hs.map (clW K))) ∧
  ((x = .non ∧ Q (.bl false) H) ∨ ∃ own C a d fs l, x = .ref a ∧ RepD K own H (.exo C a d fs l) x ∧ List.elem C xs = true ∧ Q (.bl (hs.any (catN C))) H)
theorem call_isiH {xs hs : List Nat} (T : ExX X.K xs) (hk : ∀ h ∈ hs, Cat X.K xs h) (hno : ∀ h ∈ hs, NonC X.K h) : CallR X (.builtin "isinstance") (rIsiH X.K xs hs) := by
  intro pins s σ H vs us Q I r h
  obtain ⟨x, tp, rfl, hT, q⟩ := h
  obtain ⟨u1, u2, rfl, r1, r2⟩ := vals2 r
  cases (show u2 = Value.ref tp from r2)
  obtain ⟨_, its, rv, o, h1, h2, n, h3⟩ := (show ObjOk X.prog X.w H s.heap tp (.tup _) from I.hok tp _ hT)
  have e3 := ClsV.all clW_clss rv
  subst e3
  obtain ⟨oc, od, dt, sl⟩ := o
  simp only at h2 h3
  subst h2 h3
  rcases q with ⟨rfl, q⟩ | ⟨own, C, a, d, fs, l, rfl, rz, hx, q⟩
  · cases (show u1 = Value.none from r1)
    exact PySem.W.kia_tup PySem.W.kitx_none I.kIn True.intro h1 (kit_non hno) (fun z => nomatch z) fun tk => ⟨.bl _, H, I.tok tk, rfl, q⟩
  · cases (show u1 = Value.ref a from r1)
    obtain ⟨_, ys, g1, g2, g3, g4, g5, g6⟩ := rz
    obtain ⟨⟨oe, ha, hz, hd⟩, _⟩ := (show ObjOk X.prog X.w H s.heap a (exV _ a d) from I.hok a _ g6)
    obtain ⟨od, J, _⟩ := exn_inst (n := C) (fs := fs) (l := l) I.hok ⟨rfl, ys, g1, g2, g3, g4⟩ ha hz hd
    obtain ⟨T1, _⟩ := T _ hx
    have hcl : (PySem.W.clsIn X.K (He.ga X.K (exName C))).isSome = true := by
      have := T1.xf.hdC
      obtain ⟨cd, hc, _⟩ := PySem.W.any_some this
      rw [hc]; rfl
    exact PySem.W.kia_tup (PySem.W.kitx_exc hcl T1.xf.ga T1.xf.gg T1.xf.exC T1.ca T1.cn T1.ct T1.cm) I.kIn J h1 (kit_cat hx hk) (fun z => nomatch z) fun tk => ⟨.bl _, H, I.tok tk, rfl, q⟩
/-- isinstance(e, (X1, X2, X3, X4)) -/
theorem px_isiT4 {xs : List Nat} {x1 x2 x3 x4 : Str} {h1 h2 h3 h4 : Nat} {p p1 p2 p3 p4 pt : Pos} {k : Nat} (T : ExX X.K xs) (hk : ∀ h ∈ [h1, h2, h3, h4], Cat X.K xs h) (hno : ∀ h ∈ [h1, h2, h3, h4], NonC X.K h)
    (c1 : Names X x1 (clV X.K h1)) (c2 : Names X x2 (clV X.K h2)) (c3 : Names X x3 (clV X.K h3)) (c4 : Names X x4 (clV X.K h4))
    (hg : Gl X "isinstance") (hm : X.mg "isinstance" = none) (hb : bootBuiltins "isinstance" = some (.builtin "isinstance")) (hv : PX X g W e te)
    (s1 : starEach [e, .Tuple [.Name x1 p1, .Name x2 p2, .Name x3 p3, .Name x4 p4] k pt] X.env = (false, eval e X.env) :: starEach [.Tuple [.Name x1 p1, .Name x2 p2, .Name x3 p3, .Name x4 p4] k pt] X.env := by rfl)
    (s2 : starEach [.Tuple [.Name x1 p1, .Name x2 p2, .Name x3 p3, .Name x4 p4] k pt] X.env = (false, eval (.Tuple [.Name x1 p1, .Name x2 p2, .Name x3 p3, .Name x4 p4] k pt) X.env) :: starEach [] X.env := by rfl)
    (hpl : (backTo pos (starEach [.Tuple [.Name x1 p1, .Name x2 p2, .Name x3 p3, .Name x4 p4] k pt] X.env)).any (·.1) = false := by rfl) :
    PX X g W (.Call (.Name "isinstance" p) [e, .Tuple [.Name x1 p1, .Name x2 p2, .Name x3 p3, .Name x4 p4] k pt] [] pos) (fun ds Q E => te ds (fun z ds1 => rdIsT xs [h1, h2, h3, h4] z ds1 Q) E) := by
  have hT : PE X (.Tuple [.Name x1 p1, .Name x2 p2, .Name x3 p3, .Name x4 p4] k pt) _ := pe_tup (pa_cons (pe_cls c1) (pa_cons (pe_cls c2) (pa_cons (pe_cls c3) (pa_cons (pe_cls c4) pa_nil rfl) rfl) rfl) rfl)
  refine .of (pe_callB (call_isiH T hk hno) hg hm hb (pa_cons hv.pe (pa_cons hT pa_nil s2) s1) (by decide) (by decide) s1 hpl) fun σ H M ds QD ED R ht he => ?_
  refine lift_in R ht he fun z ds1 M1 v H1 R1 N1 rz q => ?_
  unfold rdIsT at q
  refine ⟨sz (n := 4) rfl, fun a ha => ?_⟩
  obtain ⟨R2, N2⟩ := R1.upd (o := .tup [clW X.K h1, clW X.K h2, clW X.K h3, clW X.K h4]) ha
  split at q
  · rename_i C a' d' fs l
    have rx : RepD X.K (g.own M1 ds1) (L2.upd H1 a (.tup [clW X.K h1, clW X.K h2, clW X.K h3, clW X.K h4])) (.exo C a' d' fs l) v := RepD.mv N2.mv _ _ rz
    exact ⟨v, a, rfl, upd_same, .inr ⟨_, C, a', d', fs, l, rx.1, rx, q.1, .d (.bl _), ds1, M1, R2, N1.trans N2, rfl, q.2⟩⟩
  · cases rz
    exact ⟨_, a, rfl, upd_same, .inl ⟨rfl, .d (.bl _), ds1, M1, R2, N1.trans N2, rfl, q⟩⟩
  · exact q.elim
end
end L3

set_option Elab.async false
set_option linter.all false
set_option maxRecDepth 100000
set_option maxHeartbeats 1000000
namespace L3
open PySem PySem.Spec PyProof.Rows L2
section
variable {X : Cx} {g : G} {W : WX} {pos : Pos} {o e : Expr} {to te : TD}
def rdLM (R : List D → D → (D → Prop) → Prop) (z y : Z) (ds : DS) (Q : QZ) : Prop := match itemsL ds z, y with
  | some l, .d d => R l d (fun x => Q (.d x) ds)
  | _, _ => False
def dLM (R : List D → D → (D → Prop) → Prop) (to te : TD) : TD := fun ds Q E => to ds (fun z ds1 => (itemsL ds1 z).isSome = true ∧ te ds1 (fun y ds2 => rdLM R z y ds2 Q) E) E
def rdCnt (l : List D) (d : D) (P : D → Prop) : Prop := ∃ (ns : List Int) (k : Int), l = ns.map D.int ∧ d = .int k ∧ P (.int (ns.count k : Nat))
def rdIdx (l : List D) (d : D) (P : D → Prop) : Prop := ∃ (ns : List Int) (k : Int) (j : Nat), l = ns.map D.int ∧ d = .int k ∧ ns[j]? = some k ∧ (∀ m, m < j → ns[m]? ≠ some k) ∧ P (.int (j : Nat))
theorem itemsL_ty {σ : L2.St} {H : Hp} {M : List Addr} {ds : DS} {z : Z} {v : V} (R : RepS X.K g M ds σ H) (rz : RepZ X.K (g.own M ds) M H z v) (h : (itemsL ds z).isSome = true) : tyV X.K "list" v H := by
  obtain ⟨l, e⟩ := Option.isSome_iff_exists.mp h
  obtain ⟨a, xs, rfl, r, hq⟩ := itemsL_rep R rz e
  exact .inl ⟨rfl, xs, hq⟩
theorem px_lcount {apos : Pos} (ho : PX X g W o to) (hv : PX X g W e te) (hbase : attributeBase o "count" X.env (eval o X.env) = eval o X.env := by rfl) (hline : (apos.endLine == pos.line) = true := by rfl) (hs : starEach [e] X.env = (false, eval e X.env) :: starEach [] X.env := by rfl)
    (hfew : ((backTo pos (starEach [e] X.env)).all (fun x => !x.1) && (backToKw pos (keywordEach [] X.env)).all (fun x => x.1.isSome) && decide ([e].length + ([] : List Keyword).length + (if ([] : List Keyword).isEmpty then 0 else 1) < 30)) = true := by rfl)
    (hpl : (backTo pos (starEach [] X.env)).any (·.1) = false := by rfl) :
    PX X g W (.Call (.Attribute o "count" apos) [e] [] pos) (dLM rdCnt to te) := by
  refine .of (pe_bm PySem.F.plainAttrs_list PySem.F.slot_list_count PySem.F.type_list_count mt_lcount ho.pe (pa_cons hv.pe pa_nil hs) hbase hfew hline hs hpl) fun σ H M ds QD ED R ht he => ?_
  refine lift_in R ht he fun z ds1 M1 v H1 R1 N1 rz q => ?_
  refine ⟨itemsL_ty R1 rz q.1, ?_⟩
  refine lift_in R1 q.2 (he.nxt N1) fun y ds2 M2 u H2 R2 N2 ry q2 => ?_
  have rz := rz.mv N2.mv N2.pre
  unfold rdLM at q2
  split at q2
  · rename_i l d el
    obtain ⟨ns, k, rfl, rfl, q2⟩ := q2
    obtain ⟨a, xs, rfl, r, hq⟩ := itemsL_rep R2 rz el
    obtain rfl := r.ints
    cases (show u = V.int k from ry)
    exact ⟨a, ns, k, rfl, rfl, hq, .d (.int _), ds2, M2, R2, N1.trans N2, rfl, q2⟩
  · exact q2.elim
theorem px_lindex {apos : Pos} (ho : PX X g W o to) (hv : PX X g W e te) (hbase : attributeBase o "index" X.env (eval o X.env) = eval o X.env := by rfl) (hline : (apos.endLine == pos.line) = true := by rfl) (hs : starEach [e] X.env = (false, eval e X.env) :: starEach [] X.env := by rfl)
    (hfew : ((backTo pos (starEach [e] X.env)).all (fun x => !x.1) && (backToKw pos (keywordEach [] X.env)).all (fun x => x.1.isSome) && decide ([e].length + ([] : List Keyword).length + (if ([] : List Keyword).isEmpty then 0 else 1) < 30)) = true := by rfl)
    (hpl : (backTo pos (starEach [] X.env)).any (·.1) = false := by rfl) :
    PX X g W (.Call (.Attribute o "index" apos) [e] [] pos) (dLM rdIdx to te) := by
  refine .of (pe_bm PySem.F.plainAttrs_list PySem.F.slot_list_index PySem.F.type_list_index mt_index ho.pe (pa_cons hv.pe pa_nil hs) hbase hfew hline hs hpl) fun σ H M ds QD ED R ht he => ?_
  refine lift_in R ht he fun z ds1 M1 v H1 R1 N1 rz q => ?_
  refine ⟨itemsL_ty R1 rz q.1, ?_⟩
  refine lift_in R1 q.2 (he.nxt N1) fun y ds2 M2 u H2 R2 N2 ry q2 => ?_
  have rz := rz.mv N2.mv N2.pre
  unfold rdLM at q2
  split at q2
  · rename_i l d el
    obtain ⟨ns, k, j, rfl, rfl, hj, hm, q2⟩ := q2
    obtain ⟨a, xs, rfl, r, hq⟩ := itemsL_rep R2 rz el
    obtain rfl := r.ints
    cases (show u = V.int k from ry)
    refine ⟨a, ns.map V.int, .int k, j, .int k, rfl, rfl, hq, rfl, ?_, ?_, ?_, ?_, .d (.int _), ds2, M2, R2, N1.trans N2, rfl, q2⟩
    · rw [List.all_map, List.all_eq_true]; exact fun _ _ => rfl
    · rw [List.getElem?_map, hj]; rfl
    · exact beq_self_eq_true k
    · intro m z' hmj hz
      rw [List.getElem?_map] at hz
      cases h : ns[m]? with
      | none => rw [h] at hz; cases hz
      | some x =>
        rw [h] at hz
        cases hz
        have hne : x ≠ k := fun e => hm m hmj (by rw [h, e])
        exact beq_eq_false_iff_ne.mpr hne
  · exact q2.elim
end
end L3

set_option Elab.async false
set_option linter.all false
set_option maxRecDepth 100000
set_option maxHeartbeats 1000000
namespace L3
open PySem PySem.Spec PyProof.Rows L2
section
variable {X : Cx} {g : G} {W : WX} {gd : Bool} {k i : Nat} {f : Addr} {fd : FuncData} {ps : List Str} {T : List (Addr × Str)} {S : SA} {x y : Str} {p pos : Pos} {e : Expr} {es : List Expr} {t : TLi}
theorem px_alt {t1 t2 : TD} (h1 : PX X g W e t1) (h2 : PX X g W e t2) : PX X g W e (fun ds Q E => t1 ds Q E ∨ t2 ds Q E) :=
  ⟨fun pins s σ H M ds QD ED I R ht hE => ht.elim (fun ht => h1.run pins s σ H M ds QD ED I R ht hE) (fun ht => h2.run pins s σ H M ds QD ED I R ht hE)⟩
def dCallV (i : Nat) (f : Addr) (S : SA) (t : TLi) : TD := fun ds Q E => ds.s[i]? = some (some (.d (.ref f))) ∧ t ds (kA S [] Q E) E
theorem px_callV (Go : OwnF gd X.prog X.w X.K X.mg X.base x k f fd ps (spA X.K T S)) (hb : Binds X.K fd ps []) (hT : g.T = T) (hr : RoomG gd k X.A) (tk : Takes X W) (hN : X.N[i]? = some y) (hv : Vis X.env.scope y) (ha : PXA X g W (e :: es) t)
    (hdb : (y == ("__debug__" : Str)) = false := by decide) (hcd : (y == ("__classdict__" : Str)) = false := by decide)
    (he : starEach (e :: es) X.env = (false, eval e X.env) :: starEach es X.env := by rfl) (hpl : (backTo pos (starEach es X.env)).any (·.1) = false := by rfl) : PX X g W (.Call (.Name y p) (e :: es) [] pos) (dCallV i f S t) := by
  refine ⟨fun pins s σ H M ds QD ED I R h hE => ?_⟩
  obtain ⟨hs, ht⟩ := h
  obtain ⟨v0, h1, h2⟩ := R.slot i _ hs
  obtain rfl : v0 = .ref f := h2
  refine wpAny_Call_Name_kw (thn ((pe_var (pos := p) hN hv hdb hcd).run pins s σ H (fun v H1 => v = .ref f ∧ H1 = H) I ⟨.ref f, h1, rfl, rfl⟩) fun u s0 ⟨v, H0, I0, r0, q0⟩ => ?_)
  obtain ⟨rfl, rfl⟩ := q0
  cases r0
  refine PySem.W.callWith_K (h₀ := X.base) I0.ok.mod.kin Go.kp (thn (ha.run pos pins s0 σ _ M ds _ ED I0 R ht hE) fun us s1 ⟨zs, ds1, M1, vs, H1, I1, r1, R1, N1, rz, q1⟩ => ⟨I1.kIn, ?_⟩) he hpl
  unfold kA at q1
  split at q1
  · rename_i l el
    obtain rfl := unD_of el
    have sp := spA_in hT R1 (rz.toD.append (show RepL X.K _ _ [] [] from rfl)) (hE.nxt N1) q1
    have r2 : Vals (vs ++ []) (us ++ []) := r1.append .nil
    have hl : (us ++ []).length = ps.length := by rw [← r2.length]; exact Go.ok.len _ _ _ _ sp
    exact thn (run_fnX Go.ok hr tk I1 (hb s1 us I1.kIn hl) r2 sp) fun _ _ h => (EPD.of h).nxt N1
  · exact q1.elim
theorem px_gF {sp : Sp} (Go : OwnF gd X.prog X.w X.K X.mg X.base x k f fd ps sp) (hg : Gl X x := by rfl) (hd : (x == ("__debug__" : Str)) = false := by decide) : PX X g W (.Name x pos) (dC (.ref f)) := px_c (pe_glob (v := .ref f) hg Go.g rfl hd) fun _ _ _ => rfl
end
end L3

set_option Elab.async false
set_option linter.all false
set_option maxRecDepth 100000
set_option maxHeartbeats 2000000
namespace L3
open PySem PySem.Spec PyProof.Rows L2
theorem meets_enumB1 {v : Value} {o : Obj} {H : Heap → Prop} (B : Begins v o H) :
    Meets (Builtin.«enumerate.__new__» ⟨[.type "enumerate", v], []⟩) (fun _ R s => H s.heap ∧
      R (.ok (.ret (.ref (s.heap.push o).objs.size))) { s with heap := (s.heap.push o).push { cls := .type "enumerate", data := .fields #[.none, .bool false, .ref s.heap.objs.size, rawInt 0, .none, .none] } }) :=
  .of_wp fun prog w A R s h => by
    obtain ⟨hp, g, d, tk, os⟩ := s; obtain ⟨h1, h⟩ := h
    have hsub := sub_enumerate
    have q1 : ∀ {A' : Around} {E : Value → Shared → Prop} {Q : Value → Shared → Prop}, Q (.ref hp.objs.size) ⟨hp.push o, g, d, tk, os⟩ → wpAny (model prog w) A' (pyIter v) Q E ⟨hp, g, d, tk, os⟩ :=
      fun q => B.iter prog w _ _ ⟨hp, g, d, tk, os⟩ _ h1 q
    wp_walk using q1
    refine wpAny_stack_any fun st => wpAny_pure ?_
    split
    · rename_i c _ _ _ _ _
      cases (c == Value.type "enumerate")
      · wp_walk using q1
        exact ⟨_, rfl, h⟩
      · wp_walk using q1
        exact ⟨_, rfl, h⟩
    · wp_walk using q1
      exact ⟨_, rfl, h⟩
section
variable {prog : Program} {w : World} {A : Around} {E : Value → Shared → Prop} {s : Shared}
theorem enum_begins1 {v : Value} {o : Obj} {H : Heap → Prop} {Q : Value → Shared → Prop} (B : Begins v o H) (h1 : H s.heap)
    (h : ∀ h', IsEnum h' (s.heap.objs.size + 1) s.heap.objs.size 0 .none → h'.get? s.heap.objs.size = some o → h'.objs.size = s.heap.objs.size + 2 →
      (∀ b o, s.heap.get? b = some o → h'.get? b = some o) → Q (.ref (s.heap.objs.size + 1)) { s with heap := h' }) :
    wpAny (model prog w) A (call (.type "enumerate") [v]) Q E s := by
  refine callType_new F.called_enumerate (by decide) (F.typeCall_enumerate_1 _) (F.newCall_enumerate_1 _) (fun obj => F.args_object_init_2 obj _) F.entry_enumerate_new
    (meets_enumB1 B) ⟨h1, ?_⟩
  have hz : (s.heap.push o).objs.size = s.heap.objs.size + 1 := Heap.size_push ..
  show _ ∧ _
  rw [hz]
  have he : IsEnum ((s.heap.push o).push { cls := .type "enumerate", data := .fields #[.none, .bool false, .ref s.heap.objs.size, rawInt 0, .none, .none] }) (s.heap.objs.size + 1) s.heap.objs.size 0 .none := by
    have := Heap.get?_push_size (s.heap.push o) (o := { cls := .type "enumerate", data := .fields #[.none, .bool false, .ref s.heap.objs.size, rawInt 0, .none, .none] }) rfl
    rw [hz] at this; exact this
  refine ⟨⟨_, he, rfl⟩, h _ he (Heap.get?_push_of_some _ (Heap.get?_push_size _ B.free)) (by rw [Heap.size_push, hz]) fun b o x => Heap.get?_push_of_some _ (Heap.get?_push_of_some _ x)⟩
theorem enum_endT {e it l : Addr} {i : Nat} {items : Array Value} {old : Value} {Q : Option Value → Shared → Prop} (hh : A.handled = none)
    (he : IsEnum s.heap e it i old) (hit : s.heap.IsTupleIter it l i) (hl : s.heap.IsTuple l items) (hx : items[i]? = none)
    (hQ : ∀ h', Heap.ExtBut it s.heap h' → Q none { s with heap := h' }) : wpAny (model prog w) A (pyNext (.ref e)) Q E s := by
  have hT : s.TypeIs (.ref e) "enumerate" := ⟨_, he, rfl⟩
  unfold pyNext
  refine wpAny_bind (wpAny_attempt (wpAny_callSpecial?_slot (name := Str.ofString "__next__") hT F.slot_enumerate_next
    (wpAny_call_entry F.slot_enumerate_next hT F.entry_enumerate_next ?_ (F.args_enumerate_next_1 _))))
  show wpAny _ _ (field (.ref e) 2 >>= _) _ _ _
  refine wpAny_bind (wpAny_field he rfl (x := .ref it) rfl ?_)
  refine wpAny_bind (wpAny_nextOf_tuple_end hh hit hl hx fun h' x he' hx' => ?_)
  obtain ⟨o, ho, hc⟩ := hx'
  refine wpAny_bind (wpAny_isInstance (T := "StopIteration") (b := true) ⟨o, ho, hc⟩ isSubtype_stop ?_)
  exact wpAny_pure (hQ _ he')
end
def IteT (K : PySem.W.Frag) (a : Addr) : It :=
  ⟨fun i H => ∃ (xs : List V) (x : V), SqT K H a xs ∧ xs[i]? = some x, fun i H v H' => ∃ T x, v = .ref T ∧ H T = none ∧ H' = upd H T (.tup [.int (i : Nat), x]) ∧ ∀ xs, SqT K H a xs → xs[i]? = some x, fun i H => ∃ xs : List V, SqT K H a xs ∧ xs.length ≤ i⟩
theorem turn_enumT {P : Program} {w : World} {K : PySem.W.Frag} {elts : List Expr} {kk : Nat} {tpos : Pos} (a e it : Addr) :
    Turn P w K (.Tuple elts kk tpos) (IteT K a) [e, it] e (fun i h => (∃ old, IsEnum h e it ((i : Nat) : Int) old) ∧ h.IsTupleIter it a i ∧ e ≠ it) where
  mem := by simp
  obj := fun i h st b hb => by
    obtain ⟨⟨old, he⟩, ⟨o, ho, hc, hd⟩, _⟩ := st
    have e' : b = e ∨ b = it := by simpa using hb
    rcases e' with z | z
    · rw [z]; exact ⟨_, he, fun v q => nomatch q⟩
    · rw [z]; exact ⟨o, ho, fun v q => by rw [hd] at q; cases q⟩
  keep := fun i h h' st k => let ⟨⟨old, he⟩, hi, hne⟩ := st; ⟨⟨old, k e (by simp) _ he⟩, hi.at fun o q => k it (by simp) o q, hne⟩
  item := by
    intro X hP hw hK hc i pins s σ H E I hf st hg
    subst hP hw hK
    obtain ⟨⟨old, he⟩, hit, hne⟩ := st
    obtain ⟨xs, x, hq, hx⟩ := hg
    obtain ⟨its, rv, p, hz⟩ := I.tuple hq
    obtain ⟨u, hu, ru⟩ := rv.get hx
    have hel : e < s.heap.objs.size := Heap.lt_size he
    have hil : it < s.heap.objs.size := by obtain ⟨_, q, _⟩ := hit; exact Heap.lt_size q
    have hea : e ≠ a := fun z => by
      obtain ⟨o, ho, hoc, _⟩ := p
      rw [← z, he] at ho
      cases ho
      injection hoc with hoc
      exact absurd hoc (by decide)
    have hai : a ≠ it := fun z => by
      obtain ⟨o, ho, hoc, _⟩ := p
      obtain ⟨o2, ho2, hc2, _⟩ := hit
      rw [z, ho2] at ho
      cases ho
      rw [hc2] at hoc
      injection hoc with hoc
      exact absurd hoc (by decide)
    have hui : its.toArray[i]? = some u := by simpa using hu
    have hlt : i < its.toArray.size := by
      obtain ⟨h, _⟩ := List.getElem?_eq_some_iff.mp hu
      simpa using h
    have hh : X.A.in1.handled = none := I.ok.hd hc
    refine wpAny_pyNext_enum_itemD (Draws.tuple (A := X.A.in1) hh it a hai its.toArray) he ⟨hit, p⟩ hlt hne (by simp [hne, hea]) fun x' h' tk hP ho hst hT hsz hk => ?_
    obtain rfl : x' = u := Option.some.inj (hP.symm.trans hui)
    obtain ⟨hit', _⟩ := hst
    refine ⟨_, rfl, wpAny_letOwnedTupleGo_enum (s := { s with heap := h', toks := tk + 1 }) ho fun h'' he' sb => ?_⟩
    have hT2 : h''.get? s.heap.objs.size = some { cls := .type "tuple", data := .seq #[.int i tk, x'] } := (sb.2 _ (Nat.ne_of_gt hel)).trans hT
    have new : ObjOk X.prog X.w (upd H s.heap.objs.size (.tup [.int (i : Nat), x])) h'' s.heap.objs.size (.tup [.int (i : Nat), x]) :=
      ⟨by show 2 ≤ sizeLine; decide, [.int i tk, x'], .cons ⟨_, rfl⟩ (.cons ru .nil), ⟨_, hT2, rfl, _, rfl⟩⟩
    have I1 : Inv X pins σ (upd H s.heap.objs.size (.tup [.int (i : Nat), x])) { s with heap := h'', toks := tk + 1 } :=
      I.turnedNew (ch := [e, it]) (fun b ob hb q => (sb.2 b (fun z => hb (by simp [z]))).trans (hk b ob (fun z => hb (by simp [z])) (fun z => hb (by simp [z])) q)) hf (Nat.le_refl _) new
    refine ⟨.ref s.heap.objs.size, _, I1, rfl, ⟨_, x, rfl, I.hok.fresh (Nat.le_refl _), rfl, fun ys hy => by rw [I.tuple_inj hy hq]; exact hx⟩, ⟨⟨x', ?_⟩, hit'.at fun o q => (sb.2 it (Ne.symm hne)).trans q, hne⟩, fun b hb => ?_⟩
    · have e1 : ((i + 1 : Nat) : Int) = (i : Int) + 1 := by omega
      rw [e1]; exact he'
    · have hb' : b < s.heap.objs.size := by
        have e' : b = e ∨ b = it := by simpa using hb
        rcases e' with z | z
        · rw [z]; exact hel
        · rw [z]; exact hil
      rw [upd_ne (Nat.ne_of_lt hb')]
      exact (hf b hb).1
  done := by
    intro X hP hw hK hc i pins s σ H E I hf st hg
    subst hP hw hK
    obtain ⟨⟨old, he⟩, hit, hne⟩ := st
    obtain ⟨xs, hq, hx⟩ := hg
    obtain ⟨its, rv, p, hz⟩ := I.tuple hq
    obtain ⟨f0, f1, f2, f3, f4, f5⟩ := hf it (by simp)
    have hl := rv.length
    exact enum_endT (I.ok.hd hc) he hit p (by simp; omega) fun h' eb => ⟨rfl, I.turned (t' := s.toks) (fun b o hb q => eb b o hb q) f0 f1 f3 f4 f5⟩
  self := fun A i s Q E st h => let ⟨⟨_, he⟩, _⟩ := st; wpAny_pyIter_enum he h
def iEnumA (K : PySem.W.Frag) (ta : TA) : TI := fun σ H R => ta σ H fun vs H1 => ∃ a xs, vs = [.ref a] ∧ ((SqL K H1 a xs ∧ R (Ite K a) H1) ∨ (SqT K H1 a xs ∧ R (IteT K a) H1))
theorem pi_enumA {X : Cx} {e : Expr} {ta : TA} {p pos tpos : Pos} {elts : List Expr} {kk : Nat} (hg : Gl X "enumerate") (hm : X.mg "enumerate" = none) (ha : PA X [e] ta) (hs : starEach [e] X.env = [(false, eval e X.env)] := by rfl) :
    PI X (.Tuple elts kk tpos) (.Call (.Name "enumerate" p) [e] [] pos) (iEnumA X.K ta) := by
  refine ⟨fun pins s σ H R I h => ?_⟩
  refine Call_ (ld_blt I hg hm boot_enumerate (PyProof.Rows.callWith_type1 (thn (ha.run pos pins s σ H _ I h) fun us s1 ⟨vs, H1, I1, r1, q1⟩ => ?_) hs rfl))
  obtain ⟨a, xs, ex, q⟩ := q1
  subst ex
  cases r1 with
  | cons r rr =>
    cases rr
    cases r
    have fpk : ∀ b ∈ [s1.heap.objs.size + 1, s1.heap.objs.size], s1.heap.objs.size ≤ b := fun b hb => by
      have e' : b = s1.heap.objs.size + 1 ∨ b = s1.heap.objs.size := by simpa using hb
      rcases e' with z | z
      · rw [z]; exact Nat.le_add_right _ _
      · rw [z]; exact Nat.le_refl _
    rcases q with ⟨hq, q⟩ | ⟨hq, q⟩
    · obtain ⟨its, rv, p', hz⟩ := I1.list hq
      refine call_enumerate_list p'.isList fun h' he hit hsz hk => wpAny_pyIter_enum he ?_
      have I2 : Inv X pins σ H1 { s1 with heap := h' } := I1.kept (t' := s1.toks) hk
      exact ⟨s1.heap.objs.size + 1, [s1.heap.objs.size + 1, s1.heap.objs.size], _, _, H1, rfl, I2, turn_enum a (s1.heap.objs.size + 1) s1.heap.objs.size, ⟨⟨.none, he⟩, hit, Nat.succ_ne_self _⟩, fun b hb => I1.fpOk (fpk b hb) (I1.hok.fresh (fpk b hb)), q⟩
    · obtain ⟨its, rv, p', hz⟩ := I1.tuple hq
      refine enum_begins1 (begins_tuple a its.toArray) p' fun h' he hit hsz hk => wpAny_pyIter_enum he ?_
      have I2 : Inv X pins σ H1 { s1 with heap := h' } := I1.kept (t' := s1.toks) hk
      exact ⟨s1.heap.objs.size + 1, [s1.heap.objs.size + 1, s1.heap.objs.size], _, _, H1, rfl, I2, turn_enumT a (s1.heap.objs.size + 1) s1.heap.objs.size, ⟨⟨.none, he⟩, ⟨_, hit, rfl, rfl⟩, Nat.succ_ne_self _⟩, fun b hb => I1.fpOk (fpk b hb) (I1.hok.fresh (fpk b hb)), q⟩
section
variable {X : Cx} {g : G} {W : WX} {M1 : List Addr} {ds1 : DS} {H1 : Hp}
theorem itd_enumT {l : List D} {a : Addr} {xs : List V} (hq : (¬ g.own M1 ds1 a ∧ Rd H1 a (.tup xs)) ∨ WrT X.K a xs) (r : RepL X.K (g.own M1 ds1) H1 l xs) : ItD X g (IteT X.K a) (enumD 0 l) M1 ds1 H1 := by
  intro g' i M' ds' σ' H' R m
  have hq' : SqT X.K H' a xs := by
    rcases hq with ⟨n, q⟩ | q
    · exact .inl (m.rd (fun ps z => nomatch z) n q)
    · exact .inr q
  have r' := RepL.mv m _ _ r
  rw [enumD_get]
  refine ⟨fun d hd => ?_, fun hn => ⟨xs, hq', by rw [RepL.length r']; exact List.getElem?_eq_none_iff.mp (by simpa using hn)⟩⟩
  cases hl : l[i]? with
  | none => rw [hl] at hd; cases hd
  | some y =>
    rw [hl] at hd
    cases hd
    obtain ⟨v, hv, rv⟩ := r'.get hl
    refine ⟨⟨xs, v, hq', hv⟩, fun x H'' ⟨T, x', e1, hT, e2, e3⟩ => ?_⟩
    subst e1; subst e2
    have : x' = v := Option.some.inj ((e3 xs hq').symm.trans hv)
    subst this
    rw [Nat.zero_add]
    exact R.tup2 hT ⟨_, _, rfl, rfl, _, _, rfl, rv, rfl⟩
def kSeq1 (P : List D → Prop) : List Z → Prop
  | [.d (.lst l)] => P l
  | [.d (.lsf l)] => P l
  | [.d (.tup l)] => P l
  | _ => False
def dEnumA (ta : TLi) : TIt := fun ds Q E => ta ds (fun zs ds1 => kSeq1 (fun l => Q (enumD 0 l) ds1) zs) E
theorem pxi_enumA {a : Expr} {ta : TLi} {p pos tpos : Pos} {elts : List Expr} {kk : Nat} (hg : Gl X "enumerate") (hm : X.mg "enumerate" = none) (ha : PXA X g W [a] ta) (hs : starEach [a] X.env = [(false, eval a X.env)] := by rfl) :
    PXI X g W (.Tuple elts kk tpos) (.Call (.Name "enumerate" p) [a] [] pos) (dEnumA ta) := by
  refine .of (pi_enumA hg hm ha.pa hs) fun σ H M ds Q ED R t hE => ?_
  refine liftA_in R t hE fun zs ds1 M1 vs H1 R1 N1 rz q => ?_
  by_cases ht : ∃ l, zs = [.d (.tup l)]
  · obtain ⟨l, rfl⟩ := ht
    obtain ⟨v, rfl, a, xs, rfl, r1, hq⟩ := zs1 rz
    exact ⟨a, xs, rfl, .inr ⟨hq.elim (fun z => .inl z.2) .inr, _, ds1, M1, R1, N1, itd_enumT hq r1, q⟩⟩
  · have q : kLst1 (fun l => Q (enumD 0 l) ds1) zs := by
      unfold kSeq1 at q
      split at q
      · exact q
      · exact q
      · exact (ht ⟨_, rfl⟩).elim
      · exact q.elim
    obtain ⟨l, a, xs, rfl, r, hq, q⟩ := lst1D rz q
    exact ⟨a, xs, rfl, .inl ⟨sqL_of hq, _, ds1, M1, R1, N1, itd_enum hq r, q⟩⟩
end
end L3

set_option Elab.async false
set_option linter.all false
set_option maxRecDepth 100000
set_option maxHeartbeats 1000000
namespace L3
open PySem PySem.Spec PyProof.Rows L2
section
variable {X : Cx} {g : G}
def rdStr1 : List Z → DS → QZ → Prop := fun zs ds Q => match zs with
  | [.d (.int i)] => Bd 1900 i ∧ Q (.d (.str (toString i))) ds
  | _ => False
theorem cd_str : CallD X g (.type "str") rdStr1 := .of call_str_int fun σ H M ds zs vs QD R rz h => by
  unfold rdStr1 at h
  split at h
  · obtain ⟨v, rfl, r1⟩ := zs1 rz
    cases r1
    exact ⟨_, rfl, bd_log (h.1.mono (by decide)) (by decide), .same R (z := .d (.str _)) rfl h.2⟩
  · exact h.elim
/-- a thing just made, as data -/
def rdFrz (z : Z) (ds : DS) (Q : QZ) : Prop := match z with
  | .m n => match ds.w[n]? with
    | some (some (.dic ks l)) => Q (.d (.dic ks l)) (ds.frz n (.dic ks l))
    | _ => False
  | _ => False
def dFrz (t : TD) : TD := fun ds Q E => t ds (fun z ds1 => rdFrz z ds1 Q) E
theorem px_frz {W : WX} {e : Expr} {t : TD} (h : PX X g W e t) : PX X g W e (dFrz t) := by
  refine ⟨fun pins s σ H M ds QD ED I R ht hE => ?_⟩
  refine thn (h.run pins s σ H M ds _ ED I R ht hE) fun u s1 ⟨z, ds1, M1, v, H1, I1, r1, R1, N1, rz, q⟩ => ?_
  replace q : rdFrz z ds1 QD := q
  unfold rdFrz at q
  split at q
  · split at q
    · rename_i n ks l e2
      obtain ⟨a, ha, rfl⟩ := rz
      obtain ⟨R', N, rx⟩ := R1.frz (x := .dic ks l) e2 ha rfl
      exact ⟨.d (.dic ks l), _, M1, _, H1, I1, r1, R', N1.trans N, rx, q⟩
    · exact q.elim
  · exact q.elim
end
def seqL : D → Option (List D)
  | .lst l => some l
  | .lsf l => some l
  | .tup l => some l
  | _ => none
theorem seqL_of {x : D} {l : List D} (h : seqL x = some l) : x = .lst l ∨ x = .lsf l ∨ x = .tup l := by
  cases x <;> simp [seqL] at h <;> subst h <;> simp
theorem seqL_isSeq {x : D} : x.isSeq = (seqL x).isSome := by cases x <;> rfl
theorem seqL_plain {x : D} {l : List D} (h : seqL x = some l) : x.plain = true := by
  rcases seqL_of h with rfl | rfl | rfl <;> rfl
def isRecB : D → Bool
  | .tup [.str s, .int _, .int _] => isIn (.str s) [.str "at least", .str "at most"]
  | _ => false
theorem rec_isB (r : Rc) : isRecB r.d = true := rc_in r.lo
theorem rec_of {x : D} (h : isRecB x = true) : ∃ r : Rc, x = r.d := by
  unfold isRecB at h
  split at h
  · rename_i s t n
    have e : s = "at least" ∨ s = "at most" := by
      unfold isIn inV at h
      simp only [List.map_cons, List.map_nil, List.any_cons, List.any_nil, Bool.or_false, Bool.or_eq_true] at h
      exact h.imp (fun z => (beq_iff_eq.mp (show (_ == _) = true from z)).symm) (fun z => (beq_iff_eq.mp (show (_ == _) = true from z)).symm)
    rcases e with rfl | rfl
    · exact ⟨⟨true, t, n⟩, rfl⟩
    · exact ⟨⟨false, t, n⟩, rfl⟩
  · cases h
def natI : Option Nat → Option Int
  | none => none
  | some n => some (n : Int)
theorem natI_none {o : Option Nat} : natI o = none ↔ o = none := by cases o <;> simp [natI]
/-- the first fault of a list of records -/
def badRecs (x : D) : Option Int := match seqL x with
  | none => some (-1)
  | some l => if 200 < l.length then some (-1) else natI (l.findIdx? fun y => !isRecB y)
theorem recs_of {x : D} (h : badRecs x = none) : ∃ l : List Rc, seqL x = some (l.map Rc.d) ∧ l.length ≤ 200 := by
  unfold badRecs at h
  cases e : seqL x with
  | none => rw [e] at h; cases h
  | some l =>
    rw [e] at h
    dsimp only at h
    split at h
    · cases h
    · rename_i hl
      have h1 : ∀ y ∈ l, isRecB y = true := by
        have := natI_none.mp h
        intro y hy
        have h2 := List.findIdx?_eq_none_iff.mp this y hy
        simpa using h2
      have : ∃ r : List Rc, l = r.map Rc.d := by
        clear h e hl
        induction l with
        | nil => exact ⟨[], rfl⟩
        | cons a l ih =>
          obtain ⟨r, rfl⟩ := rec_of (h1 a List.mem_cons_self)
          obtain ⟨rs, e⟩ := ih fun y hy => h1 y (List.mem_cons_of_mem _ hy)
          exact ⟨r :: rs, by rw [e]; rfl⟩
      obtain ⟨r, rfl⟩ := this
      exact ⟨r, rfl, by rw [List.length_map] at hl; omega⟩
theorem recs_ok {x : D} {l : List Rc} (h : seqL x = some (l.map Rc.d)) (hl : l.length ≤ 200) : badRecs x = none := by
  unfold badRecs
  rw [h]
  dsimp only
  rw [if_neg (by rw [List.length_map]; omega), natI_none, List.findIdx?_eq_none_iff]
  intro y hy
  obtain ⟨r, _, rfl⟩ := List.mem_map.mp hy
  rw [rec_isB]; rfl
/-- a fault behind right records -/
theorem recs_bad {x : D} {l : List Rc} {y : D} {r : List D} (h : seqL x = some (l.map Rc.d ++ y :: r)) (hy : isRecB y = false) (hl : (l.map Rc.d ++ y :: r).length ≤ 200) : badRecs x = some (l.length : Int) := by
  unfold badRecs
  rw [h]
  dsimp only
  rw [if_neg (by omega)]
  have : (l.map Rc.d ++ y :: r).findIdx? (fun y => !isRecB y) = some l.length := by
    rw [List.findIdx?_append]
    have e : (l.map Rc.d).findIdx? (fun y => !isRecB y) = none := by
      rw [List.findIdx?_eq_none_iff]
      intro y hy
      obtain ⟨r, _, rfl⟩ := List.mem_map.mp hy
      rw [rec_isB]; rfl
    rw [e, List.findIdx?_cons, hy]
    simp
  rw [this]; rfl
/-- what the walk of the items meets -/
theorem recs_at {x : D} {l : List D} (h : seqL x = some l) (hl : l.length ≤ 200) {i : Nat} {y : D} (hy : l[i]? = some y) (hb : isRecB y = false) (hp : ∀ j z, j < i → l[j]? = some z → isRecB z = true) : badRecs x = some (i : Int) := by
  unfold badRecs
  rw [h]
  dsimp only
  rw [if_neg (by omega)]
  obtain ⟨hi, rfl⟩ := List.getElem?_eq_some_iff.mp hy
  have : l.findIdx? (fun y => !isRecB y) = some i := by
    rw [List.findIdx?_eq_some_iff_getElem]
    refine ⟨hi, by rw [hb]; rfl, fun j hj => ?_⟩
    rw [hp j _ hj (List.getElem?_eq_getElem (by omega))]; simp
  rw [this]; rfl
theorem recs_all {x : D} {l : List D} (h : seqL x = some l) (hl : l.length ≤ 200) (hp : ∀ j z, j < l.length → l[j]? = some z → isRecB z = true) : badRecs x = none := by
  unfold badRecs
  rw [h]
  dsimp only
  rw [if_neg (by omega), natI_none, List.findIdx?_eq_none_iff]
  intro y hy
  obtain ⟨j, hj⟩ := List.getElem?_of_mem hy
  obtain ⟨hjl, _⟩ := List.getElem?_eq_some_iff.mp hj
  rw [hp j y hjl hj]; rfl
end L3

set_option Elab.async false
set_option linter.all false
set_option maxRecDepth 100000
set_option maxHeartbeats 2000000
namespace L3
open PySem PySem.Spec PyProof.Rows L2
/-- the name f stands first at j -/
def nmAt (ns : List Str) (j : Nat) (f : Str) : Bool := decide (ns[j]? = some f) && !(ns.take j).elem f
def putN {α : Type} : Nat → α → List α → List α
  | _, v, [] => [v]
  | 0, v, _ :: r => v :: r
  | j + 1, v, x :: r => x :: putN j v r
theorem nmAt_succ {n : Str} {ns : List Str} {j : Nat} {f : Str} (h : nmAt (n :: ns) (j + 1) f = true) : n ≠ f ∧ nmAt ns j f = true := by
  unfold nmAt at h ⊢
  rw [Bool.and_eq_true] at h ⊢
  obtain ⟨h1, h2⟩ := h
  have h1 := of_decide_eq_true h1
  have h2' : ¬ f ∈ n :: ns.take j := fun z => by
    have := List.elem_iff.mpr z
    rw [show (n :: ns).take (j + 1) = n :: ns.take j from rfl, this] at h2
    cases h2
  rw [List.mem_cons, not_or] at h2'
  refine ⟨Ne.symm h2'.1, decide_eq_true (by simpa using h1), ?_⟩
  cases e : (ns.take j).elem f with
  | false => rfl
  | true => exact absurd (List.elem_iff.mp e) h2'.2
theorem nmAt_zero {n : Str} {ns : List Str} {f : Str} (h : nmAt (n :: ns) 0 f = true) : n = f := by
  unfold nmAt at h
  rw [Bool.and_eq_true] at h
  have := of_decide_eq_true h.1
  simpa using this
theorem nmAt_nil {j : Nat} {f : Str} (h : nmAt [] j f = true) : False := by
  unfold nmAt at h
  simp at h
theorem nmAt_lt {ns : List Str} {j : Nat} {f : Str} (h : nmAt ns j f = true) : j < ns.length := by
  unfold nmAt at h
  rw [Bool.and_eq_true] at h
  exact (List.getElem?_eq_some_iff.mp (of_decide_eq_true h.1)).1
theorem zip_lookup {α : Type} {f : Str} : ∀ {ns : List Str} {j : Nat} {xs : List α}, nmAt ns j f = true → (ns.zip xs).lookup f = xs[j]?
  | [], j, xs, h => (nmAt_nil h).elim
  | n :: ns, j, [], h => by simp
  | n :: ns, 0, x :: xs, h => by
    obtain rfl := nmAt_zero h
    simp [List.lookup]
  | n :: ns, j + 1, x :: xs, h => by
    obtain ⟨h1, h2⟩ := nmAt_succ h
    have : (f == n) = false := by rw [beq_eq_false_iff_ne]; exact Ne.symm h1
    rw [List.zip_cons_cons, List.lookup_cons, this]
    rw [zip_lookup h2]; simp
theorem nmAt_take {ns : List Str} {j k : Nat} {f : Str} (h : nmAt ns j f = true) (hk : j < k) : nmAt (ns.take k) j f = true := by
  unfold nmAt at h ⊢
  rw [Bool.and_eq_true] at h ⊢
  refine ⟨?_, ?_⟩
  · have := of_decide_eq_true h.1
    rw [List.getElem?_take_of_lt hk]
    exact h.1
  · rw [List.take_take, Nat.min_eq_left (Nat.le_of_lt hk)]; exact h.2
theorem putF_zip {f : Str} {v : V} : ∀ {ns : List Str} {j : Nat} {xs : List V}, nmAt ns j f = true → xs.length ≤ ns.length → j ≤ xs.length → putF f v ((ns.take xs.length).zip xs) = (ns.take (putN j v xs).length).zip (putN j v xs)
  | [], j, xs, h, _, _ => (nmAt_nil h).elim
  | n :: ns, 0, [], h, _, _ => by
    obtain rfl := nmAt_zero h
    rfl
  | n :: ns, j + 1, [], h, _, hj => by simp at hj
  | n :: ns, 0, x :: xs, h, _, _ => by
    obtain rfl := nmAt_zero h
    show (if n = n then (n, v) :: _ else _) = _
    rw [if_pos rfl]
    rfl
  | n :: ns, j + 1, x :: xs, h, hl, hj => by
    obtain ⟨h1, h2⟩ := nmAt_succ h
    show (if n = f then (n, v) :: _ else (n, x) :: putF f v ((ns.take xs.length).zip xs)) = (n, x) :: (ns.take (putN j v xs).length).zip (putN j v xs)
    rw [if_neg h1, putF_zip h2 (by simpa using hl) (by simpa using hj)]
theorem putN_length {α : Type} {v : α} : ∀ {j : Nat} {xs : List α} {k : Nat}, xs.length ≤ k → j < k → (putN j v xs).length ≤ k
  | j, [], k, h, hj => by cases j <;> simp [putN] <;> omega
  | 0, x :: xs, k, h, hj => by simpa [putN] using h
  | j + 1, x :: xs, 0, h, hj => by omega
  | j + 1, x :: xs, k + 1, h, hj => by
    have := putN_length (v := v) (j := j) (xs := xs) (k := k) (by simpa using h) (by omega)
    simpa [putN] using this
section
variable {K : PySem.W.Frag} {own : Addr → Prop} {M : List Addr} {H : Hp}
theorem RepZs.putN {z : Z} {v : V} (rz : RepZ K own M H z v) : ∀ {j : Nat} {l : List Z} {xs : List V}, RepZs K own M H l xs → RepZs K own M H (L3.putN j z l) (L3.putN j v xs)
  | j, [], xs, h => by
    cases h
    cases j <;> exact ⟨v, [], rfl, rz, rfl⟩
  | 0, c :: l, xs, h => by
    obtain ⟨u, r, rfl, h1, h2⟩ := h
    exact ⟨v, r, rfl, rz, h2⟩
  | j + 1, c :: l, xs, h => by
    obtain ⟨u, r, rfl, h1, h2⟩ := h
    exact ⟨u, _, rfl, h1, RepZs.putN rz h2⟩
end
def kAtD (Q : D → Prop) : Option D → Prop
  | some x => Q x
  | none => False
def kAtZ (Q : Z → Prop) : Option Z → Prop
  | some x => Q x
  | none => False
def rdFld (Cn : Str) (ns0 : List Str) (j : Nat) (z : Z) (ds : DS) (Q : QZ) : Prop := match z with
  | .d (.ins C ns l) => (C = Cn ∧ ns = ns0) ∧ kAtD (fun x => Q (.d x) ds) l[j]?
  | .m n => match ds.w[n]? with
    | some (some (.ins C ns zs)) => (C = Cn ∧ ns = ns0.take zs.length) ∧ kAtZ (fun x => Q x ds) zs[j]?
    | _ => False
  | _ => False
def dFld (Cn : Str) (ns0 : List Str) (j : Nat) (t : TD) : TD := fun ds Q E => t ds (fun z ds1 => rdFld Cn ns0 j z ds1 Q) E
def rdFldS (Cn : Str) (ns0 : List Str) (j : Nat) (y z : Z) (ds : DS) (P : DS → Prop) : Prop := match z with
  | .m n => match ds.w[n]? with
    | some (some (.ins C ns zs)) => (C = Cn ∧ ns = ns0.take zs.length ∧ Nat.ble j zs.length = true) ∧ P (ds.put n (.ins Cn (ns0.take (putN j y zs).length) (putN j y zs)))
    | _ => False
  | _ => False
def dFldS (Cn : Str) (ns0 : List Str) (j : Nat) (tv to : TD) : TSd := fun De ds => tv ds (fun y ds1 => to ds1 (fun z ds2 => rdFldS Cn ns0 j y z ds2 De.nx) De.er) De.er
def dgFld (Cn : Str) (ns0 : List Str) (j : Nat) (to : TD) : TGd := fun y ds P => to ds (fun z ds1 => rdFldS Cn ns0 j y z ds1 P) (fun _ _ => False)
/-- what a class of the program is for these rules -/
structure ClsF (K : PySem.W.Frag) (Cn : Str) (f : Str) : Prop where
  c : Cls K (He.ga K Cn)
  n : NoAttr K (He.ga K Cn) f
section
variable {X : Cx} {g : G} {W : WX} {pos pos' apos : Pos} {o value : Expr} {to tv : TD} {Cn f : Str} {ns0 : List Str} {j : Nat}
theorem px_fld (k : ClsF X.K Cn f) (hj : nmAt ns0 j f = true) (ho : PX X g W o to) (hb : attributeBase o f X.env (eval o X.env) = eval o X.env := by rfl) : PX X g W (.Attribute o f pos) (dFld Cn ns0 j to) := by
  refine ⟨fun pins s σ H M ds QD ED I R h hE => ?_⟩
  refine attr_of hb (thn (ho.run pins s σ H M ds _ ED I R h hE) fun u s1 ⟨z, ds1, M1, v, H1, I1, r1, R1, N1, rz, q⟩ => ?_)
  replace q : rdFld Cn ns0 j z ds1 QD := q
  unfold rdFld at q
  split at q
  · rename_i C ns l
    obtain ⟨⟨rfl, rfl⟩, q⟩ := q
    obtain ⟨a, dx, xs, rfl, rl, hl, nn, e⟩ := rz
    obtain rfl : u = Value.ref a := r1
    cases hx : l[j]? with
    | none => rw [hx] at q; exact q.elim
    | some x =>
      rw [hx] at q
      obtain ⟨v2, h1, h2⟩ := rl.get hx
      exact getattr_ok I1 e k.c k.n (by rw [zip_lookup hj]; exact h1) fun u' s2 I2 ru => ⟨.d x, ds1, M1, v2, H1, I2, ru, R1, N1, h2, q⟩
  · split at q
    · rename_i n C ns zs hw
      obtain ⟨⟨rfl, rfl⟩, q⟩ := q
      obtain ⟨a, ha, rfl⟩ := rz
      obtain rfl : u = Value.ref a := r1
      obtain ⟨dx, xs, rl, hl, e⟩ := R1.obj _ _ _ hw ha
      cases hx : zs[j]? with
      | none => rw [hx] at q; exact q.elim
      | some x =>
        rw [hx] at q
        obtain ⟨v2, h1, h2⟩ := rl.get hx
        exact getattr_ok I1 e k.c k.n (by rw [zip_lookup (nmAt_take hj (List.getElem?_eq_some_iff.mp hx).1)]; exact h1) fun u' s2 I2 ru => ⟨x, ds1, M1, v2, H1, I2, ru, R1, N1, h2, q⟩
    · exact q.elim
  · exact q.elim
theorem fldS_ok {pins : List (Addr × Obj)} {σ : L2.St} {H : Hp} {s : Shared} {M : List Addr} {ds : DS} {y z : Z} {v w : V} {u ov : Value} {P : DS → Prop} (k : ClsF X.K Cn f) (hj : nmAt ns0 j f = true) (hL : Nat.ble ns0.length 999 = true)
    (I : L2.Inv X pins σ H s) (R : RepS X.K g M ds σ H) (ry : RepZ X.K (g.own M ds) M H y v) (vy : RelV v u) (rz : RepZ X.K (g.own M ds) M H z w) (vz : RelV w ov) (h : rdFldS Cn ns0 j y z ds P) :
    wpAny (model X.prog X.w) X.A (setAttr ov f u) (fun _ s' => ND X g pins M ds H P s') X.xe s := by
  unfold rdFldS at h
  split at h
  · split at h
    · rename_i n C ns zs hw
      obtain ⟨⟨rfl, rfl, hb⟩, q⟩ := h
      obtain ⟨a, ha, rfl⟩ := rz
      obtain rfl : ov = Value.ref a := vz
      obtain ⟨dx, xs, rl, hl, e⟩ := R.obj _ _ _ hw ha
      have hlx := RepZs.length rl
      have hjl : j ≤ xs.length := by rw [hlx]; exact Nat.le_of_ble_eq_true hb
      have hzl : zs.length ≤ ns0.length := by
        rw [List.length_take] at hl; omega
      have hL := Nat.le_of_ble_eq_true hL
      refine setattr_ok I e k.c k.n (by rw [List.length_zip, List.length_take]; omega) vy fun s3 I3 => ?_
      rw [← hlx, putF_zip hj (by omega) hjl] at I3
      obtain ⟨R', N⟩ := R.put (c := .ins C (ns0.take (putN j y zs).length) (putN j y zs)) (o := .ins (He.ga X.K C) dx ((ns0.take (putN j v xs).length).zip (putN j v xs))) hw ha (fun _ z => nomatch z) (fun _ z => nomatch z) fun own' m => by
        have r2 := RepZs.putN (j := j) (ry.mv (M' := M) m ⟨[], by simp⟩) (rl.mv (M' := M) m ⟨[], by simp⟩)
        have e2 := RepZs.length r2
        refine ⟨dx, _, r2, ?_, ?_⟩
        · rw [List.length_take]
          exact Nat.min_eq_left (putN_length hzl (nmAt_lt hj))
        · rw [upd_same, e2]
      exact ⟨_, M, σ, _, I3, R', N, q⟩
    · exact h.elim
  · exact h.elim
theorem pxs_fld (k : ClsF X.K Cn f) (hj : nmAt ns0 j f = true) (hL : Nat.ble ns0.length 999 = true) (hv : PX X g W value tv) (ho : PX X g W o to) (hs : swapsWith value (some (.Attribute o f pos')) pos.line X.env = pure false := by rfl) :
    PXS X g W (.Assign [.Attribute o f pos'] value pos) (dFldS Cn ns0 j tv to) := by
  refine ⟨fun pins s σ H M ds De I R h hE => ?_⟩
  refine plainObj_wpAny_Assign_Attribute (thn (hv.run pins s σ H M ds _ _ I R h hE.ew) fun u s1 ⟨y, ds1, M1, v, H1, I1, r1, R1, N1, z1, q⟩ => thn (ho.run pins s1 σ H1 M1 ds1 _ _ I1 R1 q (hE.nxt N1).ew) fun ov s2 ⟨z, ds2, M2, w, H2, I2, r2, R2, N2, z2, q2⟩ => ?_) hs
  exact thn (fldS_ok k hj hL I2 R2 (z1.mv N2.mv N2.pre) r1 z2 r2 q2) fun _ s3 q3 => ND.nxt (N1.trans N2) q3
theorem pxg_fld (k : ClsF X.K Cn f) (hj : nmAt ns0 j f = true) (hL : Nat.ble ns0.length 999 = true) (ho : PX X g W o to) : PXG X g (.Attribute o f pos') (dgFld Cn ns0 j to) := by
  refine ⟨fun pins s σ H M ds z v u P I R rz r h => ?_⟩
  refine PySem.W.kas_attr (thn (ho.run pins s σ H M ds _ (fun _ _ => False) I R h (fun _ _ _ _ _ _ e => e.elim)) fun ov s2 ⟨y, ds2, M2, w, H2, I2, r2, R2, N2, z2, q2⟩ => ?_)
  exact thn (fldS_ok k hj hL I2 R2 (rz.mv N2.mv N2.pre) r z2 r2 q2) fun _ s3 q3 => ND.nxt N2 q3
end
theorem lookup_none_of {α : Type} {m : Str} : ∀ {ns : List Str} {xs : List α}, ns.elem m = false → (ns.zip xs).lookup m = none
  | [], xs, h => by simp
  | n :: ns, [], h => by simp
  | n :: ns, x :: xs, h => by
    have h' : ¬ m ∈ n :: ns := fun z => by
      rw [List.elem_iff.mpr z] at h; cases h
    rw [List.mem_cons, not_or] at h'
    have e : (m == n) = false := by rw [beq_eq_false_iff_ne]; exact h'.1
    rw [List.zip_cons_cons, List.lookup_cons, e]
    refine lookup_none_of ?_
    cases e2 : ns.elem m with
    | false => rfl
    | true => exact absurd (List.elem_iff.mp e2) h'.2
theorem elem_take {m : Str} {ns : List Str} (k : Nat) (h : ns.elem m = false) : (ns.take k).elem m = false := by
  rw [Bool.eq_false_iff] at h ⊢
  intro z
  exact h (List.elem_eq_true_of_mem (List.mem_of_mem_take (List.elem_iff.mp z)))
/-- a method of a class: a def that is found there -/
structure MethF (gd : Bool) (P : Program) (w : World) (K : PySem.W.Frag) (mg : Str → Option Value) (base : Heap) (Cn m : Str) (ns0 : List Str) (k : Nat) (f : Addr) (fd : FuncData) (ps : List Str) (sp : Sp) : Prop where
  ok : FnG gd P w K mg base k f fd ps sp
  c : Cls K (He.ga K Cn)
  mt : Meth K (He.ga K Cn) m f
  no : ns0.elem m = false
def kMA (Cn : Str) (ns0 : List Str) (z : Z) (P : Prop) : Prop := match z with
  | .d (.ins C ns l) => (C = Cn ∧ ns = ns0) ∧ P
  | _ => False
def dMethA (Cn : Str) (ns0 : List Str) (S : SA) (dvs : List D) (to : TD) (t : TLi) : TD := fun ds Q E => to ds (fun z ds1 => kMA Cn ns0 z (t ds1 (fun zs ds2 => kA S dvs Q E (z :: zs) ds2) E)) E
def kMB (Cn : Str) (ns0 : List Str) (z : Z) (ds : DS) (P : Prop) : Prop := match z with
  | .m n => match ds.w[n]? with
    | some (some (.ins C ns zs)) => (C = Cn ∧ ns = ns0.take zs.length) ∧ P
    | _ => False
  | _ => False
def dMethB (Cn : Str) (ns0 : List Str) (S : SB) (dvs : List D) (to : TD) (t : TLi) : TD := fun ds Q E => to ds (fun z ds1 => kMB Cn ns0 z ds1 (t ds1 (fun zs ds2 => kB S dvs Q E (z :: zs) ds2) E)) E
section
variable {X : Cx} {g : G} {W : WX} {gd : Bool} {k : Nat} {f : Addr} {fd : FuncData} {ps : List Str} {T : List (Addr × Str)} {S : SA} {Sb : SB} {Cn m : Str} {ns0 : List Str} {p pos apos : Pos} {o e : Expr} {es : List Expr} {to : TD} {t : TLi} {dvs : List D} {dws : List V} {dus : List Value}
theorem px_methA {pl : Sem Bool} (F : MethF gd X.prog X.w X.K X.mg X.base Cn m ns0 k f fd ps (spA X.K T S)) (hb : Binds X.K fd ps dus) (hd : Vals dws dus) (hdd : ∀ own H, RepL X.K own H dvs dws) (hT : g.T = T) (hr : RoomG gd k X.A) (tk : Takes X W) (ho : PX X g W o to) (ha : PXA X g W (e :: es) t)
    (hst : starEach (e :: es) X.env = (false, eval e X.env) :: starEach es X.env := by rfl) (hpl : (backTo pos (starEach es X.env)).any (·.1) = false := by rfl)
    (ht : eval (.Call (.Attribute o m apos) (e :: es) [] pos) X.env = (do
      let ov ← eval o X.env
      standAt apos.atName
      let (f, first) ← holding [ov] (getMethod ov m pl)
      callWith pos f first (backTo pos (starEach (e :: es) X.env)) (backToKw pos (keywordEach [] X.env))) := by rfl) :
    PX X g W (.Call (.Attribute o m apos) (e :: es) [] pos) (dMethA Cn ns0 S dvs to t) := by
  refine ⟨fun pins s σ H M ds QD ED I R h hE => ?_⟩
  refine PySem.W.methodCall_KW (pl := pl) (thn (ho.run pins s σ H M ds _ ED I R h hE) fun u s1 ⟨z, ds1, M1, v, H1, I1, r1, R1, N1, rz, q⟩ => ?_) ht
  have q' : kMA Cn ns0 z (t ds1 (fun zs ds2 => kA S dvs QD ED (z :: zs) ds2) ED) := q
  unfold kMA at q'
  split at q'
  · rename_i C ns l
    obtain ⟨⟨rfl, rfl⟩, q'⟩ := q'
    have rz0 := rz
    obtain ⟨a, dx, xs, rfl, rl, hl, nn, e1⟩ := rz
    obtain rfl : u = Value.ref a := r1
    refine getmeth_ok I1 e1 F.c F.mt (lookup_none_of F.no) ?_
    refine PySem.W.callWith_K (first := [.ref a]) (h₀ := X.base) I.ok.mod.kin F.mt.kp (thn (ha.run pos pins s1 σ H1 M1 ds1 _ ED I1 R1 q' (hE.nxt N1)) fun us s2 ⟨zs, ds2, M2, vs, H2, I2, r2, R2, N2, rzs, q2⟩ => ⟨I2.kIn, ?_⟩) hst hpl
    replace q2 : kA S dvs QD ED (.d (.ins C ns l) :: zs) ds2 := q2
    unfold kA at q2
    split at q2
    · rename_i l2 el
      have el2 := unD_of el
      have rr : RepZs X.K (g.own M2 ds2) M2 H2 (.d (.ins C ns l) :: zs) (.ref a :: vs) := ⟨.ref a, vs, rfl, rz0.mv N2.mv N2.pre, rzs⟩
      rw [el2] at rr
      have sp := spA_in hT R2 (rr.toD.append (hdd _ _)) ((hE.nxt N1).nxt N2) q2
      have r3 : Vals (V.ref a :: vs ++ dws) (Value.ref a :: us ++ dus) := (show Vals (V.ref a :: vs) (Value.ref a :: us) from .cons rfl r2).append hd
      have hl : (Value.ref a :: us ++ dus).length = ps.length := by rw [← r3.length]; exact F.ok.len _ _ _ _ sp
      exact thn (run_fnX F.ok hr tk I2 (hb s2 (Value.ref a :: us) I2.kIn hl) r3 sp) fun _ _ h => (EPD.of h).nxt (N1.trans N2)
    · exact q2.elim
  · exact q'.elim
theorem px_methA0 {pl : Sem Bool} (F : MethF gd X.prog X.w X.K X.mg X.base Cn m ns0 k f fd ps (spA X.K T S)) (hb : Binds X.K fd ps dus) (hd : Vals dws dus) (hdd : ∀ own H, RepL X.K own H dvs dws) (hT : g.T = T) (hr : RoomG gd k X.A) (tk : Takes X W) (ho : PX X g W o to)
    (ht : eval (.Call (.Attribute o m apos) [] [] pos) X.env = (do
      let ov ← eval o X.env
      standAt apos.atName
      let (f, first) ← holding [ov] (getMethod ov m pl)
      callWith pos f first (backTo pos (starEach [] X.env)) (backToKw pos (keywordEach [] X.env))) := by rfl) :
    PX X g W (.Call (.Attribute o m apos) [] [] pos) (dMethA Cn ns0 S dvs to dNil) := by
  refine ⟨fun pins s σ H M ds QD ED I R h hE => ?_⟩
  refine PySem.W.methodCall_KW (pl := pl) (thn (ho.run pins s σ H M ds _ ED I R h hE) fun u s1 ⟨z, ds1, M1, v, H1, I1, r1, R1, N1, rz, q⟩ => ?_) ht
  have q' : kMA Cn ns0 z (kA S dvs QD ED [z] ds1) := q
  unfold kMA at q'
  split at q'
  · rename_i C ns l
    obtain ⟨⟨rfl, rfl⟩, q2⟩ := q'
    have rz0 := rz
    obtain ⟨a, dx, xs, rfl, rl, hl, nn, e1⟩ := rz
    obtain rfl : u = Value.ref a := r1
    refine getmeth_ok I1 e1 F.c F.mt (lookup_none_of F.no) ?_
    unfold kA at q2
    split at q2
    · rename_i l2 el
      have el2 := unD_of el
      have rr : RepZs X.K (g.own M1 ds1) M1 H1 [.d (.ins C ns l)] [.ref a] := ⟨.ref a, [], rfl, rz0, rfl⟩
      rw [el2] at rr
      have sp := spA_in hT R1 (rr.toD.append (hdd _ _)) (hE.nxt N1) q2
      have r3 : Vals ([V.ref a] ++ dws) ([Value.ref a] ++ dus) := (show Vals [V.ref a] [Value.ref a] from .cons rfl .nil).append hd
      have hl : ([Value.ref a] ++ dus).length = ps.length := by rw [← r3.length]; exact F.ok.len _ _ _ _ sp
      exact PySem.W.callWith_K0 (first := [.ref a]) I1.kIn F.mt.kp (thn (run_fnX F.ok hr tk I1 (hb s1 [Value.ref a] I1.kIn hl) r3 sp) fun _ _ h => (EPD.of h).nxt N1)
    · exact q2.elim
  · exact q'.elim
theorem px_methB {pl : Sem Bool} (F : MethF gd X.prog X.w X.K X.mg X.base Cn m ns0 k f fd ps (spB X.K T Sb)) (hb : Binds X.K fd ps dus) (hd : Vals dws dus) (hdd : ∀ own H, RepL X.K own H dvs dws) (hT : g.T = T) (hr : RoomG gd k X.A) (tk : Takes X W) (ho : PX X g W o to) (ha : PXA X g W (e :: es) t)
    (hst : starEach (e :: es) X.env = (false, eval e X.env) :: starEach es X.env := by rfl) (hpl : (backTo pos (starEach es X.env)).any (·.1) = false := by rfl)
    (ht : eval (.Call (.Attribute o m apos) (e :: es) [] pos) X.env = (do
      let ov ← eval o X.env
      standAt apos.atName
      let (f, first) ← holding [ov] (getMethod ov m pl)
      callWith pos f first (backTo pos (starEach (e :: es) X.env)) (backToKw pos (keywordEach [] X.env))) := by rfl) :
    PX X g W (.Call (.Attribute o m apos) (e :: es) [] pos) (dMethB Cn ns0 Sb dvs to t) := by
  refine ⟨fun pins s σ H M ds QD ED I R h hE => ?_⟩
  refine PySem.W.methodCall_KW (pl := pl) (thn (ho.run pins s σ H M ds _ ED I R h hE) fun u s1 ⟨z, ds1, M1, v, H1, I1, r1, R1, N1, rz, q⟩ => ?_) ht
  have q' : kMB Cn ns0 z ds1 (t ds1 (fun zs ds2 => kB Sb dvs QD ED (z :: zs) ds2) ED) := q
  unfold kMB at q'
  split at q'
  · split at q'
    · rename_i n _ C ns zz hw
      obtain ⟨⟨rfl, rfl⟩, q'⟩ := q'
      obtain ⟨a, ha1, rfl⟩ := rz
      obtain rfl : u = Value.ref a := r1
      obtain ⟨dx, xs, rl, hl, e1⟩ := R1.obj _ _ _ hw ha1
      refine getmeth_ok I1 e1 F.c F.mt (lookup_none_of (elem_take _ F.no)) ?_
      refine PySem.W.callWith_K (first := [.ref a]) (h₀ := X.base) I.ok.mod.kin F.mt.kp (thn (ha.run pos pins s1 σ H1 M1 ds1 _ ED I1 R1 q' (hE.nxt N1)) fun us s2 ⟨zs, ds2, M2, vs, H2, I2, r2, R2, N2, rzs, q2⟩ => ⟨I2.kIn, ?_⟩) hst hpl
      replace q2 : kB Sb dvs QD ED (.m n :: zs) ds2 := q2
      unfold kB at q2
      simp only at q2
      split at q2
      · rename_i c l hc el
        obtain rfl := unD_of el
        have sp := spB_in hT R2 (show RepZ X.K (g.own M2 ds2) M2 H2 (.m n) (.ref a) from ⟨a, pre_get N2.pre ha1, rfl⟩) (rzs.toD.append (hdd _ _)) hc q2.1 ((hE.nxt N1).nxt N2) q2.2
        have r3 : Vals (V.ref a :: (vs ++ dws)) (Value.ref a :: us ++ dus) := .cons rfl (r2.append hd)
        have hl : (Value.ref a :: us ++ dus).length = ps.length := by rw [← r3.length]; exact F.ok.len _ _ _ _ sp
        exact thn (run_fnX F.ok hr tk I2 (hb s2 (Value.ref a :: us) I2.kIn hl) r3 sp) fun _ _ h => (EPD.of h).nxt (N1.trans N2)
      · exact q2.elim
    · exact q'.elim
  · exact q'.elim
theorem px_methB0 {pl : Sem Bool} (F : MethF gd X.prog X.w X.K X.mg X.base Cn m ns0 k f fd ps (spB X.K T Sb)) (hb : Binds X.K fd ps dus) (hd : Vals dws dus) (hdd : ∀ own H, RepL X.K own H dvs dws) (hT : g.T = T) (hr : RoomG gd k X.A) (tk : Takes X W) (ho : PX X g W o to)
    (ht : eval (.Call (.Attribute o m apos) [] [] pos) X.env = (do
      let ov ← eval o X.env
      standAt apos.atName
      let (f, first) ← holding [ov] (getMethod ov m pl)
      callWith pos f first (backTo pos (starEach [] X.env)) (backToKw pos (keywordEach [] X.env))) := by rfl) :
    PX X g W (.Call (.Attribute o m apos) [] [] pos) (dMethB Cn ns0 Sb dvs to dNil) := by
  refine ⟨fun pins s σ H M ds QD ED I R h hE => ?_⟩
  refine PySem.W.methodCall_KW (pl := pl) (thn (ho.run pins s σ H M ds _ ED I R h hE) fun u s1 ⟨z, ds1, M1, v, H1, I1, r1, R1, N1, rz, q⟩ => ?_) ht
  have q' : kMB Cn ns0 z ds1 (kB Sb dvs QD ED [z] ds1) := q
  unfold kMB at q'
  split at q'
  · split at q'
    · rename_i n _ C ns zz hw
      obtain ⟨⟨rfl, rfl⟩, q2⟩ := q'
      obtain ⟨a, ha1, rfl⟩ := rz
      obtain rfl : u = Value.ref a := r1
      obtain ⟨dx, xs, rl, hl, e1⟩ := R1.obj _ _ _ hw ha1
      refine getmeth_ok I1 e1 F.c F.mt (lookup_none_of (elem_take _ F.no)) ?_
      unfold kB at q2
      simp only at q2
      split at q2
      · rename_i c l hc el
        obtain rfl : l = [] := by cases el; rfl
        have sp := spB_in hT R1 (show RepZ X.K (g.own M1 ds1) M1 H1 (.m n) (.ref a) from ⟨a, ha1, rfl⟩) (hdd _ _) hc q2.1 (hE.nxt N1) q2.2
        have r3 : Vals (V.ref a :: dws) (Value.ref a :: dus) := .cons rfl hd
        have hl : ([Value.ref a] ++ dus).length = ps.length := by
          have := r3.length
          rw [F.ok.len _ _ _ _ sp] at this
          exact this.symm
        exact PySem.W.callWith_K0 (first := [.ref a]) I1.kIn F.mt.kp (thn (run_fnX F.ok hr tk I1 (hb s1 [Value.ref a] I1.kIn hl) r3 sp) fun _ _ h => (EPD.of h).nxt N1)
      · exact q2.elim
    · exact q'.elim
  · exact q'.elim
end
structure MakeF (gd : Bool) (P : Program) (w : World) (K : PySem.W.Frag) (mg : Str → Option Value) (base : Heap) (Cn : Str) (k : Nat) (f : Addr) (fd : FuncData) (ps : List Str) (sp : Sp) : Prop where
  ok : FnG gd P w K mg base k f fd ps sp
  g : mg Cn = some (.ref (He.ga K Cn))
  M : Mk K (He.ga K Cn) f
def kIns (P : D → Prop) : MC → Prop
  | .ins C ns zs => match unD zs with
    | some l => P (.ins C ns l)
    | none => False
  | _ => False
def kMk (Cn : Str) (S : SB) (Q : QZ) (E : QE) : List Z → DS → Prop := fun zs ds => match unD zs with
  | some l => S (.ins Cn [] []) l (fun y c => y = .non ∧ kIns (fun x => Q (.d x) ds) c) (fun y c => E y ds)
  | none => False
def dMake (Cn : Str) (S : SB) (t : TLi) : TD := fun ds Q E => t ds (kMk Cn S Q E) E
theorem RoomG.make {gd : Bool} {k : Nat} {A : Around} (r : RoomG gd (k + 1) A) (C : Addr) (us : List Value) (kw : List (Str × Value)) : RoomG gd k (A.under (.builtin "type.__call__" ⟨.ref C :: us, kw⟩)) := ⟨r.1.make C us kw, fun e => r.2 e⟩
section
variable {X : Cx} {g : G} {W : WX} {gd : Bool} {k : Nat} {f : Addr} {fd : FuncData} {ps : List Str} {T : List (Addr × Str)} {Sb : SB} {Cn : Str} {p pos : Pos} {e : Expr} {es : List Expr} {t : TLi}
theorem run_makeX {pins : List (Addr × Obj)} {σ : L2.St} {H : Hp} {s : Shared} {Q : VK} {us : List Value} {vs : List V} {sp : Sp} {C : Addr} (M : Mk X.K C f) (F : FnG gd X.prog X.w X.K X.mg X.base k f fd ps sp) (hr : RoomG gd (k + 1) X.A) (tk : Takes X W) (hb : Binds X.K fd ps [])
    (I : L2.Inv X pins σ H s) (r : Vals vs us)
    (h : ∀ x dx, H x = none → H dx = none → dx ≠ x → sp (.ref x :: vs) (upd (upd H dx (.own x)) x (.ins C dx [])) (fun v H2 => v = .non ∧ Q (.ref x) H2) (fun cls d H' => W cls d σ H')) :
    wpAny (model X.prog X.w) X.A (call (.ref C) us) (EP X pins σ Q) X.xe s := by
  have hq := h (s.heap.objs.size + 1) s.heap.objs.size (I.hok.fresh (Nat.le_succ _)) (I.hok.fresh (Nat.le_refl _)) (Nat.ne_of_lt (Nat.lt_succ_self _))
  have I2 := Inv.made (C := C) I
  have r2 : Vals (V.ref (s.heap.objs.size + 1) :: vs) (Value.ref (s.heap.objs.size + 1) :: us) := .cons rfl r
  have hl : (Value.ref (s.heap.objs.size + 1) :: us ++ []).length = ps.length := by
    have e := r2.length
    rw [F.len _ _ _ _ hq] at e
    rw [List.append_nil]
    exact e.symm
  have hb2 := hb _ (Value.ref (s.heap.objs.size + 1) :: us) I2.kIn hl
  rw [List.append_nil] at hb2
  refine wpAny_call (make_map (f := f) I.kIn M.makes M.init (beq_iff_eq.mp M.fn) (codeAny_mono (F.run _ X.stack _ _ ⟨Value.ref (s.heap.objs.size + 1) :: us, []⟩ (Value.ref (s.heap.objs.size + 1) :: us) _ _ _ (hr.make C us [])
    (I2.env0.make C us []) hb2 r2 hq) fun r s' hq' => ?_))
  cases r with
  | error e => exact tk e s' (XE.of_call I2 (fun _ _ _ h => h) hq')
  | ok fl =>
    cases fl with
    | ret u =>
      obtain ⟨v, H', I3, rv, ev, q3⟩ := I2.after hq'
      subst ev
      exact ⟨rv, ⟨V.ref (s.heap.objs.size + 1), H', I3, rfl, q3⟩⟩
    | next => exact False.elim hq'
    | brk => exact False.elim hq'
    | cont => exact False.elim hq'
theorem make_in {σ : L2.St} {M : List Addr} {ds : DS} {H : Hp} {zs : List Z} {vs : List V} {QD : QZ} {ED : QE} (hT : g.T = T) (R : RepS X.K g M ds σ H) (rz : RepZs X.K (g.own M ds) M H zs vs) (hE : EW X g W σ M ds H ED) (q : kMk Cn Sb QD ED zs ds)
    (x dx : Addr) (hx : H x = none) (hdx : H dx = none) (ne : dx ≠ x) :
    spB X.K T Sb (.ref x :: vs) (upd (upd H dx (.own x)) x (.ins (He.ga X.K Cn) dx [])) (fun v H2 => v = .non ∧ Mid X g σ M ds H QD (.ref x) H2) (fun cls d H' => W cls d σ H') := by
  subst hT
  unfold kMk at q
  split at q
  · rename_i l el
    obtain rfl := unD_of el
    have hx1 : upd H dx (.own x) x = none := by rw [upd_ne (Ne.symm ne)]; exact hx
    obtain ⟨R1, N1⟩ := R.upd (o := .own x) hdx
    obtain ⟨R2, N2⟩ := R1.upd (o := .ins (He.ga X.K Cn) dx []) hx1
    have nx : ¬ g.own M ds x := R.own_none hx
    have keep : ∀ b u, H b = some u → upd (upd H dx (.own x)) x (.ins (He.ga X.K Cn) dx []) b = some u := fun b u h => by
      rw [upd_ne (ne_of_none h hx), upd_ne (ne_of_none h hdx)]; exact h
    have m : Mv (g.own M ds) (ow1 (g.own M ds) x) H (upd (upd H dx (.own x)) x (.ins (He.ga X.K Cn) dx [])) := ⟨fun b u h _ _ => keep b u h, fun b ps h => ⟨ps, keep b _ h⟩, fun b h => h.imp id fun z => by rw [z]; exact hx⟩
    have same : ∀ {H' : Hp}, FrB x (upd (upd H dx (.own x)) x (.ins (He.ga X.K Cn) dx [])) H' → LamX.Tabs g.T H' → RepS X.K g M ds σ H' ∧ Nxt g M ds H M ds H' := fun {H'} f t =>
      R.same (fun b o h ht => f.1 b o (keep b o h) (ne_of_none h hx) ht) (fun b ps h => f.2 b ps (keep b _ h)) t
    have back : ∀ {H' : Hp}, Mv (ow1 (g.own M ds) x) (g.own M ds) H' H' := fun {H'} => ⟨fun _ _ h _ _ => h, fun _ ps h => ⟨ps, h⟩, fun b h => .inl (.inl h)⟩
    refine ⟨g.own M ds, x, vs, l, .ins Cn [] [], _, _, rfl, nx, R2.outOk, RepL.mv m _ _ rz.toD, ⟨dx, [], rfl, rfl, upd_same⟩, R2.tabs, q, fun r c v H' q f rv rc t => ?_, fun y c cls d H' q f re rc t => ?_⟩
    · obtain ⟨rfl, q⟩ := q
      obtain ⟨R', N⟩ := same f t
      refine ⟨rv, ?_⟩
      unfold kIns at q
      split at q
      · rename_i C ns zs2
        split at q
        · rename_i l2 e2
          obtain rfl := unD_of e2
          refine ⟨.d (.ins C ns l2), ds, M, R', N, ?_, q⟩
          obtain ⟨d3, xs, r3, h3, e3⟩ := rc
          exact ⟨x, d3, xs, rfl, RepL.mv back _ _ r3.toD, by rw [h3, List.length_map], nx, e3⟩
        · exact q.elim
      · exact q.elim
    · obtain ⟨R', N⟩ := same f t
      exact hE y ds M H' cls d q R' N ⟨re.1, fun a => RepD.mv back _ _ (re.2 a)⟩
  · exact q.elim
theorem px_make (F : MakeF gd X.prog X.w X.K X.mg X.base Cn k f fd ps (spB X.K T Sb)) (hb : Binds X.K fd ps []) (hT : g.T = T) (hr : RoomG gd (k + 1) X.A) (tk : Takes X W) (ha : PXA X g W (e :: es) t) (hg : Gl X Cn := by rfl) (hdb : (Cn == ("__debug__" : Str)) = false := by decide)
    (he : starEach (e :: es) X.env = (false, eval e X.env) :: starEach es X.env := by rfl) (hpl : (backTo pos (starEach es X.env)).any (·.1) = false := by rfl) : PX X g W (.Call (.Name Cn p) (e :: es) [] pos) (dMake Cn Sb t) := by
  refine ⟨fun pins s σ H M ds QD ED I R ht hE => ?_⟩
  refine wpAny_Call_Name_kw (ld_glob I hg F.g ?_ hdb)
  refine PySem.W.callWith_K (h₀ := X.base) I.ok.mod.kin F.M.kp (thn (ha.run pos pins s σ H M ds _ ED I R ht hE) fun us s1 ⟨zs, ds1, M1, vs, H1, I1, r1, R1, N1, rz, q1⟩ => ⟨I1.kIn, ?_⟩) he hpl
  exact thn (run_makeX F.M F.ok hr tk hb I1 r1 fun x dx hx hdx ne => make_in hT R1 rz (hE.nxt N1) q1 x dx hx hdx ne) fun _ _ h => (EPD.of h).nxt N1
end
end L3

set_option Elab.async false
set_option linter.all false
set_option maxRecDepth 100000
set_option maxHeartbeats 2000000
namespace L3
open PySem PySem.Spec PyProof.Rows L2
def CPowW (i j : Int) : Prop := 0 ≤ j ∧ (Builtin.Int.intBits i : Int) * j ≤ 2 ^ 27
theorem op_powW {X : Cx} : OpR X (binaryOp .Pow) (rI CPowW fun i j => .int (i ^ j.toNat)) := opI fun _ _ _ _ _ _ _ hc q => pow_int hc.1 hc.2 q
theorem od_powW {X : Cx} {g : G} : OpD X g (binaryOp .Pow) (rdIIc CPowW fun i j => .int (i ^ j.toNat)) := od_iic op_powW fun _ _ _ _ _ => rfl
/-- what a thing holds, as data -/
def borD (ds : DS) : Z → Option D
  | .d x => some x
  | .m n => match ds.w[n]? with
    | some (some (.lst l)) => some (.lst l)
    | some (some (.dic ks l)) => some (.dic ks l)
    | _ => none
def borL (ds : DS) : List Z → Option (List D)
  | [] => some []
  | z :: r => match borD ds z, borL ds r with
    | some x, some l => some (x :: l)
    | _, _ => none
mutual
/-- no list in it, no dict -/
def D.solid : D → Bool
  | .non => true
  | .bl _ => true
  | .int _ => true
  | .str _ => true
  | .tup l => solids l
  | _ => false
def solids : List D → Bool
  | [] => true
  | d :: l => d.solid && solids l
end
section
variable {K : PySem.W.Frag} {g : G} {M : List Addr} {ds : DS} {σ : L2.St} {H H' : Hp}
theorem mv_ow : Mv (g.own M ds) g.ow H H := ⟨fun _ _ h _ _ => h, fun _ ps h => ⟨ps, h⟩, fun _ h => .inl (.inl h)⟩
theorem bor_ok (R : RepS K g M ds σ H) {z : Z} {v : V} {x : D} (rz : RepZ K (g.own M ds) M H z v) (e : borD ds z = some x) : RepD K g.ow H x v := by
  cases z with
  | d y => cases e; exact RepD.mv mv_ow _ _ rz
  | m n =>
    obtain ⟨a, ha, rfl⟩ := rz
    have na := R.apart a (List.mem_of_getElem? ha)
    simp only [borD] at e
    split at e
    · rename_i l hw
      cases e
      obtain ⟨xs, r, q⟩ := R.obj _ _ _ hw ha
      exact ⟨a, xs, rfl, RepL.mv mv_ow _ _ r, na, q⟩
    · rename_i ks l hw
      cases e
      obtain ⟨xs, r, z, q⟩ := R.obj _ _ _ hw ha
      exact ⟨a, xs, rfl, RepL.mv mv_ow _ _ r, z, na, q⟩
    · cases e
theorem borL_ok (R : RepS K g M ds σ H) : ∀ {zs : List Z} {vs : List V} {l : List D}, RepZs K (g.own M ds) M H zs vs → borL ds zs = some l → RepL K g.ow H l vs
  | [], vs, l, r, e => by cases e; exact r
  | z :: zs, vs, l, r, e => by
    obtain ⟨v, vr, rfl, h1, h2⟩ := r
    unfold borL at e
    split at e
    · rename_i x l' e1 e2
      cases e
      exact ⟨v, vr, rfl, bor_ok R h1 e1, borL_ok R h2 e2⟩
    · cases e
theorem live_tup (R : RepS K g M ds σ H) {a : Addr} {u : HO} {xs : List V} (h : Rd H a (.tup xs)) (na : ¬ g.ow a) : ¬ g.own M ds a := fun z => by
  rcases z with z | ⟨n, c, h1, h2⟩
  · exact na z
  · have r := R.obj n c a h2 h1
    cases c with
    | lst l =>
      obtain ⟨ys, _, e⟩ := r
      rcases h with h | ⟨o, h⟩ <;> rw [e] at h <;> cases h
    | dic ks l =>
      obtain ⟨ys, _, _, e⟩ := r
      rcases h with h | ⟨o, h⟩ <;> rw [e] at h <;> cases h
    | ins C ns l =>
      obtain ⟨dx, ys, _, _, e⟩ := r
      rcases h with h | ⟨o, h⟩ <;> rw [e] at h <;> cases h
mutual
theorem RepD.solid (R : RepS K g M ds σ H) : ∀ (d : D) (v : V), d.solid = true → RepD K g.ow H d v → RepD K (g.own M ds) H d v
  | .non, v, _, h => h
  | .bl b, v, _, h => h
  | .int i, v, _, h => h
  | .str s, v, _, h => h
  | .tup l, v, s, h => by
    obtain ⟨a, xs, e, r, q⟩ := h
    refine ⟨a, xs, e, RepL.solid R l xs s r, ?_⟩
    rcases q with ⟨n, q⟩ | q
    · exact .inl ⟨live_tup (u := .tup xs) R q n, q⟩
    · exact .inr q
  | .ref a, v, s, h => h
  | .ty n, v, s, h => h
  | .lst l, v, s, h => by cases s
  | .lsf l, v, s, h => by cases s
  | .dic ks l, v, s, h => by cases s
  | .ins C ns l, v, s, h => by cases s
  | .exn _ _ _ _ _, v, s, h => by cases s
  | .exo _ _ _ _ _, v, s, h => by cases s
  | .cod _ _, v, s, h => by cases s
theorem RepL.solid (R : RepS K g M ds σ H) : ∀ (l : List D) (xs : List V), solids l = true → RepL K g.ow H l xs → RepL K (g.own M ds) H l xs
  | [], xs, _, h => h
  | d :: l, xs, s, h => by
    obtain ⟨v, r, e, h1, h2⟩ := h
    have s : (d.solid && solids l) = true := s
    rw [Bool.and_eq_true] at s
    exact ⟨v, r, e, RepD.solid R d v s.1 h1, RepL.solid R l r s.2 h2⟩
end
end
section
variable {X : Cx} {g : G}
def kBor2 (ds : DS) (x y : Z) (P : D → D → Prop) : Prop := match borD ds x, borD ds y with
  | some a, some b => P a b
  | _, _ => False
def rdEqB (x y : Z) (ds : DS) (Q : QZ) : Prop := kBor2 ds x y fun a b => eqOk a b ∧ Q (.d (.bl (PyData.eqv a.pd b.pd))) ds
def rdNeB (x y : Z) (ds : DS) (Q : QZ) : Prop := kBor2 ds x y fun a b => eqOk a b ∧ Q (.d (.bl (!PyData.eqv a.pd b.pd))) ds
theorem od_eqB (hu : X.A.units + 64 < cLine) : OpD X g (compareOp .Eq) rdEqB := by
  intro pins s σ H M ds x y v u vv uu QD I R rx vx ry vy h
  unfold rdEqB kBor2 at h
  split at h
  · rename_i a b e1 e2
    obtain ⟨⟨f1, f2, s1, s2⟩, h⟩ := h
    exact thn (op_eqD hu pins s σ H _ _ vv uu _ I vx vy ⟨_, _, RepD.dp _ _ f1 (bor_ok R rx e1), RepD.dp _ _ f2 (bor_ok R ry e2), s1, s2, .same R (z := .d (.bl _)) rfl h⟩) fun _ _ z => .of z
  · exact h.elim
theorem od_neB (hu : X.A.units + 64 < cLine) : OpD X g (compareOp .NotEq) rdNeB := by
  intro pins s σ H M ds x y v u vv uu QD I R rx vx ry vy h
  unfold rdNeB kBor2 at h
  split at h
  · rename_i a b e1 e2
    obtain ⟨⟨f1, f2, s1, s2⟩, h⟩ := h
    exact thn (op_neD hu pins s σ H _ _ vv uu _ I vx vy ⟨_, _, RepD.dp _ _ f1 (bor_ok R rx e1), RepD.dp _ _ f2 (bor_ok R ry e2), s1, s2, .same R (z := .d (.bl _)) rfl h⟩) fun _ _ z => .of z
  · exact h.elim
end
section
variable {X : Cx} {g : G} {W : WX} {gd : Bool} {k n : Nat} {f : Addr} {fd : FuncData} {ps : List Str} {T : List (Addr × Str)} {S : SA} {Sn : List D → (MC → Prop) → (EX → Prop) → Prop} {x : Str} {p pos apos : Pos} {e : Expr} {es : List Expr} {t : TLi}
/-- the arguments may be lent things; the answer has no lists -/
def kAb (S : SA) (Q : QZ) (E : QE) : List Z → DS → Prop := fun zs ds => match borL ds zs with
  | some l => S l (fun y => y.solid = true ∧ Q (.d y) ds) (fun y => solids y.vals = true ∧ E y ds)
  | none => False
def dCallAb (S : SA) (t : TLi) : TD := fun ds Q E => t ds (kAb S Q E) E
theorem px_ownAb (Go : OwnF gd X.prog X.w X.K X.mg X.base x k f fd ps (spA X.K T S)) (hb : Binds X.K fd ps []) (hT : g.T = T) (hr : RoomG gd k X.A) (tk : Takes X W) (ha : PXA X g W (e :: es) t) (hg : Gl X x := by rfl) (hdb : (x == ("__debug__" : Str)) = false := by decide)
    (he : starEach (e :: es) X.env = (false, eval e X.env) :: starEach es X.env := by rfl) (hpl : (backTo pos (starEach es X.env)).any (·.1) = false := by rfl) : PX X g W (.Call (.Name x p) (e :: es) [] pos) (dCallAb S t) := by
  subst hT
  refine ⟨fun pins s σ H M ds QD ED I R ht hE => ?_⟩
  refine wpAny_Call_Name_kw (ld_glob I hg Go.g ?_ hdb)
  refine PySem.W.callWith_K (h₀ := X.base) I.ok.mod.kin Go.kp (thn (ha.run pos pins s σ H M ds _ ED I R ht hE) fun us s1 ⟨zs, ds1, M1, vs, H1, I1, r1, R1, N1, rz, q1⟩ => ⟨I1.kIn, ?_⟩) he hpl
  unfold kAb at q1
  split at q1
  · rename_i l el
    have hE1 := hE.nxt N1
    have sp : spA X.K g.T S vs H1 (Mid X g σ M1 ds1 H1 QD) (fun cls d H' => W cls d σ H') := ⟨g.ow, l, _, _, fun a h => R1.out a h, borL_ok R1 rz el, R1.tabs, q1, fun y v H' q f rv t => by
        obtain ⟨R', N⟩ := R1.fr0 f t
        exact ⟨.d y, ds1, M1, R', N, RepD.solid R' y v q.1 rv, q.2⟩, fun y cls d H' q f re t => by
        obtain ⟨R', N⟩ := R1.fr0 f t
        refine hE1 y ds1 M1 H' cls d q.2 R' N ⟨re.1, fun a => ?_⟩
        obtain ⟨e1, xs, r, z, z0, q3⟩ := re.2 a
        refine ⟨e1, xs, RepL.solid R' _ _ q.1 r, z, z0, fun hf => ?_⟩
        obtain ⟨dx, e4, n4, q4⟩ := q3 hf
        refine ⟨dx, e4, fun zz => ?_, q4⟩
        rcases zz with zz | ⟨n, c, h1, h2⟩
        · exact n4 zz
        · have r := R'.obj n c dx h2 h1
          cases c with
          | lst l => obtain ⟨ys, _, e⟩ := r; rw [q4] at e; cases e
          | dic ks l => obtain ⟨ys, _, _, e⟩ := r; rw [q4] at e; cases e
          | ins C ns l => obtain ⟨dx, ys, _, _, e⟩ := r; rw [q4] at e; cases e⟩
    have hl : (us ++ []).length = ps.length := by rw [List.append_nil, ← r1.length]; exact Go.ok.len _ _ _ _ sp
    have b1 := hb s1 us I1.kIn hl
    rw [List.append_nil] at b1
    exact thn (run_fnX Go.ok hr tk I1 b1 r1 sp) fun _ _ h => (EPD.of h).nxt N1
  · exact q1.elim
end
abbrev SN := List D → (MC → Prop) → (EX → Prop) → Prop
def spN (K : PySem.W.Frag) (T : List (Addr × Str)) (S : SN) : Sp := fun vs H Q E => ∃ (ow : Addr → Prop) (ds : List D) (QD : MC → Prop) (ED : EX → Prop),
  OutOk ow H ∧ RepL K ow H ds vs ∧ LamX.Tabs T H ∧ S ds QD ED ∧
  (∀ c a H', QD c → Fr0 H H' → H a = none → (∀ own', (∀ b, own' b → ow b ∨ b = a) → RepM K own' [] H' a c) → LamX.Tabs T H' → Q (.ref a) H') ∧
  (∀ x cls d H', ED x → Fr0 H H' → RepE K ow H' x cls d → LamX.Tabs T H' → E cls d H')
def enN (QD : MC → Prop) (ED : EX → Prop) : DE := { nx := fun _ => False, rt := toDC QD, er := fun x _ => ED x }
section
variable {P : Program} {w : World} {K : PySem.W.Frag} {mg : Str → Option Value} {base : Heap} {x qual : Str} {params : Arguments} {body : List Stmt} {scope : Scope} {dvs : List V} {kws : List (Str × V)} {f : Addr} {fd : FuncData} {T : List (Addr × Str)}
theorem bodyN {gd : Bool} {N ps : List Str} {k : Nat} {S : SN} (F : FunD K x qual params body scope dvs kws f fd) (sc : FnScope N ps scope) (len : ∀ ds QD ED, S ds QD ED → ds.length = ps.length)
    (hbody : ∀ (cdv : Value), CodeIs K f cdv → ∀ (A : Around) (outer : List Env) (s : Shared) (H : Hp) (E : XK) (g : G), g.T = T → RoomG gd k (A.deeper (envOfC qual scope s.heap.objs.size f cdv)) →
      ∃ t, PXB (cxOf (L2.CX P w) P w K mg base N qual scope f cdv A outer s H E) g (fun cls d _ H => E cls d H) body t ∧ ∀ ds QD ED, S ds QD ED → t (enN QD ED) ⟨ent N ds, []⟩) : FnG gd P w K mg base (k + 1) f fd ps (spN K T S) := by
  have hpl : ps.length ≤ N.length := by have := congrArg List.length sc.pre; rw [List.length_take] at this; omega
  refine FunD.okG F sc (fun vs H Q E h => ?_) (fun cdv hcd A outer s H vs Q E hr h => ?_)
  · obtain ⟨ow, ds, QD, ED, _, r, _, hS, _⟩ := h
    rw [RepL.length r]; exact len _ _ _ hS
  · obtain ⟨ow, ds, QD, ED, ho, r, ht, hS, hQ, hE⟩ := h
    obtain ⟨t, hp, hq⟩ := hbody cdv hcd A outer s H E ⟨ow, T, []⟩ rfl hr
    have hl : vs.length ≤ N.length := by rw [RepL.length r, len _ _ _ hS]; exact hpl
    have R := repS_A (T := T) (N := N) ho r ht hl
    have fr : ∀ {M' : List Addr} {ds' : DS} {H' : Hp}, Nxt ⟨ow, T, []⟩ [] ⟨ent N ds, []⟩ H M' ds' H' → Fr0 H H' := fun {M' ds' H'} N' => by
      refine ⟨fun b o hb t => ?_, N'.mv.tb⟩
      by_cases hw : ow b
      · rw [N'.out b hw]; exact hb
      · exact N'.mv.keep b o hb (by rw [own_nil]; exact hw) t
    have back : ∀ {M' : List Addr} {ds' : DS} {H' : Hp}, Mv (G.own ⟨ow, T, []⟩ M' ds') ow H' H' := fun {M' ds' H'} => ⟨fun _ _ h _ _ => h, fun _ ps h => ⟨ps, h⟩, fun b h => .inl (.inl h)⟩
    refine ⟨fun De σ H0 => σ = L2.start N vs ∧ H0 = H ∧ De = { nx := fun _ H' => Q .non H', rt := Q }, ⟨fun pins s1 σ H0 De I hh => ?_⟩, rfl, rfl, rfl⟩
    obtain ⟨rfl, rfl, rfl⟩ := hh
    refine thn (hp.run pins s1 _ _ [] ⟨ent N ds, []⟩ (enN QD ED) I R (hq ds QD ED hS) (fun y ds' M' σ' H' cls d he R' N' re => hE y cls d H' he (fr N') ⟨re.1, fun a => RepD.mv back _ _ (re.2 a)⟩ R'.tabs)) fun fl s2 q => ?_
    cases fl with
    | next => obtain ⟨_, _, _, _, _, _, _, q⟩ := q; exact False.elim q
    | brk => obtain ⟨_, _, _, _, _, _, _, q⟩ := q; exact False.elim q
    | cont => obtain ⟨_, _, _, _, _, _, _, q⟩ := q; exact False.elim q
    | ret u =>
      obtain ⟨z, ds', M', v, σ', H', τ, I', r', R', N', rz, q⟩ := q
      have q' : toDC QD z ds' := q
      unfold toDC at q'
      split at q'
      · rename_i n
        split at q'
        · rename_i c hw
          obtain ⟨a, ha, rfl⟩ := rz
          have rc := R'.obj _ _ _ hw ha
          have na : ¬ ow a := R'.apart a (List.mem_of_getElem? ha)
          have hn : H0 a = none := by
            rcases N'.mv.new a (.inr ⟨n, c, ha, hw⟩) with h | h
            · rw [own_nil] at h; exact absurd h na
            · exact h
          refine ⟨.ref a, σ', H', I', r', hQ c a H' q'.2 (fr N') hn (fun own' ho' => ?_) R'.tabs⟩
          have m : Mv (G.own ⟨ow, T, []⟩ M' ds') own' H' H' := ⟨fun _ _ h _ _ => h, fun _ ps h => ⟨ps, h⟩, fun b h => .inl ((ho' b h).elim .inl fun e => .inr ⟨n, c, by rw [e]; exact ha, hw⟩)⟩
          exact rc.shut m q'.1
        · exact q'.elim
      · exact q'.elim
end
section
variable {X : Cx} {g : G} {W : WX} {gd : Bool} {k : Nat} {f : Addr} {fd : FuncData} {ps : List Str} {T : List (Addr × Str)} {S : SN} {x : Str} {p pos : Pos} {e : Expr} {es : List Expr} {t : TLi}
def kN (S : SN) (Q : QZ) (E : QE) : List Z → DS → Prop := fun zs ds1 => match unD zs with
  | some l => S l (fun c => c.closed ∧ Q (.m ds1.w.length) (ds1.more c)) (fun y => E y ds1)
  | none => False
def dCallN (S : SN) (t : TLi) : TD := fun ds Q E => t ds (kN S Q E) E
theorem px_ownN (Go : OwnF gd X.prog X.w X.K X.mg X.base x k f fd ps (spN X.K T S)) (hb : Binds X.K fd ps []) (hT : g.T = T) (hr : RoomG gd k X.A) (tk : Takes X W) (ha : PXA X g W (e :: es) t) (hg : Gl X x := by rfl) (hdb : (x == ("__debug__" : Str)) = false := by decide)
    (he : starEach (e :: es) X.env = (false, eval e X.env) :: starEach es X.env := by rfl) (hpl : (backTo pos (starEach es X.env)).any (·.1) = false := by rfl) : PX X g W (.Call (.Name x p) (e :: es) [] pos) (dCallN S t) := by
  subst hT
  refine ⟨fun pins s σ H M ds QD ED I R ht hE => ?_⟩
  refine wpAny_Call_Name_kw (ld_glob I hg Go.g ?_ hdb)
  refine PySem.W.callWith_K (h₀ := X.base) I.ok.mod.kin Go.kp (thn (ha.run pos pins s σ H M ds _ ED I R ht hE) fun us s1 ⟨zs, ds1, M1, vs, H1, I1, r1, R1, N1, rz, q1⟩ => ⟨I1.kIn, ?_⟩) he hpl
  unfold kN at q1
  split at q1
  · rename_i l el
    obtain rfl := unD_of el
    have hE1 := hE.nxt N1
    have sp : spN X.K g.T S vs H1 (Mid X g σ M1 ds1 H1 QD) (fun cls d H' => W cls d σ H') := ⟨g.own M1 ds1, l, _, _, R1.outOk, rz.toD, R1.tabs, q1, fun c a H' q f hn hc t => by
      obtain ⟨R2, N2⟩ := R1.moreH hn f t fun own' ho => (hc own' ho).shut .refl q.1
      exact ⟨.m ds1.w.length, _, _, R2, N2, ⟨a, by rw [← R1.mlen, List.getElem?_append_right (Nat.le_refl _), Nat.sub_self]; rfl, rfl⟩, q.2⟩, fun y cls d H' q f re t => by
      obtain ⟨R', N⟩ := R1.fr0 f t
      exact hE1 y ds1 M1 H' cls d q R' N re⟩
    have hl : (us ++ []).length = ps.length := by rw [List.append_nil, ← r1.length]; exact Go.ok.len _ _ _ _ sp
    have b1 := hb s1 us I1.kIn hl
    rw [List.append_nil] at b1
    exact thn (run_fnX Go.ok hr tk I1 b1 r1 sp) fun _ _ h => (EPD.of h).nxt N1
  · exact q1.elim
/-- a new thing, as data: it is no more a thing -/
def kNd (S : SN) (Q : QZ) (E : QE) : List Z → DS → Prop := fun zs ds1 => match unD zs with
  | some l => S l (fun c => match c with
    | .lst l => Q (.d (.lst l)) ds1
    | .dic ks l => Q (.d (.dic ks l)) ds1
    | _ => False) (fun y => E y ds1)
  | none => False
def dCallNd (S : SN) (t : TLi) : TD := fun ds Q E => t ds (kNd S Q E) E
theorem px_ownNd (Go : OwnF gd X.prog X.w X.K X.mg X.base x k f fd ps (spN X.K T S)) (hb : Binds X.K fd ps []) (hT : g.T = T) (hr : RoomG gd k X.A) (tk : Takes X W) (ha : PXA X g W (e :: es) t) (hg : Gl X x := by rfl) (hdb : (x == ("__debug__" : Str)) = false := by decide)
    (he : starEach (e :: es) X.env = (false, eval e X.env) :: starEach es X.env := by rfl) (hpl : (backTo pos (starEach es X.env)).any (·.1) = false := by rfl) : PX X g W (.Call (.Name x p) (e :: es) [] pos) (dCallNd S t) := by
  subst hT
  refine ⟨fun pins s σ H M ds QD ED I R ht hE => ?_⟩
  refine wpAny_Call_Name_kw (ld_glob I hg Go.g ?_ hdb)
  refine PySem.W.callWith_K (h₀ := X.base) I.ok.mod.kin Go.kp (thn (ha.run pos pins s σ H M ds _ ED I R ht hE) fun us s1 ⟨zs, ds1, M1, vs, H1, I1, r1, R1, N1, rz, q1⟩ => ⟨I1.kIn, ?_⟩) he hpl
  unfold kNd at q1
  split at q1
  · rename_i l el
    obtain rfl := unD_of el
    have hE1 := hE.nxt N1
    have sp : spN X.K g.T S vs H1 (Mid X g σ M1 ds1 H1 QD) (fun cls d H' => W cls d σ H') := ⟨g.own M1 ds1, l, _, _, R1.outOk, rz.toD, R1.tabs, q1, fun c a H' q f hn hc t => by
      obtain ⟨R2, N2⟩ := R1.fr0 f t
      have rc := hc (g.own M1 ds1) (fun b h => .inl h)
      have na := R1.own_none hn
      cases c with
      | lst l2 =>
        obtain ⟨xs, r, e⟩ := rc
        exact ⟨.d (.lst l2), ds1, M1, R2, N2, ⟨a, xs, rfl, r, na, e⟩, q⟩
      | dic ks l2 =>
        obtain ⟨xs, r, z, e⟩ := rc
        exact ⟨.d (.dic ks l2), ds1, M1, R2, N2, ⟨a, xs, rfl, r, z, na, e⟩, q⟩
      | ins C ns l2 => exact q.elim, fun y cls d H' q f re t => by
      obtain ⟨R', N⟩ := R1.fr0 f t
      exact hE1 y ds1 M1 H' cls d q R' N re⟩
    have hl : (us ++ []).length = ps.length := by rw [List.append_nil, ← r1.length]; exact Go.ok.len _ _ _ _ sp
    have b1 := hb s1 us I1.kIn hl
    rw [List.append_nil] at b1
    exact thn (run_fnX Go.ok hr tk I1 b1 r1 sp) fun _ _ h => (EPD.of h).nxt N1
  · exact q1.elim
end
end L3

set_option Elab.async false
set_option linter.all false
set_option maxRecDepth 100000
set_option maxHeartbeats 2000000
namespace L3
open PySem PySem.Spec PyProof.Rows L2
section
variable {K : PySem.W.Frag} {g : G} {M M' : List Addr} {ds ds' : DS} {σ : L2.St} {H H' : Hp}
/-- a new thing of the outside is a thing of one's own -/
theorem RepS.inn {D : Addr} {c : MC} (R : RepS K ⟨fun b => g.ow b ∨ b = D, g.T, g.gh⟩ M' ds' σ H') (N : Nxt g M ds H M' ds' H') (nD : ¬ g.own M' ds' D) (hD : H D = none) (rc : RepM K (G.own ⟨fun b => g.ow b ∨ b = D, g.T, g.gh⟩ M' ds') M' H' D c) :
    RepS K g (M' ++ [D]) (ds'.more c) σ H' ∧ Nxt g M ds H (M' ++ [D]) (ds'.more c) H' := by
  have DM : D ∉ M' := fun h => R.apart D h (.inr rfl)
  have ow : ∀ b, g.own (M' ++ [D]) (ds'.more c) b → G.own ⟨fun b => g.ow b ∨ b = D, g.T, g.gh⟩ M' ds' b := fun b h => by
    rcases h with h | h
    · exact .inl (.inl h)
    · rcases live_more R.mlen h with h | h
      · exact .inr h
      · exact .inl (.inr h)
  have m : Mv (G.own ⟨fun b => g.ow b ∨ b = D, g.T, g.gh⟩ M' ds') (g.own (M' ++ [D]) (ds'.more c)) H' H' := ⟨fun _ _ h _ _ => h, fun _ ps h => ⟨ps, h⟩, fun b h => .inl (ow b h)⟩
  have pr : ∃ more, M' ++ [D] = M' ++ more := ⟨[D], rfl⟩
  have nowD : ¬ g.ow D := fun z => nD (.inl z)
  obtain ⟨p1, e1⟩ := N.pre
  refine ⟨{ len := R.len, slot := fun i z h => ?_, mlen := ?_, nd := ?_, apart := fun a h => ?_, obj := fun n x a h1 h2 => ?_, gh := fun p hp => RepD.mv m _ _ (R.gh p hp), tabs := R.tabs, out := fun a h => R.out a (.inl h), ex := fun a h => ?_ }, ⟨⟨N.mv.keep, N.mv.tb, fun b h => ?_⟩, ⟨p1 ++ [D], by rw [e1, List.append_assoc]⟩, N.out⟩⟩
  · obtain ⟨v, h1, h2⟩ := R.slot i z h
    exact ⟨v, h1, h2.mv m pr⟩
  · show (M' ++ [D]).length = (ds'.w ++ [some c]).length
    rw [List.length_append, List.length_append, R.mlen]; rfl
  · rw [List.nodup_append]
    refine ⟨R.nd, by simp, fun a ha b hb z => ?_⟩
    have : b = D := by simpa using hb
    subst this
    exact DM (z ▸ ha)
  · rcases List.mem_append.mp h with h | h
    · exact fun z => R.apart a h (.inl z)
    · have : a = D := by simpa using h
      subst this
      exact nowD
  · rcases get_more h1 with h1 | ⟨h4, h3⟩
    · have hn : n < M'.length := by
        obtain ⟨q, _⟩ := List.getElem?_eq_some_iff.mp h1
        rw [R.mlen]; exact q
      rw [List.getElem?_append_left hn] at h2
      exact (R.obj n x a h1 h2).mv m pr rfl
    · have h3 := Option.some.inj h3
      subst h3
      rw [h4, ← R.mlen, List.getElem?_append_right (Nat.le_refl _), Nat.sub_self] at h2
      have : D = a := Option.some.inj h2
      subst this
      exact rc.mv m pr rfl
  · rcases List.mem_append.mp h with h | h
    · exact R.ex a h
    · have : a = D := by simpa using h
      subst this
      obtain ⟨o, q1, q2, _, q3⟩ := rc.ex
      exact ⟨o, q1, q2, q3⟩
  · rcases h with h | h
    · exact .inl (.inl (by exact h))
    · rcases live_more R.mlen h with h | h
      · exact N.mv.new b (.inr h)
      · exact .inr (by rw [h]; exact hD)
end
section
variable {X : Cx} {g : G} {W : WX} {pos : Pos}
/-- name = [..], the list a thing to be written -/
theorem pxs_setLcM {i : Nat} {y : Str} {py : Pos} {elt tg iter : Expr} {ifs : List Expr} {scope : Scope} {own : List (Str × Nat)} {spos : Pos} {ti : TIt} {gt : TGd} {gl : TG} {tt : TBo} {ttl : TT} {te : TD} (hc : X.calm = true) (hN : X.N.Nodup) (hy : X.N[i]? = some y) (hyl : X.env.scope.names.lookup y = some .local)
    (hsw : swapsWith (.ListComp elt [⟨tg, iter, ifs, 0⟩] scope pos) (some (.Name y py)) spos.line X.env = pure true) (hi : PXI X g W tg iter ti) (ok : BlkOk X.N X.env.scope scope own)
    (hg : ∀ (s : Shared) (H : Hp) (C : Addr) (cl : List (Str × Addr)) (fp : List Addr), PXC (X.blk s H scope (compEnvC scope cl C X.env) fp) tg (own.map (·.2)) gt gl)
    (ht : ∀ (s : Shared) (H : Hp) (C : Addr) (cl : List (Str × Addr)) (fp : List Addr), PXTs (X.blk s H scope (compEnvC scope cl C X.env) fp) g.T ifs tt ttl)
    (he : ∀ (g' : G) (s : Shared) (H : Hp) (C : Addr) (cl : List (Str × Addr)) (fp : List Addr), g'.T = g.T → PX (X.blk s H scope (compEnvC scope cl C X.env) fp) g' W0 elt te) (hs : ∀ x, foldedSetIterable iter X.env x = pure x := by intro _; rfl) :
    PXS X g W (.Assign [.Name y py] (.ListComp elt [⟨tg, iter, ifs, 0⟩] scope pos) spos) (dAsg (dLcM ti gt tt te (own.map (·.2))) (dgName i)) := by
  refine ⟨fun pins s σ H M ds De I R h hE => ?_⟩
  have h0 := (ps_setLc (i := i) hc hN hy hyl hsw hi.pi ok (fun s H C cl fp => (hg s H C cl fp).pg) (fun s H C cl fp => (ht s H C cl fp).pts) (fun s H C cl fp => pe_any (g := g) rfl fun g' e1 => he g' s H C cl fp e1) hs).run pins s σ H
    ⟨fun σ' H' => ∃ ds' M', RepS X.K g M' ds' σ' H' ∧ Nxt g M ds H M' ds' H' ∧ De.nx ds', fun _ _ => False, fun _ _ => False, fun _ _ => False⟩ I
    (lc_sim (X' := X.blk X.s_0 (fun _ => none) scope (compEnvC scope [] 0 X.env) []) rfl (hg X.s_0 (fun _ => none) 0 [] []) (ht X.s_0 (fun _ => none) 0 [] []) R h hE.ew fun D acc xs M' ds' H' eD R' N nD rl q hD0 rl0 => by
      obtain ⟨R2, N2⟩ := R'.inn (c := .lst acc) N nD hD0 ⟨xs, rl0, eD⟩
      exact ⟨(ds'.more (.lst acc)).set i (.m ds'.w.length), M' ++ [D], R2.set i (z := .m ds'.w.length) ⟨D, by rw [← R'.mlen, List.getElem?_append_right (Nat.le_refl _), Nat.sub_self]; rfl, rfl⟩, N2.trans .set, q⟩)
  refine thn h0 fun f s1 q => ?_
  cases f with
  | next =>
    obtain ⟨σ', H', I', ds', M', R', N', q⟩ := q
    exact ⟨ds', M', σ', H', I', R', N', q⟩
  | brk => obtain ⟨_, _, _, q⟩ := q; exact q.elim
  | cont => obtain ⟨_, _, _, q⟩ := q; exact q.elim
  | ret u => obtain ⟨_, _, _, _, _, q⟩ := q; exact q.elim
end
def penLike : MC → Prop
  | .dic _ [.lst l, .int _, .int _] => ∃ ns : List Int, l = ns.map D.int
  | _ => False
section
variable {X : Cx} {g : G} {W : WX} {gd : Bool} {k n : Nat} {f : Addr} {fd : FuncData} {ps : List Str} {T : List (Addr × Str)} {SBt : SB} {x : Str} {p pos : Pos} {e : Expr} {es : List Expr} {t : TLi}
def kPb (S : SB) (Q : QZ) : List Z → DS → Prop := fun zs ds => match zs with
  | [.m n, .m k] => match ds.w[n]?, ds.w[k]? with
    | some (some c), some (some (.lst (.tup q :: l))) => Nat.beq k n = false ∧ c.closed ∧ S c [.lst (.tup q :: l)] (fun y c' => y.solid = true ∧ penLike c' ∧ Q (.d y) (ds.put n c')) (fun _ _ => False)
    | _, _ => False
  | _ => False
def dCallPb (S : SB) (t : TLi) : TD := fun ds Q E => t ds (kPb S Q) E
theorem px_ownPb (Go : OwnF gd X.prog X.w X.K X.mg X.base x k f fd ps (spB X.K T SBt)) (hb : Binds X.K fd ps []) (hT : g.T = T) (hr : RoomG gd k X.A) (tk : Takes X W) (ha : PXA X g W (e :: es) t) (hg : Gl X x := by rfl) (hdb : (x == ("__debug__" : Str)) = false := by decide)
    (he : starEach (e :: es) X.env = (false, eval e X.env) :: starEach es X.env := by rfl) (hpl : (backTo pos (starEach es X.env)).any (·.1) = false := by rfl) : PX X g W (.Call (.Name x p) (e :: es) [] pos) (dCallPb SBt t) := by
  subst hT
  refine ⟨fun pins s σ H M ds QD ED I R ht hE => ?_⟩
  refine wpAny_Call_Name_kw (ld_glob I hg Go.g ?_ hdb)
  refine PySem.W.callWith_K (h₀ := X.base) I.ok.mod.kin Go.kp (thn (ha.run pos pins s σ H M ds _ ED I R ht hE) fun us s1 ⟨zs, ds1, M1, vs, H1, I1, r1, R1, N1, rz, q1⟩ => ⟨I1.kIn, ?_⟩) he hpl
  unfold kPb at q1
  split at q1
  · rename_i n k
    split at q1
    · rename_i c tq l hc hk
      obtain ⟨hkn, cl, q1⟩ := q1
      obtain ⟨_, _, rfl, ⟨a, ha1, rfl⟩, _, _, rfl, ⟨b, hb1, rfl⟩, rfl⟩ := rz
      have hkn : k ≠ n := Nat.ne_of_beq_eq_false hkn
      have nab : b ≠ a := fun z => hkn (nodup_at R1.nd hb1 (z ▸ ha1))
      have na : ¬ g.ow a := R1.apart a (List.mem_of_getElem? ha1)
      have nb : ¬ g.ow b := R1.apart b (List.mem_of_getElem? hb1)
      obtain ⟨ys, ry, ey⟩ := R1.obj _ _ _ hk hb1
      let ow : Addr → Prop := fun b' => g.own M1 ds1 b' ∧ b' ≠ a ∧ b' ≠ b
      have sub : ∀ b', ow1 ow a b' → g.own M1 ds1 b' := fun b' h => h.elim (·.1) fun z => .inr (z ▸ ⟨n, c, ha1, hc⟩)
      have m1 : Mv (g.own M1 ds1) (ow1 ow a) H1 H1 := ⟨fun _ _ h _ _ => h, fun _ ps h => ⟨ps, h⟩, fun b' h => .inl (sub b' h)⟩
      have nowb : ¬ ow1 ow a b := fun z => z.elim (fun z => z.2.2 rfl) nab
      have sp : spB X.K g.T SBt [.ref a, .ref b] H1 (Mid X g σ M1 ds1 H1 QD) (fun cls d H' => W cls d σ H') := ⟨ow, a, [.ref b], [.lst (.tup tq :: l)], c, _, _, rfl, fun z => z.2.1 rfl, fun b' h => R1.outOk b' h.1, RepL.one ⟨b, ys, rfl, RepL.mv m1 _ _ ry, nowb, ey⟩, (R1.obj n c a hc ha1).shut m1 cl, R1.tabs, q1, fun y c' v H' q f rv rc t => by
          obtain ⟨qs, qc, q⟩ := q
          have hyb : H' b = some (.lst ys) := f.1 b _ ey nab (fun _ z => nomatch z)
          have cl' : c'.closed := by
            unfold penLike at qc
            split at qc
            · trivial
            · exact qc.elim
          have rcl : RepM X.K (g.own M1 ds1) [a] H' a c' := by
            unfold penLike at qc
            split at qc
            · rename_i ks pl i j
              obtain ⟨ns, rfl⟩ := qc
              obtain ⟨xs, ⟨v1, _, rfl, ⟨a', xs', rfl, r', n', e'⟩, v2, _, rfl, h2, v3, _, rfl, h3, rfl⟩, hks, hx⟩ := rc
              have ex' := RepL.ints r'
              refine ⟨_, ⟨.ref a', _, rfl, ⟨a', xs', rfl, by rw [ex']; exact RepL.ofInts ns, fun z => ?_, e'⟩, v2, _, rfl, h2, v3, _, rfl, h3, rfl⟩, hks, hx⟩
              by_cases hab : a' = b
              · subst hab
                rw [hyb] at e'
                cases e'
                obtain ⟨w1, w2, e3, ⟨a4, _, rfl, _⟩, _⟩ := ry
                rw [ex'] at e3
                cases ns with
                | nil => cases e3
                | cons i ns => cases e3
              · exact n' (by
                  by_cases haa : a' = a
                  · exact .inr haa
                  · exact .inl ⟨z, haa, hab⟩)
            · exact qc.elim
          obtain ⟨R', N⟩ := R1.frB hc ha1 f t rcl cl'
          refine ⟨.d y, ds1.put n c', M1, R', N, RepD.solid R' _ _ qs (RepD.mv (own' := g.ow) ⟨fun _ _ h _ _ => h, fun _ ps h => ⟨ps, h⟩, fun b' h => .inl (.inl ⟨.inl h, fun z => na (z ▸ h), fun z => nb (z ▸ h)⟩)⟩ _ _ rv), q⟩, fun _ _ _ _ _ q => q.elim⟩
      have r2 : Vals ([.ref a, .ref b] ++ []) (us ++ []) := r1.append .nil
      have hl : (us ++ []).length = ps.length := by rw [← r2.length, List.append_nil]; exact Go.ok.len _ _ _ _ sp
      have b1 := hb s1 us I1.kIn hl
      rw [List.append_nil] at b1
      exact thn (run_fnX Go.ok hr tk I1 b1 r1 sp) fun _ _ h => (EPD.of h).nxt N1
    · exact q1.elim
  · exact q1.elim
end
end L3

set_option Elab.async false
set_option linter.all false
set_option maxRecDepth 100000
set_option maxHeartbeats 2000000
namespace SrtB
open PySem PySem.Spec PyProof.Rows Srt SrtO
section
variable {prog : Program} {w : World} {A : Around} {E : Value → Shared → Prop} {s : Shared}
def bv : Value → Int
  | .bool b => if b then 1 else 0
  | _ => 0
def ltBv (v u : Value) : Bool := decide (bv v < bv u)
theorem swo_bool : Swo ltBv := by
  refine ⟨fun x y h => ?_, fun x y z h1 h2 => ?_⟩
  · have a := of_decide_eq_true (p := bv x < bv y) h
    exact decide_eq_false (p := bv y < bv x) (by omega)
  · have a := of_decide_eq_false (p := bv y < bv x) h1
    have b := of_decide_eq_false (p := bv z < bv y) h2
    exact decide_eq_false (p := bv z < bv x) (by omega)
theorem first_bool (b : Bool) : firstOfTuple' (.bool b) = pure none := rfl
theorem mapM_first : ∀ bs : List Bool, (bs.map Value.bool).mapM firstOfTuple' = pure (bs.map fun _ => none)
  | [] => by simp
  | b :: bs => by rw [List.map_cons, List.mapM_cons, first_bool, mapM_first bs]; simp
theorem mapM_type : ∀ bs : List Bool, (bs.map Value.bool).mapM typeOf = pure (bs.map fun _ => Value.type "bool")
  | [] => by simp
  | b :: bs => by
    rw [List.map_cons, List.mapM_cons, mapM_type bs]
    show (pure (Value.type "bool") >>= fun b => pure _ >>= fun bs => pure (b :: bs)) = _
    simp
theorem keyKind_bools {a b : Bool} {bs : List Bool} : keyKind' ((a :: b :: bs).map Value.bool).toArray = pure oneType' := by
  rw [keyKind'_eq, List.mapM_toArray, mapM_first]
  simp only [map_pure, pure_bind]
  rw [if_neg (by simp), if_neg (by simp)]
  rw [oneTypeOnly'_eq, List.mapM_toArray, mapM_type]
  simp only [map_pure, pure_bind]
  have hall : ((List.map (fun _ => Value.type "bool") (a :: b :: bs)).toArray.all fun x => x == Value.type "bool") = true := by
    simp only [List.all_toArray, List.all_map, List.all_eq_true]
    intro _ _
    rfl
  have h0 : (List.map (fun _ => Value.type "bool") (a :: b :: bs)).toArray[0]? = some (Value.type "bool") := by simp
  rw [h0]
  simp only [hall, if_true, pure_bind, Option.isSome_some]
theorem bool_cmp (bs : List Bool) : Cmp prog w A s oneType' (fun p => p.1 ∈ bs.map Value.bool) (lt2 ltBv) := by
  intro p q hm hm'
  obtain ⟨a, _, e⟩ := List.mem_map.mp hm
  obtain ⟨b, _, e'⟩ := List.mem_map.mp hm'
  show wpAny (model prog w) A (keyLt' oneType' p.1 q.1) (fun r s' => s' = s ∧ r = ltBv p.1 q.1) (fun _ _ => False) s
  rw [← e, ← e', keyLt'_oneType]
  refine PySem.W.oneLt_bool ⟨rfl, ?_⟩
  cases a <;> cases b <;> rfl
theorem bools_sortable {a : Addr} (bs : List Bool) (h2 : 2 ≤ (bs.map Value.bool).length) : SortableO prog w A s a (bs.map Value.bool) ltBv := by
  intro h' _
  refine ⟨oneType', fun Q E hq => ?_, bool_cmp bs⟩
  match bs, h2 with
  | v1 :: v2 :: rest, _ =>
    rw [keyKind_bools]
    exact wpAny_pure hq
  | [], h => exact absurd h (by decide)
  | [v], h => exact absurd h (by simp)
end
end SrtB
namespace L3
open PySem PySem.Spec PyProof.Rows L2
def srtd2 (a b : Bool) : D := .lst [.bl (a && b), .bl (a || b)]
theorem vals_bools : ∀ {bs : List Bool} {us : List Value}, Vals (bs.map V.bl) us → us = bs.map Value.bool
  | [], _, h => by cases h; rfl
  | b :: bs, _, h => by
    cases h with
    | cons r t =>
      rw [vals_bools t, show _ = Value.bool b from r]; rfl
theorem vals_ofBools : ∀ (bs : List Bool), Vals (bs.map V.bl) (bs.map Value.bool)
  | [] => .nil
  | b :: bs => .cons rfl (vals_ofBools bs)
/-- sorted([a, b]), two bools -/
def rSortedB (K : PySem.W.Frag) : List V → Hp → VK → Prop := fun vs H Q => ∃ (a : Addr) (x y : Bool), vs = [V.ref a] ∧ SqL K H a ([x, y].map V.bl) ∧ ∀ (p : Addr), H p = none → Q (.ref p) (L2.upd H p (.lst [.bl (x && y), .bl (x || y)]))
theorem cr_sortedB {X : Cx} : CallR X (.builtin "sorted") (rSortedB X.K) := by
  intro pins s σ H vs us Q I r h
  obtain ⟨a, x, y, rfl, hs, q⟩ := h
  obtain ⟨its, rv, hl, hz⟩ := I.list hs
  rw [Vals.ref1 r]
  have ei := vals_bools rv
  subst ei
  refine SrtO.sorted_ord SrtB.swo_bool hl.isList (by simp; rw [sizeLine_eq]; decide) (fun h2 h₁ a' _ _ => SrtB.bools_sortable [x, y] h2) fun out h1 h2 => ?_
  have eo : out = [Value.bool (x && y), Value.bool (x || y)] := by
    have hp := h2.perm
    have hlen := hp.length_eq
    match out, hlen, h1, hp with
    | [u, v], _, h1, hp =>
      have hmem : ∀ z ∈ [u, v], z = Value.bool x ∨ z = Value.bool y := fun z hz => by simpa using hp.mem_iff.mp hz
      have hs : SrtB.ltBv v u = false := by
        have := List.pairwise_cons.mp h1
        exact this.1 v (by simp)
      have hcx : [u, v].count (Value.bool true) = [Value.bool x, Value.bool y].count (Value.bool true) := hp.count_eq _
      have hcf : [u, v].count (Value.bool false) = [Value.bool x, Value.bool y].count (Value.bool false) := hp.count_eq _
      rcases hmem u (by simp) with rfl | rfl <;> rcases hmem v (by simp) with rfl | rfl <;> cases x <;> cases y <;> first | rfl | (exact absurd hs (by decide)) | (exact absurd hcx (by decide)) | (exact absurd hcf (by decide))
  subst eo
  obtain ⟨ep, he'⟩ := PyProof.Rows.sortedAll_at s.heap ([x, y].map Value.bool) [Value.bool (x && y), Value.bool (x || y)].toArray
  exact ⟨.ref _, L2.upd H (s.heap.objs.size + 1) (.lst [.bl (x && y), .bl (x || y)]), I.laid (t' := s.toks) (fun _ _ => PyProof.Rows.sortedAll_old) (Nat.le_succ _) ⟨by simp; rw [sizeLine_eq]; decide, _, ep, vals_ofBools [x && y, x || y], he'⟩, rfl, q _ (I.hok.fresh (Nat.le_succ _))⟩
section
variable {X : Cx} {g : G}
def rdSortedB : List Z → DS → QZ → Prop := fun zs ds Q => match zs with
  | [z] => match itemsL ds z with
    | some [.bl x, .bl y] => Q (.d (srtd2 x y)) ds
    | _ => False
  | _ => False
theorem cd_sortedB : CallD X g (.builtin "sorted") rdSortedB := .of cr_sortedB fun σ H M ds zs vs QD R rz h => by
  unfold rdSortedB at h
  split at h
  · obtain ⟨v, rfl, r1⟩ := zs1 rz
    split at h
    · rename_i x y e
      obtain ⟨p, xs, rfl, r, hq⟩ := itemsL_rep R r1 e
      obtain ⟨_, _, rfl, e1, _, _, rfl, e2, rfl⟩ := r
      cases e1; cases e2
      exact ⟨p, x, y, rfl, hq, fun q hn => .lst R (l := [.bl (x && y), .bl (x || y)]) hn ⟨_, _, rfl, rfl, _, _, rfl, rfl, rfl⟩ h⟩
    · exact h.elim
  · exact h.elim
end
end L3

set_option Elab.async false
set_option linter.all false
set_option maxRecDepth 100000
set_option maxHeartbeats 2000000
namespace L3
open PySem PySem.Spec PyProof.Rows L2
def catL (ds : DS) : Z → Option (List D)
  | .d (.lst l) => some l
  | .m n => match ds.w[n]? with
    | some (some (.lst l)) => some l
    | _ => none
  | _ => none
section
variable {X : Cx} {g : G}
theorem catL_rep {σ : L2.St} {H : Hp} {M : List Addr} {ds : DS} {z : Z} {v : V} {l : List D} (R : RepS X.K g M ds σ H) (rz : RepZ X.K (g.own M ds) M H z v) (h : catL ds z = some l) : ∃ a xs, v = .ref a ∧ RepL X.K (g.own M ds) H l xs ∧ H a = some (.lst xs) := by
  unfold catL at h
  split at h
  · cases h
    obtain ⟨a, xs, e, r, n, q⟩ := rz
    exact ⟨a, xs, e, r, q⟩
  · split at h
    · rename_i n _ l hw
      cases h
      obtain ⟨a, ha, rfl⟩ := rz
      obtain ⟨xs, r, q⟩ := R.obj _ _ _ hw ha
      exact ⟨a, xs, rfl, r, q⟩
    · cases h
  · cases h
def rdAddM (x y : Z) (ds : DS) (Q : QZ) : Prop := match catL ds x, catL ds y with
  | some a, some b => a.length + b.length ≤ sizeLine ∧ Q (.m ds.w.length) (ds.more (.lst (a ++ b)))
  | _, _ => False
theorem od_addM : OpD X g (binaryOp .Add) rdAddM := by
  intro pins s σ H M ds x y v u vv uu QD I R rx vx ry vy h
  unfold rdAddM at h
  split at h
  · rename_i a b e1 e2
    obtain ⟨p, xs, rfl, r1, h1⟩ := catL_rep R rx e1
    obtain ⟨q, ys, rfl, r2, h2⟩ := catL_rep R ry e2
    exact thn (op_cat pins s σ H _ _ vv uu _ I vx vy ⟨p, q, xs, ys, rfl, rfl, h1, h2, by rw [RepL.length r1, RepL.length r2]; exact h.1, fun p hp => .mlst R hp (r1.append r2) h.2⟩) fun _ _ z => .of z
  · exact h.elim
end
structure RdAddS (x y : Z) (ds : DS) (Q : QZ) : Prop where
  h : ∃ a b, catL ds x = some a ∧ catL ds y = some b ∧ a.length + b.length ≤ sizeLine ∧ Q (.m ds.w.length) (ds.more (.lst (a ++ b)))
structure IsLS (z : Z) (ds : DS) : Prop where
  h : ∃ n l, z = .m n ∧ ds.w[n]? = some (some (.lst l))
structure RdAppS (z y : Z) (ds : DS) (Q : QZ) : Prop where
  h : ∃ n l x, z = .m n ∧ y = .d x ∧ ds.w[n]? = some (some (.lst l)) ∧ l.length < sizeLine ∧ Q (.d .non) (ds.put n (.lst (l ++ [x])))
structure DVarFS (i : Nat) (ds : DS) (Q : QZ) : Prop where
  h : ∃ n l, ds.s[i]? = some (some (.m n)) ∧ ds.w[n]? = some (some (.lst l)) ∧ Q (.d (.lst l)) (ds.frz n (.lst l))
def dVarFS (i : Nat) : TD := fun ds Q _ => DVarFS i ds Q
def dAppS (to te : TD) : TD := fun ds Q E => to ds (fun z ds1 => IsLS z ds1 ∧ te ds1 (fun y ds2 => RdAppS z y ds2 Q) E) E
section
variable {X : Cx} {g : G} {W : WX} {pos : Pos} {o e : Expr} {to te : TD}
theorem od_addS : OpD X g (binaryOp .Add) RdAddS := by
  intro pins s σ H M ds x y v u vv uu QD I R rx vx ry vy h
  obtain ⟨a, b, e1, e2, h1, h2⟩ := h.h
  exact od_addM pins s σ H M ds x y v u vv uu QD I R rx vx ry vy (by unfold rdAddM; rw [e1, e2]; exact ⟨h1, h2⟩)
theorem px_varFS (i : Nat) {x : Str} (hN : X.N[i]? = some x := by rfl) (hv : Vis X.env.scope x := by first | exact Or.inl rfl | exact Or.inr (Or.inl rfl) | exact Or.inr (Or.inr rfl)) (hd : (x == ("__debug__" : Str)) = false := by decide)
    (hcd : (x == ("__classdict__" : Str)) = false := by decide) : PX X g W (.Name x pos) (dVarFS i) := by
  refine ⟨fun pins s σ H M ds QD ED I R t hE => ?_⟩
  obtain ⟨n, l, e1, e2, q⟩ := t.h
  exact (px_varF i hN hv hd hcd).run pins s σ H M ds QD ED I R (by unfold dVarF; rw [e1]; dsimp only; rw [e2]; exact q) hE
theorem px_appendS {apos : Pos} (ho : PX X g W o to) (hv : PX X g W e te) (hbase : attributeBase o "append" X.env (eval o X.env) = eval o X.env := by rfl) (hline : (apos.endLine == pos.line) = true := by rfl) (hs : starEach [e] X.env = (false, eval e X.env) :: starEach [] X.env := by rfl)
    (hfew : ((backTo pos (starEach [e] X.env)).all (fun x => !x.1) && (backToKw pos (keywordEach [] X.env)).all (fun x => x.1.isSome) && decide ([e].length + ([] : List Keyword).length + (if ([] : List Keyword).isEmpty then 0 else 1) < 30)) = true := by rfl)
    (hpl : (backTo pos (starEach [] X.env)).any (·.1) = false := by rfl) :
    PX X g W (.Call (.Attribute o "append" apos) [e] [] pos) (dAppS to te) := by
  refine .of (pe_bm PySem.F.plainAttrs_list PySem.F.slot_list_append PySem.F.type_list_append mt_append ho.pe (pa_cons hv.pe pa_nil hs) hbase hfew hline hs hpl) fun σ H M ds QD ED R ht he => ?_
  refine lift_in R ht he fun z ds1 M1 v H1 R1 N1 rz q => ?_
  obtain ⟨q0, q⟩ := q
  obtain ⟨n, l0, rfl, hw0⟩ := q0.h
  refine ⟨isL_rep R1 rz (by unfold rdIsL; dsimp only; rw [hw0]; trivial), ?_⟩
  refine lift_in R1 q (he.nxt N1) fun y ds2 M2 u H2 R2 N2 ry q2 => ?_
  have rz := rz.mv N2.mv N2.pre
  obtain ⟨n', l, x, e1, rfl, hw, hl, q2⟩ := q2.h
  cases e1
  obtain ⟨a, ha, rfl⟩ := rz
  obtain ⟨xs, r, hH⟩ := R2.obj _ _ _ hw ha
  refine ⟨a, xs, u, rfl, rfl, hH, by rw [RepL.length r]; exact hl, ?_⟩
  obtain ⟨R3, N3⟩ := R2.put (c := .lst (l ++ [x])) (o := .lst (xs ++ [u])) hw ha (fun _ z => nomatch z) (fun _ z => nomatch z) fun own' m => ⟨xs ++ [u], RepL.snoc (RepL.mv m _ _ r) (RepD.mv m _ _ ry), upd_same⟩
  exact ⟨.d .non, _, M2, R3, (N1.trans N2).trans N3, rfl, q2⟩
end
section
variable {X : Cx} {g : G}
def anyEq (x : D) (l : List D) : Bool := (pds l).any fun y => PyData.eqv y x.pd
def inOk (x : D) (l : List D) : Prop := x.flat = true ∧ flats l = true ∧ SeqAt.shaped x.pd = true ∧ SeqAt.shaped (.tuple (pds l)) = true
def rdInT : Z → Z → DS → QZ → Prop := fun x y ds Q => match x, y with
  | .d x, .d (.tup l) => inOk x l ∧ Q (.d (.bl (anyEq x l))) ds
  | _, _ => False
def rdNotInT : Z → Z → DS → QZ → Prop := fun x y ds Q => match x, y with
  | .d x, .d (.tup l) => inOk x l ∧ Q (.d (.bl (!anyEq x l))) ds
  | _, _ => False
theorem op_inTD (hu : X.A.units + 65 < cLine) : OpR X (compareOp .In) (fun x y H Q => ∃ d ds, Dp X.K H x d ∧ Dp X.K H y (.tuple ds) ∧ SeqAt.shaped d = true ∧ SeqAt.shaped (.tuple ds) = true ∧ Q (.bl (ds.any fun z => PyData.eqv z d)) H) := by
  intro pins s σ H x y v u Q I rx ry h
  obtain ⟨d, ds, hd, he, sd, se, q⟩ := h
  obtain ⟨as, r1⟩ := Dp.reads I d x v hd rx
  obtain ⟨bs, r2⟩ := Dp.reads I (.tuple ds) y u he ry
  exact SeqAt.in_tuple_reads r2 r1 (SeqAt.canLay_of_shaped se) (SeqAt.canLay_of_shaped sd) (room_in_shaped sd hu) ⟨.bl _, H, I, rfl, q⟩
theorem op_notInTD (hu : X.A.units + 65 < cLine) : OpR X (compareOp .NotIn) (fun x y H Q => ∃ d ds, Dp X.K H x d ∧ Dp X.K H y (.tuple ds) ∧ SeqAt.shaped d = true ∧ SeqAt.shaped (.tuple ds) = true ∧ Q (.bl (!ds.any fun z => PyData.eqv z d)) H) := by
  intro pins s σ H x y v u Q I rx ry h
  obtain ⟨d, ds, hd, he, sd, se, q⟩ := h
  obtain ⟨as, r1⟩ := Dp.reads I d x v hd rx
  obtain ⟨bs, r2⟩ := Dp.reads I (.tuple ds) y u he ry
  exact SeqAt.notIn_tuple_reads r2 r1 (SeqAt.canLay_of_shaped se) (SeqAt.canLay_of_shaped sd) (room_in_shaped sd hu) ⟨.bl _, H, I, rfl, q⟩
theorem od_inT (hu : X.A.units + 65 < cLine) : OpD X g (compareOp .In) rdInT := by
  intro pins s σ H M ds x y v u vv uu QD I R rx vx ry vy h
  unfold rdInT at h
  split at h
  · rename_i x l
    obtain ⟨⟨f1, f2, s1, s2⟩, h⟩ := h
    exact thn (op_inTD hu pins s σ H _ _ vv uu _ I vx vy ⟨_, _, RepD.dp _ _ f1 rx, RepD.dp (.tup l) _ f2 ry, s1, s2, .same R (z := .d (.bl _)) rfl h⟩) fun _ _ z => .of z
  · exact h.elim
theorem od_notInT (hu : X.A.units + 65 < cLine) : OpD X g (compareOp .NotIn) rdNotInT := by
  intro pins s σ H M ds x y v u vv uu QD I R rx vx ry vy h
  unfold rdNotInT at h
  split at h
  · rename_i x l
    obtain ⟨⟨f1, f2, s1, s2⟩, h⟩ := h
    exact thn (op_notInTD hu pins s σ H _ _ vv uu _ I vx vy ⟨_, _, RepD.dp _ _ f1 rx, RepD.dp (.tup l) _ f2 ry, s1, s2, .same R (z := .d (.bl _)) rfl h⟩) fun _ _ z => .of z
  · exact h.elim
end
theorem RoomG.units65 {gd : Bool} {k : Nat} {A : Around} (r : RoomG gd k A) : A.units + 65 < cLine := by have := r.1.un; omega
end L3

set_option Elab.async false
set_option linter.all false
set_option maxRecDepth 100000
set_option maxHeartbeats 2000000
namespace L3
open PySem PySem.Spec PyProof.Rows L2
theorem dictOf_nil {P : Program} {w : World} {h : Heap} {a : Addr} (d : h.DictOf (mixKind P w) a []) (P' : Program) (w' : World) : h.DictOf (mixKind P' w') a [] := by
  obtain ⟨o, es, ep, h1, h2, h3, hk, hp, _⟩ := d
  have e : es = #[] := by
    obtain ⟨l⟩ := es
    generalize hl : (Array.mk l).toList = l2 at hp
    cases hp
    simp at hl
    rw [hl]
  subst e
  exact ⟨o, #[], ep, h1, h2, h3, (fun e he => absurd he (by simp)), .nil, List.nodup_nil⟩
theorem eqAt_empty {P : Program} {w : World} {A : Around} {s : Shared} {a b : Addr} (ha : (a == sysModules) = false) (hb : (b == sysModules) = false) (da : s.heap.DictOf (mixKind P w) a []) (db : s.heap.DictOf (mixKind P w) b []) (hu : A.units < cLine) :
    SeqAt.EqAt A s (.ref a) (.ref b) true := fun prog w' E Q hq => by
  by_cases e : a = b
  · subst e
    exact SeqAt.EqAt.same _ prog w' E Q hq
  · exact SeqAt.eqP_refs e (fun E Q h => PySem.W.rcP_dicts (knd := mixKind prog w') (r := true) ha hb (dictOf_nil da _ _) (dictOf_nil db _ _) hu (fun _ => .nil) E Q h) E Q hq
section
variable {X : Cx} {g : G}
/-- [{}] beside [{}] -/
def TwoE (K : PySem.W.Frag) (x y : V) (H : Hp) : Prop := ∃ a b c d, x = .ref a ∧ y = .ref b ∧ SqL K H a [.ref c] ∧ SqL K H b [.ref d] ∧ H c = some (.dK []) ∧ H d = some (.dK [])
theorem two_run {pins : List (Addr × Obj)} {σ : L2.St} {H : Hp} {s : Shared} (I : Inv X pins σ H s) {a b c d : Addr} (ha : SqL X.K H a [.ref c]) (hb : SqL X.K H b [.ref d]) (hc : H c = some (.dK [])) (hd : H d = some (.dK [])) (hu : X.A.units + 64 < cLine) :
    ∃ its1 its2 : Array Value, s.heap.IsList a its1 ∧ s.heap.IsList b its2 ∧ its1.size = its2.size ∧ its1.size = 1 ∧ ∀ j (h1 : j < its1.size) (h2 : j < its2.size), SeqAt.EqAt X.A.in1 s its1[j] its2[j] true := by
  obtain ⟨us, r1, p1, _⟩ := I.list ha
  obtain ⟨ws, r2, p2, _⟩ := I.list hb
  obtain ⟨u, rfl, ru⟩ := vals1 r1
  obtain ⟨v, rfl, rv⟩ := vals1 r2
  cases (show u = Value.ref c from ru)
  cases (show v = Value.ref d from rv)
  obtain ⟨_, yc, vc, rc, dc⟩ := (show ObjOk X.prog X.w H s.heap c (.dK []) from I.hok c _ hc)
  obtain ⟨_, yd, vd, rd, dd⟩ := (show ObjOk X.prog X.w H s.heap d (.dK []) from I.hok d _ hd)
  cases rc
  cases rd
  refine ⟨_, _, p1.isList, p2.isList, rfl, rfl, fun j h1 h2 => ?_⟩
  have hj : j = 0 := by simp at h1; omega
  subst hj
  exact eqAt_empty yc yd dc dd (by show X.A.units + 1 < cLine; omega)
theorem op_neE (hu : X.A.units + 64 < cLine) : OpR X (compareOp .NotEq) (fun x y H Q => TwoE X.K x y H ∧ Q (.bl false) H) := by
  intro pins s σ H x y v u Q I rx ry h
  obtain ⟨⟨a, b, c, d, rfl, rfl, ha, hb, hc, hd⟩, q⟩ := h
  cases (show v = Value.ref a from rx)
  cases (show u = Value.ref b from ry)
  obtain ⟨i1, i2, l1, l2, hs, h1, he⟩ := two_run I ha hb hc hd hu
  refine SeqAt.RcNeAt.lists (e := fun _ => true) l1 l2 hs (by omega) he _ _ _ _ ?_
  rw [h1]
  exact ⟨.bl false, H, I, rfl, q⟩
theorem op_eqE (hu : X.A.units + 64 < cLine) : OpR X (compareOp .Eq) (fun x y H Q => TwoE X.K x y H ∧ Q (.bl true) H) := by
  intro pins s σ H x y v u Q I rx ry h
  obtain ⟨⟨a, b, c, d, rfl, rfl, ha, hb, hc, hd⟩, q⟩ := h
  cases (show v = Value.ref a from rx)
  cases (show u = Value.ref b from ry)
  obtain ⟨i1, i2, l1, l2, hs, h1, he⟩ := two_run I ha hb hc hd hu
  refine SeqAt.rcP_lists (e := fun _ => true) l1 l2 hs (by omega) (fun j h1 h2 => (he j h1 h2).eqP) _ _ ?_
  rw [h1]
  exact ⟨.bl true, H, I, rfl, q⟩
def isE : Z → Bool
  | .d (.lst [.dic [] []]) => true
  | _ => false
def rdNeE (x y : Z) (ds : DS) (Q : QZ) : Prop := match isE x && isE y with
  | true => Q (.d (.bl false)) ds
  | false => rdNe x y ds Q
def rdEqE (x y : Z) (ds : DS) (Q : QZ) : Prop := match isE x && isE y with
  | true => Q (.d (.bl true)) ds
  | false => rdEq x y ds Q
theorem isE_rep {K : PySem.W.Frag} {own : Addr → Prop} {M : List Addr} {H : Hp} {z : Z} {v : V} (h : isE z = true) (r : RepZ K own M H z v) : ∃ a c, v = .ref a ∧ SqL K H a [.ref c] ∧ H c = some (.dK []) := by
  unfold isE at h
  split at h
  · obtain ⟨a, xs, rfl, rl, n, q⟩ := r
    obtain ⟨c, r2, rfl, rd, e⟩ := rl
    cases (show r2 = [] from e)
    obtain ⟨p, ys, rfl, ry, _, _, hq⟩ := rd
    cases (show ys = [] from ry)
    exact ⟨a, p, rfl, .of q, hq⟩
  · cases h
theorem od_neE (hu : X.A.units + 64 < cLine) : OpD X g (compareOp .NotEq) rdNeE := by
  intro pins s σ H M ds x y v u vv uu QD I R rx vx ry vy h
  unfold rdNeE at h
  split at h
  · rename_i e
    rw [Bool.and_eq_true] at e
    obtain ⟨a, c, rfl, h1, h2⟩ := isE_rep e.1 rx
    obtain ⟨b, d, rfl, h3, h4⟩ := isE_rep e.2 ry
    exact thn (op_neE hu pins s σ H _ _ vv uu _ I vx vy ⟨⟨a, b, c, d, rfl, rfl, h1, h3, h2, h4⟩, .same R (z := .d (.bl _)) rfl h⟩) fun _ _ z => .of z
  · exact od_ne hu pins s σ H M ds x y v u vv uu QD I R rx vx ry vy h
theorem od_eqE (hu : X.A.units + 64 < cLine) : OpD X g (compareOp .Eq) rdEqE := by
  intro pins s σ H M ds x y v u vv uu QD I R rx vx ry vy h
  unfold rdEqE at h
  split at h
  · rename_i e
    rw [Bool.and_eq_true] at e
    obtain ⟨a, c, rfl, h1, h2⟩ := isE_rep e.1 rx
    obtain ⟨b, d, rfl, h3, h4⟩ := isE_rep e.2 ry
    exact thn (op_eqE hu pins s σ H _ _ vv uu _ I vx vy ⟨⟨a, b, c, d, rfl, rfl, h1, h3, h2, h4⟩, .same R (z := .d (.bl _)) rfl h⟩) fun _ _ z => .of z
  · exact od_eq hu pins s σ H M ds x y v u vv uu QD I R rx vx ry vy h
end
structure RdNeBS (x y : Z) (ds : DS) (Q : QZ) : Prop where
  h : ∃ a b, borD ds x = some a ∧ borD ds y = some b ∧ eqOk a b ∧ Q (.d (.bl (!PyData.eqv a.pd b.pd))) ds
structure KAbS (S : SA) (Q : QZ) (E : QE) (zs : List Z) (ds : DS) : Prop where
  h : ∃ l, borL ds zs = some l ∧ S l (fun y => y.solid = true ∧ Q (.d y) ds) (fun y => solids y.vals = true ∧ E y ds)
def dCallAbS (S : SA) (t : TLi) : TD := fun ds Q E => t ds (KAbS S Q E) E
section
variable {X : Cx} {g : G} {W : WX} {gd : Bool} {k n : Nat} {f : Addr} {fd : FuncData} {ps : List Str} {T : List (Addr × Str)} {S : SA} {Sn : List D → (MC → Prop) → (EX → Prop) → Prop} {x : Str} {p pos apos : Pos} {e : Expr} {es : List Expr} {t : TLi}
theorem od_neBS (hu : X.A.units + 64 < cLine) : OpD X g (compareOp .NotEq) RdNeBS := by
  intro pins s σ H M ds x y v u vv uu QD I R rx vx ry vy h
  obtain ⟨a, b, e1, e2, h1, h2⟩ := h.h
  exact od_neB hu pins s σ H M ds x y v u vv uu QD I R rx vx ry vy (by unfold rdNeB kBor2; rw [e1, e2]; exact ⟨h1, h2⟩)
theorem px_ownAbS (Go : OwnF gd X.prog X.w X.K X.mg X.base x k f fd ps (spA X.K T S)) (hb : Binds X.K fd ps []) (hT : g.T = T) (hr : RoomG gd k X.A) (tk : Takes X W) (ha : PXA X g W (e :: es) t) (hg : Gl X x := by rfl) (hdb : (x == ("__debug__" : Str)) = false := by decide)
    (he : starEach (e :: es) X.env = (false, eval e X.env) :: starEach es X.env := by rfl) (hpl : (backTo pos (starEach es X.env)).any (·.1) = false := by rfl) : PX X g W (.Call (.Name x p) (e :: es) [] pos) (dCallAbS S t) := by
  subst hT
  refine ⟨fun pins s σ H M ds QD ED I R ht hE => ?_⟩
  refine wpAny_Call_Name_kw (ld_glob I hg Go.g ?_ hdb)
  refine PySem.W.callWith_K (h₀ := X.base) I.ok.mod.kin Go.kp (thn (ha.run pos pins s σ H M ds _ ED I R ht hE) fun us s1 ⟨zs, ds1, M1, vs, H1, I1, r1, R1, N1, rz, q1⟩ => ⟨I1.kIn, ?_⟩) he hpl
  obtain ⟨l, el, q1⟩ := q1.h
  · have hE1 := hE.nxt N1
    have sp : spA X.K g.T S vs H1 (Mid X g σ M1 ds1 H1 QD) (fun cls d H' => W cls d σ H') := ⟨g.ow, l, _, _, fun a h => R1.out a h, borL_ok R1 rz el, R1.tabs, q1, fun y v H' q f rv t => by
        obtain ⟨R', N⟩ := R1.fr0 f t
        exact ⟨.d y, ds1, M1, R', N, RepD.solid R' y v q.1 rv, q.2⟩, fun y cls d H' q f re t => by
        obtain ⟨R', N⟩ := R1.fr0 f t
        refine hE1 y ds1 M1 H' cls d q.2 R' N ⟨re.1, fun a => ?_⟩
        obtain ⟨e1, xs, r, z, z0, q3⟩ := re.2 a
        refine ⟨e1, xs, RepL.solid R' _ _ q.1 r, z, z0, fun hf => ?_⟩
        obtain ⟨dx, e4, n4, q4⟩ := q3 hf
        refine ⟨dx, e4, fun zz => ?_, q4⟩
        rcases zz with zz | ⟨n, c, h1, h2⟩
        · exact n4 zz
        · have r := R'.obj n c dx h2 h1
          cases c with
          | lst l => obtain ⟨ys, _, e⟩ := r; rw [q4] at e; cases e
          | dic ks l => obtain ⟨ys, _, _, e⟩ := r; rw [q4] at e; cases e
          | ins C ns l => obtain ⟨dx, ys, _, _, e⟩ := r; rw [q4] at e; cases e⟩
    have hl : (us ++ []).length = ps.length := by rw [List.append_nil, ← r1.length]; exact Go.ok.len _ _ _ _ sp
    have b1 := hb s1 us I1.kIn hl
    rw [List.append_nil] at b1
    exact thn (run_fnX Go.ok hr tk I1 b1 r1 sp) fun _ _ h => (EPD.of h).nxt N1
end
end L3

set_option Elab.async false
set_option linter.all false
set_option maxRecDepth 100000
set_option maxHeartbeats 2000000
namespace SrtT
open PySem PySem.Spec PyProof.Rows PySem.W PySem.Calls
section
variable {prog : Program} {w : World} {A : Around} {E : Value → Shared → Prop} {s : Shared}
theorem collect_tup {l : Addr} {vs : List Value} {Q : List Value → Shared → Prop} (hl : s.heap.IsTuple l vs.toArray)
    (h : Q vs { s with heap := (s.heap.push (seqObj "list" #[] 0)).update s.heap.objs.size (Obj.mapSeq (· ++ vs.toArray)) }) (hsz : vs.length ≤ sizeLine) :
    wpAny (model prog w) A (collect (.ref l)) Q E s := by
  obtain ⟨o, ho, hc, n, hd⟩ := id hl
  unfold collect
  refine wpAny_bind (wpAny_runValue (codeAny_builtin entry_proto_collect' ?_))
  show wpAny _ _ (do again (.builtin "list.__iadd__" ⟨[← newList [], .ref l], []⟩)) _ _ s
  refine wpAny_bind (wpAny_newList (wpAny_pure ⟨Code.quiet_builtin _ (by decide +kernel), codeAny_builtin entry_list_iadd' ?_⟩))
  show wpAny _ _ (Builtin.List.listExtendWith (.ref s.heap.objs.size) (.ref l) (.ref s.heap.objs.size)) _ _ { s with heap := s.heap.push (seqObj "list" #[] 0) }
  unfold Builtin.List.listExtendWith
  have ho' : (s.heap.push (seqObj "list" #[] 0)).get? l = some o := Heap.get?_push_of_some _ ho
  refine wpAny_bind (wpAny_typeOf (T := "tuple") ⟨o, ho', hc⟩ ?_)
  have ht : (Value.type "tuple" == Value.type "tuple") = true := by rfl
  rw [if_pos (by rw [ht]; simp)]
  refine wpAny_bind (listItems_at ho' hd ?_)
  refine wpAny_bind (listItems_at (xs := #[]) (n := 0) (Heap.get?_push_size _ rfl) rfl ?_)
  rw [if_neg (by simp)]
  refine wpAny_bind (listUpdate_at (xs := #[]) (n := 0) (Heap.get?_push_size _ rfl) rfl ?_ (Nat.zero_le _) (by show (#[] ++ vs.toArray).size ≤ sizeLine + 1; simp only [Array.size_append, List.size_toArray, List.length_nil]; omega))
  refine wpAny_pure ?_
  show wpAny (model prog w) A (do
      let o ← load s.heap.objs.size
      match o.data with
      | .seq xs _ => pure xs.toList
      | _ => unsupported "internal:collect") Q E { s with heap := (s.heap.push (seqObj "list" #[] 0)).update s.heap.objs.size (Obj.mapSeq (· ++ vs.toArray)) }
  refine wpAny_bind (wpAny_load (get?_update_seq (Heap.get?_push_size _ rfl) _) ?_)
  show wpAny _ _ (pure ((#[] : Array Value) ++ vs.toArray).toList) Q E _
  rw [show ((#[] : Array Value) ++ vs.toArray).toList = vs by simp]
  exact wpAny_pure h
theorem sorted_of_tup {l : Addr} {vs : List Value} {kw : List (Str × Value)} {Q : Value → Shared → Prop} (hl : s.heap.IsTuple l vs.toArray) (hL : vs.length ≤ sizeLine) (ha1 : argsOk "sorted" ⟨[.ref l], kw⟩) (ha2 : ∀ x, argsOk "list.sort" ⟨[.ref x], kw⟩)
    (body : ∀ E' : Value → Shared → Prop, wpAny (model prog w) A.in1.in1 (Builtin.«list.sort» ⟨[.ref (s.heap.objs.size + 1)], kw⟩) (fun f s' => f = .done (.ret .none) ∧ Q (.ref (s.heap.objs.size + 1)) s') E' { s with heap := copyHeap s.heap vs }) :
    wpAny (model prog w) A (call (.builtin "sorted") [.ref l] kw) Q E s := by
  refine call_function_entry_kw kind_sorted plain_sorted entry_sorted ha1 ?_
  unfold Builtin.«sorted»
  refine wpAny_bind (m := checkCount "sorted" 1 1 _) (wpAny_pure ?_)
  refine wpAny_bind (collect_tup hl ?_ hL)
  refine wpAny_bind (wpAny_newList ?_ hL)
  have hsz : ((s.heap.push (seqObj "list" #[] 0)).update s.heap.objs.size (Obj.mapSeq (· ++ vs.toArray))).objs.size = s.heap.objs.size + 1 := by
    rw [Heap.size_update, size_push']
  show wpAny _ _ _ _ _ { s with heap := copyHeap s.heap vs }
  rw [hsz]
  refine wpAny_bind (wpAny_holding (wpAny_call_entry_kw slot_list_sort ⟨_, copyHeap_at s.heap vs, rfl⟩ entry_list_sort ?body (ha2 _)))
  case body =>
    show wpAny (model prog w) A.in1.in1 (Builtin.«list.sort» ⟨[.ref (s.heap.objs.size + 1)], kw⟩) _ _ _
    refine wpAny_mono (body _) (fun f s' hf => ?_) fun _ _ e => e
    obtain ⟨rfl, hq⟩ := hf
    exact ⟨_, rfl, wpAny_pure ⟨_, rfl, hq⟩⟩
variable {β : Type} {R : Value → β → Prop} {vs : List Value} {bs : List β} {enc : β → PyData}
theorem sorted_dataT {l : Addr} {Q : Value → Shared → Prop} (hl : s.heap.IsTuple l vs.toArray) (e : EachIs R vs bs) (er : EachIs (fun v b => ∃ as, Reads s.heap v (enc b) as) vs bs) (hal : AllAlike (bs.map enc)) (hk : Sortable (bs.map enc)) (hL : bs.length ≤ sizeLine)
    (hu : ∀ b, b ∈ bs → A.units + 2 + (enc b).depth < cLine) (h : ∀ out, out.length = bs.length → EachIs R out (bs.mergeSort (dataLe false enc)) → Q (.ref (s.heap.objs.size + 1)) { s with heap := sortedAll s.heap vs (List.toArray out) }) :
    wpAny (model prog w) A (call (.builtin "sorted") [.ref l]) Q E s := by
  have er' : EachIs (fun v b => ∃ as, Reads (sortingHeap (copyHeap s.heap vs) (s.heap.objs.size + 1) vs) v (enc b) as) vs bs := er.mono fun _ _ ⟨as, r⟩ => ⟨as, PyProof.Rows.Reads.keeps (fun _ _ => sorting_copy_old) r⟩
  refine sorted_of_tup hl (by rw [e.length]; exact hL) (args_sorted1 _) (fun _ => args_list_sort _) fun _ => list_sort_vals (s := { s with heap := copyHeap s.heap vs }) (copyHeap_at s.heap vs)
    (SortsAt.data (s := { s with heap := sortingHeap (copyHeap s.heap vs) (s.heap.objs.size + 1) vs }) (each_map (R := fun v d => ∃ as, Reads (sortingHeap (copyHeap s.heap vs) (s.heap.objs.size + 1) vs) v d as) enc er') hal hk (bound_map hu)) (by rw [e.length]; exact hL) ⟨rfl, ?_⟩
  exact h _ (by rw [sortVals_length false rfl]; exact e.length) (sortVals_data false e er' hal)
end
end SrtT
namespace L3
open PySem PySem.Spec PyProof.Rows L2
def sortD (l : List D) : List D := l.mergeSort (PySem.W.dataLe false D.pd)
structure SortOk (l : List D) : Prop where
  fl : flats l = true
  al : PySem.W.AllAlike (l.map D.pd)
  so : PySem.W.Sortable (l.map D.pd)
  n : l.length ≤ sizeLine
  dp : ∀ d ∈ l, d.pd.depth ≤ 50
theorem flats_mem : ∀ {l : List D}, flats l = true → ∀ d ∈ l, d.flat = true
  | d :: l, h, x, hx => by
    have h' : (d.flat && flats l) = true := h
    rw [Bool.and_eq_true] at h'
    rcases List.mem_cons.mp hx with rfl | hx
    · exact h'.1
    · exact flats_mem h'.2 x hx
section
variable {X : Cx} {g : G}
def rdSortD : List Z → DS → QZ → Prop := fun zs ds Q => match zs with
  | [z] => match itemsOf ds z with
    | some l => SortOk l ∧ Q (.d (.lst (sortD l))) ds
    | none => False
  | _ => False
/-- .. as a thing that will be written -/
def rdSortDM : List Z → DS → QZ → Prop := fun zs ds Q => match zs with
  | [z] => match itemsOf ds z with
    | some l => SortOk l ∧ Q (.m ds.w.length) (ds.more (.lst (sortD l)))
    | none => False
  | _ => False
/-- what an item of a sorted list is -/
def SIt (K : PySem.W.Frag) (own : Addr → Prop) (H : Hp) (u : Value) (d : D) : Prop := ∃ v, RelV v u ∧ RepD K own H d v
theorem each_sit {K : PySem.W.Frag} {own : Addr → Prop} {H : Hp} : ∀ {l : List D} {xs : List V} {us : List Value}, RepL K own H l xs → Vals xs us → PySem.W.EachIs (SIt K own H) us l
  | [], xs, us, r, h => by cases r; cases h; exact .nil
  | d :: l, xs, us, r, h => by
    obtain ⟨v, xs', rfl, r1, r2⟩ := r
    cases h with
    | cons h1 h2 => exact .cons ⟨v, h1, r1⟩ (each_sit r2 h2)
theorem sit_each {K : PySem.W.Frag} {own : Addr → Prop} {H : Hp} : ∀ {us : List Value} {l : List D}, PySem.W.EachIs (SIt K own H) us l → ∃ xs, Vals xs us ∧ RepL K own H l xs
  | _, _, .nil => ⟨[], .nil, rfl⟩
  | _, _, .cons ⟨v, h1, r1⟩ t => by
    obtain ⟨xs, h2, r2⟩ := sit_each t
    exact ⟨v :: xs, .cons h1 h2, v, xs, rfl, r1, r2⟩
theorem each_reads {pins : List (Addr × Obj)} {σ : L2.St} {H : Hp} {s : Shared} (I : Inv X pins σ H s) {own : Addr → Prop} : ∀ {l : List D} {xs : List V} {us : List Value}, flats l = true → RepL X.K own H l xs → Vals xs us → PySem.W.EachIs (fun v b => ∃ as, Reads s.heap v b.pd as) us l
  | [], xs, us, _, r, h => by cases r; cases h; exact .nil
  | d :: l, xs, us, f, r, h => by
    obtain ⟨v, xs', rfl, r1, r2⟩ := r
    have f' : (d.flat && flats l) = true := f
    rw [Bool.and_eq_true] at f'
    cases h with
    | cons h1 h2 => exact .cons (Dp.reads I d.pd v _ (RepD.dp d v f'.1 r1) h1) (each_reads I f'.2 r2 h2)
theorem cd_sort_in (hu : X.A.units + 64 < cLine) {pins : List (Addr × Obj)} {s : Shared} {σ : L2.St} {H : Hp} {M : List Addr} {ds : DS} {z : Z} {v : V} {u : Value} {l : List D} {Q : QZ} (I : Inv X pins σ H s) (R : RepS X.K g M ds σ H) (rz : RepZ X.K (g.own M ds) M H z v) (rv : RelV v u)
    (e : itemsOf ds z = some l) (ok : SortOk l) (hq : ∀ p xs, H p = none → RepL X.K (g.own M ds) H (sortD l) xs → Mid X g σ M ds H Q (.ref p) (L2.upd H p (.lst xs))) :
    wpAny (model X.prog X.w) X.A (call (.builtin "sorted") [u]) (EPD X g pins σ M ds H Q) X.xe s := by
  obtain ⟨p, xs, rfl, r, hs⟩ := items_rep R rz e
  cases rv
  have fin : ∀ us, Vals xs us → ∀ out : List Value, out.length = l.length → PySem.W.EachIs (SIt X.K (g.own M ds) H) out (l.mergeSort (PySem.W.dataLe false D.pd)) → EPD X g pins σ M ds H Q (.ref (s.heap.objs.size + 1)) { s with heap := sortedAll s.heap us (List.toArray out) } := fun us hv out ho he => by
    obtain ⟨ys, hy, ry⟩ := sit_each he
    obtain ⟨ep, he'⟩ := PyProof.Rows.sortedAll_at s.heap us out.toArray
    refine .of ⟨.ref _, L2.upd H (s.heap.objs.size + 1) (.lst ys), I.laid (t' := s.toks) (fun _ _ => PyProof.Rows.sortedAll_old) (Nat.le_succ _) ⟨?_, _, ep, hy, he'⟩, rfl, hq _ _ (I.hok.fresh (Nat.le_succ _)) ry⟩
    rw [hy.length, ho]; exact ok.n
  have hb : ∀ b, b ∈ l → X.A.units + 2 + b.pd.depth < cLine := fun b hb => by have := ok.dp b hb; omega
  rcases hs with hs | hs
  · obtain ⟨its, hv, hl, hz⟩ := I.list hs
    exact PySem.W.sorted_data (enc := D.pd) hl.isList (each_sit r hv) (each_reads I ok.fl r hv) ok.al ok.so ok.n hb (fin its hv)
  · obtain ⟨its, hv, hl, hz⟩ := I.tuple hs
    exact SrtT.sorted_dataT (enc := D.pd) hl (each_sit r hv) (each_reads I ok.fl r hv) ok.al ok.so ok.n hb (fin its hv)
theorem cd_sortD (hu : X.A.units + 64 < cLine) : CallD X g (.builtin "sorted") rdSortD := by
  intro pins s σ H M ds zs vs us Q I R rz rv h
  unfold rdSortD at h
  split at h
  · obtain ⟨v, rfl, r1⟩ := zs1 rz
    split at h
    · rename_i l e
      cases rv with
      | cons h1 h2 =>
        cases h2
        exact cd_sort_in hu I R r1 h1 e h.1 fun p xs hp r => .lst R hp r h.2
    · exact h.elim
  · exact h.elim
theorem cd_sortDM (hu : X.A.units + 64 < cLine) : CallD X g (.builtin "sorted") rdSortDM := by
  intro pins s σ H M ds zs vs us Q I R rz rv h
  unfold rdSortDM at h
  split at h
  · obtain ⟨v, rfl, r1⟩ := zs1 rz
    split at h
    · rename_i l e
      cases rv with
      | cons h1 h2 =>
        cases h2
        exact cd_sort_in hu I R r1 h1 e h.1 fun p xs hp r => .mlst R hp r h.2
    · exact h.elim
  · exact h.elim
end
theorem ints_alike (l : List Int) : PySem.W.AllAlike ((l.map D.int).map D.pd) := by
  intro d hd d' hd'
  obtain ⟨_, h, rfl⟩ := List.mem_map.mp hd
  obtain ⟨i, _, rfl⟩ := List.mem_map.mp h
  obtain ⟨_, h, rfl⟩ := List.mem_map.mp hd'
  obtain ⟨j, _, rfl⟩ := List.mem_map.mp h
  rfl
theorem flats_ints : ∀ l : List Int, flats (l.map D.int) = true
  | [] => rfl
  | i :: l => by show (true && flats (l.map D.int)) = true; rw [flats_ints l]; rfl
theorem sortOk_ints {l : List Int} (h : l.length ≤ sizeLine) : SortOk (l.map D.int) := by
  refine ⟨flats_ints l, ints_alike l, .inr fun d hd => ?_, by rw [List.length_map]; exact h, fun d hd => ?_⟩
  · obtain ⟨_, h, rfl⟩ := List.mem_map.mp hd
    obtain ⟨i, _, rfl⟩ := List.mem_map.mp h
    exact ⟨(fun h => nomatch h), (fun xs h => nomatch h)⟩
  · obtain ⟨i, _, rfl⟩ := List.mem_map.mp hd
    exact Nat.zero_le _
theorem sortD_ints (l : List Int) : sortD (l.map D.int) = (l.mergeSort (fun a b => decide (a ≤ b))).map D.int := by
  unfold sortD
  refine (PySem.W.sort_maps D.int fun a _ b _ => ?_).symm
  have := congrFun (congrFun (PySem.W.dataLe_int (fun i : Int => i)) a) b
  exact this.symm
theorem sort2 (a b : Int) : sortD [.int a, .int b] = [.int (min a b), .int (max a b)] := by
  have h := sortD_ints [a, b]
  have e : [a, b].mergeSort (fun a b => decide (a ≤ b)) = [min a b, max a b] := by
    unfold List.mergeSort
    by_cases hab : a ≤ b
    · simp [List.MergeSort.Internal.splitInTwo, List.merge, hab, Int.min_eq_left hab, Int.max_eq_right hab]
    · simp [List.MergeSort.Internal.splitInTwo, List.merge, hab, Int.min_eq_right (Int.le_of_not_le hab), Int.max_eq_left (Int.le_of_not_le hab)]
  rw [e] at h
  exact h
end L3

set_option Elab.async false
set_option linter.all false
set_option maxRecDepth 100000
set_option maxHeartbeats 2000000
namespace L3
open PySem PySem.Spec PyProof.Rows L2
section
variable {X : Cx} {g : G} {W : WX} {pos p kp : Pos} {x : Str} {e d : Expr} {tb : TD} {t : TLi}
def rdMinDef (z y : Z) (ds : DS) (Q : QZ) : Prop := match itemsL ds z with
  | some l => match intsD l with
    | some is => (is = [] → Q y ds) ∧ ∀ m, m ∈ is → (∀ a ∈ is, m ≤ a) → Q (.d (.int m)) ds
    | none => False
  | none => False
def kMinDef (tb : TD) (Q : QZ) (E : QE) : List Z → DS → Prop := fun zs ds => match zs with
  | [z] => tb ds (fun y ds2 => rdMinDef z y ds2 Q) E
  | _ => False
def dMinDef (t : TLi) (tb : TD) : TD := fun ds Q E => t ds (kMinDef tb Q E) E
theorem pds_ints : ∀ is : List Int, pds (is.map D.int) = is.map PyData.int
  | [] => rfl
  | i :: is => by show D.pd (.int i) :: pds (is.map D.int) = _; rw [pds_ints is]; rfl
theorem flats_ints2 : ∀ l : List Int, flats (l.map D.int) = true := flats_ints
theorem foldl_min_mem : ∀ (is : List Int) (n : Int), is.foldl min n ∈ n :: is
  | [], n => List.mem_cons_self
  | i :: is, n => by
    have h := foldl_min_mem is (min n i)
    rw [List.foldl_cons]
    rcases List.mem_cons.mp h with h | h
    · rw [h]
      rcases Int.le_total n i with z | z
      · rw [Int.min_eq_left z]; exact List.mem_cons_self
      · rw [Int.min_eq_right z]; exact List.mem_cons_of_mem _ List.mem_cons_self
    · exact List.mem_cons_of_mem _ (List.mem_cons_of_mem _ h)
theorem foldl_min_le : ∀ (is : List Int) (n : Int), ∀ a ∈ n :: is, is.foldl min n ≤ a
  | [], n, a, h => by
    have : a = n := by simpa using h
    rw [this]; exact Int.le_refl _
  | i :: is, n, a, h => by
    rw [List.foldl_cons]
    have k := foldl_min_le is (min n i)
    rcases List.mem_cons.mp h with rfl | h
    · exact Int.le_trans (k _ List.mem_cons_self) (Int.min_le_left ..)
    · rcases List.mem_cons.mp h with rfl | h
      · exact Int.le_trans (k _ List.mem_cons_self) (Int.min_le_right ..)
      · exact k a (List.mem_cons_of_mem _ h)
theorem px_minDef (hu : X.A.units + 64 < cLine) (hc : X.calm = true) (hg : Gl X x) (hm : X.mg x = none) (hv : bootBuiltins x = some (.builtin "min")) (ha : PXA X g W [e] t) (hb : PX X g W d tb) (hn : x ≠ "__name__" := by decide) (hdb : (x == ("__debug__" : Str)) = false := by decide)
    (he : backTo pos (starEach [e] X.env) = (false, eval e X.env) :: backTo pos (starEach [] X.env) := by rfl) (hpl : (backTo pos (starEach [e] X.env)).any (·.1) = false := by rfl)
    (hall : (backToKw pos (keywordEach [⟨some "default", d, kp⟩] X.env)).all (·.1.isSome) = true := by rfl) (hkw : (backToKw pos (keywordEach [⟨some "default", d, kp⟩] X.env)).any (·.1.isNone) = false := by rfl)
    (hks : (backToKw pos (keywordEach [⟨some "default", d, kp⟩] X.env)).filterMap (·.1) = [("default" : Str)] := by rfl) :
    PX X g W (.Call (.Name x p) [e] [⟨some "default", d, kp⟩] pos) (dMinDef t tb) := by
  refine ⟨fun pins s σ H M ds QD ED I R ht hE => ?_⟩
  refine wpAny_Call_Name_kw (ld_blt I hg hm hv ?_ hn hdb)
  refine PyProof.Rows.callWith_kw ?_ he hpl hall hkw
  refine thn (ha.run pos pins s σ H M ds (kMinDef tb QD ED) ED I R ht hE) fun us s1 ⟨zs, ds1, M1, vs, H1, I1, r1, R1, N1, rz, q1⟩ => ?_
  match zs, q1, rz with
  | [z], q1, rz =>
    obtain ⟨v1, rfl, rz1⟩ := zs1 rz
    refine PyProof.Rows.kws_cons ?_
    refine thn (hb.run pins s1 σ H1 M1 ds1 _ ED I1 R1 q1 (hE.nxt N1)) fun w s2 ⟨y, ds2, M2, v2, H2, I2, r2, R2, N2, rz2, q2⟩ => ?_
    refine PyProof.Rows.kws_nil ?_
    rw [hks]
    have rz1 := rz1.mv N2.mv N2.pre
    have NN := N1.trans N2
    have q2 : rdMinDef z y ds2 QD := q2
    unfold rdMinDef at q2
    split at q2
    · rename_i l el
      split at q2
      · rename_i is ei
        obtain ⟨q0, qm⟩ := q2
        obtain ⟨pa, xs, rfl, r, hs⟩ := itemsL_rep R2 rz1 el
        obtain rfl := intsD_of ei
        rw [Vals.ref1 r1]
        obtain ⟨its, hvv, hl, hz⟩ := I2.list hs
        obtain ⟨as, hr⟩ := Dp.readsAll I2 _ _ _ (RepL.dp _ _ (flats_ints is) r) hvv
        rw [pds_ints] at hr
        have hdep : PyData.depthAll (is.map PyData.int) = 0 := PySem.W.depth_ints is
        have hal : PySem.W.AlikeAll (is.map PyData.int) := ⟨fun x hx y hy => by
          obtain ⟨i, _, rfl⟩ := List.mem_map.mp hx
          obtain ⟨j, _, rfl⟩ := List.mem_map.mp hy
          rfl, fun x hx => by
          obtain ⟨i, _, rfl⟩ := List.mem_map.mp hx
          exact fun h => nomatch h⟩
        show wpAny _ _ (call (.builtin "min") [Value.ref pa] [(Str.ofString "default", w)]) _ _ _
        refine PySem.W.min_list_default (I2.ok.hd hc) hl.isList hr hal (by rw [hdep]; omega) (fun h0 h' tk hk => ?_) (fun yy ys i vv h' tk bs h0 hi hrd hk => ?_)
        · have : is = [] := by simpa using h0
          exact EPD.nxt NN (.of ⟨v2, H2, I2.kept hk, r2, .same R2 rz2 (q0 this)⟩)
        · match is, h0 with
          | n :: ns, h0 =>
            have h0 : PyData.int n :: ns.map PyData.int = yy :: ys := h0
            cases h0
            rw [PySem.W.minD_ints] at hrd
            obtain ⟨t, rfl⟩ : ∃ t, vv = .int (ns.foldl min n) t := by cases hrd; exact ⟨_, rfl⟩
            exact EPD.nxt NN (.of ⟨.int (ns.foldl min n), H2, I2.kept hk, ⟨_, rfl⟩, .same R2 (z := .d (.int _)) rfl (qm _ (foldl_min_mem ns n) (foldl_min_le ns n))⟩)
      · exact q2.elim
    · exact q2.elim
  | [], q1, _ => exact q1.elim
  | _ :: _ :: _, q1, _ => exact q1.elim
end
end L3

set_option Elab.async false
set_option linter.all false
set_option maxRecDepth 100000
set_option maxHeartbeats 2000000
namespace SumT
open PySem PySem.Spec PyProof.Rows PySem.Calls
section
variable {prog : Program} {w : World} {A : Around} {E : Value → Shared → Prop} {s : Shared} {l : Addr} {its : List Value} {ns : List Int} {Q : Value → Shared → Prop}
theorem sum_tupRaw (hh : A.handled = none) (hl : s.heap.IsTuple l its.toArray) (hi : IntsAre its ns)
    (h : ∀ h' tk t', (∀ b o, s.heap.get? b = some o → h'.get? b = some o) → Q (.int ns.sum t') { s with heap := h', toks := tk }) : wpAny (model prog w) A (call (.builtin "sum") [.ref l]) Q E s := by
  obtain ⟨xs, e⟩ := hi.allInts.items
  have hn : numsOf (intItems xs).toList = ns := by rw [← e]; exact hi.numsOf
  rw [nums_intItems] at hn
  rw [e] at hl
  have hlt : l < s.heap.objs.size := by obtain ⟨_, e, _⟩ := hl; exact Heap.lt_size e
  refine PySem.call_sum_walkG ?_
  refine wpAny_pyIter_tuple hl ?_
  refine ⟨_, _, _, _, _, _, PySem.numAt xs, rfl, PySem.Walks.tuple (A := A.in1) hh _ l (Nat.ne_of_lt hlt) (intItems xs), ⟨⟨_, Heap.get?_push_size _ rfl, rfl, rfl⟩, hl.push _⟩, fun b hb => ?_, (fun _ _ => intItems_at), fun h' tk t' hk => ?_⟩
  · show b < (s.heap.push _).objs.size
    rw [Heap.size_push]
    rcases List.mem_cons.mp hb with rfl | hb
    · exact Nat.lt_succ_self _
    · rcases List.mem_cons.mp hb with rfl | hb
      · exact Nat.lt_succ_of_lt hlt
      · cases hb
  · have := h h' tk t' fun b o e => hk b o (fun hm => by
      rcases List.mem_cons.mp hm with e1 | hm
      · exact absurd (e1 ▸ Heap.lt_size e) (Nat.lt_irrefl _)
      · cases hm) (Heap.get?_push_of_some _ e)
    have e2 : PySem.preSum (PySem.numAt xs) (intItems xs).size = ns.sum := by
      rw [preSum_eq, List.take_of_length_le (by simp [intItems]), hn]
    rw [e2]
    exact this
end
end SumT
namespace L3
open PySem PySem.Spec PyProof.Rows L2
section
variable {X : Cx} {g : G}
def rdSumT : List Z → DS → QZ → Prop := fun zs ds Q => match zs with
  | [z] => match itemsOf ds z with
    | some l => ∃ ns : List Int, l = ns.map D.int ∧ Q (.d (.int ns.sum)) ds
    | none => False
  | _ => False
theorem cd_sumT (hc : X.calm = true) : CallD X g (.builtin "sum") rdSumT := by
  intro pins s σ H M ds zs vs us Q I R rz rv h
  unfold rdSumT at h
  split at h
  · obtain ⟨v, rfl, r1⟩ := zs1 rz
    split at h
    · rename_i l e
      obtain ⟨p, xs, rfl, r, hs⟩ := items_rep R r1 e
      obtain ⟨ns, rfl, q⟩ := h
      obtain rfl := r.ints
      rw [Vals.ref1 rv]
      rcases hs with hs | hs
      · obtain ⟨its, hv, hl, hz⟩ := I.list hs
        exact thn (sum_raw (I.ok.hd hc) hl.isList hv.ints fun h' tk t' hk => (show EP X pins σ (Mid X g σ M ds H Q) _ _ from ⟨.int _, H, I.kept hk, ⟨_, rfl⟩, .same R (z := .d (.int _)) rfl q⟩)) fun _ _ z => .of z
      · obtain ⟨its, hv, hl, hz⟩ := I.tuple hs
        exact thn (SumT.sum_tupRaw (I.ok.hd hc) hl hv.ints fun h' tk t' hk => (show EP X pins σ (Mid X g σ M ds H Q) _ _ from ⟨.int _, H, I.kept hk, ⟨_, rfl⟩, .same R (z := .d (.int _)) rfl q⟩)) fun _ _ z => .of z
    · exact h.elim
  · exact h.elim
/-- // by any divisor but 0 -/
def CDivA (_ j : Int) : Prop := j ≠ 0 ∧ j.natAbs.log2 < 9000
theorem op_fdivA : OpR X (binaryOp .FloorDiv) (rI CDivA fun i j => .int (i.fdiv j)) := opI fun i j _ _ _ _ _ hc q => floordiv_int hc.1 q (.inl (PyProof.noPylong_of_log2 hc.2))
theorem od_divA : OpD X g (binaryOp .FloorDiv) (rdIIc CDivA fun i j => .int (i.fdiv j)) := od_iic op_fdivA fun _ _ _ _ _ => rfl
theorem Bd.divA {n : Nat} {i j : Int} (h : Bd n j) (hj : j ≠ 0) (h0 : 0 < n := by decide) (h9 : n ≤ 9000 := by decide) : CDivA i j := ⟨hj, Nat.lt_of_lt_of_le (PySem.Flt.log2_lt_of h0 h) h9⟩
theorem fdiv_neg2 {i j : Int} (hj : j < 0) : i.fdiv j = (-i) / (-j) := by
  rw [← Int.fdiv_eq_ediv_of_nonneg _ (by omega), Int.neg_fdiv_neg]
theorem Bd.fdiv {n : Nat} {i j : Int} (h : Bd n i) : Bd n (i.fdiv j) := by
  rcases Int.lt_or_le j 0 with hj | hj
  · rw [fdiv_neg2 hj]
    exact h.neg.div
  · rw [Int.fdiv_eq_ediv_of_nonneg _ hj]
    exact h.div
end
end L3

set_option Elab.async false
set_option linter.all false
set_option maxRecDepth 100000
set_option maxHeartbeats 2000000
namespace L3
open PySem PySem.Spec PyProof.Rows L2
section
variable {X : Cx} {g : G} {W : WX} {pos p1 p2 pos2 : Pos} {x1 x2 : Str} {e : Expr} {ta : TD}
def rSetTI (K : PySem.W.Frag) (w : World) : List V → Hp → VK → Prop := fun vs H Q => ∃ (a : Addr) (ns : List Int), vs = [V.ref a] ∧ SqT K H a (ns.map V.int) ∧ ns.length < 64 ∧
  ∀ (p : Addr) (c : Nat), H p = none → c ≤ ns.length → Q (.ref p) (upd H p (SetO w p (fun j => decide (j ∈ ns)) c))
theorem cr_setTI (hc : X.calm = true) : CallR X (.type "set") (rSetTI X.K X.w) := by
  intro pins s σ H vs us Q I r h
  obtain ⟨a, ns, rfl, hs, hn, q⟩ := h
  obtain ⟨its, rv, hl, _⟩ := I.tuple hs
  rw [Vals.ref1 r]
  refine call_set_tupI ns (I.ok.hd hc) hl rv.ints (by unfold scanBound; omega) fun h' tk c R hcn k => ?_
  exact ⟨.ref _, upd H s.heap.objs.size (SetO X.w s.heap.objs.size (fun j => decide (j ∈ ns)) c), I.laid (t' := tk) k (Nat.le_refl _) (setO_new R), rfl, q _ c (I.hok.fresh (Nat.le_refl _)) hcn⟩
def rdSortSet (z : Z) (ds : DS) (Q : QZ) : Prop := match z with
  | .d (.tup l) => ∃ ns : List Int, l = ns.map D.int ∧ ns.length < 64 ∧ ∀ out : List Int, out.Pairwise (· < ·) → (∀ k, k ∈ out ↔ k ∈ ns) → Q (.d (.lst (out.map D.int))) ds
  | _ => False
def dSortSet (ta : TD) : TD := fun ds Q E => ta ds (fun z ds1 => rdSortSet z ds1 Q) E
theorem px_sortSet (hc : X.calm = true) (hg1 : Gl X x1) (hm1 : X.mg x1 = none) (hv1 : bootBuiltins x1 = some (.builtin "sorted")) (hg2 : Gl X x2) (hm2 : X.mg x2 = none) (hv2 : bootBuiltins x2 = some (.type "set")) (ha : PX X g W e ta)
    (hn1 : x1 ≠ "__name__" := by decide) (hdb1 : (x1 == ("__debug__" : Str)) = false := by decide) (hn2 : x2 ≠ "__name__" := by decide) (hdb2 : (x2 == ("__debug__" : Str)) = false := by decide)
    (hs : starEach [e] X.env = (false, eval e X.env) :: starEach [] X.env := by rfl) : PX X g W (.Call (.Name x1 p1) [.Call (.Name x2 p2) [e] [] pos2] [] pos) (dSortSet ta) := by
  refine .of (pe_callB (cr_sortedSet hc) hg1 hm1 hv1 (pa_cons (pe_callTy (cr_setTI hc) hg2 hm2 hv2 (pa_cons ha.pe pa_nil hs) hn2 hdb2 hs rfl) pa_nil rfl) hn1 hdb1 rfl rfl) fun σ H M ds QD ED R ht he => ?_
  refine lift_in R ht he fun z ds1 M1 v H1 R1 N1 rz q => ?_
  unfold rdSortSet at q
  split at q
  · rename_i l
    obtain ⟨ns, rfl, hn, q⟩ := q
    obtain ⟨a, xs, rfl, r, hq⟩ := rz
    obtain rfl := r.ints
    refine ⟨a, ns, rfl, sqT_of hq, hn, fun p c hp hcn => ?_⟩
    obtain ⟨R2, N2⟩ := R1.upd (o := SetO X.w p (fun j => decide (j ∈ ns)) c) hp
    refine ⟨p, _, c, rfl, upd_same, by omega, fun out p' ho hm _ hp' => ?_⟩
    obtain ⟨R3, N3⟩ := R2.upd (o := .lst (out.map V.int)) hp'
    exact ⟨.d (.lst (out.map D.int)), _, M1, R3, (N1.trans N2).trans N3, ⟨p', out.map V.int, rfl, RepL.ofInts out, R2.own_none hp', upd_same⟩, q out ho fun k => by rw [hm]; simp⟩
  · exact q.elim
end
end L3

set_option Elab.async false
set_option linter.all false
set_option maxRecDepth 100000
set_option maxHeartbeats 2000000
namespace L3
open PySem PySem.Spec PyProof.Rows L2
section
variable {X : Cx} {g : G} {W : WX} {pos : Pos} {o e e1 e2 : Expr} {to t1 t2 ta : TD}
def rdIns (z y1 y2 : Z) (ds : DS) (Q : QZ) : Prop := match z, y1, y2 with
  | .m n, .d (.int i), .d x => match ds.w[n]? with
    | some (some (.lst l)) => (l.length < sizeLine ∧ 0 ≤ i ∧ i < 2 ^ 63) ∧ Q (.d .non) (ds.put n (.lst (l.take i.toNat ++ [x] ++ l.drop i.toNat)))
    | _ => False
  | _, _, _ => False
def dIns (to t1 t2 : TD) : TD := fun ds Q E => to ds (fun z ds1 => rdIsL z ds1 ∧ t1 ds1 (fun y1 ds2 => t2 ds2 (fun y2 ds3 => rdIns z y1 y2 ds3 Q) E) E) E
theorem px_insert {apos : Pos} (ho : PX X g W o to) (h1 : PX X g W e1 t1) (h2 : PX X g W e2 t2) (hbase : attributeBase o "insert" X.env (eval o X.env) = eval o X.env := by rfl) (hline : (apos.endLine == pos.line) = true := by rfl)
    (hs : starEach [e1, e2] X.env = (false, eval e1 X.env) :: starEach [e2] X.env := by rfl) (hs2 : starEach [e2] X.env = (false, eval e2 X.env) :: starEach [] X.env := by rfl)
    (hfew : ((backTo pos (starEach [e1, e2] X.env)).all (fun x => !x.1) && (backToKw pos (keywordEach [] X.env)).all (fun x => x.1.isSome) && decide ([e1, e2].length + ([] : List Keyword).length + (if ([] : List Keyword).isEmpty then 0 else 1) < 30)) = true := by rfl)
    (hpl : (backTo pos (starEach [e2] X.env)).any (·.1) = false := by rfl) :
    PX X g W (.Call (.Attribute o "insert" apos) [e1, e2] [] pos) (dIns to t1 t2) := by
  refine .of (pe_bm PySem.F.plainAttrs_list PySem.F.slot_list_insert PySem.F.type_list_insert mt_insert ho.pe (pa_cons h1.pe (pa_cons h2.pe pa_nil hs2) hs) hbase hfew hline hs hpl) fun σ H M ds QD ED R ht he => ?_
  refine lift_in R ht he fun z ds1 M1 v H1 R1 N1 rz q => ?_
  refine ⟨isL_rep R1 rz q.1, ?_⟩
  refine lift_in R1 q.2 (he.nxt N1) fun y1 ds2 M2 u1 H2 R2 N2 ry1 q2 => ?_
  refine lift_in R2 q2 ((he.nxt N1).nxt N2) fun y2 ds3 M3 u2 H3 R3 N3 ry2 q3 => ?_
  have rz := (rz.mv N2.mv N2.pre).mv N3.mv N3.pre
  unfold rdIns at q3
  split at q3
  · rename_i n i x rz0
    split at q3
    · rename_i l hw
      obtain rfl : u1 = .int i := ry1
      obtain ⟨a, ha, rfl⟩ := rz
      obtain ⟨xs, r, hH⟩ := R3.obj _ _ _ hw ha
      obtain ⟨⟨q4, q5, q6⟩, q7⟩ := q3
      refine ⟨a, xs, i, u2, rfl, rfl, hH, by rw [RepL.length r]; exact q4, q5, q6, ?_⟩
      obtain ⟨R4, N4⟩ := R3.put (c := .lst (l.take i.toNat ++ [x] ++ l.drop i.toNat)) (o := .lst (xs.take i.toNat ++ [u2] ++ xs.drop i.toNat)) hw ha (fun _ z => nomatch z) (fun _ z => nomatch z) fun own' m => ⟨_, RepL.append (RepL.snoc (RepL.take _ (RepL.mv m _ _ r)) (RepD.mv m _ _ ry2)) (RepL.drop _ (RepL.mv m _ _ r)), upd_same⟩
      exact ⟨.d .non, _, M3, R4, ((N1.trans N2).trans N3).trans N4, rfl, q7⟩
    · exact q3.elim
  · exact q3.elim
def dLRg (ta : TD) : TD := fun ds Q E => ta ds (fun z ds1 => kInt (fun n => (0 ≤ n ∧ n ≤ 16777216) ∧ Q (.d (.lst (rangeD 0 n.toNat))) ds1) z) E
theorem px_listRg {p p2 pos2 : Pos} (hc : X.calm = true) (hg : Gl X "list") (hm : X.mg "list" = none) (hg2 : Gl X "range") (hm2 : X.mg "range" = none) (ha : PX X g W e ta)
    (na : starEach [e] X.env = (false, eval e X.env) :: starEach [] X.env := by rfl)
    (nb : starEach [Expr.Call (.Name "range" p2) [e] [] pos2] X.env = (false, eval (Expr.Call (.Name "range" p2) [e] [] pos2) X.env) :: starEach [] X.env := by rfl) :
    PX X g W (.Call (.Name "list" p) [.Call (.Name "range" p2) [e] [] pos2] [] pos) (dLRg ta) := by
  refine .of (pe_listRg hc hg hm (prg_1 hg2 hm2 ha.pe na) nb) fun σ H M ds QD ED R ht he => ?_
  refine lift_in R ht he fun z ds1 M1 v H1 R1 N1 rz q => ?_
  obtain ⟨n, rfl, rfl, q3⟩ := intD rz q
  refine ⟨n, rfl, RgOk.of_le (by decide) q3.1.2 (by decide) q3.1.1, fun p hp => ?_⟩
  have e1 : rangeD 0 n.toNat = ((List.range n.toNat).map fun i => (0 : Int) + (i : Nat)).map D.int := by unfold rangeD; rw [List.map_map]; rfl
  have e2 : rgV 0 n = ((List.range n.toNat).map fun i => (0 : Int) + (i : Nat)).map V.int := by unfold rgV; rw [List.map_map, Int.sub_zero]; rfl
  have q4 := q3.2
  rw [e1] at q4
  rw [e2]
  exact (Mid.lst R1 hp (RepL.ofInts _) q4).nxt N1
end
end L3

set_option Elab.async false
set_option linter.all false
set_option maxRecDepth 100000
set_option maxHeartbeats 2000000
namespace L3
open PySem PySem.Spec PyProof.Rows L2
section
variable {X : Cx} {g : G} {W : WX} {pos : Pos} {o e : Expr} {to te : TD}
structure IdxOk (l : List D) (d : D) (j : Nat) : Prop where
  at_ : l[j]? = some d
  no : ∀ m, m < j → l[m]? ≠ some d
  fl : flats l = true
  fd : d.flat = true
  al : ∀ x ∈ l, PySem.W.alike x.pd d.pd = true
  sl : ∀ x ∈ l, x.sim = true
  sd : d.sim = true
  dp : d.pd.depth ≤ 50
  n : l.length ≤ sizeLine
def rIdxV (K : PySem.W.Frag) : V → List V → Hp → VK → Prop := fun x xs H Q => ∃ (p : Addr) (ys : List V) (u : V) (l : List D) (d : D) (own : Addr → Prop) (j : Nat), x = .ref p ∧ xs = [u] ∧ SqL K H p ys ∧ RepL K own H l ys ∧ RepD K own H d u ∧ IdxOk l d j ∧ Q (.int (j : Nat)) H
theorem each_at {α β : Type} {R : α → β → Prop} : ∀ {vs : List α} {bs : List β}, PySem.W.EachIs R vs bs → ∀ (j : Nat) (h1 : j < vs.length) (h2 : j < bs.length), R vs[j] bs[j]
  | _, _, .nil, _, h1, _ => absurd h1 (Nat.not_lt_zero _)
  | _, _, .cons h t, 0, _, _ => h
  | _, _, .cons h t, j + 1, h1, h2 => each_at t j (Nat.lt_of_succ_lt_succ h1) (Nat.lt_of_succ_lt_succ h2)
open Classical in
theorem idx_first {l : List D} {d : D} {j : Nat} (h : l[j]? = some d) (hn : ∀ m, m < j → l[m]? ≠ some d) : l.idxOf d = j := by
  have hj := (List.getElem?_eq_some_iff.mp h).1
  have hm := List.mem_of_getElem? h
  have hk : l.idxOf d < l.length := List.idxOf_lt_length_iff.mpr hm
  rcases Nat.lt_trichotomy (l.idxOf d) j with z | z | z
  · exact absurd (by rw [List.getElem?_eq_getElem hk, List.getElem_idxOf hk]) (hn _ z)
  · exact z
  · have := PySem.SeqAt.lt_idxOf_ne z hj
    rw [List.getElem?_eq_getElem hj] at h
    exact absurd (Option.some.inj h) this
open Classical in
theorem mt_idxD (hu : X.A.units + 64 < cLine) : MtR X "list.index" (rIdxV X.K) := by
  intro pins s σ H x xs v us Q I rx rxs h
  obtain ⟨p, ys, u, l, d, own, j, rfl, rfl, hs, r, rd, ok, q⟩ := h
  cases rx
  obtain ⟨uv, rfl, ru⟩ := rxs.one
  obtain ⟨its, rv, hl, hz⟩ := I.list hs
  have er := each_reads I ok.fl r rv
  obtain ⟨bs, rd'⟩ := Dp.reads I d.pd u uv (RepD.dp d u ok.fd rd) ru
  refine PySem.SeqAt.call_list_index (α := D) (ks := l) (k := d) hl.isList ⟨er.length, fun i h1 h2 => ?_⟩ ok.n (List.mem_of_getElem? ok.at_) ?_
  · obtain ⟨as, ra⟩ := each_at er i h1 h2
    have hm := List.getElem_mem h2
    have hd : X.A.in1.units + min l[i].pd.depth d.pd.depth < cLine := by
      have := ok.dp
      have : min l[i].pd.depth d.pd.depth ≤ d.pd.depth := Nat.min_le_right _ _
      show X.A.units + 1 + _ < cLine
      omega
    have hE : PySem.SeqAt.EqAt X.A.in1 s its[i] uv (PyData.eqv l[i].pd d.pd) := PySem.W.eqAt_alike l[i].pd d.pd X.A.in1 s its[i] uv as bs ra rd' (ok.al _ hm) hd
    have e : PyData.eqv l[i].pd d.pd = decide (l[i] = d) := by rw [Bool.eq_iff_iff, sim_eqv _ _ (ok.sl _ hm) ok.sd, decide_eq_true_iff]
    rw [← e]
    exact hE
  · rw [idx_first ok.at_ ok.no]
    exact ⟨.int (j : Nat), H, I.tok _, ⟨s.toks, rfl⟩, q⟩
def rdIdxD (l : List D) (d : D) (P : D → Prop) : Prop := ∃ j : Nat, IdxOk l d j ∧ P (.int (j : Nat))
theorem px_lindexD {apos : Pos} (hu : X.A.units + 64 < cLine) (ho : PX X g W o to) (hv : PX X g W e te) (hbase : attributeBase o "index" X.env (eval o X.env) = eval o X.env := by rfl) (hline : (apos.endLine == pos.line) = true := by rfl) (hs : starEach [e] X.env = (false, eval e X.env) :: starEach [] X.env := by rfl)
    (hfew : ((backTo pos (starEach [e] X.env)).all (fun x => !x.1) && (backToKw pos (keywordEach [] X.env)).all (fun x => x.1.isSome) && decide ([e].length + ([] : List Keyword).length + (if ([] : List Keyword).isEmpty then 0 else 1) < 30)) = true := by rfl)
    (hpl : (backTo pos (starEach [] X.env)).any (·.1) = false := by rfl) :
    PX X g W (.Call (.Attribute o "index" apos) [e] [] pos) (dLM rdIdxD to te) := by
  refine .of (pe_bm PySem.F.plainAttrs_list PySem.F.slot_list_index PySem.F.type_list_index (mt_idxD hu) ho.pe (pa_cons hv.pe pa_nil hs) hbase hfew hline hs hpl) fun σ H M ds QD ED R ht he => ?_
  refine lift_in R ht he fun z ds1 M1 v H1 R1 N1 rz q => ?_
  refine ⟨itemsL_ty R1 rz q.1, ?_⟩
  refine lift_in R1 q.2 (he.nxt N1) fun y ds2 M2 u H2 R2 N2 ry q2 => ?_
  have rz := rz.mv N2.mv N2.pre
  unfold rdLM at q2
  split at q2
  · rename_i l d el
    obtain ⟨j, ok, q2⟩ := q2
    obtain ⟨a, xs, rfl, r, hq⟩ := itemsL_rep R2 rz el
    exact ⟨a, xs, u, l, d, _, j, rfl, rfl, hq, r, ry, ok, .d (.int _), ds2, M2, R2, N1.trans N2, rfl, q2⟩
  · exact q2.elim
end
end L3

set_option Elab.async false
set_option linter.all false
set_option maxRecDepth 100000
set_option maxHeartbeats 2000000
namespace L3
open PySem PySem.Spec PyProof.Rows L2
section
variable {X : Cx} {g : G}
structure LtOk (x y : D) : Prop where
  fx : x.flat = true
  fy : y.flat = true
  al : PySem.W.alike x.pd y.pd = true
  nn : x.pd ≠ .none
  dp : x.pd.depth ≤ 50
def rdLtD : Z → Z → DS → QZ → Prop := fun x y ds Q => match x, y with
  | .d (.int i), .d (.int j) => Q (.d (.bl (decide (i < j)))) ds
  | .d x, .d y => LtOk x y ∧ Q (.d (.bl (PySem.W.dataLt x.pd y.pd))) ds
  | _, _ => False
theorem od_ltD (hu : X.A.units + 64 < cLine) : OpD X g (compareOp .Lt) rdLtD := by
  intro pins s σ H M ds x y v u vv uu QD I R rx vx ry vy h
  unfold rdLtD at h
  split at h
  · exact od_lt pins s σ H M ds _ _ v u vv uu QD I R rx vx ry vy h
  · rename_i x y _
    obtain ⟨ok, h⟩ := h
    obtain ⟨as, r1⟩ := Dp.reads I x.pd v vv (RepD.dp _ _ ok.fx rx) vx
    obtain ⟨bs, r2⟩ := Dp.reads I y.pd u uu (RepD.dp _ _ ok.fy ry) vy
    refine PySem.W.lt_data r1 r2 ok.al ok.nn ?_ (.of ⟨.bl _, H, I, rfl, .same R (z := .d (.bl _)) rfl h⟩)
    have := ok.dp
    have : min x.pd.depth y.pd.depth ≤ x.pd.depth := Nat.min_le_left _ _
    omega
  · exact h.elim
end
end L3

set_option Elab.async false
set_option linter.all false
set_option maxRecDepth 100000
set_option maxHeartbeats 2000000
namespace SrtV
open PySem PySem.Spec PyProof.Rows PySem.W PySem.Calls
section
variable {prog : Program} {w : World} {A : Around} {E : Value → Shared → Prop} {s : Shared} {K : Type} [DecidableEq K] {knd : KeyKind prog w K} {r d : Addr} {kvs : List (K × Value)} {ep : Nat}
theorem sorted_items {Q : Value → Shared → Prop} (hh : A.handled = none) (hv : s.heap.IsItemsView r d) (hm : s.heap.DictAt knd d kvs ep) (hn : kvs.length ≤ sizeLine)
    (h : ∀ (h' : Heap) (tk : Nat) (as : List Addr), (∀ b o, s.heap.get? b = some o → h'.get? b = some o) → as.length = kvs.length → KdxG knd kvs s.heap.objs.size h' as →
      wpAny (model prog w) A.in1 (call (.builtin "list.sort") [.ref h'.objs.size]) (fun _ s' => Q (.ref h'.objs.size) s') E { s with heap := h'.push { cls := .type "list", data := .seq (as.map Value.ref).toArray }, toks := tk }) :
    wpAny (model prog w) A (call (.builtin "sorted") [.ref r]) Q E s := by
  refine call_function_entry kind_sorted plain_sorted entry_sorted (args_sorted1 _) ?_
  unfold Builtin.«sorted»
  refine wpAny_bind (m := checkCount "sorted" 1 1 _) (wpAny_pure ?_)
  refine wpAny_bind (kdx_collect (A := A.in1) (knd := knd) (kvs := kvs) (ep := ep) hh hv hm hn fun h' tk as hk hl hG => ?_)
  refine wpAny_bind (wpAny_newList ?_ (by rw [List.length_map, hl]; exact hn))
  have hg := h h' tk as hk hl hG
  refine wpAny_bind (wpAny_holding (wpAny_mono hg (fun _ s' x => ?_) fun _ _ e => e))
  exact wpAny_pure ⟨_, rfl, x⟩
end
end SrtV
namespace L3
open PySem PySem.Spec PyProof.Rows L2
theorem each_ix {α β : Type} {R : α → β → Prop} : ∀ {vs : List α} {bs : List β}, vs.length = bs.length → (∀ (j : Nat) v b, vs[j]? = some v → bs[j]? = some b → R v b) → PySem.W.EachIs R vs bs
  | [], [], _, _ => .nil
  | [], _ :: _, h, _ => by cases h
  | _ :: _, [], h, _ => by cases h
  | v :: vs, b :: bs, h, f => .cons (f 0 v b rfl rfl) (each_ix (Nat.succ.inj h) fun j v b h1 h2 => f (j + 1) v b h1 h2)
/-- a pair of whole numbers in a new tuple -/
def PairAt (h : Heap) (v : Value) (q : Int × Int) (t : Addr) : Prop := v = .ref t ∧ ∃ t1 t2, h.get? t = some { cls := .type "tuple", data := .seq #[Value.int q.1 t1, Value.int q.2 t2] }
theorem PairAt.reads {h : Heap} {v : Value} {q : Int × Int} {t : Addr} (p : PairAt h v q t) : Reads h v (.tuple [.int q.1, .int q.2]) [] := by
  obtain ⟨rfl, t1, t2, e⟩ := p
  exact .tuple (xs := [.int q.1, .int q.2]) (as := []) e rfl rfl (.cons (as := []) (bs := []) (.int _ _) (.cons (as := []) (bs := []) (.int _ _) .nil))
theorem each_refs {as : List Addr} {R : Int × Int → Addr → Prop} : ∀ {out : List Value} {bs : List (Int × Int)}, PySem.W.EachIs (fun v q => ∃ t, v = .ref t ∧ t ∈ as ∧ R q t) out bs → ∃ ts : List Addr, out = ts.map Value.ref ∧ (∀ t ∈ ts, t ∈ as) ∧ PySem.W.EachIs (fun t q => R q t) ts bs
  | _, _, .nil => ⟨[], rfl, by simp, .nil⟩
  | _, _, .cons ⟨t, e, ha, hr⟩ x => by
    obtain ⟨ts, rfl, h1, h2⟩ := each_refs x
    refine ⟨t :: ts, by rw [e]; rfl, fun u hu => ?_, .cons hr h2⟩
    rcases List.mem_cons.mp hu with rfl | hu
    · exact ha
    · exact h1 u hu
end L3
namespace L3
open PySem PySem.Spec PyProof.Rows L2 LiI
section
variable {X : Cx}
theorem sorted_laid {pins : List (Addr × Obj)} {σ : L2.St} {H : Hp} {s : Shared} {h' : Heap} {tk : Nat} {kvs : List (Key × V)} {vs : List (Key × Value)} {acc : Array Value} {c : Nat} {as ts : List Addr} {S : Addr} (I : Inv X pins σ H s) (kv : KV kvs vs)
    (hk : ∀ b o, s.heap.get? b = some o → h'.get? b = some o) (hSz : s.heap.objs.size ≤ S) (hSn : S ∉ as) (hS : h'.get? S = some { cls := .type "list", dict := none, data := .seq acc c, slots := #[] }) (hl : as.length = vs.length) (nd : as.Nodup) (hab : ∀ t ∈ as, s.heap.objs.size ≤ t)
    (pairs : ∀ (j : Nat) (b : Addr), as[j]? = some b → ∃ key k x, vs[j]? = some (k, x) ∧ keyIs k key = true ∧ h'.get? b = some { cls := .type "tuple", data := .seq #[key, x] }) (hts : ts.length ≤ sizeLine) (hacc : acc.toList = ts.map Value.ref) :
    ∃ H' : Hp, (∀ b o, H b = some o → H' b = some o) ∧ H S = none ∧ (∀ t ∈ as, H t = none) ∧ H' S = some (.lst (ts.map V.ref)) ∧ Paired (fun (t : Addr) (q : Key × V) => H' t = some (.tup [kV q.1, q.2])) as kvs ∧ Inv X pins σ H' { s with heap := h', toks := tk } := by
  have lk : kvs.length = vs.length := Paired.length kv
  have new : ∀ t ∈ as, H t = none := fun t ht => I.hok.fresh (hab t ht)
  have newS : H S = none := I.hok.fresh hSz
  have atP := putT_at as kvs (upd H S (.lst (ts.map V.ref))) (by omega) nd
  have off : ∀ b, b ∉ as → b ≠ S → putT (upd H S (.lst (ts.map V.ref))) as kvs b = H b := fun b h1 h2 => by rw [putT_off as kvs _ h1, upd_ne h2]
  have low : ∀ b o, s.heap.get? b = some o → b ∉ as ∧ b ≠ S := fun b o e => ⟨fun z => absurd (Heap.lt_size e) (Nat.not_lt.mpr (hab b z)), fun z => absurd (Heap.lt_size e) (Nat.not_lt.mpr (z ▸ hSz))⟩
  have kp : ∀ b u, H b = some u → (putT (upd H S (.lst (ts.map V.ref))) as kvs) b = some u := fun b u e => by
    rw [off b (fun z => by rw [new b z] at e; cases e) (fun z => by rw [z, newS] at e; cases e)]
    exact e
  have eS : putT (upd H S (.lst (ts.map V.ref))) as kvs S = some (.lst (ts.map V.ref)) := by rw [putT_off as kvs _ hSn, upd_same]
  refine ⟨putT (upd H S (.lst (ts.map V.ref))) as kvs, kp, newS, new, eS, atP, ?_⟩
  refine I.call' (ch := []) rfl ⟨fun b o q _ _ _ => hk b o q, fun b o q _ _ _ => ⟨o.slots, hk b o q⟩, fun b o q n _ => ?_, fun b o q _ => ⟨o, hk b o q⟩, fun b xs q => kp b _ q, fun b o u q => kp b _ q, fun b ps q => ⟨#[], by rw [kp b _ q]; simp⟩⟩ (fun b u q => ?_) I.bare fun b z => by simp at z
  · obtain ⟨z1, z2⟩ := low b o q
    rw [off b z1 z2]
    exact n
  · by_cases hb : b ∈ as
    · obtain ⟨j, pk, e1, e2, e3⟩ := paired_ix atP hb
      rw [e3] at q
      cases q
      obtain ⟨key, k, x, f1, f2, f3⟩ := pairs j b e1
      obtain ⟨qv, g1, g2, g3⟩ := LiI.paired_get kv e2
      rw [f1] at g1
      cases g1
      have rk : RelV (kV pk.1) key := by
        rw [g2]
        exact relV_key f2
      exact ⟨by show 2 ≤ sizeLine; decide, [key, x], .cons rk (.cons g3 .nil), ⟨_, f3, rfl, _, rfl⟩⟩
    · by_cases hb2 : b = S
      · rw [hb2] at q ⊢
        rw [eS] at q
        cases q
        refine ⟨by rw [List.length_map]; exact hts, acc.toList, c, by rw [hacc]; exact LiI.vals_refs ts, ?_⟩
        rw [Array.toArray_toList]
        exact hS
      · rw [off b hb hb2] at q
        exact (I.hok b u q).stay (fun d v _ y => hk d v y) (fun d y => kp d _ y) fun d xs y => kp d _ y
end
end L3
namespace L3
open PySem PySem.Spec PyProof.Rows L2 LiI
/-- the pairs in their order -/
def iiLe (p q : Int × Int) : Bool := decide (p.1 < q.1 ∨ (p.1 = q.1 ∧ p.2 ≤ q.2))
def pairD (q : Int × Int) : D := .tup [.int q.1, .int q.2]
structure RdSortIt (z : Z) (ds : DS) (Q : QZ) : Prop where
  h : ∃ (n : Nat) (L : List (Int × Int)), z = .m n ∧ ds.w[n]? = some (some (.dic ((L.map Prod.fst).map Sum.inl) ((L.map Prod.snd).map D.int))) ∧ L.length ≤ 50 ∧ Q (.d (.lst ((L.mergeSort iiLe).map pairD))) ds
def dSortIt (to : TD) : TD := fun ds Q E => to ds (fun z ds1 => RdSortIt z ds1 Q) E
theorem mem_ix {α : Type} {l : List α} {x : α} (h : x ∈ l) : ∃ j : Nat, l[j]? = some x := List.getElem?_of_mem h
theorem zip_ii : ∀ L : List (Int × Int), ((L.map Prod.fst).map (Sum.inl : Int → Key)).zip ((L.map Prod.snd).map V.int) = L.map fun q => ((Sum.inl q.1 : Key), V.int q.2)
  | [] => rfl
  | q :: L => by
    have := zip_ii L
    show (Sum.inl q.1, V.int q.2) :: (((L.map Prod.fst).map (Sum.inl : Int → Key)).zip ((L.map Prod.snd).map V.int)) = _
    rw [this]; rfl
theorem repl_pairs {K : PySem.W.Frag} {own : Addr → Prop} {H : Hp} : ∀ {ts : List Addr} {L : List (Int × Int)}, (∀ t ∈ ts, ¬ own t) → PySem.W.EachIs (fun t q => H t = some (.tup [V.int q.1, V.int q.2])) ts L → RepL K own H (L.map pairD) (ts.map V.ref)
  | _, _, _, .nil => rfl
  | t :: ts, q :: L, hn, .cons h r =>
    ⟨.ref t, _, rfl, ⟨t, [V.int q.1, V.int q.2], rfl, ⟨.int q.1, _, rfl, rfl, ⟨.int q.2, _, rfl, rfl, rfl⟩⟩, .inl ⟨hn t List.mem_cons_self, .inl h⟩⟩, repl_pairs (fun u hu => hn u (List.mem_cons_of_mem _ hu)) r⟩
section
variable {X : Cx} {g : G} {W : WX} {x : Str} {p apos cpos pos : Pos} {o : Expr} {to : TD}
theorem px_sortItems (hc : X.calm = true) (hu : X.A.units + 64 < cLine) (ho : PX X g W o to) (hg : Gl X x) (hm : X.mg x = none) (hv : bootBuiltins x = some (.builtin "sorted")) (hbase : attributeBase o "items" X.env (eval o X.env) = eval o X.env := by rfl) (hline : (apos.endLine == cpos.line) = true := by rfl) (hn : x ≠ "__name__" := by decide) (hdb : (x == ("__debug__" : Str)) = false := by decide)
    (he : starEach [.Call (.Attribute o "items" apos) [] [] cpos] X.env = (false, eval (.Call (.Attribute o "items" apos) [] [] cpos) X.env) :: starEach [] X.env := by rfl) (hpl : (backTo pos (starEach [] X.env)).any (·.1) = false := by rfl) :
    PX X g W (.Call (.Name x p) [.Call (.Attribute o "items" apos) [] [] cpos] [] pos) (dSortIt to) := by
  refine ⟨fun pins s σ H M ds QD ED I R ht hE => ?_⟩
  refine wpAny_Call_Name_kw (ld_blt I hg hm hv ?_ hn hdb)
  refine PyProof.Rows.callWith_builtin1 ?_ he hpl
  rw [he]
  show wpAny _ _ (spliced ((false, eval (.Call (.Attribute o "items" apos) [] [] cpos) X.env) :: backTo pos (starEach [] X.env))) _ _ s
  refine Calls.spliced_cons ?_
  refine wpAny_Call_method (T := "dict") (id := "dict.items") hbase rfl hline F.plainAttrs_dict F.slot_dict_items F.type_dict_items (thn (ho.run pins s σ H M ds _ ED I R ht hE) fun u s1 ⟨z, ds1, M1, v, H1, I1, rx, R1, N1, rz, q⟩ => ?_)
  obtain ⟨n, L, rfl, hw, hL, q⟩ := q.h
  obtain ⟨a, ha, rfl⟩ := rz
  obtain ⟨xs, r, hl, e⟩ := R1.obj _ _ _ hw ha
  obtain rfl := r.ints
  obtain rfl : u = Value.ref a := rx
  have e : H1 a = some (.dK (L.map fun q => ((Sum.inl q.1 : Key), V.int q.2))) := by rw [e]; congr 2; exact zip_ii L
  obtain ⟨hz, hs0, vs, kv, hdo⟩ := I1.hok a _ e
  obtain ⟨ep, hat⟩ := hdo.dictAt
  have lk : L.length = vs.length := by have := Paired.length kv; rwa [List.length_map] at this
  have I2 : Inv X pins σ H1 { s1 with heap := s1.heap.push { cls := .type "dict_items", data := .fields #[.ref a] } } := I1.kept (t' := s1.toks) fun b ob q => Heap.get?_push_of_some _ q
  refine ⟨hdo.typeIs, hdo.mapOf.noDict, ?_⟩
  show wpAny _ _ (callWith cpos (.builtin "dict.items") [.ref a] [] []) _ X.xe s1
  refine method_meetsIn F.slot_dict_items F.entry_dict_items rfl (PySem.evalArgs_none ⟨rfl, hdo.typeIs, F.args_dict_items_1 _, _, meets_dict_items (mixKind X.prog X.w) a hs0, ⟨vs, hdo⟩, ?_⟩)
  refine Calls.spliced_nil ?_
  refine SrtV.sorted_items (knd := mixKind X.prog X.w) (kvs := vs) (ep := ep) (I1.ok.hd hc) ⟨_, Heap.get?_push_size _ rfl, rfl, rfl⟩ (hat.push _) (by have : (100 : Nat) ≤ sizeLine := sz rfl; omega) fun h' tk as hk hlen hG => ?_
  have nd : as.Nodup := List.Pairwise.imp (fun {a b} (h : a < b) => Nat.ne_of_lt h) hG.rise
  have hab : ∀ t ∈ as, (s1.heap.push { cls := .type "dict_items", data := .fields #[.ref a] }).objs.size ≤ t := fun t ht => Nat.le_of_lt (hG.above t ht)
  have thr : ∀ t ∈ as, t < h'.objs.size := fun t ht => hG.there ht
  have pr : ∀ (j : Nat) (b : Addr) (q : Int × Int), as[j]? = some b → L[j]? = some q → PairAt h' (.ref b) q b := fun j b q hj hq => by
    obtain ⟨key, k, y, f1, f2, f3⟩ := hG.pairs j b hj
    obtain ⟨qv, g1, g2, g3⟩ := LiI.paired_get kv (i := j) (x := ((Sum.inl q.1 : Key), V.int q.2)) (by rw [List.getElem?_map, hq]; rfl)
    rw [f1] at g1
    cases g1
    have g2 : (Sum.inl q.1 : Key) = k := g2
    subst g2
    obtain ⟨t1, rfl⟩ : ∃ t, key = Value.int q.1 t := relV_key (show keyIs (Sum.inl q.1) key = true from f2)
    obtain ⟨t2, rfl⟩ : ∃ t, y = Value.int q.2 t := g3
    exact ⟨rfl, t1, t2, f3⟩
  have lal : as.length = L.length := by omega
  have hL1 : L.length ≤ sizeLine := by have : (100 : Nat) ≤ sizeLine := sz rfl; omega
  have eR : PySem.W.EachIs (fun v (q : Int × Int) => ∃ t, v = Value.ref t ∧ t ∈ as ∧ (t ∈ as ∧ PairAt h' (.ref t) q t)) (as.map Value.ref) L := each_ix (by rw [List.length_map]; exact lal) fun j v q h1 h2 => by
    rw [List.getElem?_map] at h1
    cases ha : as[j]? with
    | none => rw [ha] at h1; cases h1
    | some t =>
      rw [ha] at h1
      cases h1
      have hm := List.mem_of_getElem? ha
      exact ⟨t, rfl, hm, hm, pr j t q ha h2⟩
  refine PySem.W.list_sort_data (enc := fun q : Int × Int => PyData.tuple [.int q.1, .int q.2]) (bs := L) (vs := as.map Value.ref) (n := 0) (Heap.get?_push_size _ rfl) eR (eR.mono fun v q hvq => ?m1) (fun d hd d' hd' => ?m2) (.inl fun d hd => ?m3) hL1 (fun b hb => ?m4) fun out ho eo => ?m5
  case m1 =>
    obtain ⟨t, rfl, _, _, _, t1, t2, e⟩ := hvq
    exact ⟨[], (PairAt.reads (h := h'.push { cls := .type "list", data := .seq (as.map Value.ref).toArray }) ⟨rfl, t1, t2, Heap.get?_push_of_some _ e⟩), by simp⟩
  case m2 =>
    obtain ⟨q1, _, rfl⟩ := List.mem_map.mp hd
    obtain ⟨q2, _, rfl⟩ := List.mem_map.mp hd'
    rfl
  case m3 =>
    obtain ⟨q1, _, rfl⟩ := List.mem_map.mp hd
    exact ⟨_, _, rfl⟩
  case m4 =>
    show X.A.units + 1 + 1 + _ < cLine
    have : PyData.depth (.tuple [.int b.1, .int b.2]) ≤ 5 := by simp [PyData.depth, PyData.depthAll]
    omega
  rw [show L.mergeSort (PySem.W.dataLe false fun q : Int × Int => PyData.tuple [.int q.1, .int q.2]) = L.mergeSort iiLe from by
    rw [PySem.W.dataLe_ii (fun q : Int × Int => q.1) (fun q : Int × Int => q.2)]; rfl] at eo
  obtain ⟨ts, rfl, hts, het⟩ := each_refs eo
  have tl : ts.length = L.length := by rw [List.length_map] at ho; exact ho
  obtain ⟨c, hat2⟩ := PyProof.Rows.sortedHeap_at (out := (ts.map Value.ref).toArray) (vs := as.map Value.ref) (n := 0) (h := h'.push { cls := .type "list", data := .seq (as.map Value.ref).toArray }) (a := h'.objs.size) (Heap.get?_push_size _ rfl)
  have hsz : (h'.push { cls := .type "list", data := .seq (as.map Value.ref).toArray }).objs.size = h'.objs.size + 1 := PyProof.Rows.size_push' ..
  have old : ∀ b ob, h'.get? b = some ob → (PyProof.Rows.sortedHeap (h'.push { cls := .type "list", data := .seq (as.map Value.ref).toArray }) h'.objs.size (as.map Value.ref) (ts.map Value.ref).toArray).get? b = some ob := fun b ob hb => by
    have hlt := Heap.lt_size hb
    rw [PyProof.Rows.sortedHeap_old (Nat.ne_of_lt hlt) (by rw [hsz]; exact Nat.lt_succ_of_lt hlt)]
    exact Heap.get?_push_of_some _ hb
  have hSz : (s1.heap.push { cls := .type "dict_items", data := .fields #[.ref a] }).objs.size ≤ h'.objs.size := by
    have hv : (s1.heap.push { cls := .type "dict_items", data := .fields #[.ref a] }).get? s1.heap.objs.size = some _ := Heap.get?_push_size _ rfl
    have := Heap.lt_size (hk _ _ hv)
    rw [PyProof.Rows.size_push']
    exact this
  obtain ⟨H', k1, k2, k3, k4, k5, J⟩ := sorted_laid (tk := tk) (ts := ts) (S := h'.objs.size) I2 kv (fun b ob hb => old b ob (hk b ob hb)) hSz (fun z => Nat.lt_irrefl _ (thr _ z)) hat2 hlen nd hab (fun j b hj => by
    obtain ⟨key, k, y, f1, f2, f3⟩ := hG.pairs j b hj
    exact ⟨key, k, y, f1, show keyIs k key = true from f2, old _ _ f3⟩) (by rw [tl]; exact hL1) (by rw [List.toList_toArray])
  obtain ⟨R2, N2⟩ := R1.same (fun b u h _ => k1 b u h) (fun b ps h => ⟨ps, k1 _ _ h⟩) (R1.tabs.ext k1)
  refine ⟨.d (.lst ((L.mergeSort iiLe).map pairD)), ds1, M1, .ref h'.objs.size, H', J, rfl, R2, N1.trans N2, ⟨_, ts.map V.ref, rfl, repl_pairs (fun t ht => R1.own_none (k3 t (hts t ht))) (het.mono fun t q ⟨hm, hp⟩ => ?_), R1.own_none k2, k4⟩, q⟩
  obtain ⟨j, hj⟩ := List.getElem?_of_mem hm
  obtain ⟨q', hq'⟩ : ∃ q', L[j]? = some q' := ⟨_, List.getElem?_eq_getElem (by rw [← lal]; exact (List.getElem?_eq_some_iff.mp hj).1)⟩
  obtain ⟨y, hy, hH⟩ := LiI.paired_get k5 hj
  rw [List.getElem?_map, hq'] at hy
  cases hy
  obtain ⟨_, a1, a2, e1⟩ := hp
  obtain ⟨_, b1, b2, e2⟩ := pr j t q' hj hq'
  rw [e1] at e2
  injection e2 with e2
  injection e2 with _ _ e2 _
  injection e2 with e2 _
  have e2 := congrArg Array.toList e2
  simp at e2
  rw [hH]
  show some (HO.tup [V.int q'.1, V.int q'.2]) = _
  rw [e2.1.1, e2.2.1]
end
end L3

set_option Elab.async false
set_option linter.all false
set_option maxRecDepth 100000
set_option maxHeartbeats 2000000
namespace L3
open PySem PySem.Spec PyProof.Rows L2
def dicI (L : List (Int × Int)) : MC := .dic ((L.map Prod.fst).map Sum.inl) ((L.map Prod.snd).map D.int)
def getI (L : List (Int × Int)) (k d : Int) : Int := ((L.find? fun q => decide (q.1 = k)).map Prod.snd).getD d
def putI (L : List (Int × Int)) (k v : Int) : List (Int × Int) := if (L.any fun q => decide (q.1 = k)) = true then L.map (fun q => if q.1 = k then (q.1, v) else q) else L ++ [(k, v)]
def kvI (q : Int × Int) : Key × V := (Sum.inl q.1, V.int q.2)
theorem zip_kvI (L : List (Int × Int)) : ((L.map Prod.fst).map (Sum.inl : Int → Key)).zip ((L.map Prod.snd).map V.int) = L.map kvI := zip_ii L
theorem valV_ii (k : Int) : ∀ L : List (Int × Int), valV (L.map kvI) (Sum.inl k : Key) = ((L.find? fun q => decide (q.1 = k)).map Prod.snd).map V.int
  | [] => rfl
  | q :: L => by
    rw [List.map_cons]
    by_cases h : q.1 = k
    · rw [valV_pos (p := kvI q) (by show (Sum.inl q.1 : Key) = _; rw [h]), List.find?_cons_of_pos (by simpa using h)]; rfl
    · rw [valV_neg (p := kvI q) (fun z => h (Sum.inl.inj z)), List.find?_cons_of_neg (by simpa using h)]
      exact valV_ii k L
theorem any_ii (k : Int) (L : List (Int × Int)) : ((L.map kvI).any fun kv => decide (kv.1 = (Sum.inl k : Key))) = L.any fun q => decide (q.1 = k) := by
  rw [List.any_map]
  congr 1
  funext q
  show decide ((Sum.inl q.1 : Key) = Sum.inl k) = decide (q.1 = k)
  rw [decide_eq_decide]
  exact ⟨fun h => Sum.inl.inj h, fun h => by rw [h]⟩
theorem putK_ii (k v : Int) (L : List (Int × Int)) : putK (L.map kvI) (Sum.inl k : Key) (V.int v) = (putI L k v).map kvI := by
  unfold putK putI
  rw [any_ii]
  split
  · rw [List.map_map, List.map_map]
    refine List.map_congr_left fun q _ => ?_
    show (if (Sum.inl q.1 : Key) = Sum.inl k then _ else _) = kvI (if q.1 = k then _ else _)
    by_cases h : q.1 = k
    · rw [if_pos (by rw [h]), if_pos h]; rfl
    · rw [if_neg (fun z => h (Sum.inl.inj z)), if_neg h]
  · rw [List.map_append]; rfl
theorem putI_len (L : List (Int × Int)) (k v : Int) : (putI L k v).length ≤ L.length + 1 := by
  unfold putI
  split
  · rw [List.length_map]; omega
  · rw [List.length_append]; exact Nat.le_refl _
structure IsDI (z : Z) (ds : DS) : Prop where
  h : ∃ (n : Nat) (L : List (Int × Int)), z = .m n ∧ ds.w[n]? = some (some (dicI L))
structure RdGetI (z : Z) (k d : Z) (ds : DS) (Q : QZ) : Prop where
  h : ∃ (n : Nat) (L : List (Int × Int)) (i x : Int), z = .m n ∧ k = .d (.int i) ∧ d = .d (.int x) ∧ ds.w[n]? = some (some (dicI L)) ∧ Q (.d (.int (getI L i x))) ds
structure RdPutI (z k x : Z) (ds : DS) (P : DS → Prop) : Prop where
  h : ∃ (n : Nat) (L : List (Int × Int)) (i v : Int), z = .m n ∧ k = .d (.int i) ∧ x = .d (.int v) ∧ ds.w[n]? = some (some (dicI L)) ∧ L.length ≤ 50 ∧ P (ds.put n (dicI (putI L i v)))
def dGetI (to te tf : TD) : TD := fun ds Q E => to ds (fun z ds1 => IsDI z ds1 ∧ te ds1 (fun k ds2 => tf ds2 (fun x ds3 => RdGetI z k x ds3 Q) E) E) E
def dPutI (tv to te : TD) : TSd := fun De ds => tv ds (fun x ds1 => to ds1 (fun z ds2 => te ds2 (fun k ds3 => RdPutI z k x ds3 De.nx) De.er) De.er) De.er
def dDic0M : TD := fun ds Q _ => Q (.m ds.w.length) (ds.more (.dic [] []))
section
variable {X : Cx} {g : G} {W : WX} {pos : Pos} {o e f value : Expr} {to te tf tv : TD}
theorem dicI_at {σ : L2.St} {H : Hp} {M : List Addr} {ds : DS} {n : Nat} {L : List (Int × Int)} {a : Addr} (R : RepS X.K g M ds σ H) (hw : ds.w[n]? = some (some (dicI L))) (ha : M[n]? = some a) : H a = some (.dK (L.map kvI)) := by
  obtain ⟨xs, r, hl, e⟩ := R.obj _ _ _ hw ha
  obtain rfl := r.ints
  rw [e, zip_kvI]
theorem px_dic0M : PX X g W (.Dict [] [] pos) dDic0M :=
  .of pe_dnewK fun σ H M ds QD ED R ht he => fun p hp => by
    obtain ⟨R', N⟩ := R.more (c := .dic [] []) (o := .dK []) hp (fun _ z => nomatch z) (by intro φ z; cases z) fun own' m => ⟨[], rfl, rfl, upd_same⟩
    exact ⟨.m ds.w.length, _, _, R', N, ⟨p, by rw [← R.mlen, List.getElem?_append_right (Nat.le_refl _), Nat.sub_self]; rfl, rfl⟩, ht⟩
theorem px_dgetI {apos cpos : Pos} (hu : X.A.units + 1 < cLine) (ho : PX X g W o to) (he : PX X g W e te) (hf : PX X g W f tf) (hbase : attributeBase o "get" X.env (eval o X.env) = eval o X.env := by rfl)
    (hfew : ((backTo cpos (starEach [e, f] X.env)).all (fun x => !x.1) && (backToKw cpos (keywordEach [] X.env)).all (fun x => x.1.isSome) && decide (([e, f] : List Expr).length + ([] : List Keyword).length + (if ([] : List Keyword).isEmpty then 0 else 1) < 30)) = true := by rfl)
    (hline : (apos.endLine == cpos.line) = true := by rfl) (htr : backTo cpos (starEach [e, f] X.env) = [(false, eval e X.env), (false, eval f X.env)] := by rfl) :
    PX X g W (.Call (.Attribute o "get" apos) [e, f] [] cpos) (dGetI to te tf) := by
  refine .of (pe_dget2 hu ho.pe he.pe hf.pe ⟨hbase, hfew, hline, htr⟩) fun σ H M ds QD ED R ht hE => ?_
  refine lift_in R ht hE fun z ds1 M1 v H1 R1 N1 rz q => ?_
  obtain ⟨⟨n0, L0, rfl, hw0⟩, q⟩ := q
  obtain ⟨a, ha, rfl⟩ := rz
  refine ⟨a, rfl, .inl ⟨_, .inl (dicI_at R1 hw0 ha)⟩, ?_⟩
  refine lift_in R1 q (hE.nxt N1) fun k ds2 M2 u H2 R2 N2 rk q2 => ?_
  refine lift_in R2 q2 ((hE.nxt N1).nxt N2) fun x ds3 M3 y H3 R3 N3 rx q3 => ?_
  obtain ⟨n, L, i, d, e1, rfl, rfl, hw, q3⟩ := q3.h
  cases e1
  cases (show u = V.int i from rk)
  cases (show y = V.int d from rx)
  have hd := dicI_at R3 hw (pre_get (N2.trans N3).pre ha)
  refine ⟨_, DGet.k (k := .inl i) hd, ?_⟩
  rw [valV_ii]
  have ev : (((L.find? fun q => decide (q.1 = i)).map Prod.snd).map V.int).getD (V.int d) = V.int (getI L i d) := by
    unfold getI
    cases (L.find? fun q => decide (q.1 = i)).map Prod.snd <;> rfl
  rw [ev]
  exact (Mid.same R3 (z := .d (.int _)) rfl q3).nxt ((N1.trans N2).trans N3)
theorem pxs_dputI {pos' : Pos} (hu : X.A.units + 1 < cLine) (hv : PX X g W value tv) (ho : PX X g W o to) (he : PX X g W e te) (hs : swapsWith value (some (.Subscript o e pos')) pos.line X.env = pure false := by rfl) :
    PXS X g W (.Assign [.Subscript o e pos'] value pos) (dPutI tv to te) := by
  refine ⟨fun pins s σ H M ds De I R h hE => ?_⟩
  have h0 := (ps_dput (X := X) (pos := pos) (pos' := pos') hu ho.pe he.pe hv.pe hs).run pins s σ H ⟨fun σ' H' => ∃ ds' M', RepS X.K g M' ds' σ' H' ∧ Nxt g M ds H M' ds' H' ∧ De.nx ds', fun _ _ => False, fun _ _ => False, fun _ _ => False⟩ I
    (lift_in R h hE.ew fun x ds1 M1 v H1 R1 N1 rx q => lift_in R1 q (hE.nxt N1).ew fun z ds2 M2 u H2 R2 N2 rz q2 => lift_in R2 q2 ((hE.nxt N1).nxt N2).ew fun k ds3 M3 y H3 R3 N3 rk q3 => by
      obtain ⟨n, L, i, d, rfl, rfl, rfl, hw, hL, q3⟩ := q3.h
      cases (show y = V.int i from rk)
      cases (show v = V.int d from rx)
      obtain ⟨a, ha, rfl⟩ := rz
      have ha3 := pre_get N3.pre ha
      have hd := dicI_at R3 hw ha3
      have hp := DPut.k (k := .inl i) (v := V.int d) hd (by rw [List.length_map]; have : (100 : Nat) ≤ sizeLine := sz rfl; omega)
      rw [putK_ii] at hp
      obtain ⟨R4, N4⟩ := R3.put (c := dicI (putI L i d)) (o := .dK ((putI L i d).map kvI)) hw ha3 (fun _ z => nomatch z) (fun _ z => nomatch z) fun own' m => ⟨((putI L i d).map Prod.snd).map V.int, RepL.ofInts _, by rw [List.length_map, List.length_map, List.length_map, List.length_map], by rw [zip_kvI]; exact upd_same⟩
      exact ⟨a, _, rfl, hp, _, M3, R4, ((N1.trans N2).trans N3).trans N4, q3⟩)
  refine thn h0 fun f s1 q => ?_
  cases f with
  | next =>
    obtain ⟨σ', H', I', ds', M', R', N', q⟩ := q
    exact ⟨ds', M', σ', H', I', R', N', q⟩
  | brk => obtain ⟨_, _, _, q⟩ := q; exact q.elim
  | cont => obtain ⟨_, _, _, q⟩ := q; exact q.elim
  | ret u => obtain ⟨_, _, _, _, _, q⟩ := q; exact q.elim
end
end L3

set_option Elab.async false
set_option linter.all false
set_option maxRecDepth 100000
set_option maxHeartbeats 2000000
namespace L3
open PySem PySem.Spec PyProof.Rows L2
section
variable {X : Cx} {g : G}
def rdMinT : List Z → DS → QZ → Prop := fun zs ds Q => match zs with
  | [.d (.tup l)] => ∃ (n : Int) (ns : List Int), l = (n :: ns).map D.int ∧ ∀ m, m ∈ n :: ns → (∀ a ∈ n :: ns, m ≤ a) → Q (.d (.int m)) ds
  | _ => False
theorem cd_minT (hu : X.A.units + 64 < cLine) (hc : X.calm = true) : CallD X g (.builtin "min") rdMinT := by
  intro pins s σ H M ds zs vs us Q I R rz rv h
  unfold rdMinT at h
  split at h
  · rename_i l
    obtain ⟨v, rfl, r1⟩ := zs1 rz
    obtain ⟨n, ns, rfl, q⟩ := h
    obtain ⟨p, xs, rfl, r, hq⟩ := r1
    have hs : SqT X.K H p xs := sqT_of hq
    obtain rfl := r.ints
    rw [Vals.ref1 rv]
    have hdep : PyData.depthAll ((n :: ns).map PyData.int) = 0 := PySem.W.depth_ints (n :: ns)
    have hal : PySem.W.AlikeAll ((n :: ns).map PyData.int) := ⟨fun x hx y hy => by
      obtain ⟨i, _, rfl⟩ := List.mem_map.mp hx
      obtain ⟨j, _, rfl⟩ := List.mem_map.mp hy
      rfl, fun x hx => by
      obtain ⟨i, _, rfl⟩ := List.mem_map.mp hx
      exact fun h => nomatch h⟩
    have fin : ∀ (its : List Value) (as : List Addr), s.heap.IsTuple p its.toArray → ReadsAll s.heap its ((n :: ns).map PyData.int) as → wpAny (model X.prog X.w) X.A (call (.builtin "min") [.ref p]) (EPD X g pins σ M ds H Q) X.xe s := fun its as hl hr => by
      refine PySem.W.min_tuple_data (x := .int n) (xs := ns.map .int) (I.ok.hd hc) hl hr hal (by show X.A.units + 1 + PyData.depthAll ((n :: ns).map PyData.int) < cLine; rw [hdep]; omega) fun i vv h' tk bs hi hrd hk => ?_
      rw [PySem.W.minD_ints] at hrd
      obtain ⟨t, rfl⟩ : ∃ t, vv = .int (ns.foldl min n) t := by cases hrd; exact ⟨_, rfl⟩
      exact .of ⟨.int (ns.foldl min n), H, I.kept hk, ⟨_, rfl⟩, .same R (z := .d (.int _)) rfl (q _ (foldl_min_mem ns n) (foldl_min_le ns n))⟩
    obtain ⟨its, hv, hl, hz⟩ := I.tuple hs
    obtain ⟨as, hr⟩ := Dp.readsAll I _ _ _ (RepL.dp _ _ (flats_ints (n :: ns)) r) hv
    rw [pds_ints] at hr
    exact fin its as hl hr
  · exact h.elim
end
end L3

set_option Elab.async false
set_option linter.all false
set_option maxRecDepth 100000
set_option maxHeartbeats 2000000
namespace L3
open PySem PySem.Spec PyProof.Rows L2 LiI
structure RdSortItM (z : Z) (ds : DS) (Q : QZ) : Prop where
  h : ∃ (n : Nat) (L : List (Int × Int)), z = .m n ∧ ds.w[n]? = some (some (.dic ((L.map Prod.fst).map Sum.inl) ((L.map Prod.snd).map D.int))) ∧ L.length ≤ 50 ∧ Q (.m ds.w.length) (ds.more (.lst ((L.mergeSort iiLe).map pairD)))
def dSortItM (to : TD) : TD := fun ds Q E => to ds (fun z ds1 => RdSortItM z ds1 Q) E
section
variable {X : Cx} {g : G} {W : WX} {x : Str} {p apos cpos pos : Pos} {o : Expr} {to : TD}
theorem px_sortItemsM (hc : X.calm = true) (hu : X.A.units + 64 < cLine) (ho : PX X g W o to) (hg : Gl X x) (hm : X.mg x = none) (hv : bootBuiltins x = some (.builtin "sorted")) (hbase : attributeBase o "items" X.env (eval o X.env) = eval o X.env := by rfl) (hline : (apos.endLine == cpos.line) = true := by rfl) (hn : x ≠ "__name__" := by decide) (hdb : (x == ("__debug__" : Str)) = false := by decide)
    (he : starEach [.Call (.Attribute o "items" apos) [] [] cpos] X.env = (false, eval (.Call (.Attribute o "items" apos) [] [] cpos) X.env) :: starEach [] X.env := by rfl) (hpl : (backTo pos (starEach [] X.env)).any (·.1) = false := by rfl) :
    PX X g W (.Call (.Name x p) [.Call (.Attribute o "items" apos) [] [] cpos] [] pos) (dSortItM to) := by
  refine ⟨fun pins s σ H M ds QD ED I R ht hE => ?_⟩
  refine wpAny_Call_Name_kw (ld_blt I hg hm hv ?_ hn hdb)
  refine PyProof.Rows.callWith_builtin1 ?_ he hpl
  rw [he]
  show wpAny _ _ (spliced ((false, eval (.Call (.Attribute o "items" apos) [] [] cpos) X.env) :: backTo pos (starEach [] X.env))) _ _ s
  refine Calls.spliced_cons ?_
  refine wpAny_Call_method (T := "dict") (id := "dict.items") hbase rfl hline F.plainAttrs_dict F.slot_dict_items F.type_dict_items (thn (ho.run pins s σ H M ds _ ED I R ht hE) fun u s1 ⟨z, ds1, M1, v, H1, I1, rx, R1, N1, rz, q⟩ => ?_)
  obtain ⟨n, L, rfl, hw, hL, q⟩ := q.h
  obtain ⟨a, ha, rfl⟩ := rz
  obtain ⟨xs, r, hl, e⟩ := R1.obj _ _ _ hw ha
  obtain rfl := r.ints
  obtain rfl : u = Value.ref a := rx
  have e : H1 a = some (.dK (L.map fun q => ((Sum.inl q.1 : Key), V.int q.2))) := by rw [e]; congr 2; exact zip_ii L
  obtain ⟨hz, hs0, vs, kv, hdo⟩ := I1.hok a _ e
  obtain ⟨ep, hat⟩ := hdo.dictAt
  have lk : L.length = vs.length := by have := Paired.length kv; rwa [List.length_map] at this
  have I2 : Inv X pins σ H1 { s1 with heap := s1.heap.push { cls := .type "dict_items", data := .fields #[.ref a] } } := I1.kept (t' := s1.toks) fun b ob q => Heap.get?_push_of_some _ q
  refine ⟨hdo.typeIs, hdo.mapOf.noDict, ?_⟩
  show wpAny _ _ (callWith cpos (.builtin "dict.items") [.ref a] [] []) _ X.xe s1
  refine method_meetsIn F.slot_dict_items F.entry_dict_items rfl (PySem.evalArgs_none ⟨rfl, hdo.typeIs, F.args_dict_items_1 _, _, meets_dict_items (mixKind X.prog X.w) a hs0, ⟨vs, hdo⟩, ?_⟩)
  refine Calls.spliced_nil ?_
  refine SrtV.sorted_items (knd := mixKind X.prog X.w) (kvs := vs) (ep := ep) (I1.ok.hd hc) ⟨_, Heap.get?_push_size _ rfl, rfl, rfl⟩ (hat.push _) (by have : (100 : Nat) ≤ sizeLine := sz rfl; omega) fun h' tk as hk hlen hG => ?_
  have nd : as.Nodup := List.Pairwise.imp (fun {a b} (h : a < b) => Nat.ne_of_lt h) hG.rise
  have hab : ∀ t ∈ as, (s1.heap.push { cls := .type "dict_items", data := .fields #[.ref a] }).objs.size ≤ t := fun t ht => Nat.le_of_lt (hG.above t ht)
  have thr : ∀ t ∈ as, t < h'.objs.size := fun t ht => hG.there ht
  have pr : ∀ (j : Nat) (b : Addr) (q : Int × Int), as[j]? = some b → L[j]? = some q → PairAt h' (.ref b) q b := fun j b q hj hq => by
    obtain ⟨key, k, y, f1, f2, f3⟩ := hG.pairs j b hj
    obtain ⟨qv, g1, g2, g3⟩ := LiI.paired_get kv (i := j) (x := ((Sum.inl q.1 : Key), V.int q.2)) (by rw [List.getElem?_map, hq]; rfl)
    rw [f1] at g1
    cases g1
    have g2 : (Sum.inl q.1 : Key) = k := g2
    subst g2
    obtain ⟨t1, rfl⟩ : ∃ t, key = Value.int q.1 t := relV_key (show keyIs (Sum.inl q.1) key = true from f2)
    obtain ⟨t2, rfl⟩ : ∃ t, y = Value.int q.2 t := g3
    exact ⟨rfl, t1, t2, f3⟩
  have lal : as.length = L.length := by omega
  have hL1 : L.length ≤ sizeLine := by have : (100 : Nat) ≤ sizeLine := sz rfl; omega
  have eR : PySem.W.EachIs (fun v (q : Int × Int) => ∃ t, v = Value.ref t ∧ t ∈ as ∧ (t ∈ as ∧ PairAt h' (.ref t) q t)) (as.map Value.ref) L := each_ix (by rw [List.length_map]; exact lal) fun j v q h1 h2 => by
    rw [List.getElem?_map] at h1
    cases ha : as[j]? with
    | none => rw [ha] at h1; cases h1
    | some t =>
      rw [ha] at h1
      cases h1
      have hm := List.mem_of_getElem? ha
      exact ⟨t, rfl, hm, hm, pr j t q ha h2⟩
  refine PySem.W.list_sort_data (enc := fun q : Int × Int => PyData.tuple [.int q.1, .int q.2]) (bs := L) (vs := as.map Value.ref) (n := 0) (Heap.get?_push_size _ rfl) eR (eR.mono fun v q hvq => ?m1) (fun d hd d' hd' => ?m2) (.inl fun d hd => ?m3) hL1 (fun b hb => ?m4) fun out ho eo => ?m5
  case m1 =>
    obtain ⟨t, rfl, _, _, _, t1, t2, e⟩ := hvq
    exact ⟨[], (PairAt.reads (h := h'.push { cls := .type "list", data := .seq (as.map Value.ref).toArray }) ⟨rfl, t1, t2, Heap.get?_push_of_some _ e⟩), by simp⟩
  case m2 =>
    obtain ⟨q1, _, rfl⟩ := List.mem_map.mp hd
    obtain ⟨q2, _, rfl⟩ := List.mem_map.mp hd'
    rfl
  case m3 =>
    obtain ⟨q1, _, rfl⟩ := List.mem_map.mp hd
    exact ⟨_, _, rfl⟩
  case m4 =>
    show X.A.units + 1 + 1 + _ < cLine
    have : PyData.depth (.tuple [.int b.1, .int b.2]) ≤ 5 := by simp [PyData.depth, PyData.depthAll]
    omega
  rw [show L.mergeSort (PySem.W.dataLe false fun q : Int × Int => PyData.tuple [.int q.1, .int q.2]) = L.mergeSort iiLe from by
    rw [PySem.W.dataLe_ii (fun q : Int × Int => q.1) (fun q : Int × Int => q.2)]; rfl] at eo
  obtain ⟨ts, rfl, hts, het⟩ := each_refs eo
  have tl : ts.length = L.length := by rw [List.length_map] at ho; exact ho
  obtain ⟨c, hat2⟩ := PyProof.Rows.sortedHeap_at (out := (ts.map Value.ref).toArray) (vs := as.map Value.ref) (n := 0) (h := h'.push { cls := .type "list", data := .seq (as.map Value.ref).toArray }) (a := h'.objs.size) (Heap.get?_push_size _ rfl)
  have hsz : (h'.push { cls := .type "list", data := .seq (as.map Value.ref).toArray }).objs.size = h'.objs.size + 1 := PyProof.Rows.size_push' ..
  have old : ∀ b ob, h'.get? b = some ob → (PyProof.Rows.sortedHeap (h'.push { cls := .type "list", data := .seq (as.map Value.ref).toArray }) h'.objs.size (as.map Value.ref) (ts.map Value.ref).toArray).get? b = some ob := fun b ob hb => by
    have hlt := Heap.lt_size hb
    rw [PyProof.Rows.sortedHeap_old (Nat.ne_of_lt hlt) (by rw [hsz]; exact Nat.lt_succ_of_lt hlt)]
    exact Heap.get?_push_of_some _ hb
  have hSz : (s1.heap.push { cls := .type "dict_items", data := .fields #[.ref a] }).objs.size ≤ h'.objs.size := by
    have hv : (s1.heap.push { cls := .type "dict_items", data := .fields #[.ref a] }).get? s1.heap.objs.size = some _ := Heap.get?_push_size _ rfl
    have := Heap.lt_size (hk _ _ hv)
    rw [PyProof.Rows.size_push']
    exact this
  obtain ⟨H', k1, k2, k3, k4, k5, J⟩ := sorted_laid (tk := tk) (ts := ts) (S := h'.objs.size) I2 kv (fun b ob hb => old b ob (hk b ob hb)) hSz (fun z => Nat.lt_irrefl _ (thr _ z)) hat2 hlen nd hab (fun j b hj => by
    obtain ⟨key, k, y, f1, f2, f3⟩ := hG.pairs j b hj
    exact ⟨key, k, y, f1, show keyIs k key = true from f2, old _ _ f3⟩) (by rw [tl]; exact hL1) (by rw [List.toList_toArray])
  have hH : PySem.W.EachIs (fun t (q : Int × Int) => H' t = some (.tup [V.int q.1, V.int q.2])) ts (L.mergeSort iiLe) := het.mono fun t q ⟨hm, hp⟩ => by
    obtain ⟨j, hj⟩ := List.getElem?_of_mem hm
    obtain ⟨q', hq'⟩ : ∃ q', L[j]? = some q' := ⟨_, List.getElem?_eq_getElem (by rw [← lal]; exact (List.getElem?_eq_some_iff.mp hj).1)⟩
    obtain ⟨y, hy, hH⟩ := LiI.paired_get k5 hj
    rw [List.getElem?_map, hq'] at hy
    cases hy
    obtain ⟨_, a1, a2, e1⟩ := hp
    obtain ⟨_, b1, b2, e2⟩ := pr j t q' hj hq'
    rw [e1] at e2
    injection e2 with e2
    injection e2 with _ _ e2 _
    injection e2 with e2 _
    have e2 := congrArg Array.toList e2
    simp at e2
    rw [hH]
    show some (HO.tup [V.int q'.1, V.int q'.2]) = _
    rw [e2.1.1, e2.2.1]
  obtain ⟨R2, N2⟩ := R1.moreH (c := .lst ((L.mergeSort iiLe).map pairD)) k2 ⟨fun b u h _ => k1 b u h, fun b ps h => ⟨ps, k1 _ _ h⟩⟩ (R1.tabs.ext k1) fun own' m => ⟨ts.map V.ref, repl_pairs (fun t ht z => by
    rcases m t z with z | z
    · exact R1.own_none (k3 t (hts t ht)) z
    · exact Nat.lt_irrefl _ (z ▸ thr _ (hts t ht))) hH, k4⟩
  exact ⟨.m ds1.w.length, _, _, .ref h'.objs.size, H', J, rfl, R2, N1.trans N2, ⟨_, by rw [← R1.mlen, List.getElem?_append_right (Nat.le_refl _), Nat.sub_self]; rfl, rfl⟩, q⟩
end
end L3
namespace L3
open PySem PySem.Spec PyProof.Rows L2
structure ReprB (zs : List Z) (ds : DS) (Q : QZ) : Prop where
  h : ∃ z d, zs = [z] ∧ borD ds z = some d ∧ repOk d ∧ Q (.d (.str (repD d))) ds
theorem cd_reprB {X : Cx} {g : G} (hg : X.A.guards = some []) (hu : X.A.units + 64 < cLine) : CallD X g (.builtin "repr") ReprB := by
  intro pins s σ H M ds zs vs us QD I R rz rv ⟨z, d, e, eb, ⟨h1, h2, h3⟩, q⟩
  subst e
  obtain ⟨v, rfl, r1⟩ := zs1 rz
  obtain ⟨u, rfl, hu'⟩ := vals1 rv
  obtain ⟨s1, s2⟩ := re_ok d h1
  have z : d.pe.shown.length ≤ sizeLine := by
    have := PyData.shown_le_bulk 600 (by decide) d.pe s2
    rw [sizeLine_eq]; omega
  exact repr_RX (RepD.rx I d v u h1 (bor_ok R r1 eb) hu') s1 z hg (by omega) fun h' u tk hk => ⟨.d (.str _), ds, M, .str d.pe.shown, H, I.kept hk, ⟨_, rfl⟩, R, .refl, rfl, q⟩
end L3

set_option Elab.async false
set_option linter.all false
set_option maxRecDepth 100000
set_option maxHeartbeats 2000000
namespace L3
open PySem PySem.Spec PyProof.Rows L2
section
variable {X : Cx} {g : G} {W : WX} {pos : Pos}
def dAsg2 (ta : TLi) (g1 g2 : TGd) : TSd := fun D ds => ta ds (fun zs ds1 => match zs with
  | [x, y] => g1 x ds1 (fun ds2 => g2 y ds2 D.nx)
  | _ => False) D.er
theorem pxs_asg2 {t1 t2 : Expr} {g1 g2 : TGd} {a b : Expr} {ta : TLi} {pt : Pos} {kt k2 pt2} (hc : X.calm = true) (ha : PXA X g W [a, b] ta) (hg1 : PXG X g t1 g1) (hg2 : PXG X g t2 g2)
    (hs : swapsWithSole [.Tuple [t1, t2] kt pt] (.Tuple [a, b] k2 pt2) pos.line X.env = pure false := by rfl) (hw : swappedStores [.Tuple [t1, t2] kt pt] (.Tuple [a, b] k2 pt2) X.env = pure none := by rfl)
    (h1 : (assignEach [.Tuple [t1, t2] kt pt] X.env).map (·.2) = [assign (.Tuple [t1, t2] kt pt) X.env] := by rfl)
    (hst : (assignEach [t1, t2] X.env).findIdx? (·.1) = none := by rfl)
    (h2 : (assignEach [t1, t2] X.env).map (·.2) = [assign t1 X.env, assign t2 X.env] := by rfl) :
    PXS X g W (.Assign [.Tuple [t1, t2] kt pt] (.Tuple [a, b] k2 pt2) pos) (dAsg2 ta g1 g2) := by
  refine ⟨fun pins s σ H M ds D I R h hE => ?_⟩
  have hn : (assignEach [t1, t2] X.env).length = 2 := by
    have := congrArg List.length h2
    simpa using this
  refine wpAny_Assign_stores (wpAny_Tuple_spliced (thn (ha.run pt2 pins s σ H M ds _ _ I R h hE.ew) fun us s1 ⟨zs, ds1, M1, xs, H1, I1, r, R1, N1, rz, q⟩ => ?_)) hs hw
  rw [h1]
  dsimp only at q
  split at q
  · rename_i x y
    have hf : H1 s1.heap.objs.size = none := I1.hok.fresh (Nat.le_refl _)
    have hl : us.length ≤ sizeLine := by rw [← r.length, RepZs.length rz, sizeLine_eq]; show 2 ≤ 16777216; decide
    refine ⟨hl, ?_⟩
    obtain ⟨R2, N2⟩ := R1.upd (o := .tup xs) hf
    obtain ⟨v1, v2, rfl, z1, z2⟩ := zs2 rz
    have key : ∀ s2 : Shared, L2.Inv X pins σ (L2.upd H1 s1.heap.objs.size (.tup [v1, v2])) s2 → wpAny (model X.prog X.w) X.A (assign (.Tuple [t1, t2] kt pt) X.env (.ref s1.heap.objs.size)) (fun _ s' => ND X g pins M ds H D.nx s') X.xe s2 := fun s2 I2 => by
      have ht : SqT X.K (L2.upd H1 s1.heap.objs.size (.tup [v1, v2])) s1.heap.objs.size [v1, v2] := sqT_of (own := g.own M1 ds1) (.inl ⟨R1.own_none hf, .inl upd_same⟩)
      obtain ⟨its, rv, ht, hz⟩ := I2.tuple ht
      refine assign_Tuple_tuple (I2.ok.hd hc) ht (by simp [hn, ← rv.length]) hst fun h' hx => ?_
      have I3 : L2.Inv X pins σ (L2.upd H1 s1.heap.objs.size (.tup [v1, v2])) { s2 with heap := h' } := I2.kept (t' := s2.toks) fun b o e => hx b o (Nat.ne_of_lt (Heap.lt_size e)) e
      rw [h2]
      cases rv with
      | cons ra rv =>
        cases rv with
        | cons rb rv =>
          cases rv
          refine assignInOrder_cons (thn (hg1.run pins _ σ _ M1 ds1 x v1 _ _ I3 R2 (z1.mv N2.mv N2.pre) ra q) fun _ s3 ⟨ds2, M2, σ2, H2, I4, R4, N4, q2⟩ => ?_)
          refine assignInOrder_cons (thn (hg2.run pins s3 σ2 H2 M2 ds2 y v2 _ _ I4 R4 ((z2.mv N2.mv N2.pre).mv N4.mv N4.pre) rb q2) fun _ s4 q3 => assignInOrder_nil (ND.nxt (N1.trans (N2.trans N4)) q3))
    exact thn (key _ (I1.laid (t' := s1.toks) (fun b u e => Heap.get?_push_of_some _ e) (Nat.le_refl _) ⟨by rw [r.length]; exact hl, us, r, ⟨_, Heap.get?_push_size _ rfl, rfl, _, rfl⟩⟩)) fun _ _ q => q
  · exact q.elim
end
end L3

set_option Elab.async false
set_option linter.all false
set_option maxRecDepth 100000
set_option maxHeartbeats 2000000
namespace L3
open PySem PySem.Spec PyProof.Rows L2
section
variable {X : Cx} {g : G} {W : WX} {pos : Pos} {value o e : Expr} {tv to te : TD}
def kLput (x z k : Z) (Q : DS → Prop) (ds : DS) : Prop := match x, z, k with
  | .d v, .m n, .d (.int i) => match ds.w[n]? with
    | some (some (.lst L)) => ∃ j, ixN L.length i = some j ∧ Q (ds.put n (.lst (L.set j v)))
    | _ => False
  | _, _, _ => False
def dLput (tv to te : TD) : TSd := fun De ds => tv ds (fun x ds1 => to ds1 (fun z ds2 => te ds2 (fun k ds3 => kLput x z k De.nx ds3) De.er) De.er) De.er
theorem pxs_lput {pos' : Pos} (hv : PX X g W value tv) (ho : PX X g W o to) (he : PX X g W e te)
    (hs : swapsWithSole [.Subscript o e pos'] value pos.line X.env = pure false := by rfl) (hw : swappedStores [.Subscript o e pos'] value X.env = pure none := by rfl) (h1 : (assignEach [.Subscript o e pos'] X.env).map (·.2) = [assign (.Subscript o e pos') X.env] := by rfl)
    (hi : ∀ v : Value, assign (.Subscript o e pos') X.env v = (do
      let ov ← PySem.holding [v] (eval o X.env)
      let iv ← PySem.holding [v, ov] (eval e X.env)
      PySem.standAt pos'
      PySem.holding [v, ov, iv] (PySem.setItem ov iv v)
      PySem.release [v, ov, iv] []) := by intro _; rfl) :
    PXS X g W (.Assign [.Subscript o e pos'] value pos) (dLput tv to te) := by
  refine ⟨fun pins s σ H M ds De I R h hE => ?_⟩
  have h0 := (ps_asg (pos := pos) hv.pe (pg_sub (pos := pos') ho.pe he.pe set_list hi) hs hw h1).run pins s σ H ⟨fun σ' H' => ∃ ds' M', RepS X.K g M' ds' σ' H' ∧ Nxt g M ds H M' ds' H' ∧ De.nx ds', fun _ _ => False, fun _ _ => False, fun _ _ => False⟩ I
    (lift_in R h hE.ew fun x ds1 M1 v H1 R1 N1 rx q => lift_in R1 q (hE.nxt N1).ew fun z ds2 M2 u H2 R2 N2 rz q2 => lift_in R2 q2 ((hE.nxt N1).nxt N2).ew fun k ds3 M3 y H3 R3 N3 rk q3 => by
      unfold kLput at q3
      split at q3
      · rename_i d n i
        split at q3
        · rename_i L hw
          obtain ⟨j, hj, q3⟩ := q3
          cases (show y = V.int i from rk)
          obtain ⟨a, ha, rfl⟩ := rz
          have ha3 := pre_get N3.pre ha
          have rx3 : RepD X.K (g.own M3 ds3) H3 d v := ((show RepD X.K (g.own M1 ds1) H1 d v from rx).mv N2.mv).mv N3.mv
          obtain ⟨xs, r, ex⟩ := R3.obj _ _ _ hw ha3
          obtain ⟨R4, N4⟩ := R3.put (c := .lst (L.set j d)) (o := .lst (xs.set j v)) hw ha3 (fun _ z => nomatch z) (fun _ z => nomatch z) fun own' m => ⟨xs.set j v, RepL.set j (RepL.mv m _ _ r) (RepD.mv m _ _ rx3), upd_same⟩
          exact ⟨a, xs, i, j, rfl, rfl, ex, by rw [RepL.length r]; exact hj, _, M3, R4, ((N1.trans N2).trans N3).trans N4, q3⟩
        · exact q3.elim
      · exact q3.elim)
  refine thn h0 fun f s1 q => ?_
  cases f with
  | next =>
    obtain ⟨σ', H', I', ds', M', R', N', q⟩ := q
    exact ⟨ds', M', σ', H', I', R', N', q⟩
  | brk => obtain ⟨_, _, _, q⟩ := q; exact q.elim
  | cont => obtain ⟨_, _, _, q⟩ := q; exact q.elim
  | ret u => obtain ⟨_, _, _, _, _, q⟩ := q; exact q.elim
/-- a comprehension, as a thing -/
theorem px_lcM {elt tg iter : Expr} {ifs : List Expr} {scope : Scope} {own : List (Str × Nat)} {ti : TIt} {gt : TGd} {gl : TG} {tt : TBo} {ttl : TT} {te : TD} (hc : X.calm = true) (hN : X.N.Nodup) (hi : PXI X g W tg iter ti) (ok : BlkOk X.N X.env.scope scope own)
    (hg : ∀ (s : Shared) (H : Hp) (C : Addr) (cl : List (Str × Addr)) (fp : List Addr), PXC (X.blk s H scope (compEnvC scope cl C X.env) fp) tg (own.map (·.2)) gt gl)
    (ht : ∀ (s : Shared) (H : Hp) (C : Addr) (cl : List (Str × Addr)) (fp : List Addr), PXTs (X.blk s H scope (compEnvC scope cl C X.env) fp) g.T ifs tt ttl)
    (he : ∀ (g' : G) (s : Shared) (H : Hp) (C : Addr) (cl : List (Str × Addr)) (fp : List Addr), g'.T = g.T → PX (X.blk s H scope (compEnvC scope cl C X.env) fp) g' W0 elt te) (hs : ∀ x, foldedSetIterable iter X.env x = pure x := by intro _; rfl) :
    PX X g W (.ListComp elt [⟨tg, iter, ifs, 0⟩] scope pos) (dLcM ti gt tt te (own.map (·.2))) := by
  refine .of (pe_lc hc hN hi.pi ok (fun s H C cl fp => (hg s H C cl fp).pg) (fun s H C cl fp => (ht s H C cl fp).pts) (fun s H C cl fp => pe_any (g := g) rfl fun g' e1 => he g' s H C cl fp e1) hs) fun σ H M ds QD ED R h hE => ?_
  refine lc_sim (X' := X.blk X.s_0 (fun _ => none) scope (compEnvC scope [] 0 X.env) []) rfl (hg X.s_0 (fun _ => none) 0 [] []) (ht X.s_0 (fun _ => none) 0 [] []) R h hE fun D acc xs M' ds' H' eD R' N nD rl q hD0 rl0 => ?_
  obtain ⟨R2, N2⟩ := R'.inn (c := .lst acc) N nD hD0 ⟨xs, rl0, eD⟩
  exact ⟨.m ds'.w.length, ds'.more (.lst acc), M' ++ [D], R2, N2, ⟨D, by rw [← R'.mlen, List.getElem?_append_right (Nat.le_refl _), Nat.sub_self]; rfl, rfl⟩, q⟩
end
theorem list_kit (d : D) (h : d.plain = true) : kitB d.tyName "list" = some d.isList := by
  cases d with
  | non => exact (by decide +kernel : kitB "NoneType" "list" = some false)
  | bl b => exact (by decide +kernel : kitB "bool" "list" = some false)
  | int b => exact (by decide +kernel : kitB "int" "list" = some false)
  | str b => exact (by decide +kernel : kitB "str" "list" = some false)
  | tup b => exact (by decide +kernel : kitB "tuple" "list" = some false)
  | lst b => exact (by decide +kernel : kitB "list" "list" = some true)
  | lsf b => exact (by decide +kernel : kitB "list" "list" = some true)
  | dic b c => exact (by decide +kernel : kitB "dict" "list" = some false)
  | ref b => cases h
  | ty b => cases h
  | ins a b c => cases h
  | exn a b c d e => cases h
  | exo a b c d e => cases h
  | cod a b => cases h
/-- isinstance(x, list) of a thing that is lent -/
structure IsiLB (zs : List Z) (ds : DS) (Q : QZ) : Prop where
  h : ∃ z d, zs = [z, .d (.ty "list")] ∧ borD ds z = some d ∧ d.plain = true ∧ Q (.d (.bl d.isList)) ds
theorem cd_isiListB {X : Cx} {g : G} : CallD X g (.builtin "isinstance") IsiLB := .of call_isi fun σ H M ds zs vs QD R rz h => by
  obtain ⟨z, d, rfl, eb, pl, q⟩ := h.h
  obtain ⟨v, u, rfl, r1, r2⟩ := zs2 rz
  cases r2
  exact ⟨v, _, _, _, _, rfl, .ty _, RepD.tyX (bor_ok R r1 eb) pl, kit_ty (list_kit d pl), .same R (z := .d (.bl _)) rfl q⟩
end L3

set_option Elab.async false
set_option linter.all false
set_option maxRecDepth 100000
set_option maxHeartbeats 2000000
namespace L3
open PySem PySem.Spec PyProof.Rows L2
section
variable {X : Cx} {g : G} {W : WX}
/-- a list beside an empty one -/
def NilB (K : PySem.W.Frag) (n : Nat) (x y : V) (H : Hp) : Prop := ∃ a b xs, x = .ref a ∧ y = .ref b ∧ xs.length = n ∧ SqL K H a xs ∧ SqL K H b []
theorem op_ne0 {n : Nat} (hu : X.A.units + 64 < cLine) : OpR X (compareOp .NotEq) (fun x y H Q => NilB X.K n x y H ∧ Q (.bl (decide (n ≠ 0))) H) := by
  intro pins s σ H x y v u Q I rx ry h
  obtain ⟨⟨a, b, xs, rfl, rfl, hn, ha, hb⟩, q⟩ := h
  cases (show v = Value.ref a from rx)
  cases (show u = Value.ref b from ry)
  obtain ⟨us, r1, p1, _⟩ := I.list ha
  obtain ⟨ws, r2, p2, _⟩ := I.list hb
  obtain rfl : ws = [] := by cases r2; rfl
  have hz : us.toArray.size = n := by
    have := r1.length
    rw [hn] at this
    simpa using this.symm
  cases n with
  | zero =>
    refine SeqAt.RcNeAt.lists (e := fun _ => true) p1.isList p2.isList hz (by omega) (fun j h1 h2 => absurd h2 (Nat.not_lt_zero j)) _ _ _ _ ?_
    rw [hz]
    exact ⟨.bl false, H, I, rfl, q⟩
  | succ n =>
    refine SeqAt.RcNeAt.lists_lengths p1.isList p2.isList (by rw [hz]; rfl) (by omega) _ _ _ _ ?_
    exact ⟨.bl true, H, I, rfl, q⟩
theorem op_eq0 {n : Nat} (hu : X.A.units + 64 < cLine) : OpR X (compareOp .Eq) (fun x y H Q => NilB X.K n x y H ∧ Q (.bl (decide (n = 0))) H) := by
  intro pins s σ H x y v u Q I rx ry h
  obtain ⟨⟨a, b, xs, rfl, rfl, hn, ha, hb⟩, q⟩ := h
  cases (show v = Value.ref a from rx)
  cases (show u = Value.ref b from ry)
  obtain ⟨us, r1, p1, _⟩ := I.list ha
  obtain ⟨ws, r2, p2, _⟩ := I.list hb
  obtain rfl : ws = [] := by cases r2; rfl
  have hz : us.toArray.size = n := by
    have := r1.length
    rw [hn] at this
    simpa using this.symm
  cases n with
  | zero =>
    refine SeqAt.RcAt.lists (e := fun _ => true) p1.isList p2.isList hz (by omega) (fun j h1 h2 => absurd h2 (Nat.not_lt_zero j)) _ _ _ _ ?_
    rw [hz]
    exact ⟨.bl true, H, I, rfl, q⟩
  | succ n =>
    refine SeqAt.RcAt.lists_lengths p1.isList p2.isList (by rw [hz]; rfl) (by omega) _ _ _ _ ?_
    exact ⟨.bl false, H, I, rfl, q⟩
def rdNe0 (x y : Z) (ds : DS) (Q : QZ) : Prop := match x, y with
  | .d (.lst l), .d (.lst []) => Q (.d (.bl (decide (l.length ≠ 0)))) ds
  | _, _ => False
def rdEq0 (x y : Z) (ds : DS) (Q : QZ) : Prop := match x, y with
  | .d (.lst l), .d (.lst []) => Q (.d (.bl (decide (l.length = 0)))) ds
  | _, _ => False
theorem od_ne0 (hu : X.A.units + 64 < cLine) : OpD X g (compareOp .NotEq) rdNe0 := by
  intro pins s σ H M ds x y v u vv uu QD I R rx vx ry vy h
  unfold rdNe0 at h
  split at h
  · rename_i l
    obtain ⟨a, xs, rfl, rl, _, q⟩ := rx
    obtain ⟨b, ys, rfl, rm, _, q2⟩ := ry
    cases (show ys = [] from rm)
    exact thn (op_ne0 (n := l.length) hu pins s σ H _ _ vv uu _ I vx vy ⟨⟨a, b, xs, rfl, rfl, RepL.length rl, .of q, .of q2⟩, .same R (z := .d (.bl _)) rfl h⟩) fun _ _ z => .of z
  · exact h.elim
theorem od_eq0 (hu : X.A.units + 64 < cLine) : OpD X g (compareOp .Eq) rdEq0 := by
  intro pins s σ H M ds x y v u vv uu QD I R rx vx ry vy h
  unfold rdEq0 at h
  split at h
  · rename_i l
    obtain ⟨a, xs, rfl, rl, _, q⟩ := rx
    obtain ⟨b, ys, rfl, rm, _, q2⟩ := ry
    cases (show ys = [] from rm)
    exact thn (op_eq0 (n := l.length) hu pins s σ H _ _ vv uu _ I vx vy ⟨⟨a, b, xs, rfl, rfl, RepL.length rl, .of q, .of q2⟩, .same R (z := .d (.bl _)) rfl h⟩) fun _ _ z => .of z
  · exact h.elim
/-- t * n for a tuple too -/
def rdMulT : Z → Z → DS → QZ → Prop := fun x y ds Q => match x, y with
  | .d (.tup l), .d (.int j) => (l ≠ [] ∧ 2 ≤ j ∧ j ≤ 1000 ∧ l.length ≤ 1000) ∧ Q (.d (.tup (List.replicate j.toNat l).flatten)) ds
  | x, y => rdMul x y ds Q
theorem od_mulT : OpD X g (binaryOp .Mult) rdMulT := by
  intro pins s σ H M ds x y v u vv uu QD I R rx vx ry vy h
  unfold rdMulT at h
  split at h
  · obtain ⟨a, xs, rfl, r1, h1⟩ := rx
    obtain ⟨⟨c1, c2, c3, c4⟩, h⟩ := h
    refine thn (op_repT pins s σ H _ _ vv uu _ I vx vy ⟨a, _, xs, rfl, ry, sqT_of h1, fun z => c1 ?_, c2, c3, by rw [RepL.length r1]; exact c4, fun p hp => .tup R hp (RepL.rep r1 _) h⟩) fun _ _ z => .of z
    have := RepL.length r1
    rw [z] at this
    exact List.length_eq_zero_iff.mp this.symm
  · exact od_mul pins s σ H M ds x y v u vv uu QD I R rx vx ry vy h
end
end L3

set_option Elab.async false
set_option linter.all false
set_option maxRecDepth 100000
set_option maxHeartbeats 4000000
namespace HT
open PySem PySem.Spec PyProof.Rows
section
variable {prog : Program} {w : World} {A : Around} {E : Value → Shared → Prop} {s : Shared}
theorem adjust_rev (n : Nat) : Builtin.Slice.sliceAdjust none none (-1) (n : Int) = ((n : Int) - 1, -1) := rfl
theorem places_rev (n : Nat) : Builtin.Slice.slicePlaces ((n : Int) - 1) (-1) (-1) = n := by
  unfold Builtin.Slice.slicePlaces
  have h1 : ¬ ((-1 : Int) > 0) := by omega
  rw [if_neg h1]
  have h2 : -(-1 : Int) = 1 := rfl
  rw [h2, Int.ediv_one]
  split <;> omega
theorem sliceApplied_rev {sl : Addr} {vs : Value} {n : Nat} {Q : Int × Int × Nat → Shared → Prop} (hs : s.heap.IsSliceOf sl .none .none vs) (ps : IsPart vs (some (-1)))
    (h : Q ((n : Int) - 1, -1, n) s) : wpAny (model prog w) A (Builtin.Slice.sliceApplied (.ref sl) (pure (n : Int))) Q E s := by
  obtain ⟨os, hos, hcs, hds⟩ := id hs
  unfold Builtin.Slice.sliceApplied Builtin.Slice.sliceFields
  refine wpAny_bind (wpAny_bind (wpAny_field hos hds (x := .none) rfl (wpAny_bind (wpAny_field hos hds (x := .none) rfl (wpAny_bind (wpAny_field hos hds (x := vs) rfl (wpAny_pure ?_)))))))
  refine wpAny_bind (slicePart_ ps ?_)
  show wpAny _ _ (if ((-1 : Int) == 0) = true then _ else _) _ _ s
  rw [if_neg (by decide)]
  refine wpAny_bind (slicePart_none (wpAny_bind (slicePart_none (wpAny_bind (wpAny_pure ?_)))))
  show wpAny _ _ (match Builtin.Slice.sliceAdjust none none (-1) (n : Int) with | (lo, hi) => pure (lo, (-1 : Int), Builtin.Slice.slicePlaces lo hi (-1))) _ _ s
  rw [adjust_rev n]
  show wpAny _ _ (pure (((n : Int) - 1), (-1 : Int), Builtin.Slice.slicePlaces ((n : Int) - 1) (-1) (-1))) _ _ s
  rw [places_rev]
  exact wpAny_pure h
theorem fm_congr {α β : Type} {f h : α → Option β} : ∀ {l : List α}, (∀ m ∈ l, f m = h m) → l.filterMap f = l.filterMap h
  | [], _ => rfl
  | a :: l, e => by
    rw [List.filterMap_cons, List.filterMap_cons, e a List.mem_cons_self, fm_congr fun m hm => e m (List.mem_cons_of_mem _ hm)]
theorem pick_rev (xs : Array Value) : ((List.range xs.size).filterMap fun (m : Nat) => xs[((xs.size : Int) - 1 + (m : Int) * (-1)).toNat]?).toArray = xs.toList.reverse.toArray := by
  congr 1
  have e : (List.range xs.size).filterMap (fun (m : Nat) => xs[((xs.size : Int) - 1 + (m : Int) * (-1)).toNat]?) = (List.range xs.size).filterMap (fun (m : Nat) => xs.toList.reverse[m]?) := by
    refine fm_congr fun m hm => ?_
    have hm := List.mem_range.mp hm
    rw [List.getElem?_reverse (by rw [Array.length_toList]; exact hm), Array.length_toList, Array.getElem?_toList]
    congr 1
    omega
  rw [e]
  have h := PySem.W.krv_all xs.toList.reverse.toArray
  rw [List.size_toArray, List.length_reverse, Array.length_toList] at h
  simpa using h
theorem getItem_tuple_rev {t sl : Addr} {items : Array Value} {vs : Value} {Q : Value → Shared → Prop} (ht : IsTup s.heap t items) (hs : s.heap.IsSliceOf sl .none .none vs) (ps : IsPart vs (some (-1)))
    (h : Q (.ref s.heap.objs.size) { s with heap := s.heap.push { cls := .type "tuple", data := .seq items.toList.reverse.toArray } })
    (hsz : items.size ≤ sizeLine) : wpAny (model prog w) A (getItem (.ref t) (.ref sl)) Q E s := by
  have htake : sizeOk (.seq items.toList.reverse.toArray) := by
    show items.toList.reverse.toArray.size ≤ sizeLine
    rw [List.size_toArray, List.length_reverse, Array.length_toList]
    exact hsz
  obtain ⟨os, hos, hcs, hds⟩ := id hs
  have hTs : s.TypeIs (.ref sl) "slice" := ⟨os, hos, hcs⟩
  unfold getItem
  try with_reducible refine wpAny_holding ?_
  first | refine wpAny_bind (wpAny_pure ?_) | skip
  refine wpAny_bind (wpAny_sequenceKey ht.typeIs (by decide) ?_)
  refine wpAny_bind (wpAny_callSpecial?_slot (name := Str.ofString "__getitem__") ht.typeIs PyProof.Rows.slot_tuple_getitem
    (wpAny_call_entry PyProof.Rows.slot_tuple_getitem ht.typeIs entry_tuple_getitem ?_ (args_tuple_getitem _ _)))
  show wpAny _ _ (Builtin.Tuple.tupleItemsOf (.ref t) >>= _) _ _ s
  refine wpAny_bind (tupleItemsOf_ ht ?_)
  refine wpAny_bind (wpAny_typeOf hTs ?_)
  rw [if_pos (by decide)]
  refine wpAny_bind (sliceApplied_rev hs ps ?_)
  have hno : ¬ ((((items.size : Int) - 1) == 0 && (-1 : Int) == 1 && items.size == items.size) = true) := by
    intro q
    rw [Bool.and_eq_true, Bool.and_eq_true] at q
    exact absurd q.1.2 (by decide)
  show wpAny _ _ (if (((items.size : Int) - 1) == 0 && (-1 : Int) == 1 && items.size == items.size) = true then _ else _) _ _ s
  rw [if_neg hno, pick_rev]
  first
    | exact wpAny_bind (m := Builtin.Tuple.tupleExact _) (wpAny_newObj_type (wpAny_pure ⟨_, rfl, wpAny_pure h⟩) htake)
    | exact wpAny_bind (m := Builtin.Tuple.tupleExact _) (wpAny_newObj_type (wpAny_bind (wpAny_pure (wpAny_pure ⟨_, rfl, wpAny_pure h⟩))) htake)
    | exact wpAny_bind (wpAny_bind (m := Builtin.Tuple.tupleExact _) (wpAny_newObj_type (wpAny_pure (wpAny_pure ⟨_, rfl, wpAny_pure h⟩)) htake))
    | exact wpAny_bind (wpAny_bind (m := Builtin.Tuple.tupleExact _) (wpAny_newObj_type (wpAny_pure ⟨_, rfl, wpAny_pure h⟩) htake))
end
end HT
namespace L2
open PySem PySem.Spec PyProof.Rows HT
theorem tuple_mul0 (l : Addr) (n : Nat) (dd : Option Addr) (sl : Array (Option Value)) (x : Int) (u : Tok) (c0 : (decide (x < -(2 ^ 63)) || decide (x ≥ 2 ^ 63)) = false) :
    Meets (Builtin.«tuple.__mul__» ⟨[.ref l, .int x u], []⟩) (fun _ R s => s.heap.get? l = some { cls := .type "tuple", dict := dd, data := .seq #[] n, slots := sl } ∧
      R (.ok (.ret (Value.ref l))) s) :=
  .of_wp fun prog w A R s h => by
    obtain ⟨hp, g, d, tk, os⟩ := s
    obtain ⟨hl, h⟩ := h
    have f1 := AutoSeq1.idx_int
    wp_walk using wpAny_loadPart' hl
    repeat (first
      | (refine wpAny_ite_false (decide_eq_false (by rw [c0]; exact Bool.false_ne_true)) ?_; wp_walk using wpAny_loadPart' hl))
    exact ⟨_, rfl, h⟩
section
variable {X : Cx}
/-- () * n -/
theorem op_rep0 : OpR X (binaryOp .Mult) (fun x y H Q => ∃ l k, x = .ref l ∧ y = .int k ∧ SqT X.K H l [] ∧ 2 ≤ k ∧ k ≤ 1000 ∧ Q (.ref l) H) := by
  intro pins s σ H x y v u Q I rx ry h
  obtain ⟨l, k, rfl, rfl, hT, h1, h2, q⟩ := h
  cases rx
  obtain ⟨t, rfl⟩ := ry
  obtain ⟨its, r, ⟨⟨cls, dd, data, sl⟩, ho, hc, n, hd⟩, hs⟩ := I.tuple hT
  simp only at hc hd
  subst hc hd
  cases r
  have c0 : (decide (k < -(2 ^ 63)) || decide (k ≥ 2 ^ 63)) = false := by
    rw [decide_eq_false (by omega), decide_eq_false (by omega)] <;> rfl
  exact wpAny_binaryOp_repeat_ref (T := "tuple") (U := "int") (by decide) ⟨_, ho, rfl⟩ (fun s' => typeIs_int s' k t) noFill_tuple_mul F.fills_int_mul F.slot_int_rmul repeat_tuple F.slot_int_index.lookup
    (call_meets F.slot_int_rmul (typeIs_int s k t) F.entry_int_rmul (F.args_int_rmul_2 _ _) (int_rmul_tuple k t l _ n dd sl)
      ⟨ho, rfl, ⟨_, ho, rfl⟩, call_meets F.slot_tuple_mul ⟨_, ho, rfl⟩ F.entry_tuple_mul (F.args_tuple_mul_2 _ _) (tuple_mul0 l n dd sl k t c0) ⟨ho, ⟨.ref l, H, I, rfl, q⟩⟩⟩)
/-- x[::-1], a list or a tuple -/
def rRevX (K : PySem.W.Frag) (x : V) (H : Hp) (Q : VK) : Prop := (∃ a xs, x = .ref a ∧ SqL K H a xs ∧ ∀ p, H p = none → Q (.ref p) (upd H p (.lst xs.reverse))) ∨
  (∃ a xs, x = .ref a ∧ SqT K H a xs ∧ ∀ p, H p = none → Q (.ref p) (upd H p (.tup xs.reverse)))
def tRevX (K : PySem.W.Frag) (te : TE) : TE := fun σ H Q => te σ H fun x H1 => rRevX K x H1 Q
theorem pe_revX {e : Expr} {te : TE} {k : Nat} {p1 p2 p3 pos : Pos} (he : PE X e te) : PE X (.Subscript e (.Slice none none (some (.UnaryOp .USub (.Constant (.int 1) k p1) p2)) p3) pos) (tRevX X.K te) := by
  refine ⟨fun pins s σ H Q I h => ?_⟩
  refine Subscript_ (thn (he.run pins s σ H _ I h) fun v s1 ⟨x, H1, I1, r1, q1⟩ => ?_)
  have hst : PO X (some (.UnaryOp .USub (.Constant (.int 1) k p1) p2)) (tPart (tUn (rU fun i => .int (-i)) (tC (.int 1)))) := po_some (pe_un un_neg pe_int)
  refine wpAny_Slice (thn (po_none.run pins s1 σ H1 (fun o H2 => o = none ∧ H2 = H1) I1 ⟨rfl, rfl⟩) fun vl s2 ⟨l, H2, I2, pl, el, e2⟩ => ?_)
  subst el e2
  refine thn (po_none.run pins s2 σ H2 (fun o H3 => o = none ∧ H3 = H2) I2 ⟨rfl, rfl⟩) fun vu s3 ⟨u, H3, I3, pu, eu, e3⟩ => ?_
  subst eu e3
  refine thn (hst.run pins s3 σ H3 (fun o H4 => o = some (-1) ∧ H4 = H3) I3 ⟨1, rfl, -1, rfl, rfl, rfl⟩) fun vs s4 ⟨o, H4, I4, ps, eo, e4⟩ => ?_
  subst eo e4
  have I5 : Inv X pins σ H4 { s4 with heap := s4.heap.push { cls := .type "slice", data := .fields #[vl, vu, vs] } } := I4.kept (t' := s4.toks) fun b ob q => Heap.get?_push_of_some _ q
  rcases q1 with ⟨a, xs, ex, hx, q⟩ | ⟨a, xs, ex, hx, q⟩
  · subst ex
    cases r1
    obtain ⟨its, r, ht, hz⟩ := I5.list hx
    have hlen := r.length
    show wpAny (model X.prog X.w) X.A (subscriptTail e (.Slice none none (some (.UnaryOp .USub (.Constant (.int 1) k p1) p2)) p3) (.ref a) (.ref s4.heap.objs.size)) (EP X pins σ Q) X.xe { s4 with heap := s4.heap.push { cls := .type "slice", data := .fields #[vl, vu, vs] } }
    refine tail_any (ops := [.ref a, .ref s4.heap.objs.size]) ht.isList.typeIs (PySem.slot_list_getitem.lookup) ?_ (by with_unfolding_all rfl)
    refine wpAny_getItem_list_slice ht.isList (Heap.IsSliceOf.new _ vl vu vs) pl pu ps (by decide) ?_ (by rw [List.size_toArray]; omega)
    rw [PySem.W.krv_pick]
    refine ⟨.ref _, _, I5.laid (t' := s4.toks) (o := .lst xs.reverse) (fun b ob q => Heap.get?_push_of_some _ q) (Nat.le_refl _) ?_, rfl, q _ (I5.hok.fresh (Nat.le_refl _))⟩
    exact ⟨by rw [List.length_reverse]; exact hz, _, 0, r.reverse, Heap.get?_push_size _ rfl⟩
  · subst ex
    cases r1
    cases pl
    cases pu
    obtain ⟨its, r, ht, hz⟩ := I5.tuple hx
    have hlen := r.length
    show wpAny (model X.prog X.w) X.A (subscriptTail e (.Slice none none (some (.UnaryOp .USub (.Constant (.int 1) k p1) p2)) p3) (.ref a) (.ref s4.heap.objs.size)) (EP X pins σ Q) X.xe { s4 with heap := s4.heap.push { cls := .type "slice", data := .fields #[.none, .none, vs] } }
    refine tail_any (ops := [.ref a, .ref s4.heap.objs.size]) ht.typeIs (PyProof.Rows.slot_tuple_getitem.lookup) ?_ (by with_unfolding_all rfl)
    refine getItem_tuple_rev ht (Heap.IsSliceOf.new _ .none .none vs) ps ?_ (by rw [List.size_toArray]; omega)
    refine ⟨.ref _, _, I5.laid (t' := s4.toks) (o := .tup xs.reverse) (fun b ob q => Heap.get?_push_of_some _ q) (Nat.le_refl _) ?_, rfl, q _ (I5.hok.fresh (Nat.le_refl _))⟩
    exact ⟨by rw [List.length_reverse]; exact hz, _, r.reverse, IsTup.new _ _⟩
end
end L2
namespace L3
open PySem PySem.Spec PyProof.Rows L2
section
variable {X : Cx} {g : G} {W : WX} {pos : Pos}
def b01 (b : Bool) : Int := if b = true then 1 else 0
def rdAddX : Z → Z → DS → QZ → Prop := fun x y ds Q => match x, y with
  | .d (.bl b), .d (.int j) => Q (.d (.int (b01 b + j))) ds
  | .d (.tup l), .d (.tup m) => l.length + m.length ≤ sizeLine ∧ Q (.d (.tup (l ++ m))) ds
  | x, y => rdAdd x y ds Q
theorem od_addX : OpD X g (binaryOp .Add) rdAddX := by
  intro pins s σ H M ds x y v u vv uu QD I R rx vx ry vy h
  unfold rdAddX at h
  split at h
  · rename_i b j
    cases (show v = V.bl b from rx)
    cases (show vv = Value.bool b from vx)
    cases (show u = V.int j from ry)
    obtain ⟨t, rfl⟩ := vy
    refine PySem.IntBool.add_bool_int ⟨.d (.int (b01 b + j)), ds, M, .int (b01 b + j), H, I.tok _, ⟨_, rfl⟩, R, .refl, rfl, h⟩
  · rename_i l m
    obtain ⟨a, xs, rfl, r1, h1⟩ := rx
    obtain ⟨b, ys, rfl, r2, h2⟩ := ry
    refine thn (op_catA pins s σ H _ _ vv uu _ I vx vy ⟨a, b, xs, ys, rfl, rfl, sqT_of h1, sqT_of h2, by rw [RepL.length r1, RepL.length r2]; exact h.1, fun z => ?_, fun z1 z2 => ?_, fun _ _ p hp => .tup R hp (r1.append r2) h.2⟩) fun _ _ z => .of z
    · have := RepL.length r1
      rw [z] at this
      obtain rfl : l = [] := List.length_eq_zero_iff.mp this.symm
      exact .same R (z := .d (.tup m)) ⟨b, ys, rfl, r2, h2⟩ h.2
    · have := RepL.length r2
      rw [z2] at this
      obtain rfl : m = [] := List.length_eq_zero_iff.mp this.symm
      rw [List.append_nil] at h
      exact .same R (z := .d (.tup l)) ⟨a, xs, rfl, r1, h1⟩ h.2
  · exact od_add pins s σ H M ds x y v u vv uu QD I R rx vx ry vy h
def rdSubX : Z → Z → DS → QZ → Prop := fun x y ds Q => match x, y with
  | .d (.bl b), .d (.int j) => Q (.d (.int (b01 b - j))) ds
  | .d (.int i), .d (.bl b) => Q (.d (.int (i - b01 b))) ds
  | x, y => rdII (fun i j => .int (i - j)) x y ds Q
theorem od_subX : OpD X g (binaryOp .Sub) rdSubX := by
  intro pins s σ H M ds x y v u vv uu QD I R rx vx ry vy h
  unfold rdSubX at h
  split at h
  · rename_i b j
    cases (show v = V.bl b from rx)
    cases (show vv = Value.bool b from vx)
    cases (show u = V.int j from ry)
    obtain ⟨t, rfl⟩ := vy
    refine PySem.IntBool.sub_bool_int ⟨.d (.int (b01 b - j)), ds, M, .int (b01 b - j), H, I.tok _, ⟨_, rfl⟩, R, .refl, rfl, h⟩
  · rename_i i b
    cases (show v = V.int i from rx)
    cases (show u = V.bl b from ry)
    cases (show uu = Value.bool b from vy)
    obtain ⟨t, rfl⟩ := vx
    refine PySem.IntBool.sub_int_bool ⟨.d (.int (i - b01 b)), ds, M, .int (i - b01 b), H, I.tok _, ⟨_, rfl⟩, R, .refl, rfl, h⟩
  · exact od_sub pins s σ H M ds x y v u vv uu QD I R rx vx ry vy h
def rdMulX : Z → Z → DS → QZ → Prop := fun x y ds Q => match x, y with
  | .d (.int i), .d (.bl b) => Q (.d (.int (i * b01 b))) ds
  | .d (.tup l), .d (.int j) => (2 ≤ j ∧ j ≤ 1000 ∧ l.length ≤ 1000) ∧ Q (.d (.tup (List.replicate j.toNat l).flatten)) ds
  | x, y => rdMulT x y ds Q
theorem od_mulX : OpD X g (binaryOp .Mult) rdMulX := by
  intro pins s σ H M ds x y v u vv uu QD I R rx vx ry vy h
  unfold rdMulX at h
  split at h
  · rename_i i b
    cases (show v = V.int i from rx)
    cases (show u = V.bl b from ry)
    cases (show uu = Value.bool b from vy)
    obtain ⟨t, rfl⟩ := vx
    refine PySem.IntBool.mul_int_bool ⟨.d (.int (i * b01 b)), ds, M, .int (i * b01 b), H, I.tok _, ⟨_, rfl⟩, R, .refl, rfl, h⟩
  · rename_i l j
    obtain ⟨⟨c2, c3, c4⟩, h⟩ := h
    cases l with
    | nil =>
      obtain ⟨a, xs, rfl, r1, h1⟩ := rx
      cases (show xs = [] from r1)
      rw [show (List.replicate j.toNat ([] : List D)).flatten = [] by simp] at h
      exact thn (op_rep0 pins s σ H _ _ vv uu _ I vx vy ⟨a, _, rfl, ry, sqT_of h1, c2, c3, .same R (z := .d (.tup [])) ⟨a, [], rfl, r1, h1⟩ h⟩) fun _ _ z => .of z
    | cons b l =>
      exact od_mulT pins s σ H M ds _ _ v u vv uu QD I R rx vx ry vy (by unfold rdMulT; exact ⟨⟨List.cons_ne_nil _ _, c2, c3, c4⟩, h⟩)
  · exact od_mulT pins s σ H M ds x y v u vv uu QD I R rx vx ry vy h
/-- str(x) of an int or a bool -/
def rdStrX : List Z → DS → QZ → Prop := fun zs ds Q => match zs with
  | [.d (.bl b)] => Q (.d (.str (if b then "True" else "False"))) ds
  | zs => rdStr1 zs ds Q
theorem cd_strX : CallD X g (.type "str") rdStrX := by
  intro pins s σ H M ds zs vs us QD I R rz rv h
  unfold rdStrX at h
  split at h
  · rename_i b
    obtain ⟨v, rfl, r1⟩ := zs1 rz
    cases (show v = V.bl b from r1)
    obtain ⟨u, rfl, e⟩ := vals1 rv
    cases (show u = Value.bool b from e)
    refine PySem.P.str_of_bool ⟨.d (.str (if b then "True" else "False")), ds, M, .str (if b then "True" else "False"), H, I.tok _, ⟨_, rfl⟩, R, .refl, rfl, h⟩
  · exact cd_str pins s σ H M ds zs vs us QD I R rz rv h
/-- slices of lists and tuples, the whole of a tuple too -/
def rdSlX (lo hi : Option Int) (x : Z) (ds : DS) (Q : QZ) : Prop := match x with
  | .d (.tup l) => Q (.d (.tup (cutD l lo hi))) ds
  | _ => rdSl lo hi x ds Q
theorem cutD_whole {l : List D} {lo hi : Option Int} (h : HT.sIx l.length 0 lo = 0 ∧ HT.sIx l.length l.length hi = l.length) : cutD l lo hi = l := by
  unfold cutD
  rw [h.1, h.2, List.drop_zero, Nat.sub_zero, List.take_of_length_le (Nat.le_refl _)]
def rSlX (K : PySem.W.Frag) (v : V) (lo hi : Option Int) (H : Hp) (Q : VK) : Prop := rSlL K v lo hi H Q ∨ rSlA K v lo hi H Q
theorem rdSlX_ok {σ : L2.St} {H : Hp} {M : List Addr} {ds : DS} {x : Z} {v : V} {lo hi : Option Int} {QD : QZ} (R : RepS X.K g M ds σ H) (rx : RepZ X.K (g.own M ds) M H x v) (q : rdSlX lo hi x ds QD) :
    rSlX X.K v lo hi H (Mid X g σ M ds H QD) := by
  unfold rdSlX at q
  split at q
  · rename_i l
    obtain ⟨p, xs, rfl, r, hq⟩ := rx
    have e := RepL.length r
    refine .inr ⟨p, xs, rfl, sqT_of hq, fun z => ?_, fun _ p hp => .tup R hp (r.cut lo hi) q⟩
    rw [e] at z
    rw [cutD_whole z] at q
    exact .same R (z := .d (.tup l)) ⟨p, xs, rfl, r, hq⟩ q
  · rename_i hx
    rcases rdSl_ok R rx q with h | ⟨p, xs, h1, h2, h4, h3⟩
    · exact .inl h
    · exact .inr ⟨p, xs, h1, h2, fun z => absurd z h4, fun _ => h3⟩
theorem rSlX_nxt {σ : L2.St} {M M1 : List Addr} {ds ds1 : DS} {H H1 : Hp} {QD : QZ} {v : V} {lo hi : Option Int} (N : Nxt g M ds H M1 ds1 H1) (h : rSlX X.K v lo hi H1 (Mid X g σ M1 ds1 H1 QD)) :
    rSlX X.K v lo hi H1 (Mid X g σ M ds H QD) := by
  rcases h with ⟨p, xs, h1, h2, h3⟩ | ⟨p, xs, h1, h2, h4, h3⟩
  · exact .inl ⟨p, xs, h1, h2, fun p hp => (h3 p hp).nxt N⟩
  · exact .inr ⟨p, xs, h1, h2, fun z => (h4 z).nxt N, fun z p hp => (h3 z p hp).nxt N⟩
def dSl1X (t : TD) (th : TD) : TD := fun ds Q E => t ds (fun x ds1 => th ds1 (fun z ds2 => kInt (fun i => rdSlX none (some i) x ds2 Q) z) E) E
def dSl2X (t : TD) (tl : TD) : TD := fun ds Q E => t ds (fun x ds1 => tl ds1 (fun z ds2 => kInt (fun i => rdSlX (some i) none x ds2 Q) z) E) E
variable {a lo hi : Expr} {ta tl th : TD} {p2 : Pos}
theorem px_sl1X (ha : PX X g W a ta) (hh : PX X g W hi th) : PX X g W (.Subscript a (.Slice none (some hi) none p2) pos) (dSl1X ta th) := by
  refine .of (pe_slice (sl_list.or sl_tupA) ha.pe po_none (po_some hh.pe)) fun σ H M ds QD ED R ht he => ?_
  refine lift_in R ht he fun x ds1 M1 v H1 R1 N1 rx q1 => lift_in R1 q1 (he.nxt N1) fun y ds2 M2 u H2 R2 N2 ry q2 => ?_
  obtain ⟨i, rfl, rfl, q3⟩ := intD ry q2
  exact ⟨i, rfl, rSlX_nxt (N1.trans N2) (rdSlX_ok R2 (rx.mv N2.mv N2.pre) q3)⟩
theorem px_sl2X (ha : PX X g W a ta) (hl : PX X g W lo tl) : PX X g W (.Subscript a (.Slice (some lo) none none p2) pos) (dSl2X ta tl) := by
  refine .of (pe_slice (sl_list.or sl_tupA) ha.pe (po_some hl.pe) po_none) fun σ H M ds QD ED R ht he => ?_
  refine lift_in R ht he fun x ds1 M1 v H1 R1 N1 rx q1 => lift_in R1 q1 (he.nxt N1) fun y ds2 M2 u H2 R2 N2 ry q2 => ?_
  obtain ⟨i, rfl, rfl, q3⟩ := intD ry q2
  exact ⟨i, rfl, rSlX_nxt (N1.trans N2) (rdSlX_ok R2 (rx.mv N2.mv N2.pre) q3)⟩
/-- x[::-1] of a list or a tuple -/
def rdRevX (z : Z) (ds : DS) (Q : QZ) : Prop := match z with
  | .d (.tup l) => Q (.d (.tup l.reverse)) ds
  | z => rdRev z ds Q
def dRevX (t : TD) : TD := fun ds Q E => t ds (fun z ds1 => rdRevX z ds1 Q) E
theorem px_slrevX {o : Expr} {to : TD} {k : Nat} {p1 p2 p3 : Pos} (h : PX X g W o to) : PX X g W (.Subscript o (.Slice none none (some (.UnaryOp .USub (.Constant (.int 1) k p1) p2)) p3) pos) (dRevX to) := by
  refine .of (pe_revX h.pe) fun σ H M ds QD ED R ht he => ?_
  refine lift_in R ht he fun z ds1 M1 v H1 R1 N1 rz q => ?_
  unfold rdRevX at q
  split at q
  · rename_i l
    obtain ⟨a, xs, rfl, r, hq⟩ := rz
    exact .inr ⟨a, xs, rfl, sqT_of hq, fun p hp => (Mid.tup R1 hp (RepL.reverse r) q).nxt N1⟩
  · unfold rdRev at q
    split at q
    · rename_i l el
      obtain ⟨a, xs, rfl, r, hq⟩ := itemsL_rep R1 rz el
      exact .inl ⟨a, xs, rfl, hq, fun p hp => (Mid.lst R1 hp (RepL.reverse r) q).nxt N1⟩
    · exact q.elim
end
end L3

set_option Elab.async false
set_option linter.all false
set_option maxRecDepth 100000
set_option maxHeartbeats 4000000
namespace L3
open PySem PySem.Spec PyProof.Rows L2
section
variable {X : Cx} {g : G} {W : WX} {pos : Pos} {o e : Expr} {to te : TD}
theorem RepL.eraseAt {K : PySem.W.Frag} {own : Addr → Prop} {H : Hp} : ∀ {l : List D} {xs : List V} (k : Nat), RepL K own H l xs → RepL K own H (l.eraseIdx k) (xs.eraseIdx k)
  | [], xs, k, h => by cases h; exact rfl
  | d :: l, xs, 0, h => by
    obtain ⟨v, r, rfl, h1, h2⟩ := h
    exact h2
  | d :: l, xs, k + 1, h => by
    obtain ⟨v, r, rfl, h1, h2⟩ := h
    exact ⟨v, r.eraseIdx k, rfl, h1, RepL.eraseAt k h2⟩
theorem RepL.at_ {K : PySem.W.Frag} {own : Addr → Prop} {H : Hp} : ∀ {l : List D} {xs : List V} {k : Nat} {d : D}, RepL K own H l xs → l[k]? = some d → ∃ v, xs[k]? = some v ∧ RepD K own H d v
  | [], xs, k, d, h, e => by cases e
  | a :: l, xs, 0, d, h, e => by
    obtain ⟨v, r, rfl, h1, h2⟩ := h
    cases e
    exact ⟨v, rfl, h1⟩
  | a :: l, xs, k + 1, d, h, e => by
    obtain ⟨v, r, rfl, h1, h2⟩ := h
    exact RepL.at_ (k := k) h2 e
def rdPopAt (z y : Z) (ds : DS) (Q : QZ) : Prop := match z, y with
  | .m n, .d (.int i) => match ds.w[n]? with
    | some (some (.lst l)) => ∃ k d, i = ((k : Nat) : Int) ∧ l.length < 2 ^ 40 ∧ l[k]? = some d ∧ Q (.d d) (ds.put n (.lst (l.eraseIdx k)))
    | _ => False
  | _, _ => False
def dPopAt (to te : TD) : TD := fun ds Q E => to ds (fun z ds1 => rdIsL z ds1 ∧ te ds1 (fun y ds2 => rdPopAt z y ds2 Q) E) E
theorem px_popAt {apos : Pos} (ho : PX X g W o to) (hv : PX X g W e te) (hbase : attributeBase o "pop" X.env (eval o X.env) = eval o X.env := by rfl) (hline : (apos.endLine == pos.line) = true := by rfl) (hs : starEach [e] X.env = (false, eval e X.env) :: starEach [] X.env := by rfl)
    (hfew : ((backTo pos (starEach [e] X.env)).all (fun x => !x.1) && (backToKw pos (keywordEach [] X.env)).all (fun x => x.1.isSome) && decide ([e].length + ([] : List Keyword).length + (if ([] : List Keyword).isEmpty then 0 else 1) < 30)) = true := by rfl)
    (hpl : (backTo pos (starEach [] X.env)).any (·.1) = false := by rfl) :
    PX X g W (.Call (.Attribute o "pop" apos) [e] [] pos) (dPopAt to te) := by
  refine .of (pe_bm PySem.F.plainAttrs_list PySem.F.slot_list_pop PySem.F.type_list_pop mt_popAt ho.pe (pa_cons hv.pe pa_nil hs) hbase hfew hline hs hpl) fun σ H M ds QD ED R ht he => ?_
  refine lift_in R ht he fun z ds1 M1 v H1 R1 N1 rz q => ?_
  refine ⟨isL_rep R1 rz q.1, ?_⟩
  refine lift_in R1 q.2 (he.nxt N1) fun y ds2 M2 u H2 R2 N2 ry q2 => ?_
  have rz := rz.mv N2.mv N2.pre
  unfold rdPopAt at q2
  split at q2
  · rename_i n i rz0
    split at q2
    · rename_i l hw
      obtain ⟨k, d, rfl, hz, hd, q2⟩ := q2
      cases (show u = V.int (k : Int) from ry)
      obtain ⟨a, ha, rfl⟩ := rz
      obtain ⟨xs, r, hH⟩ := R2.obj _ _ _ hw ha
      obtain ⟨v, hv1, hv2⟩ := RepL.at_ r hd
      have hk : k < l.length := (List.getElem?_eq_some_iff.mp hd).1
      have hx : xs.length = l.length := RepL.length r
      refine ⟨a, xs, (k : Int), k, v, rfl, rfl, hH, by omega, by omega, ?_, hv1, ?_⟩
      · unfold seqIndex?
        rw [if_neg (by omega : ¬ (k : Int) < 0)]
        have : (decide (0 ≤ (k : Int)) && decide ((k : Int) < (xs.length : Int))) = true := by
          rw [decide_eq_true (by omega), decide_eq_true (by omega)]; rfl
        simp only [this, if_true, Int.toNat_natCast]
      obtain ⟨R3, N3⟩ := R2.put (c := .lst (l.eraseIdx k)) (o := .lst (xs.eraseIdx k)) hw ha (fun _ z => nomatch z) (fun _ z => nomatch z) fun own' m => ⟨xs.eraseIdx k, RepL.eraseAt k (RepL.mv m _ _ r), upd_same⟩
      exact ⟨.d d, _, M2, R3, (N1.trans N2).trans N3, hv2.mv N3.mv, q2⟩
    · exact q2.elim
  · exact q2.elim
end
end L3
namespace L2
open PySem PySem.Spec PyProof.Rows HT
section
variable {prog : Program} {w : World} {A : Around} {E : Value → Shared → Prop} {s : Shared} {l : Addr} {xs : Array (Int × Tok)}
theorem old_keptT {h' : Heap} (hk : ∀ b o, b ∉ [s.heap.objs.size] → (s.heap.push { cls := .type "tuple_iterator", data := .fields #[.ref l, .int 0 0] }).get? b = some o → h'.get? b = some o) :
    ∀ b o, s.heap.get? b = some o → h'.get? b = some o := fun b o e => by
  refine hk b o (fun hm => ?_) (Heap.get?_push_of_some _ e)
  rcases List.mem_cons.mp hm with e1 | hm
  · exact absurd (e1 ▸ Heap.lt_size e) (Nat.lt_irrefl _)
  · cases hm
theorem min_intTup {Q : Value → Shared → Prop} (hh : A.handled = none) (hl : s.heap.IsTuple l (intItems xs)) (hne : 0 < xs.size)
    (h : ∀ v h' tk, (intItems xs)[argBest (fun i j => decide (numAt xs i < numAt xs j)) (xs.size - 1)]? = some v → (∀ b o, s.heap.get? b = some o → h'.get? b = some o) → Q v { s with heap := h', toks := tk }) :
    wpAny (model prog w) A (call (.builtin "min") [.ref l]) Q E s := by
  have hlt : l < s.heap.objs.size := by obtain ⟨_, e, _⟩ := hl; exact Heap.lt_size e
  refine call_min_walk (wpAny_pyIter_tuple hl ?_)
  refine ⟨_, _, _, _, _, _, _, rfl, Walks.tuple (A := A.in1) hh _ l (Nat.ne_of_lt hlt) (intItems xs), ⟨⟨_, Heap.get?_push_size _ rfl, rfl, rfl⟩, hl.push _⟩, fun b hb => ?_, by simpa [intItems] using hne, CmpOf.ints_lt (numAt xs) (fun _ _ => intItems_at), fun v h' tk hP hk => ?_⟩
  · show b < (s.heap.push _).objs.size
    rw [Heap.size_push]
    rcases List.mem_cons.mp hb with rfl | hb
    · exact Nat.lt_succ_self _
    · rcases List.mem_cons.mp hb with rfl | hb
      · exact Nat.lt_succ_of_lt hlt
      · cases hb
  · exact h v h' tk (by simpa [intItems] using hP) (old_keptT hk)
theorem min_rawT {its : List Value} {ns : List Int} {Q : Value → Shared → Prop} (hh : A.handled = none) (hl : s.heap.IsTuple l its.toArray) (hi : IntsAre its ns) (hne : 0 < ns.length)
    (h : ∀ h' tk M t', (∀ b o, s.heap.get? b = some o → h'.get? b = some o) → M ∈ ns → (∀ a, a ∈ ns → M ≤ a) → Q (.int M t') { s with heap := h', toks := tk }) : wpAny (model prog w) A (call (.builtin "min") [.ref l]) Q E s := by
  obtain ⟨xs, e⟩ := hi.allInts.items
  have hn : numsOf (intItems xs).toList = ns := by rw [← e]; exact hi.numsOf
  rw [nums_intItems] at hn
  subst hn
  rw [e] at hl
  have hsz : 0 < xs.size := by simpa using hne
  refine min_intTup hh hl hsz fun v h' tk hv hk => ?_
  obtain ⟨t, rfl⟩ := intItems_at hv
  obtain ⟨h1, h2⟩ := argBest_lt (numAt xs) (xs.size - 1)
  refine h h' tk _ t hk ?_ fun a ha => ?_
  · rw [numAt_eq]; exact PySem.getD_mem (by rw [List.length_map, Array.length_toList]; omega)
  · obtain ⟨j, hj, rfl⟩ := mem_getD ha
    rw [List.length_map, Array.length_toList] at hj
    rw [← numAt_eq]; exact h2 j (by omega)
end
section
variable {X : Cx}
def rMinT (K : PySem.W.Frag) : List V → Hp → VK → Prop := fun vs H Q => ∃ (a : Addr) (ns : List Int), vs = [V.ref a] ∧ SqT K H a (ns.map V.int) ∧ 0 < ns.length ∧ ∀ m, m ∈ ns → (∀ y, y ∈ ns → m ≤ y) → Q (.int m) H
theorem cr_minT (hc : X.calm = true) : CallR X (.builtin "min") (rMinT X.K) := by
  intro pins s σ H vs us Q I r h
  obtain ⟨a, ns, rfl, hs, hne, q⟩ := h
  obtain ⟨its, rv, hl, _⟩ := I.tuple hs
  rw [Vals.ref1 r]
  obtain ⟨o, e1, e2, n, e3⟩ := hl
  exact min_rawT (I.ok.hd hc) ⟨o, e1, e2, n, e3⟩ rv.ints hne fun h' tk m t' hk h1 h2 => ⟨.int _, H, I.kept hk, ⟨_, rfl⟩, q m h1 h2⟩
end
end L2
namespace L3
open PySem PySem.Spec PyProof.Rows L2
section
variable {X : Cx} {g : G}
/-- min(xs) of a list or tuple of ints -/
def rdMinX : List Z → DS → QZ → Prop := fun zs ds Q => match zs with
  | [.d (.tup l)] => ∃ ns : List Int, l = ns.map D.int ∧ 0 < ns.length ∧ ∀ m, m ∈ ns → (∀ y, y ∈ ns → m ≤ y) → Q (.d (.int m)) ds
  | zs => rdMinL zs ds Q
theorem cd_minX (hc : X.calm = true) : CallD X g (.builtin "min") rdMinX := by
  intro pins s σ H M ds zs vs us QD I R rz rv h
  unfold rdMinX at h
  split at h
  · rename_i l
    obtain ⟨v, rfl, r1⟩ := zs1 rz
    obtain ⟨p, xs, rfl, r, hq⟩ := r1
    obtain ⟨ns, rfl, h0, q⟩ := h
    obtain rfl := r.ints
    exact thn (cr_minT hc pins s σ H _ us _ I rv ⟨p, ns, rfl, sqT_of hq, h0, fun m hm ha => .same R (z := .d (.int _)) rfl (q m hm ha)⟩) fun _ _ z => .of z
  · exact cd_minL hc pins s σ H M ds zs vs us QD I R rz rv h
end
end L3

set_option Elab.async false
set_option linter.all false
set_option maxRecDepth 100000
set_option maxHeartbeats 4000000
namespace L3
open PySem PySem.Spec PyProof.Rows L2
/-- it begins with a number -/
def headI : List D → Bool
  | .int _ :: _ => true
  | _ => false
def fresh1 : D → Bool
  | .lst l => !headI l && solids l
  | x => x.solid
def fresh2 : D → Prop
  | .lst m => headI m = true ∧ solids m = true
  | x => x.solid = true
section
variable {K : PySem.W.Frag} {g : G} {M : List Addr} {ds : DS} {σ : L2.St} {H H' : Hp}
/-- all lists but those handed in are seen as the caller's own -/
def owF (own : Addr → Prop) (H : Hp) (l : List D) (vs : List V) (b : Addr) : Prop :=
  own b ∨ ((∃ xs, H b = some (.lst xs)) ∧ ∀ (i : Nat) (l' : List D), l[i]? = some (.lst l') → vs[i]? ≠ some (.ref b))
theorem rd_notl {a : Addr} {xs ys : List V} (h : Rd H a (.tup xs)) : H a ≠ some (.lst ys) := fun z => by
  rcases h with h | ⟨o, h⟩ <;> rw [z] at h <;> cases h
mutual
theorem RepD.solF {own ow2 : Addr → Prop} (ho : ∀ b, ow2 b → own b ∨ ∃ xs, H b = some (.lst xs)) : ∀ (d : D) (v : V), d.solid = true → RepD K own H d v → RepD K ow2 H d v
  | .non, v, _, h => h
  | .bl b, v, _, h => h
  | .int i, v, _, h => h
  | .str s, v, _, h => h
  | .tup l, v, s, h => by
    obtain ⟨a, xs, e, r, q⟩ := h
    refine ⟨a, xs, e, RepL.solF ho l xs s r, ?_⟩
    rcases q with ⟨n, q⟩ | q
    · refine .inl ⟨fun z => ?_, q⟩
      rcases ho a z with z | ⟨ys, z⟩
      · exact n z
      · exact rd_notl q z
    · exact .inr q
  | .ref a, v, s, h => h
  | .ty n, v, s, h => h
  | .lst l, v, s, h => by cases s
  | .lsf l, v, s, h => by cases s
  | .dic ks l, v, s, h => by cases s
  | .ins C ns l, v, s, h => by cases s
  | .exn _ _ _ _ _, v, s, h => by cases s
  | .exo _ _ _ _ _, v, s, h => by cases s
  | .cod _ _, v, s, h => by cases s
theorem RepL.solF {own ow2 : Addr → Prop} (ho : ∀ b, ow2 b → own b ∨ ∃ xs, H b = some (.lst xs)) : ∀ (l : List D) (xs : List V), solids l = true → RepL K own H l xs → RepL K ow2 H l xs
  | [], xs, _, h => h
  | d :: l, xs, s, h => by
    obtain ⟨v, r, e, h1, h2⟩ := h
    have s : (d.solid && solids l) = true := s
    rw [Bool.and_eq_true] at s
    exact ⟨v, r, e, RepD.solF ho d v s.1 h1, RepL.solF ho l r s.2 h2⟩
end
theorem fresh_args {own : Addr → Prop} {l0 : List D} {vs0 : List V} : ∀ {l : List D} {vs : List V} (k : Nat), (∀ i x, l[i]? = some x → l0[k + i]? = some x) → (∀ i v, vs[i]? = some v → vs0[k + i]? = some v) → l.all fresh1 = true → RepL K own H l vs → RepL K (owF own H l0 vs0) H l vs
  | [], vs, k, _, _, _, h => h
  | d :: l, vs, k, hl, hv, hf, h => by
    obtain ⟨v, r, rfl, h1, h2⟩ := h
    have hf : (fresh1 d && l.all fresh1) = true := hf
    rw [Bool.and_eq_true] at hf
    have ho : ∀ b, owF own H l0 vs0 b → own b ∨ ∃ xs, H b = some (.lst xs) := fun b h => h.imp id fun h => h.1
    refine ⟨v, r, rfl, ?_, fresh_args (k + 1) (fun i x e => by rw [show k + 1 + i = k + (i + 1) by omega]; exact hl (i + 1) x e) (fun i x e => by rw [show k + 1 + i = k + (i + 1) by omega]; exact hv (i + 1) x e) hf.2 h2⟩
    by_cases hd : ∃ l', d = .lst l'
    · obtain ⟨l', rfl⟩ := hd
      obtain ⟨a, xs, rfl, r1, n1, e1⟩ := h1
      have hs : (!headI l' && solids l') = true := hf.1
      rw [Bool.and_eq_true] at hs
      refine ⟨a, xs, rfl, RepL.solF ho _ _ hs.2 r1, fun z => ?_, e1⟩
      rcases z with z | ⟨_, z⟩
      · exact n1 z
      · exact z k l' (by have := hl 0 _ rfl; rwa [Nat.add_zero] at this) (by have := hv 0 _ rfl; rwa [Nat.add_zero] at this)
    · refine RepD.solF ho d v ?_ h1
      have h := hf.1
      cases d <;> first | exact h | exact absurd ⟨_, rfl⟩ hd
theorem headI_rep {own : Addr → Prop} {l : List D} {xs : List V} (r : RepL K own H l xs) (h : headI l = true) : ∃ i ys, xs = .int i :: ys := by
  cases l with
  | nil => cases h
  | cons d l =>
    cases d <;> first | cases h; done | skip
    obtain ⟨v, ys, e, h1, _⟩ := r
    have h1 : v = .int _ := h1
    subst h1
    exact ⟨_, ys, e⟩
theorem int_rep {own : Addr → Prop} {d : D} {i : Int} (h : RepD K own H d (.int i)) : ∃ j, d = .int j := by
  cases d with
  | int j => exact ⟨j, rfl⟩
  | non => exact absurd (show V.int i = V.non from h) (by simp)
  | bl b => exact absurd (show V.int i = V.bl b from h) (by simp)
  | str s => exact absurd (show V.int i = V.str s from h) (by simp)
  | ref a => exact absurd (show V.int i = V.ref a from h) (by simp)
  | ty n => exact absurd (show V.int i = V.ty n from h) (by simp)
  | tup l => obtain ⟨_, _, e, _⟩ := h; exact absurd e (by simp)
  | lst l => obtain ⟨_, _, e, _⟩ := h; exact absurd e (by simp)
  | lsf l => obtain ⟨_, _, e, _⟩ := h; exact absurd e (by simp)
  | dic ks l => obtain ⟨_, _, e, _⟩ := h; exact absurd e (by simp)
  | ins C ns l => obtain ⟨_, _, _, e, _⟩ := h; exact absurd e (by simp)
  | exn C a d fs l => exact absurd h.1 (by simp)
  | exo C a d fs l => exact absurd h.1 (by simp)
  | cod q c => exact absurd h.1 (by simp)
theorem rep_headI {own : Addr → Prop} {l : List D} {i : Int} {ys : List V} (r : RepL K own H l (.int i :: ys)) : headI l = true := by
  cases l with
  | nil => exact absurd (show V.int i :: ys = [] from r) (by simp)
  | cons d l =>
    obtain ⟨v, r, e, h1, _⟩ := r
    have e : V.int i = v := (List.cons.inj e).1
    subst e
    obtain ⟨j, rfl⟩ := int_rep h1
    rfl
/-- what is handed back is new -/
theorem fresh_new {own : Addr → Prop} {l m : List D} {vs : List V} {v : V} (hl : l.all fresh1 = true) (ra : RepL K own H l vs) (f : Fr0 H H') (hm : headI m = true) (hs : solids m = true) (r : RepD K (owF own H l vs) H' (.lst m) v) :
    ∃ a xs, v = .ref a ∧ H a = none ∧ H' a = some (.lst xs) ∧ RepL K (owF own H l vs) H' m xs := by
  obtain ⟨a, xs, rfl, r1, n1, e1⟩ := r
  refine ⟨a, xs, rfl, ?_, e1, r1⟩
  obtain ⟨i, ys, rfl⟩ := headI_rep r1 hm
  cases e : H a with
  | none => rfl
  | some o =>
    exfalso
    have ho : o = .lst (.int i :: ys) := by
      by_cases ht : ∃ ps, o = .tbl ps
      · obtain ⟨ps, rfl⟩ := ht
        obtain ⟨qs, z⟩ := f.2 a ps e
        rw [e1] at z; cases z
      · have z := f.1 a o e fun ps h => ht ⟨ps, h⟩
        rw [e1] at z
        exact (Option.some.inj z).symm
    subst ho
    have hex : ∃ (j : Nat) (l' : List D), l[j]? = some (.lst l') ∧ vs[j]? = some (.ref a) := by
      refine Classical.byContradiction fun z => n1 (.inr ⟨⟨_, e⟩, fun j l' h1 h2 => z ⟨j, l', h1, h2⟩⟩)
    obtain ⟨j, l', h1, h2⟩ := hex
    obtain ⟨v, h3, h4⟩ := ra.get h1
    rw [h2] at h3
    cases h3
    obtain ⟨b, zs, eb, r2, _, e2⟩ := h4
    cases eb
    rw [e] at e2
    cases e2
    have h5 := rep_headI r2
    have h6 := List.all_eq_true.mp hl _ (List.mem_of_getElem? h1)
    have h6 : (!headI l' && solids l') = true := h6
    rw [h5] at h6
    cases h6
end
section
variable {X : Cx} {g : G} {W : WX} {gd : Bool} {k n : Nat} {f : Addr} {fd : FuncData} {ps : List Str} {T : List (Addr × Str)} {S : SA} {x : Str} {p pos apos : Pos} {e : Expr} {es : List Expr} {t : TLi}
def kF (S : SA) (Q : QZ) (E : QE) : List Z → DS → Prop := fun zs ds => match unD zs with
  | some l => l.all fresh1 = true ∧ S l (fun y => fresh2 y ∧ match y with
    | .lst m => Q (.m ds.w.length) (ds.more (.lst m))
    | y => Q (.d y) ds) (fun y => solids y.vals = true ∧ E y ds)
  | none => False
def dCallF (S : SA) (t : TLi) : TD := fun ds Q E => t ds (kF S Q E) E
theorem px_ownF (Go : OwnF gd X.prog X.w X.K X.mg X.base x k f fd ps (spA X.K T S)) (hb : Binds X.K fd ps []) (hT : g.T = T) (hr : RoomG gd k X.A) (tk : Takes X W) (ha : PXA X g W (e :: es) t) (hg : Gl X x := by rfl) (hdb : (x == ("__debug__" : Str)) = false := by decide)
    (he : starEach (e :: es) X.env = (false, eval e X.env) :: starEach es X.env := by rfl) (hpl : (backTo pos (starEach es X.env)).any (·.1) = false := by rfl) : PX X g W (.Call (.Name x p) (e :: es) [] pos) (dCallF S t) := by
  subst hT
  refine ⟨fun pins s σ H M ds QD ED I R ht hE => ?_⟩
  refine wpAny_Call_Name_kw (ld_glob I hg Go.g ?_ hdb)
  refine PySem.W.callWith_K (h₀ := X.base) I.ok.mod.kin Go.kp (thn (ha.run pos pins s σ H M ds _ ED I R ht hE) fun us s1 ⟨zs, ds1, M1, vs, H1, I1, r1, R1, N1, rz, q1⟩ => ⟨I1.kIn, ?_⟩) he hpl
  unfold kF at q1
  split at q1
  · rename_i l el
    obtain rfl := unD_of el
    obtain ⟨hl, q1⟩ := q1
    have hE1 := hE.nxt N1
    have rl := rz.toD
    have rF := fresh_args (l0 := l) (vs0 := vs) 0 (fun i x e => by rw [Nat.zero_add]; exact e) (fun i x e => by rw [Nat.zero_add]; exact e) hl rl
    have sub : ∀ {H' : Hp}, Mv (owF (g.own M1 ds1) H1 l vs) (g.own M1 ds1) H' H' := fun {H'} => ⟨fun _ _ h _ _ => h, fun _ ps h => ⟨ps, h⟩, fun b h => .inl (.inl h)⟩
    have oo : OutOk (owF (g.own M1 ds1) H1 l vs) H1 := fun a h => by
      rcases h with h | ⟨⟨xs, h⟩, _⟩
      · exact R1.outOk a h
      · exact ⟨_, h, (fun ps z => by cases z), fun φ z => by cases z⟩
    have sp : spA X.K g.T S vs H1 (Mid X g σ M1 ds1 H1 QD) (fun cls d H' => W cls d σ H') := ⟨owF (g.own M1 ds1) H1 l vs, l, _, _, oo, rF, R1.tabs, q1, fun y v H' q f rv t => by
        obtain ⟨q0, q⟩ := q
        by_cases hy : ∃ m, y = .lst m
        · obtain ⟨m, rfl⟩ := hy
          obtain ⟨a, xs, rfl, hn, e1, r2⟩ := fresh_new hl rl f q0.1 q0.2 rv
          obtain ⟨R2, N2⟩ := R1.moreH (c := .lst m) hn f t fun own' ho' => ⟨xs, RepL.solF (own := owF (g.own M1 ds1) H1 l vs) (fun b hb => (ho' b hb).elim (fun h => .inl (.inl h)) fun h => .inr ⟨xs, by rw [h]; exact e1⟩) m xs q0.2 r2, e1⟩
          exact ⟨.m ds1.w.length, _, _, R2, N2, ⟨a, by rw [← R1.mlen, List.getElem?_append_right (Nat.le_refl _), Nat.sub_self]; rfl, rfl⟩, q⟩
        · obtain ⟨R', N⟩ := R1.fr0 f t
          refine ⟨.d y, ds1, M1, R', N, RepD.mv sub _ _ rv, ?_⟩
          cases y <;> first | exact q | exact absurd ⟨_, rfl⟩ hy, fun y cls d H' q f re t => by
        obtain ⟨R', N⟩ := R1.fr0 f t
        exact hE1 y ds1 M1 H' cls d q.2 R' N ⟨re.1, fun a => RepD.mv sub _ _ (re.2 a)⟩⟩
    have hl : (us ++ []).length = ps.length := by rw [List.append_nil, ← r1.length]; exact Go.ok.len _ _ _ _ sp
    have b1 := hb s1 us I1.kIn hl
    rw [List.append_nil] at b1
    exact thn (run_fnX Go.ok hr tk I1 b1 r1 sp) fun _ _ h => (EPD.of h).nxt N1
  · exact q1.elim
end
end L3

set_option Elab.async false
set_option linter.all false
set_option maxRecDepth 100000
set_option maxHeartbeats 4000000
namespace L3
open PySem PySem.Spec PyProof.Rows L2 LamX
/-- a result: data, or a new thing -/
abbrev SM := List D → (D → Prop) → (MC → Prop) → (EX → Prop) → Prop
abbrev SLM := SM → Addr → SM
def toZ (QD : D → Prop) (QM : MC → Prop) : QZ := fun z ds => match z with
  | .d y => QD y
  | .m n => match ds.w[n]? with
    | some (some c) => c.closed ∧ QM c
    | _ => False
def enM (QD : D → Prop) (QM : MC → Prop) (ED : EX → Prop) : DE := { nx := fun _ => QD .non, rt := toZ QD QM, er := fun x _ => ED x }
def lamSM (tb : TD) (s : List (Option Z)) : SM := fun args QD QM E => tb ⟨(args.map fun d => some (Z.d d)) ++ frzS s, []⟩ (toZ QD QM) (fun x _ => E x)
def dActM (i : Nat) (f : Addr) (n : Nat) (S : SM) (t : TLi) : TD := fun ds Q E => ds.s[i]? = some (some (.d (.ref f))) ∧ t ds (fun zs ds1 => match unD zs with
  | some l => l.length = n ∧ S l (fun y => Q (.d y) ds1) (fun c => Q (.m ds1.w.length) (ds1.more c)) (fun x => E x ds1)
  | none => False) E
/-- in the def that got it: its calls -/
structure ActOkM (Zc : Cx) (g : G) (i : Nat) (a : Str) (n : Nat) (f : Addr) (S : SM) : Prop where
  act0 : n = 0 → ∀ (W : WX) (pn : List (Addr × Obj)) (xe : Value → Shared → Prop) (p1 p2 : Pos), Takes (Zc.tr pn xe) W → PX (Zc.tr pn xe) g W (.Call (.Name a p1) [] [] p2) (dActM i f n S dNil)
section
variable {X : Cx} {g : G} {W : WX} {pins : List (Addr × Obj)} {σ : L2.St} {H : Hp} {M : List Addr} {ds : DS} {s : Shared}
theorem act_okM {ps : List Str} {scope : Scope} {f c' : Addr} {pm ctv : Value} {params : Arguments} {body : Expr} {k : Nat} {tb : TD} {Ng : List Str} {qg : Str} {sg : Scope} {gf : Addr} {cdg : Value} {Eg : XK} {gZ : G} {i : Nat} {a : Str}
    (I : L2.Inv X pins σ H s) (R : RepS X.K g M ds σ H) (L : LamP X.env.scope scope ps X.N)
    (hf : s.heap.get? f = some (PySem.W.kla_obj "<lambda>" (X.env.qual ++ "<lambda>") params body scope (cloFrom X.env.cells scope.names []) pm c' ctv)) (hfn : H f = none) (hfr : f ∉ frs X.stack)
    (hbind : ∀ us : List Value, us.length = ps.length → bindArgs (PySem.W.kla_fn "<lambda>" (X.env.qual ++ "<lambda>") params body scope (cloFrom X.env.cells scope.names []) pm (.ref c') ctv) ⟨us, []⟩ = pure (ps.zip us))
    (hr : Room (k + 1) (X.A.deeper (envOfC qg sg s.heap.objs.size gf cdg))) (hbody : LamBody X ps scope body gZ.T k tb)
    (hg1 : ∀ p ∈ ghs ds.s σ, p ∈ gZ.gh) (hg2 : (D.cod (X.env.qual ++ "<lambda>") c', V.ref c') ∈ gZ.gh) (hN : Ng[i]? = some a) (hv : Vis sg a) (hd : (a == ("__debug__" : Str)) = false) (hcd : (a == ("__classdict__" : Str)) = false) :
    ActOkM (cxOf (L2.CX X.prog X.w) X.prog X.w X.K X.mg X.base Ng qg sg gf cdg X.A X.stack s H Eg) gZ i a ps.length f (lamSM tb ds.s) := by
  have key : ∀ (W : WX) (pn : List (Addr × Obj)) (xe : Value → Shared → Prop), Takes ((cxOf (L2.CX X.prog X.w) X.prog X.w X.K X.mg X.base Ng qg sg gf cdg X.A X.stack s H Eg).tr pn xe) W →
      ∀ (pinsZ : List (Addr × Obj)) (s1 : Shared) (σZ : L2.St) (H1 : Hp) (M1 : List Addr) (ds1 : DS) (l : List D) (vs : List V) (us : List Value) (QD : QZ) (ED : QE),
      L2.Inv ((cxOf (L2.CX X.prog X.w) X.prog X.w X.K X.mg X.base Ng qg sg gf cdg X.A X.stack s H Eg).tr pn xe) pinsZ σZ H1 s1 → RepS X.K gZ M1 ds1 σZ H1 → RepL X.K (gZ.own M1 ds1) H1 l vs → Vals vs us → l.length = ps.length →
      lamSM tb ds.s l (fun y => QD (.d y) ds1) (fun c => QD (.m ds1.w.length) (ds1.more c)) (fun x => ED x ds1) → EW ((cxOf (L2.CX X.prog X.w) X.prog X.w X.K X.mg X.base Ng qg sg gf cdg X.A X.stack s H Eg).tr pn xe) gZ W σZ M1 ds1 H1 ED →
      wpAny (model X.prog X.w) (X.A.deeper (envOfC qg sg s.heap.objs.size gf cdg)) (call (.ref f) us) (EPD ((cxOf (L2.CX X.prog X.w) X.prog X.w X.K X.mg X.base Ng qg sg gf cdg X.A X.stack s H Eg).tr pn xe) gZ pinsZ σZ M1 ds1 H1 QD) xe s1 := by
    intro W pn xe tk pinsZ s1 σZ H1 M1 ds1 l vs us QD ED I1 R1 rl rv hlen ht hE
    have un : Un (frs X.stack) [] H H1 s.heap s1.heap := I1.base
    have of1 := un.keep f _ hf hfn hfr (by simp)
    have hcode : H1 c' = some (CodeO c' (X.env.qual ++ "<lambda>")) := (R1.gh _ hg2).2.2
    have hlu : us.length = ps.length := by rw [← rv.length, RepL.length rl, hlen]
    let gL : G := ⟨gZ.own M1 ds1, gZ.T, []⟩
    have RL : RepS X.K gL [] ⟨(l.map fun d => some (Z.d d)) ++ frzS ds.s, []⟩ (vs.map some ++ σ) H1 := by
      have ow : gL.own [] ⟨(l.map fun d => some (Z.d d)) ++ frzS ds.s, []⟩ = gZ.own M1 ds1 := own_nil
      refine { len := ?_, slot := fun j z h => ?_, mlen := rfl, nd := .nil, apart := fun a h => (nomatch h), obj := fun n c a h => by simp at h, tabs := R1.tabs, gh := fun p hp => (nomatch hp), out := R1.outOk, ex := fun a h => (nomatch h) }
      · show (vs.map some ++ σ).length = ((l.map fun d => some (Z.d d)) ++ frzS ds.s).length
        unfold frzS
        rw [List.length_append, List.length_append, List.length_map, List.length_map, List.length_map, RepL.length rl, R.len]
      · rw [ow]
        have h' : ((l.map fun d => some (Z.d d)) ++ frzS ds.s)[j]? = some (some z) := h
        by_cases hj : j < l.length
        · rw [List.getElem?_append_left (by rw [List.length_map]; exact hj), List.getElem?_map] at h'
          cases e : l[j]? with
          | none => rw [e] at h'; cases h'
          | some d =>
            rw [e] at h'
            cases h'
            obtain ⟨v, hv, rd⟩ := rl.get e
            exact ⟨v, by rw [List.getElem?_append_left (by rw [List.length_map, RepL.length rl]; exact hj), List.getElem?_map, hv]; rfl, rd⟩
        · rw [List.getElem?_append_right (by rw [List.length_map]; omega), List.length_map] at h'
          unfold frzS at h'
          rw [List.getElem?_map] at h'
          cases e : ds.s[j - l.length]? with
          | none => rw [e] at h'; cases h'
          | some oz =>
            rw [e] at h'
            have h2 : frzO oz = some z := Option.some.inj h'
            cases oz with
            | none => cases h2
            | some y =>
              cases y with
              | m n => cases h2
              | d x =>
                cases h2
                obtain ⟨v, hv, _⟩ := R.slot _ _ e
                exact ⟨v, by rw [List.getElem?_append_right (by rw [List.length_map, RepL.length rl]; omega), List.length_map, RepL.length rl]; exact hv, R1.gh _ (hg1 _ (ghs_mem e hv))⟩
    refine wpAny_call (codeAny_mono (lam_runP (k := k) (E := fun cls d H' => W cls d σZ H') (Q := fun v H' => Mid X gZ σZ M1 ds1 H1 QD v H') (tb := fun σ' H' Q' => σ' = vs.map some ++ σ ∧ H' = H1 ∧ Q' = fun v H' => Mid X gZ σZ M1 ds1 H1 QD v H') I L of1 (hbind us hlu) hr I1.env0 un I1.nolimit hcode rv hlu (fun hrk => ⟨fun pins' s' σ' H' Q' J hh => ?_⟩) ⟨rfl, rfl, rfl⟩) fun r s' hq => ?_)
    · obtain ⟨rfl, rfl, rfl⟩ := hh
      have tk' : Takes (lamCxP X ps (X.A.deeper (envOfC qg sg s.heap.objs.size gf cdg)) (envOfC qg sg s.heap.objs.size gf cdg :: X.stack) s1 H' (fun cls d H'' => W cls d σZ H'') scope f c') (fun cls d _ H'' => W cls d σZ H'') := takes_of rfl rfl rfl rfl
      have fr : ∀ {M' : List Addr} {ds' : DS} {H'' : Hp}, Nxt gL [] ⟨(l.map fun d => some (Z.d d)) ++ frzS ds.s, []⟩ H' M' ds' H'' → Fr0 H' H'' := fun {M' ds' H''} N' => by
        refine ⟨fun b o hb t => ?_, N'.mv.tb⟩
        by_cases hw : gL.ow b
        · rw [N'.out b hw]; exact hb
        · exact N'.mv.keep b o hb (by rw [show gL.own [] ⟨(l.map fun d => some (Z.d d)) ++ frzS ds.s, []⟩ = gL.ow from own_nil]; exact hw) t
      have back : ∀ {M' : List Addr} {ds' : DS} {H'' : Hp}, Mv (gL.own M' ds') (gZ.own M1 ds1) H'' H'' := fun {M' ds' H''} => ⟨fun _ _ h _ _ => h, fun _ ps h => ⟨ps, h⟩, fun b h => .inl (.inl h)⟩
      refine thn ((hbody _ _ s1 H' (fun cls d H'' => W cls d σZ H'') f c' gL _ rfl hrk tk').run pins' s' _ H' [] _ _ _ J RL ht fun x ds' M' H'' cls d q R' N' re => ?_) fun u s2 ⟨z, ds', M', v, H'', J', r', R', N', rz, q⟩ => ?_
      · have q' : ED x ds1 := q
        obtain ⟨R2, N2⟩ := R1.fr0 (fr N') R'.tabs
        exact hE x ds1 M1 H'' cls d q' R2 N2 ⟨re.1, fun a => RepD.mv back _ _ (re.2 a)⟩
      · cases z with
        | m n =>
          have q : toZ (fun y => QD (.d y) ds1) (fun c => QD (.m ds1.w.length) (ds1.more c)) (.m n) ds' := q
          unfold toZ at q
          dsimp only at q
          split at q
          · rename_i c hw
            obtain ⟨a, ha, rfl⟩ := rz
            have rc := R'.obj _ _ _ hw ha
            have na : ¬ gL.ow a := R'.apart a (List.mem_of_getElem? ha)
            have hn : H' a = none := by
              rcases N'.mv.new a (.inr ⟨n, c, ha, hw⟩) with h | h
              · rw [show gL.own [] ⟨(l.map fun d => some (Z.d d)) ++ frzS ds.s, []⟩ = gL.ow from own_nil] at h; exact absurd h na
              · exact h
            obtain ⟨R2, N2⟩ := R1.moreH (c := c) hn (fr N') R'.tabs fun own' ho' => rc.shut ⟨fun _ _ h _ _ => h, fun _ ps h => ⟨ps, h⟩, fun b h => .inl ((ho' b h).elim .inl fun e => .inr ⟨n, c, by rw [e]; exact ha, hw⟩)⟩ q.1
            exact ⟨.ref a, H'', J', r', .m ds1.w.length, _, _, R2, N2, ⟨a, by rw [← R1.mlen, List.getElem?_append_right (Nat.le_refl _), Nat.sub_self]; rfl, rfl⟩, q.2⟩
          · exact q.elim
        | d y =>
          obtain ⟨R2, N2⟩ := R1.fr0 (fr N') R'.tabs
          exact ⟨v, H'', J', r', .d y, ds1, M1, R2, N2, RepD.mv back _ _ rz, q⟩
    · cases r with
      | error e => exact tk e s' (XE.of_call I1 (fun _ _ _ h => h) hq)
      | ok fl =>
        cases fl with
        | ret u =>
          obtain ⟨v, H', J, rv', z, ds', M', R2, N2, rz, q⟩ := I1.after hq
          exact ⟨z, ds', M', v, H', J, rv', R2, N2, rz, q⟩
        | next => exact False.elim hq
        | brk => exact False.elim hq
        | cont => exact False.elim hq
  refine ⟨fun hn W pn xe p1 p2 tk => ⟨fun pinsZ sZ σZ HZ MZ dsZ QD ED IZ RZ ht hE => ?_⟩⟩
  · obtain ⟨hs, ht⟩ := ht
    obtain ⟨v, hv', rv'⟩ := RZ.slot i _ hs
    have rv' : v = .ref f := rv'
    subst rv'
    refine wpAny_Call_Name_kw (thn ((pe_var (pos := p1) (i := i) hN hv hd hcd).run pinsZ sZ σZ HZ (fun v H1 => v = .ref f ∧ H1 = HZ) IZ ⟨.ref f, hv', rfl, rfl⟩) fun u s1 ⟨v, H1, I1, r1, e1, e2⟩ => ?_)
    subst e1 e2
    obtain rfl : u = Value.ref f := r1
    have of1 : s1.heap.get? f = _ := I1.base.keep f _ hf hfn hfr (fun z => nomatch (show f ∈ ([] : List Addr) from z))
    refine PySem.W.callWith_F0 ⟨_, _, _, _, of1⟩ ?_
    obtain ⟨h1, h2⟩ := (show ([] : List D).length = ps.length ∧ lamSM tb ds.s [] (fun y => QD (.d y) dsZ) (fun c => QD (.m dsZ.w.length) (dsZ.more c)) (fun x => ED x dsZ) from ht)
    exact key W pn xe tk pinsZ s1 σZ _ MZ dsZ [] [] [] QD ED I1 RZ rfl .nil h1 h2 hE
end
/-- such a def: its body keeps Sg whenever its calls of the handed function keep S -/
structure GiveFM (gd : Bool) (P : Program) (w : World) (K : PySem.W.Frag) (mg : Str → Option Value) (base : Heap) (T : List (Addr × Str)) (x : Str) (k : Nat) (params : Arguments) (body : List Stmt) (scope : Scope) (fa : Addr) (fd : FuncData) (N ps : List Str) (i : Nat) (a : Str) (n : Nat) (Sg : SLM) : Prop where
  F : FunD K x x params body scope [] [] fa fd
  sc : FnScope N ps scope
  hm : mg x = some (.ref fa)
  hN : N[i]? = some a
  hv : Vis scope a
  hd : (a == ("__debug__" : Str)) = false
  hcd : (a == ("__classdict__" : Str)) = false
  len : ∀ S f ds QD QM ED, Sg S f ds QD QM ED → ds.length = ps.length
  b : Binds K fd ps []
  gives : ∀ (S : SM) (f : Addr) (cdv : Value) (A : Around) (outer : List Env) (s : Shared) (H : Hp) (E : XK) (g : G), CodeIs K fa cdv → g.T = T → RoomG gd k (A.deeper (envOfC x scope s.heap.objs.size fa cdv)) → ActOkM (cxOf (L2.CX P w) P w K mg base N x scope fa cdv A outer s H E) g i a n f S →
    ∃ t, PXB (cxOf (L2.CX P w) P w K mg base N x scope fa cdv A outer s H E) g (fun cls d _ H => E cls d H) body t ∧ ∀ ds QD QM ED, Sg S f ds QD QM ED → t (enM QD QM ED) ⟨ent N ds, []⟩
section
variable {X : Cx} {g : G} {W : WX} {params : Arguments} {body : Expr} {scope : Scope} {e : Expr} {es : List Expr} {ps : List Str}
/-- f(.., lambda ps: body, ..) -/
def dLamCallM (Sg : SLM) (tb : TD) (t : TLf) : TD := fun ds Q E => t ds (fun f zs ds1 => match unD zs with
  | some l => Sg (lamSM tb ds1.s) f l (fun y => Q (.d y) ds1) (fun c => Q (.m ds1.w.length) (ds1.more c)) (fun x => E x ds1)
  | none => False) E
theorem px_lamM {gd : Bool} {T : List (Addr × Str)} {x : Str} {k k2 : Nat} {pg : Arguments} {bg : List Stmt} {sg : Scope} {fa : Addr} {fd : FuncData} {Ng psg : List Str} {i : Nat} {a : Str} {n : Nat} {Sg : SLM} {tb : TD} {t : TLf} {p pos : Pos}
    (Gv : GiveFM gd X.prog X.w X.K X.mg X.base T x k pg bg sg fa fd Ng psg i a n Sg) (hT : g.T = T) (hr : RoomG gd (k + 1) X.A) (tk : Takes X W) (hk : k2 + 1 ≤ k) (hn : ps.length = n) (L : LamP X.env.scope scope ps X.N)
    (hbind : ∀ (cl : List (Str × Addr)) (pm cv ctv : Value) (us : List Value), us.length = ps.length → bindArgs (PySem.W.kla_fn "<lambda>" (X.env.qual ++ "<lambda>") params body scope cl pm cv ctv) ⟨us, []⟩ = pure (ps.zip us))
    (ha : PXF X g W params body scope (e :: es) t) (hb : LamBody X ps scope body T k2 tb) (hg : Gl X x := by rfl) (hdb : (x == ("__debug__" : Str)) = false := by decide)
    (he : ∃ e0, starEach (e :: es) X.env = (false, e0) :: starEach es X.env := by exact ⟨_, rfl⟩) (hpl : (backTo pos (starEach es X.env)).any (·.1) = false := by rfl)
    (he2 : starEach (e :: es) X.env = (false, eval e X.env) :: starEach es X.env := by rfl) :
    PX X g W (.Call (.Name x p) (e :: es) [] pos) (dLamCallM Sg tb t) := by
  subst hT
  refine ⟨fun pins s σ H M ds QD ED I R ht hE => ?_⟩
  refine wpAny_Call_Name_kw (ld_glob I hg Gv.hm ?_ hdb)
  refine PySem.W.callWith_K (h₀ := X.base) I.ok.mod.kin Gv.F.kp (thn (ha.run pos pins s σ H M ds _ ED I R ht hE) fun us s1 ⟨f, c', pm, ctv, zs, ds1, M1, vs, H1, I1, hfr, hco, r1, R1, N1, rz, q1⟩ => ⟨I1.kIn, ?_⟩) he2 hpl
  have q' : (match unD zs with
    | some l => Sg (lamSM tb ds1.s) f l (fun y => QD (.d y) ds1) (fun c => QD (.m ds1.w.length) (ds1.more c)) (fun x => ED x ds1)
    | none => False) := q1
  split at q'
  · rename_i l el
    obtain rfl := unD_of el
    have rl := rz.toD
    obtain ⟨hf, hfn, _⟩ := I1.pin (f, lamO X params body scope pm c' ctv) (List.mem_append_right _ List.mem_cons_self)
    have J : L2.Inv X pins σ H1 s1 := I1.pins_of fun p hp => I1.pin p (List.mem_append_right _ (List.mem_cons_of_mem _ hp))
    have hl := Gv.len _ _ _ _ _ _ q'
    have hlv : vs.length = psg.length := by rw [RepL.length rl]; exact hl
    have hlu : us.length = psg.length := by rw [← r1.length]; exact hlv
    obtain ⟨oc, od, dV, kV, doc, pm', an, cdv, ct, osl, rfl, lk, hcd, _, _⟩ := Gv.F.ex
    have b1 := Gv.b s1 us I1.kIn (by rw [List.append_nil]; exact hlu)
    rw [List.append_nil] at b1
    let gZ : G := ⟨g.own M1 ds1, g.T, (D.cod (X.env.qual ++ "<lambda>") c', V.ref c') :: ghs ds1.s σ⟩
    have rc := run_ofS (CX := L2.CX X.prog X.w) (Q := fun v H' => Mid X g σ M1 ds1 H1 QD v H') (E := fun cls d H' => W cls d σ H') lk hcd Gv.sc hr.1 J.env0 b1 r1 hlv fun hr' => by
      have act := act_okM (k := k2) (Ng := Ng) (qg := x) (sg := sg) (gf := fa) (cdg := cdv) (Eg := fun cls d H' => W cls d σ H') (gZ := gZ) (i := i) (a := a) J R1 L hf hfn hfr (hbind _ _ _ _) (hr'.mono hk) hb (fun p hp => List.mem_cons_of_mem _ hp) List.mem_cons_self Gv.hN Gv.hv Gv.hd Gv.hcd
      rw [hn] at act
      obtain ⟨t', ht', hq'⟩ := Gv.gives (lamSM tb ds1.s) f cdv X.A X.stack s1 H1 (fun cls d H' => W cls d σ H') gZ ⟨_, _, _, _, _, lk, rfl, hcd⟩ rfl ⟨hr', hr.2⟩ act
      have RZ : RepS X.K gZ [] ⟨ent Ng l, []⟩ (L2.start Ng vs) H1 := by
        have R0 := repS_A (K := X.K) (N := Ng) (T := g.T) R1.outOk rl R1.tabs (by rw [hlv]; have := congrArg List.length Gv.sc.pre; rw [List.length_take] at this; omega)
        have gh : ∀ p ∈ gZ.gh, RepD X.K (gZ.own [] ⟨ent Ng l, []⟩) H1 p.1 p.2 := fun p hp => by
          rw [show gZ.own [] ⟨ent Ng l, []⟩ = g.own M1 ds1 from own_nil (T := g.T)]
          rcases List.mem_cons.mp hp with rfl | hp
          · exact ⟨rfl, R1.code_own hco, hco⟩
          · obtain ⟨j, e1, e2⟩ := ghs_of hp
            obtain ⟨v, h1, h2⟩ := R1.slot j _ e1
            rw [e2] at h1; cases h1
            exact h2
        exact { len := R0.len, slot := R0.slot, mlen := R0.mlen, nd := R0.nd, apart := R0.apart, obj := R0.obj, tabs := R0.tabs, out := R0.out, ex := R0.ex, gh := gh }
      have fr : ∀ {M' : List Addr} {ds' : DS} {H' : Hp}, Nxt gZ [] ⟨ent Ng l, []⟩ H1 M' ds' H' → Fr0 H1 H' := fun {M' ds' H'} N' => by
        refine ⟨fun b o hb t => ?_, N'.mv.tb⟩
        by_cases hw : gZ.ow b
        · rw [N'.out b hw]; exact hb
        · exact N'.mv.keep b o hb (by rw [show gZ.own [] ⟨ent Ng l, []⟩ = gZ.ow from own_nil (T := g.T)]; exact hw) t
      have back : ∀ {M' : List Addr} {ds' : DS} {H' : Hp}, Mv (gZ.own M' ds') (g.own M1 ds1) H' H' := fun {M' ds' H'} => ⟨fun _ _ h _ _ => h, fun _ ps h => ⟨ps, h⟩, fun b h => .inl (.inl h)⟩
      refine ⟨fun De σ' H0 => σ' = L2.start Ng vs ∧ H0 = H1 ∧ De = { nx := fun _ H' => Mid X g σ M1 ds1 H1 QD .non H', rt := fun v H' => Mid X g σ M1 ds1 H1 QD v H' }, ⟨fun pins1 s2 σ' H0 De I' hh => ?_⟩, rfl, rfl, rfl⟩
      obtain ⟨rfl, rfl, rfl⟩ := hh
      refine thn (ht'.run pins1 s2 _ _ [] ⟨ent Ng l, []⟩ _ I' RZ (hq' l _ _ _ q') (fun y ds' M' σ' H' cls d he R' N' re => ?_)) fun fl s3 q => ?_
      · obtain ⟨R2, N2⟩ := R1.fr0 (fr N') R'.tabs
        exact hE y ds1 M1 H' cls d he R2 (N1.trans N2) ⟨re.1, fun a => RepD.mv back _ _ (re.2 a)⟩
      · cases fl with
        | next =>
          obtain ⟨ds', M', σ', H', I', R', N', q⟩ := q
          obtain ⟨R2, N2⟩ := R1.fr0 (fr N') R'.tabs
          exact ⟨σ', H', I', .d .non, ds1, M1, R2, N2, rfl, q⟩
        | brk => obtain ⟨_, _, _, _, _, _, _, q⟩ := q; exact False.elim q
        | cont => obtain ⟨_, _, _, _, _, _, _, q⟩ := q; exact False.elim q
        | ret u =>
          obtain ⟨z, ds', M', v, σ', H', τ, I', r', R', N', rz, q⟩ := q
          cases z with
          | m n =>
            have q : toZ (fun y => QD (.d y) ds1) (fun c => QD (.m ds1.w.length) (ds1.more c)) (.m n) ds' := q
            unfold toZ at q
            dsimp only at q
            split at q
            · rename_i c hw
              obtain ⟨a, ha, rfl⟩ := rz
              have rc := R'.obj _ _ _ hw ha
              have na : ¬ gZ.ow a := R'.apart a (List.mem_of_getElem? ha)
              have hn : H0 a = none := by
                rcases N'.mv.new a (.inr ⟨n, c, ha, hw⟩) with h | h
                · rw [show gZ.own [] ⟨ent Ng l, []⟩ = gZ.ow from own_nil (T := g.T)] at h; exact absurd h na
                · exact h
              obtain ⟨R2, N2⟩ := R1.moreH (c := c) hn (fr N') R'.tabs fun own' ho' => rc.shut ⟨fun _ _ h _ _ => h, fun _ ps h => ⟨ps, h⟩, fun b h => .inl ((ho' b h).elim .inl fun e => .inr ⟨n, c, by rw [e]; exact ha, hw⟩)⟩ q.1
              exact ⟨.ref a, σ', H', I', r', .m ds1.w.length, _, _, R2, N2, ⟨a, by rw [← R1.mlen, List.getElem?_append_right (Nat.le_refl _), Nat.sub_self]; rfl, rfl⟩, q.2⟩
            · exact q.elim
          | d y =>
            obtain ⟨R2, N2⟩ := R1.fr0 (fr N') R'.tabs
            exact ⟨v, σ', H', I', r', .d y, ds1, M1, R2, N2, RepD.mv back _ _ rz, q⟩
    refine wpAny_call (codeAny_mono rc fun r s' hq => ?_)
    cases r with
    | error e => exact tk e s' (XE.of_call J (fun _ _ _ h => h) hq)
    | ok fl =>
      cases fl with
      | ret u =>
        obtain ⟨v, H', J', rv, z, ds', M', R2, N2, rz, q⟩ := J.after hq
        exact ⟨z, ds', M', v, H', J', rv, R2, N1.trans N2, rz, q⟩
      | next => exact False.elim hq
      | brk => exact False.elim hq
      | cont => exact False.elim hq
  · exact q'.elim
end
end L3

set_option Elab.async false
set_option linter.all false
set_option maxRecDepth 100000
set_option maxHeartbeats 4000000
namespace L3
open PySem PySem.Spec PyProof.Rows L2 LamX
/-- what stands between two states while a built-in makes calls -/
structure Btw (X : Cx) (H0 : Hp) (s0 : Shared) (H : Hp) (s : Shared) : Prop where
  os : s.os = s0.os
  bare : AllBare s.gens
  un : Un (frs X.stack) [] H0 H s0.heap s.heap
  hok : HOk X.prog X.w H s.heap
section
variable {X : Cx} {g : G} {W : WX} {pins : List (Addr × Obj)} {σ : L2.St} {H H1 H2 : Hp} {M : List Addr} {ds : DS} {s s1 s2 : Shared}
theorem Btw.inv (b : Btw X H s H1 s1) (I : Inv X pins σ H s) : Inv X pins σ H1 s1 := by
  obtain ⟨v, H', I', _, e⟩ := I.after (Q := fun _ H' => H' = H1) (u := .none) ⟨.non, H1, b.os, b.bare, b.un, b.hok, rfl, rfl⟩
  rw [e] at I'
  exact I'
theorem Btw.trans (a : Btw X H s H1 s1) (b : Btw X H1 s1 H2 s2) : Btw X H s H2 s2 := ⟨b.os.trans a.os, b.bare, a.un.trans b.un, b.hok⟩
theorem HOk.apart {P : Program} {w : World} {h h' : Heap} (x : HOk P w H h) (k : ∀ b u, H b ≠ none → h.get? b = some u → h'.get? b = some u) : HOk P w H h' := fun a o e =>
  (x a o e).stay (fun b u hb q => k b u (by rcases hb with rfl | hb <;> simp_all) q) (fun _ q => q) fun _ _ q => q
/-- two objects that nobody knows of are written -/
theorem Btw.apart (b : Btw X H s H1 s1) {c d : Addr} {h3 : Heap} {t : Nat} (hc : s.heap.get? c = none) (hd : s.heap.get? d = none) (nc : H1 c = none) (nd : H1 d = none) (k : ∀ z u, z ≠ c → z ≠ d → s1.heap.get? z = some u → h3.get? z = some u) : Btw X H s H1 { s1 with heap := h3, toks := t } := by
  have ne : ∀ {z u}, s.heap.get? z = some u → z ≠ c ∧ z ≠ d := fun {z u} e => ⟨(fun q => by rw [q, hc] at e; cases e), (fun q => by rw [q, hd] at e; cases e)⟩
  refine ⟨b.os, b.bare, ?_, HOk.apart b.hok fun z u hz q => k z u (fun e => hz (by rw [e]; exact nc)) (fun e => hz (by rw [e]; exact nd)) q⟩
  exact { keep := fun z o e n f x => k z o (ne e).1 (ne e).2 (b.un.keep z o e n f x), slot := fun z o e n f x => by
            obtain ⟨sl, q⟩ := b.un.slot z o e n f x
            exact ⟨sl, k z _ (ne e).1 (ne e).2 q⟩, free := b.un.free, there := fun z o e x => by
            obtain ⟨o', q⟩ := b.un.there z o e x
            exact ⟨o', k z _ (ne e).1 (ne e).2 q⟩, tups := b.un.tups, frzs := b.un.frzs, tbls := b.un.tbls }
/-- the lambda's answer to one item -/
theorem key_turn {ps : List Str} {scope : Scope} {f c' : Addr} {pm ctv : Value} {params : Arguments} {body : Expr} {k : Nat} {tb : TD} {A : Around}
    (I : L2.Inv X pins σ H s) (R : RepS X.K g M ds σ H) (L : LamP X.env.scope scope ps X.N) (hn : ps.length = 1)
    (hf : s.heap.get? f = some (PySem.W.kla_obj "<lambda>" (X.env.qual ++ "<lambda>") params body scope (cloFrom X.env.cells scope.names []) pm c' ctv)) (hfn : H f = none) (hfr : f ∉ frs X.stack) (hco : H c' = some (CodeO c' (X.env.qual ++ "<lambda>")))
    (hbind : ∀ us : List Value, us.length = ps.length → bindArgs (PySem.W.kla_fn "<lambda>" (X.env.qual ++ "<lambda>") params body scope (cloFrom X.env.cells scope.names []) pm (.ref c') ctv) ⟨us, []⟩ = pure (ps.zip us))
    (hA : A = X.A.in1.in1) (hr : Room (k + 1) A) (hbody : LamBody X ps scope body g.T k tb)
    {d key : D} {v : V} {u : Value} (b : Btw X H s H1 s1) (fr1 : Fr0 H H1) (t1 : LamX.Tabs g.T H1) (rd : RepD X.K (g.own M ds) H1 d v) (rv : RelV v u) (ht : ∀ Q : D → Prop, Q key → lamS tb ds.s [d] Q (fun _ => False)) :
    wpAny (model X.prog X.w) A (call (.ref f) [u]) (fun r s2 => ∃ H2 w, Btw X H1 s1 H2 s2 ∧ Fr0 H1 H2 ∧ LamX.Tabs g.T H2 ∧ RelV w r ∧ RepD X.K (g.own M ds) H2 key w) (fun _ _ => False) s1 := by
  have I1 := b.inv I
  obtain ⟨R1, N1⟩ := R.fr0 fr1 t1
  have of1 := b.un.keep f _ hf hfn hfr (by simp)
  have hcode : H1 c' = some (CodeO c' (X.env.qual ++ "<lambda>")) := fr1.1 _ _ hco codeO_ne
  have hlu : [u].length = ps.length := hn.symm
  let gL : G := ⟨g.own M ds, g.T, []⟩
  have RL : RepS X.K gL [] ⟨([d].map fun d => some (Z.d d)) ++ frzS ds.s, []⟩ ([v].map some ++ σ) H1 := by
    have ow : gL.own [] ⟨([d].map fun d => some (Z.d d)) ++ frzS ds.s, []⟩ = g.own M ds := own_nil
    refine { len := ?_, slot := fun j z h => ?_, mlen := rfl, nd := .nil, apart := fun a h => (nomatch h), obj := fun n c a h => by simp at h, tabs := R1.tabs, gh := fun p hp => (nomatch hp), out := R1.outOk, ex := fun a h => (nomatch h) }
    · show ([v].map some ++ σ).length = (([d].map fun d => some (Z.d d)) ++ frzS ds.s).length
      unfold frzS
      rw [List.length_append, List.length_append, List.length_map, List.length_map, List.length_map, R.len]
      rfl
    · rw [ow]
      have h' : (([d].map fun d => some (Z.d d)) ++ frzS ds.s)[j]? = some (some z) := h
      cases j with
      | zero => cases h'; exact ⟨v, rfl, rd⟩
      | succ j =>
        have h' : (frzS ds.s)[j]? = some (some z) := h'
        unfold frzS at h'
        rw [List.getElem?_map] at h'
        cases e : ds.s[j]? with
        | none => rw [e] at h'; cases h'
        | some oz =>
          rw [e] at h'
          have h2 : frzO oz = some z := Option.some.inj h'
          cases oz with
          | none => cases h2
          | some y =>
            cases y with
            | m n => cases h2
            | d x =>
              cases h2
              obtain ⟨v', hv, rx⟩ := R1.slot _ _ e
              exact ⟨v', hv, rx⟩
  have e1 : Env0 X.prog X.w X.K X.mg X.base A X.stack s1 H1 := by rw [hA]; exact I1.env0.in1.in1
  refine wpAny_call (codeAny_mono (lam_runP (k := k) (A := A) (outer := X.stack) (E := fun _ _ _ => False) (Q := fun w H2 => Fr0 H1 H2 ∧ LamX.Tabs g.T H2 ∧ RepD X.K (g.own M ds) H2 key w) (tb := fun σ' H' Q' => σ' = [v].map some ++ σ ∧ H' = H1 ∧ Q' = fun w H2 => Fr0 H1 H2 ∧ LamX.Tabs g.T H2 ∧ RepD X.K (g.own M ds) H2 key w) I L of1 (hbind [u] hlu) hr e1 b.un I1.nolimit hcode (.cons rv .nil) hlu (fun hrk => ⟨fun pins' s' σ' H' Q' J hh => ?_⟩) ⟨rfl, rfl, rfl⟩) fun r s' hq => ?_)
  · obtain ⟨rfl, rfl, rfl⟩ := hh
    have tk' : Takes (lamCxP X ps A X.stack s1 H' (fun _ _ _ => False) scope f c') (fun cls d _ H'' => False) := takes_of rfl rfl rfl rfl
    have fr : ∀ {M' : List Addr} {ds' : DS} {H'' : Hp}, Nxt gL [] ⟨([d].map fun d => some (Z.d d)) ++ frzS ds.s, []⟩ H' M' ds' H'' → Fr0 H' H'' := fun {M' ds' H''} N' => by
      refine ⟨fun b o hb t => ?_, N'.mv.tb⟩
      by_cases hw : gL.ow b
      · rw [N'.out b hw]; exact hb
      · exact N'.mv.keep b o hb (by rw [show gL.own [] ⟨([d].map fun d => some (Z.d d)) ++ frzS ds.s, []⟩ = gL.ow from own_nil]; exact hw) t
    have back : ∀ {M' : List Addr} {ds' : DS} {H'' : Hp}, Mv (gL.own M' ds') (g.own M ds) H'' H'' := fun {M' ds' H''} => ⟨fun _ _ h _ _ => h, fun _ ps h => ⟨ps, h⟩, fun b h => .inl (.inl h)⟩
    refine thn ((hbody _ _ s1 H' (fun _ _ _ => False) f c' gL _ rfl hrk tk').run pins' s' _ H' [] _ _ _ J RL (ht (fun y => y = key) rfl) fun x ds' M' H'' cls d q R' N' re => q.elim) fun u s2 ⟨z, ds', M', v, H'', J', r', R', N', rz, q⟩ => ?_
    cases z with
    | m n => exact q.elim
    | d y =>
      have q : y = key := q
      subst q
      exact ⟨v, H'', J', r', fr N', R'.tabs, RepD.mv back _ _ rz⟩
  · cases r with
    | error e =>
      obtain ⟨a, B, H', cls, d, _, _, _, _, _, _, _, hE⟩ := hq
      exact hE
    | ok fl =>
      cases fl with
      | ret u =>
        obtain ⟨w, H2, os, bare, un, hok, rw', q1, q2, q3⟩ := hq
        exact ⟨H2, w, ⟨os, bare, un, hok⟩, q1, q2, rw', q3⟩
      | next => exact False.elim hq
      | brk => exact False.elim hq
      | cont => exact False.elim hq
/-- a built-in's own objects -/
structure SrtS (X : Cx) (H : Hp) (s : Shared) (a kS : Addr) (J : Hp → Prop) (e1 : Nat) (kA : Array Value) (s1 : Shared) (H1 : Hp) : Prop where
  b : Btw X H s H1 s1
  j : J H1
  nk : ∃ e, s1.heap.get? kS = some (seqObj "list" kA e)
  na : s1.heap.get? a = some (seqObj "list" #[] e1)
  hk : H1 kS = none
  ha : H1 a = none
theorem each_to_map {α β γ : Type} {R : α → γ → Prop} (f : β → γ) : ∀ {as : List α} {bs : List β}, PySem.W.EachIs (fun a b => R a (f b)) as bs → PySem.W.EachIs R as (bs.map f)
  | _, _, .nil => .nil
  | _, _, .cons h t => .cons h (each_to_map f t)
theorem sort_rest {A : Around} {f : Value} {a kS : Addr} {e1 : Nat} {vs : List Value} {ks : List Int} {J : Hp → Prop} {P : PySem.Fin → Shared → Prop} {E : Value → Shared → Prop} {s0 : Shared}
    (I : Inv X pins σ H s) (h0 : SrtS X H s a kS J e1 #[] s0 H) (fa : s.heap.get? a = none) (fk : s.heap.get? kS = none) (nka : kS ∉ frs X.stack) (naf : a ∉ frs X.stack) (hka : kS ≠ a)
    (hlen : ks.length = vs.length) (hZ : vs.length ≤ sizeLine) (hu : A.units < cLine)
    (turn : ∀ (i : Nat) (v : Value) (k : Int), vs[i]? = some v → ks[i]? = some k → ∀ (H1 : Hp) (s1 : Shared), Btw X H s H1 s1 → J H1 →
      wpAny (model X.prog X.w) A (call f [v]) (fun r s2 => ∃ H2, Btw X H1 s1 H2 s2 ∧ J H2 ∧ ∃ t, r = .int k t) (fun _ _ => False) s1)
    (h : ∀ H2 s2 out c, Btw X H s H2 s2 → J H2 → H2 a = none → s2.heap.get? a = some (seqObj "list" (List.toArray out) c) → PySem.W.KeyedOut false (ks.map PyData.int) vs out → P (.done (.ret .none)) s2) :
    wpAny (model X.prog X.w) A (ksk_rest a f false vs.toArray e1 (.ref kS)) P E s0 := by
  unfold ksk_rest
  refine wpAny_bind (wpAny_rule ?_)
  first
    | rw [List.forIn_toArray]
    | (rw [← Array.forIn_toList]; simp only [List.toList_toArray])
    | rw [← Array.forIn_toList]
  refine wpAny_bind (ksk_fold (fun i s' => ∃ H1 kA, SrtS X H s a kS J e1 kA s' H1 ∧ PySem.W.EachIs (fun (v : Value) (k : Int) => ∃ t, v = .int k t) kA.toList (ks.take i)) vs 0 s0
    ⟨H, #[], h0, by rw [List.take_zero]; exact PySem.W.EachIs.nil⟩ ?step ?done)
  case step =>
    rintro j x s' hx ⟨H1, kA, S, hk⟩
    simp only [Nat.zero_add] at hk ⊢
    have hj : j < vs.length := (List.getElem?_eq_some_iff.mp hx).1
    obtain ⟨k, hkj⟩ : ∃ k, ks[j]? = some k := ⟨_, List.getElem?_eq_getElem (by omega)⟩
    have hz : kA.size ≤ vs.length := by
      have h1 := hk.length
      rw [Array.length_toList, List.length_take] at h1
      omega
    refine wpAny_bind (wpAny_attempt (wpAny_mono (turn j x k hx hkj H1 s' S.b S.j) (fun v s'' he => ?_) fun _ _ hF => hF.elim))
    obtain ⟨H2, b2, j2, t, rfl⟩ := he
    try dsimp only
    obtain ⟨ek, nk⟩ := S.nk
    have nk2 := b2.un.keep kS _ nk S.hk nka (by simp)
    have na2 := b2.un.keep a _ S.na S.ha naf (by simp)
    have hk2 : H2 kS = none := b2.un.free kS _ nk S.hk (by simp)
    have ha2 : H2 a = none := b2.un.free a _ S.na S.ha (by simp)
    have s1 := Heap.SameBut.update s''.heap kS (Obj.mapSeq (·.push (Value.int k t)))
    obtain ⟨c2, hc2⟩ : ∃ c2, (s''.heap.update kS (Obj.mapSeq (·.push (Value.int k t)))).get? kS = some (seqObj "list" (kA.push (Value.int k t)) c2) := ⟨_, get?_update_seq nk2 (·.push (Value.int k t))⟩
    have ek : ks.take (j + 1) = ks.take j ++ [k] := by rw [List.take_add_one, hkj]; simp
    have ea : (kA.push (Value.int k t)).toList = kA.toList ++ [Value.int k t] := by simp
    refine wpAny_bind (listUpdate_at nk2 rfl ?_ (Nat.le_trans hz hZ) (Nat.le_trans (Nat.le_of_eq (Array.size_push ..)) (Nat.succ_le_succ (Nat.le_trans hz hZ))))
    refine wpAny_pure ⟨rfl, H2, kA.push (Value.int k t), ⟨?_, j2, ⟨c2, hc2⟩, (s1.2 a hka.symm).trans na2, hk2, ha2⟩, ?_⟩
    · exact Btw.apart (t := s''.toks) (S.b.trans b2) fk fa hk2 ha2 fun z u h1 h2 q => (s1.2 z h1).trans q
    · rw [ea, ek]
      exact PySem.W.each_snoc ⟨t, rfl⟩ hk
  case done =>
    rintro s' ⟨H1, kA, S, hk⟩
    have hk' : PySem.W.EachIs (fun v k => ∃ as, Reads s'.heap v k as) kA.toList (ks.map PyData.int) := by
      have e3 : ks.take (0 + vs.length) = ks := List.take_of_length_le (by omega)
      rw [e3] at hk
      exact each_to_map PyData.int (hk.mono fun u d q => by obtain ⟨t, rfl⟩ := q; exact ⟨[], .int _ _⟩)
    have hsz : kA.size = vs.length := by
      have h1 := hk'.length
      rw [Array.length_toList, List.length_map] at h1
      omega
    obtain ⟨e0, nk⟩ := S.nk
    obtain ⟨G, g1, g2⟩ := restrict s'.heap fun b => decide (b ≠ kS)
    have kp : PySem.W.KeepsBut a G s'.heap := fun b o hb q => by
      by_cases hk : b = kS
      · rw [g2 b (by simp [hk])] at q; cases q
      · rw [g1 b (by simp [hk])] at q; exact q
    try dsimp only
    refine wpAny_bind (listItems_at nk rfl ?_)
    have hal : PySem.W.AllAlike (ks.map PyData.int) := fun d hd d' hd' => by
      obtain ⟨i, _, rfl⟩ := List.mem_map.mp hd
      obtain ⟨j, _, rfl⟩ := List.mem_map.mp hd'
      rfl
    have hsk : PySem.W.Sortable (ks.map PyData.int) := .inr fun d hd => by
      obtain ⟨i, _, rfl⟩ := List.mem_map.mp hd
      exact ⟨(fun h => nomatch h), fun xs h => nomatch h⟩
    refine PySem.W.keyH_end (κ := PySem.W.dataKind s'.heap (ks.map PyData.int)) (h₁ := G) kp (g2 kS (by simp)) nk S.na hka (PySem.W.SortsAt.data (s := s') hk' hal hsk fun d hd => ?_) hsz hZ fun h3 tk3 c k3 n3 => ?_
    · obtain ⟨i, _, rfl⟩ := List.mem_map.mp hd
      exact hu
    · have b3 := S.b.apart (c := kS) (d := a) (h3 := h3) (t := tk3) fk fa S.hk S.ha fun z u h1 h2 q => k3 z u h2 (by rw [g1 z (by simp [h1])]; exact q)
      exact h H1 _ _ c b3 S.j S.ha n3 ⟨s'.heap, kA.toList, hal, rfl, hk'⟩
theorem sort_keyI {l q : Addr} {vs : List Value} {ks : List Int} {J : Hp → Prop} {Q : Value → Shared → Prop} {E : Value → Shared → Prop} (I : Inv X pins σ H s) (hl : s.heap.IsList l vs.toArray) (hlen : ks.length = vs.length) (hZ : vs.length ≤ sizeLine) (hu : X.A.units + 2 < cLine) (hJ : J H)
    (turn : ∀ (i : Nat) (v : Value) (k : Int), vs[i]? = some v → ks[i]? = some k → ∀ (H1 : Hp) (s1 : Shared), Btw X H s H1 s1 → J H1 →
      wpAny (model X.prog X.w) X.A.in1.in1 (call (.ref q) [v]) (fun r s2 => ∃ H2, Btw X H1 s1 H2 s2 ∧ J H2 ∧ ∃ t, r = .int k t) (fun _ _ => False) s1)
    (h : ∀ H2 s2 out c, Btw X H s H2 s2 → J H2 → H2 (s.heap.objs.size + 1) = none → s2.heap.get? (s.heap.objs.size + 1) = some (seqObj "list" (List.toArray out) c) → PySem.W.KeyedOut false (ks.map PyData.int) vs out → Q (.ref (s.heap.objs.size + 1)) s2) :
    wpAny (model X.prog X.w) X.A (call (.builtin "sorted") [.ref l] [(Str.ofString "key", .ref q)]) Q E s := by
  refine PySem.W.sorted_of_sort hl hZ (ksk_s1 _ _) (fun x => ksk_l1 _ _) fun E' => ?_
  rw [ksk_t1]
  have ho : (PySem.W.copyHeap s.heap vs).get? (s.heap.objs.size + 1) = some (seqObj "list" vs.toArray 0) := PySem.W.copyHeap_at s.heap vs
  obtain ⟨e1, ho1⟩ : ∃ e1, ((PySem.W.copyHeap s.heap vs).update (s.heap.objs.size + 1) (Obj.mapSeq fun _ => (#[] : Array Value))).get? (s.heap.objs.size + 1) = some (seqObj "list" #[] e1) := ⟨_, get?_update_seq ho fun _ => #[]⟩
  have hcs : (PySem.W.copyHeap s.heap vs).objs.size = s.heap.objs.size + 2 := by
    unfold PySem.W.copyHeap
    rw [size_push', Heap.size_update, size_push']
  have hkS : (((PySem.W.copyHeap s.heap vs).update (s.heap.objs.size + 1) (Obj.mapSeq fun _ => (#[] : Array Value))).push (seqObj "tuple" vs.toArray 0)).objs.size = s.heap.objs.size + 3 := by rw [size_push', Heap.size_update, hcs]
  unfold ksk_tree
  refine wpAny_bind (listItems_at ho rfl ?_)
  refine wpAny_bind (listUpdate_at ho rfl ?_ (by rw [List.size_toArray]; exact hZ) (Nat.zero_le _))
  refine wpAny_bind (seqEpoch_at ho1 rfl ?_)
  refine wpAny_bind (wpAny_newTuple ?_ (by show vs.length ≤ _; exact hZ))
  refine wpAny_bind (wpAny_newList ?_ (Nat.zero_le _))
  refine wpAny_holding ?_
  have away : ∀ {f : Addr}, s.heap.objs.size ≤ f → f ∉ frs X.stack := fun {f} hf z => by
    rcases List.mem_cons.mp (I.stkSub _ z) with e | e
    · have := I.lt
      rw [← e] at this
      exact absurd this (Nat.not_lt.mpr hf)
    · exact I.nofs hf e
  have kept : ∀ b u, s.heap.get? b = some u → ((((PySem.W.copyHeap s.heap vs).update (s.heap.objs.size + 1) (Obj.mapSeq fun _ => (#[] : Array Value))).push (seqObj "tuple" vs.toArray 0)).push (seqObj "list" #[] 0)).get? b = some u := fun b u e => by
    have hb : b ≠ s.heap.objs.size + 1 := Nat.ne_of_lt (Nat.lt_succ_of_lt (Heap.lt_size e))
    refine Heap.get?_push_of_some _ (Heap.get?_push_of_some _ ?_)
    rw [Heap.get?_update_ne _ _ _ _ hb]
    exact PySem.W.copyHeap_old e
  have f1 : s.heap.objs.size ≤ (((PySem.W.copyHeap s.heap vs).update (s.heap.objs.size + 1) (Obj.mapSeq fun _ => (#[] : Array Value))).push (seqObj "tuple" vs.toArray 0)).objs.size := by rw [hkS]; exact Nat.le_add_right _ _
  have f2 : (((PySem.W.copyHeap s.heap vs).update (s.heap.objs.size + 1) (Obj.mapSeq fun _ => (#[] : Array Value))).push (seqObj "tuple" vs.toArray 0)).objs.size ≠ s.heap.objs.size + 1 := by rw [hkS]; exact Nat.ne_of_gt (Nat.add_lt_add_left (by decide) _)
  refine sort_rest (kS := (((PySem.W.copyHeap s.heap vs).update (s.heap.objs.size + 1) (Obj.mapSeq fun _ => (#[] : Array Value))).push (seqObj "tuple" vs.toArray 0)).objs.size) (J := J) (ks := ks) I ⟨⟨rfl, I.bare, Un.kept kept, I.hok.kept kept⟩, hJ, ⟨0, Heap.get?_push_size _ rfl⟩, Heap.get?_push_of_some _ (Heap.get?_push_of_some _ ho1), I.hok.fresh f1, I.hok.fresh (Nat.le_succ _)⟩ (Heap.get?_none_of_le (Nat.le_succ _)) (Heap.get?_none_of_le f1) (away f1) (away (Nat.le_succ _)) f2 hlen hZ hu turn ?_
  exact fun H2 s2 out c b j n e ko => ⟨rfl, h H2 s2 out c b j n e ko⟩
end
section
variable {X : Cx} {g : G} {W : WX} {pos p kp lpos : Pos} {x : Str} {e : Expr} {t : TLi} {params : Arguments} {body : Expr} {scope : Scope} {ps : List Str} {tb : TD} {gd : Bool} {k : Nat}
def rdSortKey (S : SA) (z : Z) (ds : DS) (Q : QZ) : Prop := match itemsL ds z with
  | some l => ∃ k : D → Int, (∀ x ∈ l, ∀ Q : D → Prop, Q (.int (k x)) → S [x] Q (fun _ => False)) ∧ l.length ≤ sizeLine ∧ Q (.d (.lst (l.mergeSort fun a b => decide (k a ≤ k b)))) ds
  | none => False
def kSortKey (tb : TD) (Q : QZ) : List Z → DS → Prop := fun zs ds => match zs with
  | [z] => rdSortKey (lamS tb ds.s) z ds Q
  | _ => False
def dSortKey (t : TLi) (tb : TD) : TD := fun ds Q E => t ds (kSortKey tb Q) E
theorem px_sortKey (hr : RoomG gd (k + 4) X.A) (hg : Gl X x) (hm : X.mg x = none) (hv : bootBuiltins x = some (.builtin "sorted")) (hs1 : X.stack = X.env :: X.outer) (hs2 : X.env.frame = some X.env.locals) (mk : Maker X g.T) (L : LamP X.env.scope scope ps X.N) (hn1 : ps.length = 1) (hdef : defaultsOf params X.env = ([], []))
    (hbind : ∀ (cl : List (Str × Addr)) (pm cv ctv : Value) (us : List Value), us.length = ps.length → bindArgs (PySem.W.kla_fn "<lambda>" (X.env.qual ++ "<lambda>") params body scope cl pm cv ctv) ⟨us, []⟩ = pure (ps.zip us))
    (ha : PXA X g W [e] t) (hb : LamBody X ps scope body g.T k tb) (hn : x ≠ "__name__" := by decide) (hdb : (x == ("__debug__" : Str)) = false := by decide)
    (he : backTo pos (starEach [e] X.env) = (false, eval e X.env) :: backTo pos (starEach [] X.env) := by rfl) (hpl : (backTo pos (starEach [e] X.env)).any (·.1) = false := by rfl)
    (hall : (backToKw pos (keywordEach [⟨some "key", .Lambda params body scope lpos, kp⟩] X.env)).all (·.1.isSome) = true := by rfl) (hkw : (backToKw pos (keywordEach [⟨some "key", .Lambda params body scope lpos, kp⟩] X.env)).any (·.1.isNone) = false := by rfl)
    (hks : (backToKw pos (keywordEach [⟨some "key", .Lambda params body scope lpos, kp⟩] X.env)).filterMap (·.1) = [("key" : Str)] := by rfl) :
    PX X g W (.Call (.Name x p) [e] [⟨some "key", .Lambda params body scope lpos, kp⟩] pos) (dSortKey t tb) := by
  refine ⟨fun pins s σ H M ds QD ED I R ht hE => ?_⟩
  refine wpAny_Call_Name_kw (ld_blt I hg hm hv ?_ hn hdb)
  refine PyProof.Rows.callWith_kw ?_ he hpl hall hkw
  refine thn (ha.run pos pins s σ H M ds (kSortKey tb QD) ED I R ht hE) fun us s1 ⟨zs, ds1, M1, vs, H1, I1, r1, R1, N1, rz, q1⟩ => ?_
  match zs, q1, rz with
  | [z], q1, rz =>
    obtain ⟨v1, rfl, rz1⟩ := zs1 rz
    refine PyProof.Rows.kws_cons ?_
    obtain ⟨c, P, TB, hcode, hmT, hu⟩ := mk.ex
    refine lam_make3 I1 TB hcode hmT hu R1.tabs hdef (L.has I1.ok) fun f c' pm' ctv H2 s2 I2 eN T2 tbl hf hfn hfr hco => ?_
    obtain ⟨R2, N2⟩ := R1.same eN tbl T2
    refine PyProof.Rows.kws_nil ?_
    rw [hks]
    have rz1 := rz1.mv N2.mv N2.pre
    have NN := N1.trans N2
    have q2 : rdSortKey (lamS tb ds1.s) z ds1 QD := q1
    unfold rdSortKey at q2
    split at q2
    · rename_i l el
      obtain ⟨key, hk, hL, q⟩ := q2
      obtain ⟨pa, xs, rfl, r, hs⟩ := itemsL_rep R2 rz1 el
      rw [Vals.ref1 r1]
      obtain ⟨its, hvv, hl, hz⟩ := I2.list hs
      have hlx : xs.length = l.length := RepL.length r
      have hli : its.length = l.length := by rw [← hvv.length, hlx]
      show wpAny _ _ (call (.builtin "sorted") [Value.ref pa] [(("key" : Str), Value.ref f)]) _ _ _
      have hl' : s2.heap.IsList pa its.toArray := hl.isList
      refine sort_keyI (ks := l.map key) (J := fun H' => Fr0 H2 H' ∧ LamX.Tabs g.T H') I2 hl' (by rw [List.length_map, hli]) (by rw [hli]; exact hL) (by have := hr.1.un; omega) ⟨⟨fun _ _ h _ => h, fun b ps h => ⟨ps, h⟩⟩, R2.tabs⟩ (fun i v kk hvi hki H3 s3 b j => ?_) fun H3 s3 out c3 b j n3 ho ko => ?_
      · rw [List.getElem?_map] at hki
        obtain ⟨d, hd, rfl⟩ := Option.map_eq_some_iff.mp hki
        obtain ⟨w, hw, rd⟩ := r.get hd
        obtain ⟨u, hu', ru⟩ := valsGet hvv hw
        rw [hvi] at hu'
        cases hu'
        have rd3 : RepD X.K (g.own M1 ds1) H3 d w := RepD.mv (R2.fr0 j.1 j.2).2.mv _ _ rd
        refine wpAny_mono (key_turn (k := k) (key := .int (key d)) I2 R2 L hn1 hf hfn hfr hco (hbind _ _ _ _) rfl (((hr.1.mono (by omega : (k + 1) + 1 + 1 ≤ k + 4)).in1).in1) hb b j.1 j.2 rd3 ru (hk d (List.mem_of_getElem? hd))) (fun r s4 hq => ?_) fun _ _ h => h
        obtain ⟨H4, w4, b4, f4, t4, rw4, rd4⟩ := hq
        cases (show w4 = .int (key d) from rd4)
        obtain ⟨tt, rfl⟩ := rw4
        refine ⟨H4, b4, ⟨⟨fun b o h t => f4.1 b o (j.1.1 b o h t) t, fun b ps h => ?_⟩, t4⟩, tt, rfl⟩
        obtain ⟨qs, h2⟩ := j.1.2 b ps h
        exact f4.2 b qs h2
      · obtain ⟨R3, N3⟩ := R2.fr0 j.1 j.2
        have I3 := b.inv I2
        have r3 := RepL.mv N3.mv _ _ r
        have ke := PySem.W.keyedOut_each (R := SIt X.K (g.own M1 ds1) H3) (bs := l) (fun x => PyData.int (key x)) (by rw [List.map_map] at ko; exact ko) (each_sit r3 hvv)
        rw [PySem.W.dataLe_int] at ke
        obtain ⟨ys, hy, ry⟩ := sit_each ke
        have fresh : s2.heap.get? (s2.heap.objs.size + 1) = none := Heap.get?_none_of_le (Nat.le_succ _)
        have new : ObjOk X.prog X.w (upd H3 (s2.heap.objs.size + 1) (.lst ys)) s3.heap (s2.heap.objs.size + 1) (.lst ys) := by
          refine ⟨?_, _, c3, hy, ho⟩
          rw [hy.length, ke.length, List.length_mergeSort]; exact hL
        have b' : Btw X H2 s2 (upd H3 (s2.heap.objs.size + 1) (.lst ys)) s3 := by
          have ne : ∀ {b o}, H3 b = some o → b ≠ s2.heap.objs.size + 1 := fun {b o} e z => by rw [z, n3] at e; cases e
          refine ⟨b.os, b.bare, { keep := b.un.keep, slot := b.un.slot, free := fun z o e n x => ?_, there := b.un.there, tups := fun z ys e => ?_, frzs := fun z o u e => ?_, tbls := fun z ps e => ?_ }, L2.HOk.laidN b.hok (fun _ _ q => q) n3 new⟩
          · rw [upd_ne (fun q => by rw [q, fresh] at e; cases e)]
            exact b.un.free z o e n x
          · have h3 := b.un.tups z ys e
            rw [upd_ne (ne h3)]; exact h3
          · have h3 := b.un.frzs z o u e
            rw [upd_ne (ne h3)]; exact h3
          · obtain ⟨more, h3⟩ := b.un.tbls z ps e
            exact ⟨more, by rw [upd_ne (ne h3)]; exact h3⟩
        refine EPD.nxt NN (EPD.nxt N3 (.of ⟨.ref _, _, b'.inv I2, rfl, .lst R3 n3 ry q⟩))
    · exact q2.elim
  | [], q1, _ => exact q1.elim
  | _ :: _ :: _, q1, _ => exact q1.elim
end
end L3

set_option Elab.async false
set_option linter.all false
set_option maxRecDepth 100000
set_option maxHeartbeats 4000000
namespace L3
open PySem PySem.Spec PyProof.Rows L2
section
variable {P : Program} {w : World} {A : Around} {E : Value → Shared → Prop} {s : Shared}
/-- the set object that is made first -/
abbrev set0 (w : World) : Obj := { cls := .type "set", dict := none, data := .set #[] 0 (.fresh 0 0 (!w.params.followText "set-order")) }
/-- what the set's __init__ leaves -/
def SetDone (w : World) (s : Shared) (ns : List Int) (r : Value) (s2 : Shared) : Prop := r = .none ∧ ∃ h' tk c, s2 = { s with heap := h', toks := tk } ∧ SetR w h' s.heap.objs.size (fun j => decide (j ∈ ns)) c ∧ c ≤ ns.length ∧ ∀ b o, s.heap.get? b = some o → h'.get? b = some o
theorem set_listI {l : Addr} {items : Array Value} (ns : List Int) {Q : Value → Shared → Prop} (hh : A.handled = none) (hl : s.heap.IsList l items) (hi : IntsAre items.toList ns) (hb : ns.length + 1 < scanBound)
    (h : ∀ (h' : Heap) (tk c : Nat), SetR w h' s.heap.objs.size (fun j => decide (j ∈ ns)) c → c ≤ ns.length → (∀ b o, s.heap.get? b = some o → h'.get? b = some o) → Q (.ref s.heap.objs.size) { s with heap := h', toks := tk }) :
    wpAny (model P w) A (call (.type "set") [.ref l]) Q E s := by
  have sz : items.size = ns.length := by rw [← Array.length_toList]; exact hi.length
  obtain ⟨mc, ml, hmro⟩ := F.called_set.mro
  have hm := F.called_set.made
  have hs := F.called_set.sub
  have hc1 := F.called_set.notType
  have hc2 := F.called_set.canCreate
  have hc3 := F.typeCall_set_1 (.ref l)
  refine wpAny_call (codeAny_of_tree ?_)
  show wpAny _ _ (callAny (.type "set") _) _ _ _
  refine wpAny_pure ⟨Code.quiet_builtin _ (by decide +kernel), codeAny_builtin F.entry_type_call ?_⟩
  rw [Around.under_plain (weight_type_call_type "set" [.ref l] []) rfl]
  repeat (any_goals (first | assumption | wp_step))
  refine codeAny_mono (code_set_led1 (.ref l) (E := E) (Q₁ := fun ob t => ob = .ref s.heap.objs.size ∧ t = { s with heap := s.heap.push (set0 w) }) ⟨rfl, rfl⟩) fun r t hr => ?_
  match r, hr with
  | .error e, hr => exact hr
  | .ok .next, hr => exact hr.elim
  | .ok .brk, hr => exact hr.elim
  | .ok .cont, hr => exact hr.elim
  | .ok (.ret ob), hr =>
    obtain ⟨rfl, rfl⟩ := hr
    have g0 : (s.heap.push (set0 w)).get? s.heap.objs.size = some (set0 w) := Heap.get?_push_size _ rfl
    have ty : Shared.TypeIs { s with heap := s.heap.push (set0 w) } (.ref s.heap.objs.size) "set" := ⟨_, g0, rfl⟩
    have i1 := F.called_set.init.lookup
    have i2 := F.called_set.init.bind (.ref s.heap.objs.size)
    repeat (any_goals (first | assumption | wp_step))
    refine codeAny_mono (codeAny_call_builtin (R := wants (SetDone w s ns) E) F.called_set.init.plain F.entry_set_init (check_set_init_1 ty ?_)) fun r2 t2 hr2 => ?_
    · obtain ⟨⟨oc, od, oda, osl⟩, hol, hcl, nl, hdl⟩ := hl
      simp only at hcl hdl
      subst hcl; subst hdl
      have hol2 : (s.heap.push (set0 w)).get? l = some { cls := .type "list", dict := od, data := .seq items nl, slots := osl } := Heap.get?_push_of_some _ hol
      have l1 : (s.heap.push (set0 w)).IsList l items := ⟨_, hol2, rfl, nl, rfl⟩
      have n1 := F.sub_list_set
      have n2 := F.sub_list_frozenset
      have n3 : (Value.type "list" == Value.type "dict") = false := by decide
      unfold Builtin.«set.__init__» noKeywords Builtin.Frozenset.updateFrom
      generalize hgen : pyIter = pit
      wp_walk
      subst hgen
      refine wpAny_pyIter_list l1 (wpAny_bind (wpAny_runValue ?_))
      have lt : l < s.heap.objs.size := Heap.lt_size hol
      have esz : (s.heap.push (set0 w)).objs.size = s.heap.objs.size + 1 := Heap.size_push ..
      have neI : l ≠ (s.heap.push (set0 w)).objs.size := by rw [esz]; exact Nat.ne_of_lt (Nat.lt_succ_of_lt lt)
      have out : s.heap.objs.size ∉ [(s.heap.push (set0 w)).objs.size, l] := by
        rw [esz]
        intro z
        rcases List.mem_cons.mp z with z | z
        · exact absurd z (Nat.ne_of_lt (Nat.lt_succ_self _))
        · exact absurd (List.mem_singleton.mp z) (Nat.ne_of_gt lt)
      have vals : ∀ (i : Nat) (v : Value), items[i]? = some v → ∃ k t, ns[i]? = some k ∧ v = .int k t := fun i v hv => by
        have hin : i < ns.length := by rw [← sz]; exact (Array.getElem?_eq_some_iff.mp hv).1
        obtain ⟨t, e⟩ := hi.int_at i v (by rw [Array.getElem?_toList]; exact hv)
        refine ⟨ns[i], t, List.getElem?_eq_getElem hin, ?_⟩
        rw [e, List.getD_eq_getElem?_getD, List.getElem?_eq_getElem hin]; rfl
      refine set_update_ints ((Walks.list (by simp [hh]) _ l neI items).toS) s.heap.objs.size out ns sz hb vals (items.size - 0) 0 _ (by omega) (Nat.zero_le _) ⟨⟨_, Heap.get?_push_size _ rfl, rfl, rfl⟩, l1.push _⟩ ⟨0, Nat.le_refl 0, setR_new_at (Heap.get?_push_of_some _ g0)⟩ ?_
      rintro ⟨h', g2, d2, tk, os2⟩ cc mv hcc R2
      obtain rfl : g2 = s.gens := mv.gens
      obtain rfl : d2 = s.drawn := mv.drawn
      obtain rfl : os2 = s.os := mv.os
      show wpAny _ _ _ _ _ _
      refine wpAny_pure ?_
      show wpAny _ _ (ret Value.none) _ _ _
      rw [sz] at hcc
      refine wpAny_pure ⟨rfl, h', tk, cc, rfl, R2, hcc, fun b o e => ?_⟩
      have bl : b < s.heap.objs.size := Heap.lt_size e
      refine mv.heap b o (fun z => ?_) (Heap.get?_push_of_some _ (Heap.get?_push_of_some _ e))
      rcases List.mem_cons.mp z with z | z
      · exact absurd z (Nat.ne_of_lt bl)
      · exact absurd (List.mem_singleton.mp z) (by rw [esz]; exact Nat.ne_of_lt (Nat.lt_succ_of_lt bl))
    · match r2, hr2 with
      | .error e, hr2 => exact hr2
      | .ok .next, hr2 => exact hr2.elim
      | .ok .brk, hr2 => exact hr2.elim
      | .ok .cont, hr2 => exact hr2.elim
      | .ok (.ret rr), hr2 =>
        obtain ⟨rfl, h', tk, cc, rfl, R2, hcc, kp⟩ := hr2
        repeat (any_goals (first | assumption | wp_step))
        exact h _ _ _ R2 hcc kp
end
end L3

set_option Elab.async false
set_option linter.all false
set_option maxRecDepth 100000
set_option maxHeartbeats 4000000
namespace L3
open PySem PySem.Spec PyProof.Rows L2
section
variable {X : Cx} {g : G} {W : WX} {pos p1 p2 pos2 : Pos} {x1 x2 : Str} {e : Expr} {ta : TD}
def rSetQI (K : PySem.W.Frag) (w : World) : List V → Hp → VK → Prop := fun vs H Q => ∃ (a : Addr) (ns : List Int), vs = [V.ref a] ∧ (SqT K H a (ns.map V.int) ∨ SqL K H a (ns.map V.int)) ∧ ns.length < 64 ∧
  ∀ (p : Addr) (c : Nat), H p = none → c ≤ ns.length → Q (.ref p) (upd H p (SetO w p (fun j => decide (j ∈ ns)) c))
theorem cr_setQI (hc : X.calm = true) : CallR X (.type "set") (rSetQI X.K X.w) := by
  intro pins s σ H vs us Q I r h
  obtain ⟨a, ns, rfl, hs, hn, q⟩ := h
  rw [Vals.ref1 r]
  have fin : ∀ (h' : Heap) (tk c : Nat), SetR X.w h' s.heap.objs.size (fun j => decide (j ∈ ns)) c → c ≤ ns.length → (∀ b o, s.heap.get? b = some o → h'.get? b = some o) → EP X pins σ Q (.ref s.heap.objs.size) { s with heap := h', toks := tk } := fun h' tk c R hcn k =>
    ⟨.ref _, upd H s.heap.objs.size (SetO X.w s.heap.objs.size (fun j => decide (j ∈ ns)) c), I.laid (t' := tk) k (Nat.le_refl _) (setO_new R), rfl, q _ c (I.hok.fresh (Nat.le_refl _)) hcn⟩
  rcases hs with hs | hs
  · obtain ⟨its, rv, hl, _⟩ := I.tuple hs
    exact call_set_tupI ns (I.ok.hd hc) hl rv.ints (by unfold scanBound; omega) fin
  · obtain ⟨its, rv, hl, _⟩ := I.list hs
    exact set_listI ns (I.ok.hd hc) hl.isList (by simpa using rv.ints) (by unfold scanBound; omega) fin
def seqI (z : Z) : Option (List D) := match z with
  | .d (.tup l) => some l
  | .d (.lst l) => some l
  | .d (.lsf l) => some l
  | _ => none
def rdSortSetQ (z : Z) (ds : DS) (Q : QZ) : Prop := match seqI z with
  | some l => ∃ ns : List Int, l = ns.map D.int ∧ ns.length < 64 ∧ ∀ out : List Int, out.Pairwise (· < ·) → (∀ k, k ∈ out ↔ k ∈ ns) → Q (.d (.lst (out.map D.int))) ds
  | none => False
def dSortSetQ (ta : TD) : TD := fun ds Q E => ta ds (fun z ds1 => rdSortSetQ z ds1 Q) E
theorem seqI_rep {z : Z} {l : List D} {M : List Addr} {ds : DS} {σ : L2.St} {H : Hp} {v : V} (R : RepS X.K g M ds σ H) (h : seqI z = some l) (rz : RepZ X.K (g.own M ds) M H z v) : ∃ a xs, v = .ref a ∧ RepL X.K (g.own M ds) H l xs ∧ (SqT X.K H a xs ∨ SqL X.K H a xs) := by
  unfold seqI at h
  split at h
  · cases h
    obtain ⟨a, xs, rfl, r, hq⟩ := rz
    exact ⟨a, xs, rfl, r, .inl (sqT_of hq)⟩
  · cases h
    obtain ⟨a, xs, rfl, r, hq⟩ := itemsL_rep R rz rfl
    exact ⟨a, xs, rfl, r, .inr hq⟩
  · cases h
    obtain ⟨a, xs, rfl, r, hq⟩ := itemsL_rep R rz rfl
    exact ⟨a, xs, rfl, r, .inr hq⟩
  · cases h
theorem px_sortSetQ (hc : X.calm = true) (hg1 : Gl X x1) (hm1 : X.mg x1 = none) (hv1 : bootBuiltins x1 = some (.builtin "sorted")) (hg2 : Gl X x2) (hm2 : X.mg x2 = none) (hv2 : bootBuiltins x2 = some (.type "set")) (ha : PX X g W e ta)
    (hn1 : x1 ≠ "__name__" := by decide) (hdb1 : (x1 == ("__debug__" : Str)) = false := by decide) (hn2 : x2 ≠ "__name__" := by decide) (hdb2 : (x2 == ("__debug__" : Str)) = false := by decide)
    (hs : starEach [e] X.env = (false, eval e X.env) :: starEach [] X.env := by rfl) : PX X g W (.Call (.Name x1 p1) [.Call (.Name x2 p2) [e] [] pos2] [] pos) (dSortSetQ ta) := by
  refine .of (pe_callB (cr_sortedSet hc) hg1 hm1 hv1 (pa_cons (pe_callTy (cr_setQI hc) hg2 hm2 hv2 (pa_cons ha.pe pa_nil hs) hn2 hdb2 hs rfl) pa_nil rfl) hn1 hdb1 rfl rfl) fun σ H M ds QD ED R ht he => ?_
  refine lift_in R ht he fun z ds1 M1 v H1 R1 N1 rz q => ?_
  unfold rdSortSetQ at q
  split at q
  · rename_i l el
    obtain ⟨ns, rfl, hn, q⟩ := q
    obtain ⟨a, xs, rfl, r, hq⟩ := seqI_rep R1 el rz
    obtain rfl := r.ints
    refine ⟨a, ns, rfl, hq, hn, fun p c hp hcn => ?_⟩
    obtain ⟨R2, N2⟩ := R1.upd (o := SetO X.w p (fun j => decide (j ∈ ns)) c) hp
    refine ⟨p, _, c, rfl, upd_same, by omega, fun out p' ho hm _ hp' => ?_⟩
    obtain ⟨R3, N3⟩ := R2.upd (o := .lst (out.map V.int)) hp'
    exact ⟨.d (.lst (out.map D.int)), _, M1, R3, (N1.trans N2).trans N3, ⟨p', out.map V.int, rfl, RepL.ofInts out, R2.own_none hp', upd_same⟩, q out ho fun k => by rw [hm]; simp⟩
  · exact q.elim
end
end L3

set_option Elab.async false
set_option linter.all false
set_option maxRecDepth 100000
set_option maxHeartbeats 4000000
namespace L3
open PySem PySem.Spec PyProof.Rows L2
section
variable {X : Cx} {g : G}
structure RdIsNB (x y : Z) (ds : DS) (Q : QZ) : Prop where
  h : y = .d .non ∧ ((∃ d, x = .d d ∧ Q (.d (.bl d.isN)) ds) ∨ ∃ n, x = .m n ∧ Q (.d (.bl false)) ds)
structure RdNotNB (x y : Z) (ds : DS) (Q : QZ) : Prop where
  h : y = .d .non ∧ ((∃ d, x = .d d ∧ Q (.d (.bl (!d.isN))) ds) ∨ ∃ n, x = .m n ∧ Q (.d (.bl true)) ds)
theorem od_isNB : OpD X g (compareOp .Is) RdIsNB := .of op_isN fun σ H M ds x y v u QD R rx ry h => by
  obtain ⟨hy, k⟩ := h.h
  subst hy
  rcases k with ⟨d, hx, k⟩ | ⟨n, hx, k⟩ <;> subst hx
  · exact ⟨ry, .same R (z := .d (.bl _)) (by show V.bl _ = V.bl _; rw [RepD.isN rx]) k⟩
  · obtain ⟨a, _, rfl⟩ := rx
    exact ⟨ry, .same R (z := .d (.bl false)) rfl k⟩
theorem od_notNB : OpD X g (compareOp .IsNot) RdNotNB := .of op_notN fun σ H M ds x y v u QD R rx ry h => by
  obtain ⟨hy, k⟩ := h.h
  subst hy
  rcases k with ⟨d, hx, k⟩ | ⟨n, hx, k⟩ <;> subst hx
  · exact ⟨ry, .same R (z := .d (.bl _)) (by show V.bl _ = V.bl _; rw [RepD.isN rx]) k⟩
  · obtain ⟨a, _, rfl⟩ := rx
    exact ⟨ry, .same R (z := .d (.bl true)) rfl k⟩
end
end L3

set_option Elab.async false
set_option linter.all false
set_option maxRecDepth 100000
set_option maxHeartbeats 4000000
namespace L3
open PySem PySem.Spec PyProof.Rows L2
section
variable {X : Cx} {g : G} {W : WX}
def rangeR (n : Nat) : List D := (List.range n).map fun i => .int (((n - 1 - i : Nat) : Int))
theorem itd_rangeR {M1 : List Addr} {ds1 : DS} {H1 : Hp} {n : Nat} : ItD X g (Itc (0 + ((n : Nat) : Int) - 1) (-1) n) (rangeR n) M1 ds1 H1 := by
  intro g' i M' ds' σ' H' R m
  refine ⟨fun d hd => ?_, fun hn => ?_⟩
  · unfold rangeR at hd
    rw [List.getElem?_map] at hd
    by_cases hi : i < n
    · rw [List.getElem?_range hi] at hd
      cases hd
      exact ⟨hi, fun x H'' ⟨e1, e2⟩ => by
        subst e1; subst e2
        exact ⟨R, .refl, by show V.int _ = V.int _; congr 1; omega⟩⟩
    · rw [List.getElem?_eq_none (by rw [List.length_range]; omega)] at hd
      cases hd
  · show n ≤ i
    unfold rangeR at hn
    rw [List.getElem?_map, Option.map_eq_none_iff] at hn
    have := List.getElem?_eq_none_iff.mp hn
    rw [List.length_range] at this
    exact this
def kRev (Q : List D → DS → Prop) (z : Z) (ds : DS) : Prop := match z with
  | .d (.int j) => ∃ n : Nat, j = (n : Int) ∧ n < 2 ^ 61 ∧ Q (rangeR n) ds
  | _ => False
def dRevR (te : TD) : TIt := fun ds Q E => te ds (kRev Q) E
theorem pxi_revRg {tg e : Expr} {te : TD} {p pos p2 pos2 : Pos} (hg : Gl X "reversed") (hm : X.mg "reversed" = none) (hg2 : Gl X "range") (hm2 : X.mg "range" = none) (he : PX X g W e te) (na : starEach [e] X.env = (false, eval e X.env) :: starEach [] X.env := by rfl)
    (hs : starEach [.Call (.Name "range" p2) [e] [] pos2] X.env = (false, eval (.Call (.Name "range" p2) [e] [] pos2) X.env) :: starEach [] X.env := by rfl) : PXI X g W tg (.Call (.Name "reversed" p) [.Call (.Name "range" p2) [e] [] pos2] [] pos) (dRevR te) := by
  refine .of (pi_revR hg hm (prg_1 hg2 hm2 he.pe na) hs) fun σ H M ds Q ED R t hE => ?_
  refine lift_in R t hE fun z ds1 M1 v H1 R1 N1 rz q => ?_
  unfold kRev at q
  split at q
  · obtain ⟨n, rfl, hn, q⟩ := q
    cases (show v = V.int (n : Int) from rz)
    refine ⟨n, rfl, by decide, by decide, by omega, by omega, ?_⟩
    rw [show ((n : Int) - 0).toNat = n by omega]
    exact ⟨_, ds1, M1, R1, N1, itd_rangeR, q⟩
  · exact q.elim
end
end L3

set_option Elab.async false
set_option linter.all false
set_option maxRecDepth 100000
set_option maxHeartbeats 4000000
namespace L3
open PySem PySem.Spec PyProof.Rows L2
section
variable {X : Cx} {g : G} {W : WX} {pos : Pos}
structure PDI (X : Cx) (pos : Pos) (keys : List (Option Expr)) (values : List Expr) (ks vs : List Int) : Prop where
  pps : PPs X pos keys values (List.zipWith (fun k v => (tC (.int k), tC (.int v))) ks vs)
  len : ks.length = vs.length
theorem pdi_nil : PDI X pos [] [] [] [] := ⟨pps_nil, rfl⟩
theorem pdi_cons {k v : Int} {j j2 : Nat} {p2 p3 : Pos} {keys : List (Option Expr)} {values : List Expr} {ks vs : List Int} (hr : PDI X pos keys values ks vs) :
    PDI X pos (some (.Constant (.int k) j p2) :: keys) (.Constant (.int v) j2 p3 :: values) (k :: ks) (v :: vs) :=
  ⟨pps_cons pe_int pe_int hr.pps, by rw [List.length_cons, List.length_cons, hr.len]⟩
theorem consts_in : ∀ {ks vs : List Int} {σ : L2.St} {H : Hp} {Q : List (V × V) → Hp → Prop}, Q ((ks.map V.int).zip (vs.map V.int)) H → tPairs (List.zipWith (fun k v => (tC (.int k), tC (.int v))) ks vs) σ H Q
  | [], _, σ, H, Q, h => h
  | _ :: _, [], σ, H, Q, h => h
  | k :: ks, v :: vs, σ, H, Q, h => consts_in (ks := ks) (vs := vs) (σ := σ) (H := H) (Q := fun ps H3 => Q ((.int k, .int v) :: ps) H3) h
def dDicI (ks vs : List Int) : TD := fun ds Q _ => Q (.d (.dic (ks.map .inl) (vs.map D.int))) ds
theorem px_dicI {keys : List (Option Expr)} {values : List Expr} {ks vs : List Int} (h : PDI X pos keys values ks vs) (hn : ks.Nodup := by decide) (hall : keys.all (·.isSome) = true := by rfl) (hl : keys.length = values.length := by rfl) (h0 : keys ≠ [] := by simp)
    (h15 : keys.length ≤ 15 := by decide) (hk15 : ks.length ≤ 15 := by decide) : PX X g W (.Dict keys values pos) (dDicI ks vs) := by
  refine .of (pe_disp h.pps hall hl h0 h15) fun σ H M ds QD ED R ht he => ?_
  intro p hp
  refine consts_in ?_
  have nd : (ks.map (Sum.inl : Int → Key)).Nodup := by
    rw [List.nodup_iff_pairwise_ne, List.pairwise_map]
    exact hn.imp fun h z => h (Sum.inl.inj z)
  have em : mergeK [] ((ks.map (Sum.inl : Int → Key)).zip (vs.map V.int)) = (ks.map (Sum.inl : Int → Key)).zip (vs.map V.int) := by
    rw [mergeK_new]
    · rfl
    · rw [List.nil_append, List.map_fst_zip (by rw [List.length_map, List.length_map, h.len]; exact Nat.le_refl _)]
      exact nd
  refine ⟨upd_same, (ks.map (Sum.inl : Int → Key)).zip (vs.map V.int), ?_, ?_, ?_⟩
  · rw [List.zip_map_left, List.zip_map_left, List.map_map]
    rfl
  · rw [List.length_zip, List.length_map]; omega
  · rw [em]
    have e : L2.upd (L2.upd H p (.dK [])) p (.dK ((ks.map (Sum.inl : Int → Key)).zip (vs.map V.int))) = L2.upd H p (.dK ((ks.map (Sum.inl : Int → Key)).zip (vs.map V.int))) := by
      funext b
      by_cases hb : b = p
      · rw [hb, upd_same, upd_same]
      · rw [upd_ne hb, upd_ne hb, upd_ne hb]
    rw [e]
    obtain ⟨R3, N3⟩ := R.upd (o := .dK ((ks.map (Sum.inl : Int → Key)).zip (vs.map V.int))) hp
    exact ⟨.d (.dic (ks.map .inl) (vs.map D.int)), ds, M, R3, N3, ⟨p, vs.map V.int, rfl, RepL.ofInts vs, by rw [List.length_map, List.length_map, h.len], R.own_none hp, upd_same⟩, ht⟩
end
end L3

set_option Elab.async false
set_option linter.all false
set_option maxRecDepth 100000
set_option maxHeartbeats 4000000
namespace L3
open PySem PySem.Spec PyProof.Rows L2 RZ
section
variable {X : Cx} {g : G} {W : WX}
theorem itd_zipT {M1 : List Addr} {ds1 : DS} {H1 : Hp} {l l2 : List D} {a a2 : Addr} {xs ys : List V} (hq : (¬ g.own M1 ds1 a ∧ Rd H1 a (.tup xs)) ∨ WrT X.K a xs) (r : RepL X.K (g.own M1 ds1) H1 l xs) (hq2 : (¬ g.own M1 ds1 a2 ∧ Rd H1 a2 (.tup ys)) ∨ WrT X.K a2 ys) (r2 : RepL X.K (g.own M1 ds1) H1 l2 ys) : ItD X g (ItzT X.K a a2) (zipD l l2) M1 ds1 H1 := by
  intro g' i M' ds' σ' H' R m
  have rd : ∀ {a : Addr} {xs : List V}, (¬ g.own M1 ds1 a ∧ Rd H1 a (.tup xs)) ∨ WrT X.K a xs → SqT X.K H' a xs := fun {a xs} hq => by
    rcases hq with ⟨n, q⟩ | q
    · exact .inl (m.rd (fun ps z => nomatch z) n q)
    · exact .inr q
  have k1 := rd hq
  have k2 := rd hq2
  have s1 := RepL.mv m _ _ r
  have s2 := RepL.mv m _ _ r2
  rw [zipD_get]
  cases hl : l[i]? with
  | none => exact ⟨(fun d hd => by cases hd), fun _ => ⟨xs, ys, k1, k2, .inl (by rw [RepL.length s1]; exact List.getElem?_eq_none_iff.mp hl)⟩⟩
  | some x =>
    cases hl2 : l2[i]? with
    | none => exact ⟨(fun d hd => by cases hd), fun _ => ⟨xs, ys, k1, k2, .inr (by rw [RepL.length s2]; exact List.getElem?_eq_none_iff.mp hl2)⟩⟩
    | some y =>
      refine ⟨fun d hd => ?_, fun h => by cases h⟩
      cases hd
      obtain ⟨v, hv, rv⟩ := s1.get hl
      obtain ⟨v2, hv2, rv2⟩ := s2.get hl2
      refine ⟨⟨xs, ys, v, v2, k1, k2, hv, hv2⟩, fun z H'' ⟨T, x', y', e1, hT, e2, e3, e4⟩ => ?_⟩
      obtain rfl : x' = v := Option.some.inj ((e3 xs k1).symm.trans hv)
      obtain rfl : y' = v2 := Option.some.inj ((e4 ys k2).symm.trans hv2)
      subst e1; subst e2
      exact R.tup2 hT ⟨_, _, rfl, rv, _, _, rfl, rv2, rfl⟩
def kSeq2 (P : List D → List D → Prop) : List Z → Prop
  | [.d (.tup l), .d (.tup r)] => P l r
  | zs => kLst2 P zs
def dZipA (ta : TLi) : TIt := fun ds Q E => ta ds (fun zs ds1 => kSeq2 (fun l r => Q (zipD l r) ds1) zs) E
theorem pxi_zipA {a b : Expr} {ta : TLi} {p pos tpos : Pos} {elts : List Expr} {kk : Nat} (hg : Gl X "zip") (hm : X.mg "zip" = none) (ha : PXA X g W [a, b] ta)
    (hs : starEach [a, b] X.env = (false, eval a X.env) :: starEach [b] X.env := by rfl) (hpl : (backTo pos (starEach [b] X.env)).any (·.1) = false := by rfl) :
    PXI X g W (.Tuple elts kk tpos) (.Call (.Name "zip" p) [a, b] [] pos) (dZipA ta) := by
  refine .of (pi_zipA hg hm ha.pa hs hpl) fun σ H M ds Q ED R t hE => ?_
  refine liftA_in R t hE fun zs ds1 M1 vs H1 R1 N1 rz q => ?_
  unfold kSeq2 at q
  split at q
  · obtain ⟨v, r, rfl, h1, h2⟩ := rz
    obtain ⟨u, rfl, h3⟩ := zs1 h2
    obtain ⟨a1, xs, rfl, r1, q1⟩ := h1
    obtain ⟨a2, ys, rfl, r2, q2⟩ := h3
    exact ⟨a1, a2, xs, ys, rfl, .inr ⟨q1.elim (fun z => .inl z.2) .inr, q2.elim (fun z => .inl z.2) .inr, _, ds1, M1, R1, N1, itd_zipT q1 r1 q2 r2, q⟩⟩
  · unfold kLst2 at q
    split at q
    · obtain ⟨v, r, rfl, h1, h2⟩ := rz
      obtain ⟨u, rfl, h3⟩ := zs1 h2
      rename_i z y _
      have h1' : RepZs X.K (g.own M1 ds1) M1 H1 [z] [v] := ⟨v, [], rfl, h1, rfl⟩
      have h2' : RepZs X.K (g.own M1 ds1) M1 H1 [y] [u] := ⟨u, [], rfl, h3, rfl⟩
      obtain ⟨l, a1, xs, e1, r1, q1, q⟩ := lst1D h1' q
      obtain ⟨l2, a2, ys, e2, r2, q2, q⟩ := lst1D h2' q
      cases e1; cases e2
      exact ⟨a1, a2, xs, ys, rfl, .inl ⟨sqL_of q1, sqL_of q2, _, ds1, M1, R1, N1, itd_zip q1 r1 q2 r2, q⟩⟩
    · exact q.elim
end
end L3

set_option Elab.async false
set_option linter.all false
set_option maxRecDepth 100000
set_option maxHeartbeats 4000000
namespace L3
open PySem PySem.Spec PyProof.Rows L2
section
variable {K : PySem.W.Frag} {own : Addr → Prop} {H : Hp}
theorem RepL.strs : ∀ {l : List Str} {xs : List V}, RepL K own H (l.map D.str) xs → xs = l.map V.str
  | [], xs, h => h
  | i :: l, xs, h => by
    obtain ⟨u, r, rfl, h1, h2⟩ := h
    have e : u = .str i := h1
    rw [e, RepL.strs h2]; rfl
theorem RepL.ofStrs : ∀ (l : List Str), RepL K own H (l.map D.str) (l.map V.str)
  | [] => rfl
  | i :: l => ⟨.str i, l.map V.str, rfl, rfl, RepL.ofStrs l⟩
end
section
variable {X : Cx} {g : G} {W : WX} {pos : Pos} {o e : Expr} {to te : TD}
def kTx (P : Str → Prop) (z : Z) : Prop := match z with
  | .d (.str a) => P a
  | _ => False
theorem txD {P : Str → Prop} {M : List Addr} {ds : DS} {H : Hp} {z : Z} {v : V} (rz : RepZ X.K (g.own M ds) M H z v) (q : kTx P z) : ∃ a, z = .d (.str a) ∧ v = .str a ∧ P a := by
  unfold kTx at q
  split at q
  · exact ⟨_, rfl, rz, q⟩
  · exact q.elim
/-- s.split(t) -/
def rdSplit (a b : Str) (ds : DS) (Q : QZ) : Prop := ((b.length == 0) = false ∧ a.length + 2 ≤ sizeLine) ∧ Q (.d (.lst ((Txt.split a b).map D.str))) ds
def dSplit (to te : TD) : TD := fun ds Q E => to ds (fun x ds1 => kTx (fun a => te ds1 (fun y ds2 => kTx (fun b => rdSplit a b ds2 Q) y) E) x) E
theorem px_split {apos : Pos} (ho : PX X g W o to) (he : PX X g W e te) (hs : starEach [e] X.env = [(false, eval e X.env)] := by rfl) (hbase : attributeBase o "split" X.env (eval o X.env) = eval o X.env := by rfl) (hline : (apos.endLine == pos.line) = true := by rfl) :
    PX X g W (.Call (.Attribute o "split" apos) [e] [] pos) (dSplit to te) := by
  refine .of (pe_split ho.pe he.pe hs hbase hline) fun σ H M ds QD ED R ht hE => ?_
  refine lift_in R ht hE fun x ds1 M1 v H1 R1 N1 rz q => ?_
  obtain ⟨a, rfl, rfl, q⟩ := txD rz q
  refine ⟨⟨a, rfl⟩, lift_in R1 q (hE.nxt N1) fun y ds2 M2 u H2 R2 N2 ry q2 => ?_⟩
  obtain ⟨b, rfl, rfl, h1, q3⟩ := txD ry q2
  exact ⟨a, b, rfl, rfl, h1.1, h1.2, fun p hp => (Mid.lst R2 hp (RepL.ofStrs _) q3).nxt (N1.trans N2)⟩
/-- s.upper() -/
def dUpper (to : TD) : TD := fun ds Q E => to ds (fun x ds1 => kTx (fun a => a.length ≤ 5592405 ∧ Q (.d (.str (Txt.upper a))) ds1) x) E
theorem px_upper {apos : Pos} (ho : PX X g W o to) (hbase : attributeBase o "upper" X.env (eval o X.env) = eval o X.env := by rfl) (hline : (apos.endLine == pos.line) = true := by rfl) :
    PX X g W (.Call (.Attribute o "upper" apos) [] [] pos) (dUpper to) := by
  refine .of (pe_upper ho.pe hbase hline) fun σ H M ds QD ED R ht hE => ?_
  refine lift_in R ht hE fun x ds1 M1 v H1 R1 N1 rz q => ?_
  obtain ⟨a, rfl, rfl, h1, q⟩ := txD rz q
  exact ⟨⟨a, rfl⟩, a, rfl, rfl, h1, (Mid.same R1 (z := .d (.str _)) rfl q).nxt N1⟩
/-- s.join(xs) -/
def rdJoin (a : Str) (z : Z) (ds : DS) (Q : QZ) : Prop := match seqI z with
  | some l => ∃ ys : List Str, l = ys.map D.str ∧ (ys.map (·.length)).sum + ys.length * a.length ≤ 16777216 ∧ Q (.d (.str (Txt.join a ys))) ds
  | none => False
def dJoin (to te : TD) : TD := fun ds Q E => to ds (fun x ds1 => kTx (fun a => te ds1 (fun y ds2 => rdJoin a y ds2 Q) E) x) E
theorem px_join {apos : Pos} (ho : PX X g W o to) (he : PX X g W e te) (hs : starEach [e] X.env = [(false, eval e X.env)] := by rfl) (hbase : attributeBase o "join" X.env (eval o X.env) = eval o X.env := by rfl) (hline : (apos.endLine == pos.line) = true := by rfl) :
    PX X g W (.Call (.Attribute o "join" apos) [e] [] pos) (dJoin to te) := by
  refine .of (pe_join ho.pe he.pe hs hbase hline) fun σ H M ds QD ED R ht hE => ?_
  refine lift_in R ht hE fun x ds1 M1 v H1 R1 N1 rz q => ?_
  obtain ⟨a, rfl, rfl, q⟩ := txD rz q
  refine ⟨⟨a, rfl⟩, lift_in R1 q (hE.nxt N1) fun y ds2 M2 u H2 R2 N2 ry q2 => ?_⟩
  unfold rdJoin at q2
  split at q2
  · rename_i l el
    obtain ⟨ys, rfl, hb, q3⟩ := q2
    obtain ⟨p, xs, rfl, r, hq⟩ := seqI_rep R2 el ry
    obtain rfl := r.strs
    exact ⟨a, p, ys, rfl, rfl, hq.symm, hb, (Mid.same R2 (z := .d (.str _)) rfl q3).nxt (N1.trans N2)⟩
  · exact q2.elim
/-- {x} -/
def kFm (P : Str → Prop) (z : Z) : Prop := match z with
  | .d (.str a) => a.length ≤ sizeLine ∧ P a
  | .d (.int i) => i.natAbs.log2 < 1920 ∧ P (toString i)
  | _ => False
def dFmt (te : TD) : TD := fun ds Q E => te ds (fun z ds1 => kFm (fun y => Q (.d (.str y)) ds1) z) E
theorem px_fmt (he : PX X g W e te) : PX X g W (.FormattedValue e (-1) none pos) (dFmt te) := by
  refine .of (pe_fmt he.pe) fun σ H M ds QD ED R ht hE => ?_
  refine lift_in R ht hE fun z ds1 M1 v H1 R1 N1 rz q => ?_
  unfold kFm at q
  split at q
  · exact .inl ⟨_, rz, q.1, (Mid.same R1 (z := .d (.str _)) rfl q.2).nxt N1⟩
  · exact .inr ⟨_, rz, q.1, (Mid.same R1 (z := .d (.str _)) rfl q.2).nxt N1⟩
  · exact q.elim
inductive PXJ (X : Cx) (g : G) (W : WX) : List Expr → List TD → Prop where
  | nil : PXJ X g W [] []
  | cons {e : Expr} {t : TD} {es : List Expr} {ts : List TD} (h : PX X g W e t) (r : PXJ X g W es ts) : PXJ X g W (e :: es) (t :: ts)
theorem PXJ.pj {es : List Expr} {ts : List TD} (h : PXJ X g W es ts) : PJ X es (ts.map (lift X g W)) := by
  induction h with
  | nil => exact .nil
  | cons h _ ih => exact .cons h.pe ih
def dJs : List TD → Str → DS → QZ → QE → Prop
  | [], acc, ds, Q, _ => Q (.d (.str acc)) ds
  | t :: ts, acc, ds, Q, E => t ds (fun z ds1 => kTx (fun y => (acc ++ y).length ≤ sizeLine ∧ dJs ts (acc ++ y) ds1 Q E) z) E
def dJoined (ts : List TD) : TD := fun ds Q E => dJs ts Str.empty ds Q E
theorem js_ok : ∀ (ts : List TD) (acc : Str) {σ : L2.St} {H : Hp} {M : List Addr} {ds : DS} {QD : QZ} {ED : QE} {Q : VK} (R : RepS X.K g M ds σ H) (ht : dJs ts acc ds QD ED) (hE : EW X g W σ M ds H ED) (hq : ∀ v H', Mid X g σ M ds H QD v H' → Q v H'),
    tJs (ts.map (lift X g W)) acc σ H fun out H1 => Q (.str out) H1
  | [], acc, σ, H, M, ds, QD, ED, Q, R, ht, hE, hq => hq _ _ (.same R (z := .d (.str _)) rfl ht)
  | t :: ts, acc, σ, H, M, ds, QD, ED, Q, R, ht, hE, hq => by
    refine lift_in R ht hE fun z ds1 M1 v H1 R1 N1 rz q => ?_
    obtain ⟨y, rfl, rfl, h1, q⟩ := txD rz q
    exact ⟨y, rfl, h1, js_ok ts (acc ++ y) R1 q (hE.nxt N1) fun v H' h => hq v H' (h.nxt N1)⟩
theorem px_joined {v1 v2 : Expr} {rest : List Expr} {ts : List TD} (h : PXJ X g W (v1 :: v2 :: rest) ts) : PX X g W (.JoinedStr (v1 :: v2 :: rest) pos) (dJoined ts) :=
  .of (pe_joined h.pj) fun σ H M ds QD ED R ht hE => js_ok ts Str.empty R ht hE fun _ _ z => z
def rdSlT (lo hi : Option Int) (x : Z) (ds : DS) (Q : QZ) : Prop := match x with
  | .d (.str a) => a.length ≤ sizeLine ∧ Q (.d (.str (Txt.slice a lo hi))) ds
  | _ => rdSl lo hi x ds Q
def dSl1T (t : TD) (th : TD) : TD := fun ds Q E => t ds (fun x ds1 => th ds1 (fun z ds2 => kInt (fun i => rdSlT none (some i) x ds2 Q) z) E) E
def dSl2T (t : TD) (tl : TD) : TD := fun ds Q E => t ds (fun x ds1 => tl ds1 (fun z ds2 => kInt (fun i => rdSlT (some i) none x ds2 Q) z) E) E
theorem rdSlT_ok {σ : L2.St} {H H0 : Hp} {M M0 : List Addr} {ds ds0 : DS} {x : Z} {v : V} {lo hi : Option Int} {QD : QZ} (R : RepS X.K g M ds σ H) (rx : RepZ X.K (g.own M ds) M H x v) (q : rdSlT lo hi x ds QD) (N : Nxt g M0 ds0 H0 M ds H) :
    (rSlL X.K v lo hi H (Mid X g σ M0 ds0 H0 QD) ∨ rSlT X.K v lo hi H (Mid X g σ M0 ds0 H0 QD)) ∨ C8.rSlX v lo hi H (Mid X g σ M0 ds0 H0 QD) := by
  unfold rdSlT at q
  split at q
  · exact .inr ⟨_, rx, q.1, (Mid.same R (z := .d (.str _)) rfl q.2).nxt N⟩
  · exact .inl (rSl_nxt N (rdSl_ok R rx q))
variable {a lo hi : Expr} {ta tl th : TD} {p2 : Pos}
theorem px_sl1T (ha : PX X g W a ta) (hh : PX X g W hi th) : PX X g W (.Subscript a (.Slice none (some hi) none p2) pos) (dSl1T ta th) := by
  refine .of (pe_slice ((sl_list.or sl_tup).or C8.sl_txt) ha.pe po_none (po_some hh.pe)) fun σ H M ds QD ED R ht he => ?_
  refine lift_in R ht he fun x ds1 M1 v H1 R1 N1 rx q1 => lift_in R1 q1 (he.nxt N1) fun y ds2 M2 u H2 R2 N2 ry q2 => ?_
  obtain ⟨i, rfl, rfl, q3⟩ := intD ry q2
  exact ⟨i, rfl, rdSlT_ok R2 (rx.mv N2.mv N2.pre) q3 (N1.trans N2)⟩
theorem px_sl2T (ha : PX X g W a ta) (hl : PX X g W lo tl) : PX X g W (.Subscript a (.Slice (some lo) none none p2) pos) (dSl2T ta tl) := by
  refine .of (pe_slice ((sl_list.or sl_tup).or C8.sl_txt) ha.pe (po_some hl.pe) po_none) fun σ H M ds QD ED R ht he => ?_
  refine lift_in R ht he fun x ds1 M1 v H1 R1 N1 rx q1 => lift_in R1 q1 (he.nxt N1) fun y ds2 M2 u H2 R2 N2 ry q2 => ?_
  obtain ⟨i, rfl, rfl, q3⟩ := intD ry q2
  exact ⟨i, rfl, rdSlT_ok R2 (rx.mv N2.mv N2.pre) q3 (N1.trans N2)⟩
def rdInS : Z → Z → DS → QZ → Prop := fun x y ds Q => match y with
  | .d (.str b) => kTx (fun a => ∃ c : Nat, a = ⟨#[c]⟩ ∧ Q (.d (.bl (decide (c ∈ b.cps.toList)))) ds) x
  | _ => rdIn x y ds Q
def rdNotInS : Z → Z → DS → QZ → Prop := fun x y ds Q => match y with
  | .d (.str b) => kTx (fun a => ∃ c : Nat, a = ⟨#[c]⟩ ∧ Q (.d (.bl (!decide (c ∈ b.cps.toList)))) ds) x
  | _ => rdNotIn x y ds Q
theorem od_inS : OpD X g (compareOp .In) rdInS := by
  intro pins s σ H M ds x y v u vv uu QD I R rx vx ry vy h
  unfold rdInS at h
  split at h
  · obtain ⟨a, rfl, rfl, c, rfl, hq⟩ := txD rx h
    exact thn (op_in_sign pins s σ H _ _ vv uu _ I vx vy ⟨c, _, rfl, ry, .same R (z := .d (.bl _)) rfl hq⟩) fun _ _ z => .of z
  · exact od_in pins s σ H M ds _ _ v u vv uu QD I R rx vx ry vy h
theorem od_notInS : OpD X g (compareOp .NotIn) rdNotInS := by
  intro pins s σ H M ds x y v u vv uu QD I R rx vx ry vy h
  unfold rdNotInS at h
  split at h
  · obtain ⟨a, rfl, rfl, c, rfl, hq⟩ := txD rx h
    exact thn (op_notIn_sign pins s σ H _ _ vv uu _ I vx vy ⟨c, _, rfl, ry, .same R (z := .d (.bl _)) rfl hq⟩) fun _ _ z => .of z
  · exact od_notIn pins s σ H M ds _ _ v u vv uu QD I R rx vx ry vy h
def rdIntX : List Z → DS → QZ → Prop := fun zs ds Q => match zs with
  | [.d (.str a)] => ∃ n, PySem.intText? a = some n ∧ a.length ≤ 640 ∧ Q (.d (.int n)) ds
  | zs => rdInt1 zs ds Q
theorem cd_intX : CallD X g (.type "int") rdIntX := by
  intro pins s σ H M ds zs vs us QD I R rz rv h
  unfold rdIntX at h
  split at h
  · obtain ⟨v, rfl, r1⟩ := zs1 rz
    obtain ⟨n, h1, h2, q⟩ := h
    exact thn (call_int_str pins s σ H _ us _ I rv ⟨_, n, by rw [show v = V.str _ from r1], h1, h2, .same R (z := .d (.int _)) rfl q⟩) fun _ _ z => .of z
  · exact cd_int1 pins s σ H M ds zs vs us QD I R rz rv h
def signD (a : Str) : List D := a.cps.toList.map fun c => D.str ⟨#[c]⟩
theorem itd_str {M1 : List Addr} {ds1 : DS} {H1 : Hp} {a : Str} : ItD X g (Its a) (signD a) M1 ds1 H1 := by
  intro g' i M' ds' σ' H' R m
  refine ⟨fun d hd => ?_, fun hn => ?_⟩
  · unfold signD at hd
    rw [List.getElem?_map] at hd
    obtain ⟨c, hc, rfl⟩ := Option.map_eq_some_iff.mp hd
    rw [Array.getElem?_toList] at hc
    refine ⟨?_, fun x H'' ⟨e1, c', e2, e3⟩ => ?_⟩
    · exact (Array.getElem?_eq_some_iff.mp hc).1
    · subst e1; subst e3
      obtain rfl : c = c' := Option.some.inj (hc.symm.trans e2)
      exact ⟨R, .refl, rfl⟩
  · unfold signD at hn
    rw [List.getElem?_map, Option.map_eq_none_iff, Array.getElem?_toList] at hn
    exact Array.getElem?_eq_none_iff.mp hn
def dItS (te : TD) : TIt := fun ds Q E => te ds (fun z ds1 => kTx (fun a => Q (signD a) ds1) z) E
theorem pxi_str {tg : Expr} (he : PX X g W e te) : PXI X g W tg e (dItS te) := by
  refine .of (pi_str he.pe) fun σ H M ds Q ED R t hE => ?_
  refine lift_in R t hE fun z ds1 M1 v H1 R1 N1 rz q => ?_
  obtain ⟨a, rfl, rfl, q⟩ := txD rz q
  exact ⟨a, rfl, _, ds1, M1, R1, N1, itd_str, q⟩
def TwoE2 (K : PySem.W.Frag) (x y : V) (H : Hp) : Prop := ∃ (a b c d : Addr) (i : Int), x = .ref a ∧ y = .ref b ∧ SqL K H a [.ref c, .int i] ∧ SqL K H b [.ref d, .int i] ∧ H c = some (.dK []) ∧ H d = some (.dK [])
theorem two_run2 {pins : List (Addr × Obj)} {σ : L2.St} {H : Hp} {s : Shared} (I : Inv X pins σ H s) {a b c d : Addr} {i : Int} (ha : SqL X.K H a [.ref c, .int i]) (hb : SqL X.K H b [.ref d, .int i]) (hc : H c = some (.dK [])) (hd : H d = some (.dK [])) (hu : X.A.units + 64 < cLine) :
    ∃ its1 its2 : Array Value, s.heap.IsList a its1 ∧ s.heap.IsList b its2 ∧ its1.size = its2.size ∧ its1.size = 2 ∧ ∀ j (h1 : j < its1.size) (h2 : j < its2.size), SeqAt.EqAt X.A.in1 s its1[j] its2[j] true := by
  obtain ⟨us, r1, p1, _⟩ := I.list ha
  obtain ⟨ws, r2, p2, _⟩ := I.list hb
  cases r1 with
  | cons r11 r12 => cases r12 with
    | cons r13 r14 => cases r14 with
      | nil => cases r2 with
        | cons r21 r22 => cases r22 with
          | cons r23 r24 => cases r24 with
            | nil =>
              cases r11
              cases r21
              obtain ⟨t1, rfl⟩ := r13
              obtain ⟨t2, rfl⟩ := r23
              obtain ⟨_, yc, vc, rc, dc⟩ := (show ObjOk X.prog X.w H s.heap c (.dK []) from I.hok c _ hc)
              obtain ⟨_, yd, vd, rd, dd⟩ := (show ObjOk X.prog X.w H s.heap d (.dK []) from I.hok d _ hd)
              cases rc
              cases rd
              refine ⟨_, _, p1.isList, p2.isList, rfl, rfl, fun j h1 h2 => ?_⟩
              have hj : j = 0 ∨ j = 1 := by simp at h1; omega
              rcases hj with rfl | rfl
              · exact eqAt_empty yc yd dc dd (by show X.A.units + 1 < cLine; omega)
              · have := SeqAt.EqAt.int_int (A := X.A.in1) (s := s) i t1 i t2
                simpa using this
theorem op_eqE2 (hu : X.A.units + 64 < cLine) : OpR X (compareOp .Eq) (fun x y H Q => TwoE2 X.K x y H ∧ Q (.bl true) H) := by
  intro pins s σ H x y v u Q I rx ry h
  obtain ⟨⟨a, b, c, d, i, rfl, rfl, ha, hb, hc, hd⟩, q⟩ := h
  cases (show v = Value.ref a from rx)
  cases (show u = Value.ref b from ry)
  obtain ⟨i1, i2, l1, l2, hs, h1, he⟩ := two_run2 I ha hb hc hd hu
  refine SeqAt.rcP_lists (e := fun _ => true) l1 l2 hs (by omega) (fun j h1 h2 => (he j h1 h2).eqP) _ _ ?_
  rw [h1]
  exact ⟨.bl true, H, I, rfl, q⟩
def rdEqE2 (x y : Z) (ds : DS) (Q : QZ) : Prop := match x, y with
  | .d (.lst [.dic [] [], .int i]), .d (.lst [.dic [] [], .int j]) => i = j ∧ Q (.d (.bl true)) ds
  | _, _ => rdEq x y ds Q
theorem isE2_rep {K : PySem.W.Frag} {own : Addr → Prop} {M : List Addr} {H : Hp} {i : Int} {v : V} (r : RepZ K own M H (.d (.lst [.dic [] [], .int i])) v) : ∃ a c, v = .ref a ∧ SqL K H a [.ref c, .int i] ∧ H c = some (.dK []) := by
  obtain ⟨a, xs, rfl, rl, n, q⟩ := r
  obtain ⟨c, r2, rfl, rd, e⟩ := rl
  obtain ⟨u, r3, rfl, re, e3⟩ := e
  cases (show r3 = [] from e3)
  cases (show u = V.int i from re)
  obtain ⟨p, ys, rfl, ry, _, _, hq⟩ := rd
  cases (show ys = [] from ry)
  exact ⟨a, p, rfl, .of q, hq⟩
theorem od_eqE2 (hu : X.A.units + 64 < cLine) : OpD X g (compareOp .Eq) rdEqE2 := by
  intro pins s σ H M ds x y v u vv uu QD I R rx vx ry vy h
  unfold rdEqE2 at h
  split at h
  · obtain ⟨rfl, h⟩ := h
    obtain ⟨a, c, rfl, h1, h2⟩ := isE2_rep rx
    obtain ⟨b, d, rfl, h3, h4⟩ := isE2_rep ry
    exact thn (op_eqE2 hu pins s σ H _ _ vv uu _ I vx vy ⟨⟨a, b, c, d, _, rfl, rfl, h1, h3, h2, h4⟩, .same R (z := .d (.bl _)) rfl h⟩) fun _ _ z => .of z
  · exact od_eq hu pins s σ H M ds x y v u vv uu QD I R rx vx ry vy h
end
end L3

set_option Elab.async false
set_option linter.all false
set_option maxRecDepth 100000
set_option maxHeartbeats 4000000
namespace L3
open PySem PySem.Spec PyProof.Rows L2
section
variable {X : Cx} {g : G}
theorem fold_rep (c : Nat) : ∀ (n : Nat) (a : Array Nat), ((List.replicate n (#[c] : Array Nat)).foldl (· ++ ·) a).toList = a.toList ++ List.replicate n c
  | 0, a => by simp
  | n + 1, a => by
    rw [List.replicate_succ, List.foldl_cons, fold_rep c n, List.replicate_succ]
    simp
theorem op_mul_sign : OpR X (binaryOp .Mult) (fun x y H Q => ∃ (c : Nat) (n : Nat), x = .str ⟨#[c]⟩ ∧ y = .int (n : Int) ∧ 2 ≤ n ∧ n ≤ 100000 ∧ Q (.str ⟨(List.replicate n c).toArray⟩) H) := by
  intro pins s σ H x y v u Q I rx ry h
  obtain ⟨c, n, rfl, rfl, h1, h2, q⟩ := h
  obtain ⟨t, rfl⟩ := rx
  obtain ⟨t', rfl⟩ := ry
  have e : (⟨(List.replicate ((n : Nat) : Int).toNat (#[c] : Array Nat)).foldl (· ++ ·) #[]⟩ : Str) = ⟨(List.replicate n c).toArray⟩ := by
    refine TL.ext_tl ?_
    show ((List.replicate ((n : Nat) : Int).toNat (#[c] : Array Nat)).foldl (· ++ ·) #[]).toList = List.replicate n c
    rw [fold_rep, Int.toNat_natCast]
    simp
  refine P.mul_str ?_ (fun _ _ => ?_) (fun _ _ => ?_) ?_
  · rw [decide_eq_false (by omega), decide_eq_false (by omega)]; rfl
  · show ¬ ((1 : Int) > (2 ^ 63 - 1) / (n : Int))
    have : 1 ≤ (2 ^ 63 - 1) / (n : Int) := Int.le_ediv_of_mul_le (by omega) (by omega)
    omega
  · unfold Builtin.Str.tooLong
    rw [Int.toNat_natCast]
    refine decide_eq_false ?_
    show ¬ 1 * n > sizeLine
    rw [sizeLine_eq]
    omega
  · rw [if_neg (by omega), if_neg (by
      have e1 : (((n : Nat) : Int) == 1) = false := by
        rw [beq_eq_false_iff_ne]; omega
      have e2 : ((⟨#[c]⟩ : Str).length == 0) = false := rfl
      rw [e1, e2]; decide), e]
    refine ⟨?_, ?_⟩
    · show (List.replicate n c).toArray.size ≤ sizeLine
      rw [List.size_toArray, List.length_replicate, sizeLine_eq]; omega
    · exact ⟨.str ⟨(List.replicate n c).toArray⟩, H, I.tok _, ⟨_, rfl⟩, q⟩
def rdMulS : Z → Z → DS → QZ → Prop := fun x y ds Q => match x with
  | .d (.str a) => match y with
    | .d (.int i) => ∃ (c n : Nat), a = ⟨#[c]⟩ ∧ i = (n : Int) ∧ 2 ≤ n ∧ n ≤ 100000 ∧ Q (.d (.str ⟨(List.replicate n c).toArray⟩)) ds
    | _ => False
  | _ => rdMul x y ds Q
theorem od_mulS : OpD X g (binaryOp .Mult) rdMulS := by
  intro pins s σ H M ds x y v u vv uu QD I R rx vx ry vy h
  unfold rdMulS at h
  split at h
  · split at h
    · obtain ⟨c, n, rfl, rfl, h1, h2, hq⟩ := h
      exact thn (op_mul_sign pins s σ H _ _ vv uu _ I vx vy ⟨c, n, rx, ry, h1, h2, .same R (z := .d (.str _)) rfl hq⟩) fun _ _ z => .of z
    · exact h.elim
  · exact od_mul pins s σ H M ds _ _ v u vv uu QD I R rx vx ry vy h
def TwoT (K : PySem.W.Frag) (x y : V) (H : Hp) : Prop := ∃ (a b c d : Addr) (t : Str), x = .ref a ∧ y = .ref b ∧ SqT K H a [.str t, .ref c] ∧ SqT K H b [.str t, .ref d] ∧ H c = some (.dK []) ∧ H d = some (.dK [])
theorem twoT_run {pins : List (Addr × Obj)} {σ : L2.St} {H : Hp} {s : Shared} (I : Inv X pins σ H s) {a b c d : Addr} {t : Str} (ha : SqT X.K H a [.str t, .ref c]) (hb : SqT X.K H b [.str t, .ref d]) (hc : H c = some (.dK [])) (hd : H d = some (.dK [])) (hu : X.A.units + 64 < cLine) :
    ∃ its1 its2 : Array Value, s.heap.IsTuple a its1 ∧ s.heap.IsTuple b its2 ∧ its1.size = its2.size ∧ its1.size = 2 ∧ ∀ j (h1 : j < its1.size) (h2 : j < its2.size), SeqAt.EqAt X.A.in1 s its1[j] its2[j] true := by
  obtain ⟨us, r1, p1, _⟩ := I.tuple ha
  obtain ⟨ws, r2, p2, _⟩ := I.tuple hb
  cases r1 with
  | cons r11 r12 => cases r12 with
    | cons r13 r14 => cases r14 with
      | nil => cases r2 with
        | cons r21 r22 => cases r22 with
          | cons r23 r24 => cases r24 with
            | nil =>
              obtain ⟨t1, rfl⟩ := r11
              obtain ⟨t2, rfl⟩ := r21
              cases r13
              cases r23
              obtain ⟨_, yc, vc, rc, dc⟩ := (show ObjOk X.prog X.w H s.heap c (.dK []) from I.hok c _ hc)
              obtain ⟨_, yd, vd, rd, dd⟩ := (show ObjOk X.prog X.w H s.heap d (.dK []) from I.hok d _ hd)
              cases rc
              cases rd
              refine ⟨_, _, p1, p2, rfl, rfl, fun j h1 h2 => ?_⟩
              have hj : j = 0 ∨ j = 1 := by simp at h1; omega
              rcases hj with rfl | rfl
              · have := SeqAt.EqAt.str_str (A := X.A.in1) (s := s) t t1 t t2
                simpa using this
              · exact eqAt_empty yc yd dc dd (by show X.A.units + 1 < cLine; omega)
theorem op_neT2 (hu : X.A.units + 64 < cLine) : OpR X (compareOp .NotEq) (fun x y H Q => TwoT X.K x y H ∧ Q (.bl false) H) := by
  intro pins s σ H x y v u Q I rx ry h
  obtain ⟨⟨a, b, c, d, t, rfl, rfl, ha, hb, hc, hd⟩, q⟩ := h
  cases (show v = Value.ref a from rx)
  cases (show u = Value.ref b from ry)
  obtain ⟨i1, i2, l1, l2, hs, h1, he⟩ := twoT_run I ha hb hc hd hu
  refine SeqAt.RcNeAt.tuples (e := fun _ => true) l1 l2 (by omega) he _ _ _ _ ?_
  rw [← hs, h1]
  exact ⟨.bl false, H, I, rfl, q⟩
def rdNeT2 (x y : Z) (ds : DS) (Q : QZ) : Prop := match x, y with
  | .d (.tup [.str s, .dic [] []]), .d (.tup [.str t, .dic [] []]) => s = t ∧ Q (.d (.bl false)) ds
  | _, _ => rdNe x y ds Q
theorem isT2_rep {K : PySem.W.Frag} {own : Addr → Prop} {M : List Addr} {H : Hp} {s : Str} {v : V} (r : RepZ K own M H (.d (.tup [.str s, .dic [] []])) v) : ∃ a c, v = .ref a ∧ SqT K H a [.str s, .ref c] ∧ H c = some (.dK []) := by
  obtain ⟨a, xs, rfl, rl, hq⟩ := r
  obtain ⟨u, r2, rfl, re, e⟩ := rl
  obtain ⟨c, r3, rfl, rd, e3⟩ := e
  cases (show r3 = [] from e3)
  cases (show u = V.str s from re)
  obtain ⟨p, ys, rfl, ry, _, _, hd⟩ := rd
  cases (show ys = [] from ry)
  exact ⟨a, p, rfl, sqT_of hq, hd⟩
theorem od_neT2 (hu : X.A.units + 64 < cLine) : OpD X g (compareOp .NotEq) rdNeT2 := by
  intro pins s σ H M ds x y v u vv uu QD I R rx vx ry vy h
  unfold rdNeT2 at h
  split at h
  · obtain ⟨rfl, h⟩ := h
    obtain ⟨a, c, rfl, h1, h2⟩ := isT2_rep rx
    obtain ⟨b, d, rfl, h3, h4⟩ := isT2_rep ry
    exact thn (op_neT2 hu pins s σ H _ _ vv uu _ I vx vy ⟨⟨a, b, c, d, _, rfl, rfl, h1, h3, h2, h4⟩, .same R (z := .d (.bl _)) rfl h⟩) fun _ _ z => .of z
  · exact od_ne hu pins s σ H M ds x y v u vv uu QD I R rx vx ry vy h
theorem neT2_of {a b : D} {ds : DS} {Q : QZ} (ha : ∀ s, a ≠ .tup [.str s, .dic [] []]) (h : rdNe (.d a) (.d b) ds Q) : rdNeT2 (.d a) (.d b) ds Q := by
  unfold rdNeT2
  split
  · rename_i e1 e2
    injection e1 with e1
    exact absurd e1 (ha _)
  · exact h
end
end L3

set_option linter.all false
namespace Fs
/-- the sum of f 0 .. f (n - 1) -/
def sm (f : Nat → Int) : Nat → Int
  | 0 => 0
  | n + 1 => sm f n + f n
theorem sm_congr {f h : Nat → Int} : ∀ {n : Nat}, (∀ i, i < n → f i = h i) → sm f n = sm h n
  | 0, _ => rfl
  | n + 1, e => by
    show sm f n + f n = sm h n + h n
    rw [sm_congr fun i hi => e i (by omega), e n (by omega)]
theorem sm_add (f h : Nat → Int) : ∀ n, sm (fun i => f i + h i) n = sm f n + sm h n
  | 0 => rfl
  | n + 1 => by
    show sm _ n + (f n + h n) = sm f n + f n + (sm h n + h n)
    rw [sm_add f h n]; omega
theorem sm_const (c : Int) : ∀ n : Nat, sm (fun _ => c) n = n * c
  | 0 => by simp [sm]
  | n + 1 => by
    show sm _ n + c = _
    rw [sm_const c n, Int.natCast_add, Int.add_mul]; simp
theorem sm_mul (c : Int) (f : Nat → Int) : ∀ n : Nat, sm (fun i => c * f i) n = c * sm f n
  | 0 => by simp [sm]
  | n + 1 => by
    show sm _ n + c * f n = c * (sm f n + f n)
    rw [sm_mul c f n, Int.mul_add]
theorem sm_split (f : Nat → Int) (n : Nat) : ∀ m : Nat, sm f (n + m) = sm f n + sm (fun i => f (n + i)) m
  | 0 => by simp [sm]
  | m + 1 => by
    show sm f (n + m) + f (n + m) = sm f n + (sm _ m + f (n + m))
    rw [sm_split f n m]; omega
theorem sm_head (f : Nat → Int) (n : Nat) : sm f (n + 1) = f 0 + sm (fun i => f (i + 1)) n := by
  have := sm_split f 1 n
  rw [Nat.add_comm 1 n] at this
  rw [this]
  show 0 + f 0 + _ = _
  rw [Int.zero_add]
  congr 1
  exact sm_congr fun i _ => by rw [Nat.add_comm]
theorem sm_rev (f : Nat → Int) : ∀ n : Nat, sm (fun i => f (n - 1 - i)) n = sm f n
  | 0 => rfl
  | n + 1 => by
    rw [sm_head]
    show f (n + 1 - 1 - 0) + sm (fun i => f (n + 1 - 1 - (i + 1))) n = sm f n + f n
    have e : sm (fun i => f (n + 1 - 1 - (i + 1))) n = sm (fun i => f (n - 1 - i)) n := sm_congr fun i _ => by
      rw [show n + 1 - 1 - (i + 1) = n - 1 - i by omega]
    rw [e, sm_rev f n]
    simp [Int.add_comm]
theorem sm_id : ∀ n : Nat, 2 * sm (fun i => (i : Int)) n = n * (n - 1)
  | 0 => rfl
  | n + 1 => by
    show 2 * (sm _ n + (n : Int)) = _
    rw [Int.mul_add, sm_id n, Int.natCast_add]
    have : ((n : Int) + (1 : Nat)) * ((n : Int) + (1 : Nat) - 1) = n * (n - 1) + 2 * n := by
      show ((n : Int) + 1) * ((n : Int) + 1 - 1) = _
      rw [Int.add_sub_cancel, Int.add_mul, Int.mul_sub]
      omega
    rw [this]
theorem sm_id' (n : Nat) : sm (fun i => (i : Int)) n = (n : Int) * (n - 1) / 2 := by
  have := sm_id n
  omega
/-- the sum of (a * i + b) / m, i from 0 to n - 1 -/
def FN (n : Nat) (a b m : Int) : Int := sm (fun i => (a * i + b) / m) n
def FS (n a b m : Int) : Int := FN n.toNat a b m
theorem FN_part (n k : Nat) (a b m : Int) : FN (n + k) a b m = FN n a b m + FN k a (a * n + b) m := by
  unfold FN
  rw [sm_split]
  congr 1
  exact sm_congr fun i _ => by
    rw [Int.natCast_add, Int.mul_add]
    congr 1; omega
theorem FN_more (n : Nat) (a b m i j : Int) (hm : 0 < m) : FN n (a + i * m) (b + j * m) m = FN n a b m + i * ((n : Int) * (n - 1) / 2) + j * n := by
  unfold FN
  have e : ∀ k : Nat, ((a + i * m) * k + (b + j * m)) / m = (a * k + b) / m + (i * k + j) := fun k => by
    have : (a + i * m) * k + (b + j * m) = (a * k + b) + m * (i * k + j) := by
      rw [Int.add_mul, Int.mul_add]
      have h1 : i * m * (k : Int) = m * (i * k) := by rw [Int.mul_comm i m, Int.mul_assoc]
      have h2 : j * m = m * j := Int.mul_comm _ _
      rw [h1, h2]; omega
    rw [this, Int.add_mul_ediv_left _ _ (by omega)]
  rw [sm_congr fun k _ => e k, sm_add, sm_add, sm_mul, sm_const, sm_id']
  rw [Int.mul_comm j n]; omega
theorem FN_rev (n : Nat) (a b m : Int) : FN n (0 - a) (a * (n - 1) + b) m = FN n a b m := by
  unfold FN
  rw [← sm_rev (fun i => (a * (i : Nat) + b) / m) n]
  refine sm_congr fun i hi => ?_
  congr 1
  have : ((n - 1 - i : Nat) : Int) = (n : Int) - 1 - i := by omega
  rw [this, Int.mul_sub, Int.mul_sub, Int.mul_sub, Int.sub_mul]
  omega
theorem FN_scale (n : Nat) (a b m k : Int) (hk : 0 < k) : FN n (a * k) (b * k) (m * k) = FN n a b m := by
  unfold FN
  refine sm_congr fun i _ => ?_
  have : a * k * i + b * k = (a * i + b) * k := by
    rw [Int.add_mul, Int.mul_assoc, Int.mul_comm k i, ← Int.mul_assoc]
  rw [this, Int.mul_ediv_mul_of_pos_left _ _ hk]
theorem neg_div (x m : Int) (hm : 0 < m) : (0 - x) / m = 0 - (x + m - 1) / m := by
  have h1 := Int.mul_ediv_add_emod (x + m - 1) m
  have h2 := Int.emod_nonneg (x + m - 1) (by omega : m ≠ 0)
  have h3 := Int.emod_lt_of_pos (x + m - 1) hm
  have e : 0 - x = (m - 1 - (x + m - 1) % m) + m * (0 - (x + m - 1) / m) := by
    rw [Int.mul_sub]; omega
  rw [e, Int.add_mul_ediv_left _ _ (by omega), Int.ediv_eq_zero_of_lt (by omega) (by omega)]
  omega
theorem FN_neg (n : Nat) (a b m : Int) (hm : 0 < m) : FN n (0 - a) (0 - b) m = 0 - FN n a (b + m - 1) m := by
  unfold FN
  have : sm (fun i => ((0 - a) * (i : Nat) + (0 - b)) / m) n = sm (fun i => (-1) * ((a * (i : Nat) + (b + m - 1)) / m)) n := sm_congr fun i _ => by
    have e : (0 - a) * (i : Int) + (0 - b) = 0 - (a * i + b) := by rw [Int.sub_mul]; omega
    rw [e, neg_div _ _ hm]
    have e2 : a * (i : Int) + b + m - 1 = a * i + (b + m - 1) := by omega
    rw [e2]; omega
  rw [this, sm_mul]; omega
/-- y is the sum of (y + t) / k over t from 0 to k - 1 -/
theorem hermite (y : Int) (k : Nat) (hk : 0 < k) : sm (fun t => (y + t) / (k : Int)) k = y := by
  -- split y = q * k + r
  have hk' : (0 : Int) < k := by omega
  have e := Int.mul_ediv_add_emod y k
  have r0 := Int.emod_nonneg y (by omega : (k : Int) ≠ 0)
  have r1 := Int.emod_lt_of_pos y hk'
  obtain ⟨r, hr⟩ : ∃ r : Nat, y % (k : Int) = r := ⟨(y % (k : Int)).toNat, by omega⟩
  have hrk : r < k := by omega
  have e1 : ∀ t : Nat, (y + t) / (k : Int) = y / k + ((r : Int) + t) / k := fun t => by
    have : y + (t : Int) = ((r : Int) + t) + k * (y / k) := by omega
    rw [this, Int.add_mul_ediv_left _ _ (by omega)]
    omega
  rw [sm_congr fun t _ => e1 t, sm_add, sm_const]
  -- the last r of the k terms are 1
  have e2 : sm (fun t => ((r : Int) + t) / (k : Int)) k = r := by
    have hkk : k = (k - r) + r := by omega
    have : sm (fun t => ((r : Int) + t) / (k : Int)) ((k - r) + r) = r := by
      rw [sm_split]
      have z1 : sm (fun t => ((r : Int) + t) / (k : Int)) (k - r) = sm (fun _ => 0) (k - r) := sm_congr fun t ht => Int.ediv_eq_zero_of_lt (by omega) (by omega)
      have z2 : sm (fun i => ((r : Int) + ((k - r + i : Nat) : Int)) / (k : Int)) r = sm (fun _ => 1) r := sm_congr fun t ht => by
        have : (r : Int) + ((k - r + t : Nat) : Int) = t + k * 1 := by omega
        rw [this, Int.add_mul_ediv_left _ _ (by omega), Int.ediv_eq_zero_of_lt (by omega) (by omega)]
        rfl
      rw [z1, z2, sm_const, sm_const]; omega
    rw [← hkk] at this
    exact this
  rw [e2]; omega
theorem div_div (x m k : Int) (hm : 0 < m) (hk : 0 < k) : x / (k * m) = (x / m) / k := by
  rw [Int.mul_comm, Int.ediv_ediv_of_nonneg (by omega)]
theorem sm_swap (f : Nat → Nat → Int) (n : Nat) : ∀ k : Nat, sm (fun t => sm (fun i => f t i) n) k = sm (fun i => sm (fun t => f t i) k) n
  | 0 => by
    show 0 = sm (fun _ => 0) n
    rw [sm_const]; omega
  | k + 1 => by
    show sm _ k + sm (fun i => f k i) n = _
    rw [sm_swap f n k, ← sm_add]
    rfl
theorem FN_parts (n : Nat) (a b m : Int) (k : Nat) (hm : 0 < m) (hk : 0 < k) : sm (fun t => FN n a (b + t * m) (k * m)) k = FN n a b m := by
  unfold FN
  rw [sm_swap]
  refine sm_congr fun i _ => ?_
  have e : ∀ t : Nat, (a * (i : Int) + (b + t * m)) / (k * m) = ((a * i + b) / m + t) / k := fun t => by
    rw [div_div _ _ _ hm (by omega)]
    have : a * (i : Int) + (b + t * m) = (a * i + b) + m * t := by rw [Int.mul_comm (t : Int) m]; omega
    rw [this, Int.add_mul_ediv_left _ _ (by omega)]
  rw [sm_congr fun t _ => e t, hermite _ _ hk]
theorem FN_last (n : Nat) (a b m : Int) : FN (n + 1) a b m = FN n a b m + (a * n + b) / m := rfl
/-- how many of c 1 .. c N are at most n, weighted: R -/
theorem lattice (a b m : Int) (ha : 0 < a) (hb : 0 ≤ b) (hbm : b < m) (n : Nat) :
    FN n a b m = sm (fun j => (n : Int) - (m * (j + 1) - b + a - 1) / a) ((a * n + b) / m).toNat := by
  induction n with
  | zero =>
    have : (a * ((0 : Nat) : Int) + b) / m = 0 := by
      rw [Int.natCast_zero, Int.mul_zero, Int.zero_add]
      exact Int.ediv_eq_zero_of_lt hb hbm
    rw [this]; rfl
  | succ n ih =>
    rw [FN_last, ih]
    have hm : 0 < m := by omega
    have hN : 0 ≤ (a * (n : Int) + b) / m := Int.ediv_nonneg (by have := Int.mul_nonneg (Int.le_of_lt ha) (Int.natCast_nonneg n); omega) (by omega)
    have hle : (a * (n : Int) + b) / m ≤ (a * ((n + 1 : Nat) : Int) + b) / m := Int.ediv_le_ediv hm (by rw [Int.natCast_add, Int.mul_add]; omega)
    obtain ⟨N, hN'⟩ : ∃ N : Nat, (a * (n : Int) + b) / m = N := ⟨_, (Int.toNat_of_nonneg hN).symm⟩
    obtain ⟨d, hd⟩ : ∃ d : Nat, (a * ((n + 1 : Nat) : Int) + b) / m = N + d := ⟨((a * ((n + 1 : Nat) : Int) + b) / m - N).toNat, by omega⟩
    rw [hN', hd]
    have t1 : ((N : Int)).toNat = N := by omega
    have t2 : ((N : Int) + d).toNat = N + d := by omega
    rw [t1, t2, sm_split]
    have e1 : sm (fun j => ((n + 1 : Nat) : Int) - (m * (j + 1) - b + a - 1) / a) N = sm (fun j => (n : Int) - (m * (j + 1) - b + a - 1) / a) N + N := by
      have : ∀ j : Nat, ((n + 1 : Nat) : Int) - (m * ((j : Int) + 1) - b + a - 1) / a = ((n : Int) - (m * (j + 1) - b + a - 1) / a) + 1 := fun j => by omega
      rw [sm_congr fun j _ => this j, sm_add, sm_const]; omega
    have e2 : sm (fun i => ((n + 1 : Nat) : Int) - (m * (((N + i : Nat) : Int) + 1) - b + a - 1) / a) d = sm (fun _ => 0) d := sm_congr fun i hi => by
      -- c = n + 1
      have q1 : a * (n : Int) + b < m * (((N + i : Nat) : Int) + 1) := by
        have h1 := Int.lt_mul_ediv_self_add (x := a * (n : Int) + b) hm
        rw [hN'] at h1
        have h2 : m * ((N : Int) + 1) ≤ m * (((N + i : Nat) : Int) + 1) := Int.mul_le_mul_of_nonneg_left (by omega) (by omega)
        rw [Int.mul_add, Int.mul_one] at h2
        omega
      have q2 : m * (((N + i : Nat) : Int) + 1) ≤ a * ((n + 1 : Nat) : Int) + b := by
        have h1 := Int.mul_ediv_self_le (x := a * ((n + 1 : Nat) : Int) + b) (k := m) (by omega)
        rw [hd] at h1
        have h2 : m * (((N + i : Nat) : Int) + 1) ≤ m * ((N : Int) + d) := Int.mul_le_mul_of_nonneg_left (by omega) (by omega)
        omega
      have q4 : m * (((N + i : Nat) : Int) + 1) ≤ a * ((n + 1 : Nat) : Int) + b → m * (((N + i : Nat) : Int) + 1) - b - 1 - a * n < a := fun q => by
        have q4 : a * ((n + 1 : Nat) : Int) = a * n + a := by rw [Int.natCast_add, Int.mul_add]; omega
        omega
      have q3 : (m * (((N + i : Nat) : Int) + 1) - b + a - 1) / a = (n : Int) + 1 := by
        have e : m * (((N + i : Nat) : Int) + 1) - b + a - 1 = (m * (((N + i : Nat) : Int) + 1) - b - 1 - a * n) + a * ((n : Int) + 1) := by
          rw [Int.mul_add a]; omega
        rw [e, Int.add_mul_ediv_left _ _ (by omega), Int.ediv_eq_zero_of_lt (by omega) (q4 q2)]
        omega
      rw [q3]; omega
    rw [e1, e2, sm_const]; omega
theorem euclid (a b m : Int) (ha : 0 < a) (hb : 0 ≤ b) (hbm : b < m) (n : Nat) : FN n a b m = FN ((a * n + b) / m).toNat m ((a * n + b) % m) a := by
  have hm : 0 < m := by omega
  rw [lattice a b m ha hb hbm n]
  have hN : 0 ≤ (a * (n : Int) + b) / m := Int.ediv_nonneg (by have := Int.mul_nonneg (Int.le_of_lt ha) (Int.natCast_nonneg n); omega) (by omega)
  obtain ⟨N, hN'⟩ : ∃ N : Nat, (a * (n : Int) + b) / m = N := ⟨_, (Int.toNat_of_nonneg hN).symm⟩
  have hdm := Int.mul_ediv_add_emod (a * (n : Int) + b) m
  rw [hN'] at hdm ⊢
  rw [Int.toNat_natCast]
  unfold FN
  rw [← sm_rev (fun j => (m * (j : Nat) + (a * (n : Int) + b) % m) / a) N]
  refine sm_congr fun j hj => ?_
  have e : ((N - 1 - j : Nat) : Int) = (N : Int) - 1 - j := by omega
  show (n : Int) - (m * ((j : Int) + 1) - b + a - 1) / a = (m * ((N - 1 - j : Nat) : Int) + (a * (n : Int) + b) % m) / a
  rw [e]
  have e2 : m * ((N : Int) - 1 - j) + (a * (n : Int) + b) % m = (0 - (m * (j + 1) - b)) + a * n := by
    rw [Int.mul_sub, Int.mul_sub, Int.mul_add]; omega
  rw [e2, Int.add_mul_ediv_left _ _ (by omega), neg_div _ _ ha]
  have e3 : m * ((j : Int) + 1) - b + a - 1 = m * (j + 1) - b + a - 1 := rfl
  omega
/-- one turn of floor_total -/
theorem FS_turn (n a b m : Int) (hn : 0 < n) (hm : 0 < m) : FS n a b m = n * (n - 1) / 2 * (a / m) + n * (b / m) + FS ((a % m * n + b % m) / m) m ((a % m * n + b % m) % m) (a % m) := by
  obtain ⟨k, rfl⟩ : ∃ k : Nat, n = k := ⟨n.toNat, by omega⟩
  unfold FS
  rw [Int.toNat_natCast]
  have ea := Int.mul_ediv_add_emod a m
  have eb := Int.mul_ediv_add_emod b m
  have e1 : FN k a b m = FN k (a % m + a / m * m) (b % m + b / m * m) m := by
    rw [Int.mul_comm (a / m) m, Int.mul_comm (b / m) m, Int.add_comm (a % m), Int.add_comm (b % m), ea, eb]
  rw [e1, FN_more _ _ _ _ _ _ hm]
  have a0 := Int.emod_nonneg a (by omega : m ≠ 0)
  have a1 := Int.emod_lt_of_pos a hm
  have b0 := Int.emod_nonneg b (by omega : m ≠ 0)
  have b1 := Int.emod_lt_of_pos b hm
  have key : FN k (a % m) (b % m) m = FN ((a % m * (k : Int) + b % m) / m).toNat m ((a % m * (k : Int) + b % m) % m) (a % m) := by
    by_cases h0 : a % m = 0
    · rw [h0, Int.zero_mul, Int.zero_add, Int.ediv_eq_zero_of_lt b0 b1]
      unfold FN
      have : sm (fun i => (0 * (i : Int) + b % m) / m) k = sm (fun _ => 0) k := sm_congr fun i _ => by
        rw [Int.zero_mul, Int.zero_add]; exact Int.ediv_eq_zero_of_lt b0 b1
      rw [this, sm_const]
      show (k : Int) * 0 = 0
      omega
    · exact euclid _ _ _ (by omega) b0 b1 k
  rw [key, Int.mul_comm (a / m), Int.mul_comm (b / m)]
  omega
theorem FS_le (n a b m : Int) (hn : n ≤ 0) : FS n a b m = 0 := by
  unfold FS
  rw [show n.toNat = 0 by omega]; rfl
theorem next_le (n a b m : Int) (hn : 0 < n) (hm : 0 < m) : (a % m * n + b % m) / m ≤ n := by
  have a1 := Int.emod_lt_of_pos a hm
  have b1 := Int.emod_lt_of_pos b hm
  have h : a % m * n ≤ (m - 1) * n := Int.mul_le_mul_of_nonneg_right (by omega) (by omega)
  rw [Int.sub_mul] at h
  have h2 : (a % m * n + b % m) / m < n + 1 := by
    refine Int.ediv_lt_of_lt_mul hm ?_
    rw [Int.add_mul, Int.mul_comm n m]
    omega
  omega
theorem FS_part (n p a b m : Int) (h0 : 0 ≤ p) (h1 : p ≤ n) : FS p a b m + FS (n - p) a (a * p + b) m = FS n a b m := by
  unfold FS
  have e : n.toNat = p.toNat + (n - p).toNat := by omega
  have e2 : ((p.toNat : Nat) : Int) = p := by omega
  rw [e, FN_part, e2]
theorem FS_more (n a b m i j : Int) (hn : 0 ≤ n) (hm : 0 < m) : FS n (a + i * m) (b + j * m) m = FS n a b m + i * (n * (n - 1) / 2) + j * n := by
  unfold FS
  have e2 : ((n.toNat : Nat) : Int) = n := by omega
  rw [FN_more _ _ _ _ _ _ hm, e2]
theorem FS_rev (n a b m : Int) (hn : 0 ≤ n) : FS n (0 - a) (a * (n - 1) + b) m = FS n a b m := by
  unfold FS
  have e2 : ((n.toNat : Nat) : Int) = n := by omega
  have := FN_rev n.toNat a b m
  rwa [e2] at this
theorem FS_scale (n a b m k : Int) (hk : 0 < k) : FS n (a * k) (b * k) (m * k) = FS n a b m := FN_scale _ _ _ _ _ hk
theorem FS_neg (n a b m : Int) (hm : 0 < m) : FS n (0 - a) (0 - b) m = 0 - FS n a (b + m - 1) m := FN_neg _ _ _ _ hm
theorem sum_range (f : Nat → Int) : ∀ n : Nat, ((List.range n).map f).sum = sm f n
  | 0 => rfl
  | n + 1 => by
    rw [List.range_succ, List.map_append, List.sum_append, sum_range f n]
    show sm f n + (f n + 0) = sm f n + f n
    omega
theorem FS_parts (n a b m k : Int) (hm : 0 < m) (hk : 0 < k) : ((List.range k.toNat).map fun t => FS n a (b + (0 + (t : Nat)) * m) (k * m)).sum = FS n a b m := by
  rw [sum_range]
  have e2 : ((k.toNat : Nat) : Int) = k := by omega
  have := FN_parts n.toNat a b m k.toNat hm (by omega)
  rw [e2] at this
  unfold FS
  rw [← this]
  refine sm_congr fun t _ => ?_
  rw [Int.zero_add]
theorem FS_last (n a b m : Int) (hn : 0 < n) : FS n a b m - FS (n - 1) a b m = (a * (n - 1) + b) / m := by
  unfold FS
  have e : n.toNat = (n - 1).toNat + 1 := by omega
  have e2 : (((n - 1).toNat : Nat) : Int) = n - 1 := by omega
  rw [e, FN_last, e2]
  omega
theorem sm_abs (f : Nat → Int) (B : Nat) (n : Nat) (h : ∀ i, i < n → (f i).natAbs ≤ B) : (sm f n).natAbs ≤ n * B := by
  induction n with
  | zero => simp [sm]
  | succ n ih =>
    have h1 := ih fun i hi => h i (by omega)
    have h2 := h n (by omega)
    show (sm f n + f n).natAbs ≤ _
    rw [Nat.add_mul, Nat.one_mul]
    omega
theorem FN_abs (n : Nat) (a b m : Int) (hm : 0 < m) : (FN n a b m).natAbs ≤ n * (a.natAbs * n + b.natAbs) := by
  refine sm_abs _ _ _ fun i hi => ?_
  have h1 : ((a * (i : Int) + b) / m).natAbs ≤ (a * (i : Int) + b).natAbs := Int.natAbs_ediv_le_natAbs _ _
  have h2 : (a * (i : Int) + b).natAbs ≤ (a * (i : Int)).natAbs + b.natAbs := Int.natAbs_add_le _ _
  rw [Int.natAbs_mul, Int.natAbs_natCast] at h2
  have h3 : a.natAbs * i ≤ a.natAbs * n := Nat.mul_le_mul_left _ (by omega)
  omega
theorem FS_abs (n a b m : Int) (hm : 0 < m) : (FS n a b m).natAbs ≤ n.natAbs * (a.natAbs * n.natAbs + b.natAbs) := by
  refine Nat.le_trans (FN_abs n.toNat a b m hm) ?_
  have : n.toNat ≤ n.natAbs := by omega
  exact Nat.mul_le_mul this (Nat.add_le_add_right (Nat.mul_le_mul_left _ this) _)
theorem FS_sum (n : Nat) (a b m : Int) : ((List.range n).map fun t => (a * (t : Nat) + b) / m).sum = FS n a b m := by
  rw [sum_range]
  unfold FS FN
  rw [Int.toNat_natCast]
end Fs

set_option linter.all false
namespace Rl
open Fs
/-- the divisor of a triple -/
def gd (p q : Int) : Int := (Int.gcd p q : Int)
def red (p q c : Int) : Int × Int × Int := (p / gd p q, q / gd p q, c / gd p q)
theorem gd_pos {p q : Int} (hp : 0 ≤ p) (hq : 1 ≤ q) : 0 < gd p q ∧ gd p q ≤ q := by
  have h : Int.gcd p q ≠ 0 := fun z => by
    have := (Int.gcd_eq_zero_iff.mp z).2
    omega
  have h2 : (Int.gcd p q : Int) ∣ q := Int.gcd_dvd_right ..
  unfold gd
  exact ⟨by omega, Int.le_of_dvd (by omega) h2⟩
theorem gd_p (p q : Int) : p = gd p q * (p / gd p q) := (Int.mul_ediv_cancel' (Int.gcd_dvd_left ..)).symm
theorem gd_q (p q : Int) : q = gd p q * (q / gd p q) := (Int.mul_ediv_cancel' (Int.gcd_dvd_right ..)).symm
theorem gd_scale (k p q : Int) (hk : 0 < k) : gd (k * p) (k * q) = k * gd p q := by
  unfold gd
  rw [Int.gcd_mul_left, Int.natCast_mul]
  congr 1
  omega
theorem red_scale (k p q c r : Int) (hk : 0 < k) (hq : 1 ≤ q) (hp : 0 ≤ p) (h0 : 0 ≤ r) (h1 : r < k) : red (k * p) (k * q) (k * c + r) = red p q c := by
  unfold red
  rw [gd_scale k p q hk]
  obtain ⟨hg, _⟩ := gd_pos hp hq
  rw [Int.mul_ediv_mul_of_pos _ _ hk, Int.mul_ediv_mul_of_pos _ _ hk]
  congr 2
  rw [← Int.ediv_ediv_of_nonneg (by omega : 0 ≤ k)]
  congr 1
  rw [Int.add_comm, Int.add_mul_ediv_left _ _ (by omega), Int.ediv_eq_zero_of_lt h0 h1]
  omega
/-- in lowest terms -/
def Ok (p q : Int) : Prop := 0 ≤ p ∧ 1 ≤ q ∧ Int.gcd p q = 1
theorem red_ok {p q : Int} (hp : 0 ≤ p) (hq : 1 ≤ q) : Ok (p / gd p q) (q / gd p q) := by
  obtain ⟨hg, hgq⟩ := gd_pos hp hq
  refine ⟨Int.ediv_nonneg hp (by omega), Int.le_ediv_of_mul_le hg (by omega), ?_⟩
  exact Int.gcd_ediv_gcd_ediv_gcd_of_ne_zero_right (by omega)
theorem red_self {p q : Int} (c : Int) (h : Int.gcd p q = 1) : red p q c = (p, q, c) := by
  unfold red gd
  rw [h]; simp
/-- the parts of a reduced triple -/
theorem red_parts (p q c : Int) (hp : 0 ≤ p) (hq : 1 ≤ q) : ∃ g P Q C r, 0 < g ∧ 0 ≤ r ∧ r < g ∧ p = g * P ∧ q = g * Q ∧ c = g * C + r ∧ Ok P Q ∧ red p q c = (P, Q, C) ∧ g = gd p q := by
  obtain ⟨hg, _⟩ := gd_pos hp hq
  refine ⟨gd p q, p / gd p q, q / gd p q, c / gd p q, c % gd p q, hg, Int.emod_nonneg _ (by omega), Int.emod_lt_of_pos _ hg, gd_p p q, gd_q p q, (Int.mul_ediv_add_emod c (gd p q)).symm, red_ok hp hq, rfl, rfl⟩
theorem Ok.red {P Q C : Int} (h : Ok P Q) : red P Q C = (P, Q, C) := red_self C h.2.2
/-- the counts of a reduced triple -/
theorem cnt_scale (g P Q C r t : Int) (hg : 0 < g) (h0 : 0 ≤ r) (h1 : r < g) : (g * P * t + (g * C + r)) / (g * Q) = (P * t + C) / Q := by
  rw [← Int.ediv_ediv_of_nonneg (by omega : 0 ≤ g)]
  congr 1
  have : g * P * t + (g * C + r) = r + g * (P * t + C) := by rw [Int.mul_add, Int.mul_assoc]; omega
  rw [this, Int.add_mul_ediv_left _ _ (by omega), Int.ediv_eq_zero_of_lt h0 h1]
  omega
theorem cnt_red (p q c t : Int) (hp : 0 ≤ p) (hq : 1 ≤ q) : ((red p q c).1 * t + (red p q c).2.2) / (red p q c).2.1 = (p * t + c) / q := by
  obtain ⟨g, P, Q, C, r, hg, h0, h1, rfl, rfl, rfl, _, e, _⟩ := red_parts p q c hp hq
  rw [e]
  exact (cnt_scale g P Q C r t hg h0 h1).symm
theorem FS_congr {n a b m a' b' m' : Int} (h : ∀ i : Nat, (a * i + b) / m = (a' * i + b') / m') : FS n a b m = FS n a' b' m' := sm_congr fun i _ => h i
/-- sums of the counts of a reduced triple -/
theorem FS_red (n p q c s : Int) (hp : 0 ≤ p) (hq : 1 ≤ q) : FS n (red p q c).1 ((red p q c).1 * s + (red p q c).2.2) (red p q c).2.1 = FS n p (p * s + c) q := by
  refine FS_congr fun i => ?_
  have := cnt_red p q c (i + s) hp hq
  rw [Int.mul_add, Int.mul_add, Int.add_assoc, Int.add_assoc] at this
  exact this
/-- over one cycle -/
theorem FS_cycle (q : Nat) : ∀ p b : Int, 0 < q → 0 ≤ p → Int.gcd p q = 1 → 2 * FS q p b q = 2 * b + (p - 1) * ((q : Int) - 1) := by
  induction q using Nat.strongRecOn with
  | ind q ih =>
    intro p b hq hp hg
    have hq' : (0 : Int) < q := by omega
    rw [FS_turn q p b q hq' hq']
    have a0 := Int.emod_nonneg p (by omega : (q : Int) ≠ 0)
    have a1 := Int.emod_lt_of_pos p hq'
    have b0 := Int.emod_nonneg b (by omega : (q : Int) ≠ 0)
    have b1 := Int.emod_lt_of_pos b hq'
    have e1 : (p % q * (q : Int) + b % q) / q = p % q := by
      rw [Int.add_comm, Int.add_mul_ediv_right _ _ (by omega), Int.ediv_eq_zero_of_lt b0 b1]; omega
    have e2 : (p % q * (q : Int) + b % q) % q = b % q := by
      rw [Int.add_comm, Int.add_mul_emod_self_right, Int.emod_emod_of_dvd _ (Int.dvd_refl _)]
    rw [e1, e2]
    have hev : 2 * ((q : Int) * (q - 1) / 2) = q * (q - 1) := by
      have := sm_id q
      have := sm_id' q
      omega
    have ep := Int.mul_ediv_add_emod p q
    have eb := Int.mul_ediv_add_emod b q
    have hg2 : Int.gcd (q : Int) (p % q) = 1 := by
      have : Int.gcd (q : Int) (p % q) = Int.gcd p q := by
        obtain ⟨m, rfl⟩ := Int.eq_ofNat_of_zero_le hp
        show Nat.gcd q (m % q) = Nat.gcd m q
        rw [Nat.gcd_comm q, ← Nat.gcd_rec, Nat.gcd_comm]
      rw [this, hg]
    obtain ⟨r, hr⟩ : ∃ r : Nat, p % (q : Int) = r := ⟨(p % (q : Int)).toNat, by omega⟩
    rw [hr] at hg2 a1 ep ⊢
    have lhs : 2 * ((q : Int) * (q - 1) / 2 * (p / q) + q * (b / q) + FS r q (b % q) r) = (q * (q - 1)) * (p / q) + 2 * (q * (b / q)) + 2 * FS r q (b % q) r := by
      rw [Int.mul_add, Int.mul_add, ← Int.mul_assoc 2 ((q : Int) * (q - 1) / 2), hev]
    rw [lhs]
    by_cases h0 : r = 0
    · subst h0
      have hq1 : q = 1 := by
        have : Int.gcd (q : Int) ((0 : Nat) : Int) = q := by
          show Int.gcd (q : Int) 0 = q
          rw [Int.gcd_zero_right]; omega
        omega
      subst hq1
      have : FS ((0 : Nat) : Int) ((1 : Nat) : Int) (b % ((1 : Nat) : Int)) ((0 : Nat) : Int) = 0 := FS_le _ _ _ _ (by decide)
      rw [this]
      simp
    · have := ih r (by omega) (q : Int) (b % q) (by omega) (by omega) hg2
      rw [this]
      have e3 : (p - 1) * ((q : Int) - 1) = (q * (p / q) + r - 1) * (q - 1) := by rw [ep]
      rw [e3]
      have e4 : (q : Int) * (q - 1) * (p / q) = q * (p / q) * (q - 1) := by rw [Int.mul_assoc, Int.mul_assoc, Int.mul_comm ((q : Int) - 1)]
      rw [e4, show (q : Int) * (p / q) + r - 1 = q * (p / q) + (r - 1) by omega, Int.add_mul, Int.mul_comm ((q : Int) - 1)]
      omega
theorem cycle (p q b : Int) (h : Ok p q) : FS q p b q = b + (p - 1) * (q - 1) / 2 := by
  obtain ⟨n, rfl⟩ := Int.eq_ofNat_of_zero_le (show 0 ≤ q by have := h.2.1; omega)
  have := FS_cycle n p b (by have := h.2.1; omega) h.1 h.2.2
  omega
/-- mirrored ranges -/
theorem FS_mirror (p q c s t : Int) (hq : 1 ≤ q) (h : s ≤ t) : FS ((1 - s) - (1 - t)) p (p * (1 - t) + (q - 1 - c)) q = 0 - FS (t - s) p (p * s + c) q := by
  have e1 : (1 - s) - (1 - t) = t - s := by omega
  rw [e1, ← FS_rev (t - s) p (p * s + c) q (by omega)]
  have e2 : p * (t - s - 1) + (p * s + c) = p * (t - 1) + c := by
    rw [show t - s - 1 = (t - 1) - s by omega, Int.mul_sub p (t - 1) s]; omega
  rw [e2]
  have := FS_neg (t - s) (0 - p) (p * (t - 1) + c - q + 1) q (by omega)
  rw [show (0 : Int) - (0 - p) = p by omega, show p * (t - 1) + c - q + 1 + q - 1 = p * (t - 1) + c by omega] at this
  rw [← this]
  congr 1
  rw [show (1 - t : Int) = 0 - (t - 1) by omega, Int.mul_sub p 0]
  omega
/-- ranges of blocks -/
theorem FN_blocks (k : Nat) (a b m : Int) : ∀ n : Nat, FN (k * n) a b m = sm (fun j => FN n (k * a) (b + a * j) m) k
  | 0 => by
    show FN (k * 0) a b m = sm (fun j => 0) k
    rw [sm_const, Nat.mul_zero, Int.mul_zero]; rfl
  | n + 1 => by
    rw [Nat.mul_add, Nat.mul_one, FN_part, FN_blocks k a b m n]
    have : sm (fun j => FN (n + 1) (k * a) (b + a * j) m) k = sm (fun j => FN n (k * a) (b + a * (j : Nat)) m + ((k : Int) * a * n + (b + a * (j : Nat))) / m) k := rfl
    rw [this, sm_add]
    congr 1
    unfold FN
    refine sm_congr fun j _ => ?_
    congr 1
    rw [Int.natCast_mul, ← Int.mul_assoc, Int.mul_comm a k]; omega
theorem FS_blocks (n a b m k : Int) (hk : 0 < k) (hn : 0 ≤ n) : ((List.range k.toNat).map fun j => FS n (k * a) (b + a * (j : Nat)) m).sum = FS (k * n) a b m := by
  rw [sum_range]
  obtain ⟨x, rfl⟩ := Int.eq_ofNat_of_zero_le hn
  obtain ⟨y, rfl⟩ := Int.eq_ofNat_of_zero_le (Int.le_of_lt hk)
  unfold FS
  rw [← Int.natCast_mul, Int.toNat_natCast, Int.toNat_natCast, Int.toNat_natCast, FN_blocks]
theorem mul_pos1 {k q : Int} (hk : 1 ≤ k) (hq : 1 ≤ q) : 1 ≤ k * q := by
  have : 0 < k * q := Int.mul_pos (by omega) (by omega)
  omega
theorem FS_next (p q c s m t : Int) (h1 : s ≤ m) (h2 : m ≤ t) : FS (m - s) p (p * s + c) q + FS (t - m) p (p * m + c) q = FS (t - s) p (p * s + c) q := by
  have := FS_part (t - s) (m - s) p (p * s + c) q (by omega) (by omega)
  rw [← this]
  congr 2
  · omega
  · rw [Int.mul_sub]; omega
theorem FS_one (p q c t : Int) : FS (t + 1 - t) p (p * t + c) q = (p * t + c) / q := by
  rw [show t + 1 - t = 1 by omega]
  have := FS_last 1 p (p * t + c) q (by decide)
  have e : FS (1 - 1) p (p * t + c) q = 0 := FS_le _ _ _ _ (by decide)
  rw [e] at this
  simpa using this
theorem thin_sum (p q c s k n : Int) (h : Ok p q) (hk : 1 ≤ k) : ((List.range k.toNat).map fun t : Nat => FS n (red p (k * q) (c + p * 0 + q * (0 + (t : Int)))).1 ((red p (k * q) (c + p * 0 + q * (0 + (t : Int)))).1 * s + (red p (k * q) (c + p * 0 + q * (0 + (t : Int)))).2.2) (red p (k * q) (c + p * 0 + q * (0 + (t : Int)))).2.1).sum = FS n p (p * s + c) q := by
  rw [← FS_parts n p (p * s + c) q k (by have := h.2.1; omega) (by omega)]
  congr 1
  refine List.map_congr_left fun t _ => ?_
  rw [FS_red n p (k * q) _ s h.1 (mul_pos1 hk h.2.1)]
  congr 1
  rw [Int.mul_zero, Int.mul_comm q]; omega
theorem sample_sum (p q c s t k : Int) (h : Ok p q) (hk : 1 ≤ k) (hst : s ≤ t) : FS (k * t - k * s) p (p * (k * s) + c) q = ((List.range k.toNat).map fun j : Nat => FS (t - s) (red (k * p) q (c + p * (0 + (j : Int)) + q * 0)).1 ((red (k * p) q (c + p * (0 + (j : Int)) + q * 0)).1 * s + (red (k * p) q (c + p * (0 + (j : Int)) + q * 0)).2.2) (red (k * p) q (c + p * (0 + (j : Int)) + q * 0)).2.1).sum := by
  rw [← Int.mul_sub, ← FS_blocks (t - s) p (p * (k * s) + c) q k (by omega) (by omega)]
  congr 1
  refine List.map_congr_left fun j _ => ?_
  rw [FS_red (t - s) (k * p) q _ s (Int.mul_nonneg (by omega) h.1) h.2.1]
  congr 1
  rw [Int.mul_zero, Int.zero_add, ← Int.mul_assoc, Int.mul_comm k p]; omega
theorem thin_thin (p q c j k : Int) (h : Ok p q) (hj : 1 ≤ j) (hk : 1 ≤ k) : red (red p (j * q) c).1 (k * (red p (j * q) c).2.1) (red p (j * q) c).2.2 = red p (j * k * q) c := by
  obtain ⟨g, P, Q, C, r, hg, h0, h1, ep, eq, ec, ok, e, _⟩ := red_parts p (j * q) c h.1 (mul_pos1 hj h.2.1)
  rw [e]
  have : j * k * q = g * (k * Q) := by rw [Int.mul_assoc, Int.mul_comm k q, ← Int.mul_assoc, eq, Int.mul_assoc, Int.mul_comm Q k]
  rw [this, ep, ec, red_scale g P (k * Q) C r hg (mul_pos1 hk ok.2.1) ok.1 h0 h1]
theorem sample_sample (p q c j k : Int) (h : Ok p q) (hj : 1 ≤ j) (hk : 1 ≤ k) : red (k * (red (j * p) q c).1) (red (j * p) q c).2.1 (red (j * p) q c).2.2 = red (j * k * p) q c := by
  obtain ⟨g, P, Q, C, r, hg, h0, h1, ep, eq, ec, ok, e, _⟩ := red_parts (j * p) q c (Int.mul_nonneg (by omega) h.1) h.2.1
  rw [e]
  have : j * k * p = g * (k * P) := by rw [Int.mul_assoc, Int.mul_comm k p, ← Int.mul_assoc, ep, Int.mul_assoc, Int.mul_comm P k]
  rw [this, eq, ec, red_scale g (k * P) Q C r hg ok.2.1 (Int.mul_nonneg (by omega) ok.1) h0 h1]
/-- a reduced triple moved -/
theorem red_moved (p q c x y c' : Int) (hp : 0 ≤ p) (hq : 1 ≤ q) (e : c' = c + p * x + q * y) : red p q c' = ((red p q c).1, (red p q c).2.1, (red p q c).2.2 + (red p q c).1 * x + (red p q c).2.1 * y) := by
  obtain ⟨g, P, Q, C, r, hg, h0, h1, ep, eq, ec, ok, er, _⟩ := red_parts p q c hp hq
  rw [er]
  have : c' = g * (C + P * x + Q * y) + r := by
    rw [e, ec, ep, eq, Int.mul_add, Int.mul_add, Int.mul_assoc, Int.mul_assoc]; omega
  rw [this, ep, eq, red_scale g P Q _ r hg ok.2.1 ok.1 h0 h1]
  exact ok.red
theorem red_mirror (p q c c' : Int) (hp : 0 ≤ p) (hq : 1 ≤ q) (e : c' = q - 1 - c) : red p q c' = ((red p q c).1, (red p q c).2.1, (red p q c).2.1 - 1 - (red p q c).2.2) := by
  obtain ⟨g, P, Q, C, r, hg, h0, h1, ep, eq, ec, ok, er, _⟩ := red_parts p q c hp hq
  rw [er]
  have : c' = g * (Q - 1 - C) + (g - 1 - r) := by
    rw [e, ec, eq, Int.mul_sub, Int.mul_sub]; omega
  rw [this, ep, eq, red_scale g P Q _ (g - 1 - r) hg ok.2.1 ok.1 (by omega) (by omega)]
  exact ok.red
theorem thin_sample (p q c k : Int) (h : Ok p q) (hk : 1 ≤ k) : red (red (k * p) q c).1 (k * (red (k * p) q c).2.1) (red (k * p) q c).2.2 = red (k * p) (k * q) c := by
  obtain ⟨g, P, Q, C, r, hg, h0, h1, ep, eq, ec, ok, e, _⟩ := red_parts (k * p) q c (Int.mul_nonneg (by omega) h.1) h.2.1
  rw [e]
  have : k * q = g * (k * Q) := by rw [eq, ← Int.mul_assoc, Int.mul_comm k g, Int.mul_assoc]
  rw [this, ep, ec, red_scale g P (k * Q) C r hg (mul_pos1 hk ok.2.1) ok.1 h0 h1]
theorem cnt_shift (p q c a b t : Int) (hq : 1 ≤ q) : (p * t + (c + p * a + q * b)) / q = (p * (t + a) + c) / q + b := by
  have : p * t + (c + p * a + q * b) = (p * (t + a) + c) + q * b := by rw [Int.mul_add]; omega
  rw [this, Int.add_mul_ediv_left _ _ (by omega)]
theorem cnt_mirror (p q c t : Int) (hq : 1 ≤ q) : (p * t + (q - 1 - c)) / q = 0 - (p * (0 - t) + c) / q := by
  have := neg_div (p * t - c) q (by omega)
  rw [show (0 : Int) - (p * t - c) = p * (0 - t) + c by rw [Int.mul_sub]; omega] at this
  rw [this, show p * t - c + q - 1 = p * t + (q - 1 - c) by omega]
  omega
theorem cnt_thin (p q c k t : Int) (hp : 0 ≤ p) (hq : 1 ≤ q) (hk : 1 ≤ k) : ((red p (k * q) c).1 * t + (red p (k * q) c).2.2) / (red p (k * q) c).2.1 = (p * t + c) / q / k := by
  rw [cnt_red p (k * q) c t hp (mul_pos1 hk hq), Int.mul_comm k q, Int.ediv_ediv_of_nonneg (by omega)]
theorem cnt_sample (p q c k t : Int) (hp : 0 ≤ p) (hq : 1 ≤ q) (hk : 1 ≤ k) : ((red (k * p) q c).1 * t + (red (k * p) q c).2.2) / (red (k * p) q c).2.1 = (p * (k * t) + c) / q := by
  rw [cnt_red (k * p) q c t (Int.mul_nonneg (by omega) hp) hq, Int.mul_comm k p, Int.mul_assoc]
end Rl

set_option Elab.async false
set_option linter.all false
set_option maxRecDepth 100000
set_option maxHeartbeats 4000000

namespace Law
open PySem PySem.Spec PyProof.Rows L2 L3
def topS (i : Nat) : Stmt := PySem.Challenge.pw_leapfit_k89_texts_that_are_no_rules_or_r.main.body.getD i (.Pass ⟨0, 0, 0, 0⟩)
def clsS (st : Stmt) (j : Nat) : Stmt := match st with
  | .ClassDef _ _ _ body _ _ _ _ _ _ _ => body.getD j (.Pass ⟨0, 0, 0, 0⟩)
  | _ => .Pass ⟨0, 0, 0, 0⟩
abbrev FnM (K : PySem.W.Frag) (x q : Str) (st : Stmt) (dvs : List V) (f : Addr) (fd : FuncData) : Prop := FunD K x q (defArgs st) (defBody st) (defScope st) dvs [] f fd
abbrev FnP (K : PySem.W.Frag) (x : Str) (st : Stmt) (dvs : List V) (f : Addr) (fd : FuncData) : Prop := FunD K x x (defArgs st) (defBody st) (defScope st) dvs [] f fd
local macro_rules | `(tactic| walk_at "s") => `(tactic| (conv => whnf))
local macro_rules | `(tactic| walk_at "i") => `(tactic| ((conv => whnf); refine And.intro ?_ ?_))
local macro_rules | `(tactic| walk_at "p") => `(tactic| ((conv => whnf); refine And.intro ⟨rfl, by decide⟩ ?_))
local macro_rules | `(tactic| walk_at "q") => `(tactic| ((conv => whnf); refine And.intro ⟨rfl, by decide, by decide⟩ ?_))
local macro_rules | `(tactic| walk_at "d") => `(tactic| repeat' (first | assumption | exact B.lit (by decide) | exact B.ten | apply B.mul | apply B.add | apply B.sub | apply B.neg | apply B.div | apply B.mod | apply B.max' | apply B.min' | apply B.abs | apply B.abs' | exact B.om (by constructor <;> omega) | omega))
local macro_rules | `(tactic| walk_at "b") => `(tactic| first | rfl | assumption | omega | exact sz rfl | exact sz' rfl | ((refine B.mulW ?_ ?_ ?_) <;> first | (walk_at "d"; done) | decide) | ((refine B.divW ?_ ?_ ?_) <;> first | (walk_at "d"; done) | decide) | ((refine B.up ?_ ?_) <;> first | (walk_at "d"; done) | decide) | exact B.powW (by omega) (by decide) | decide)
local macro_rules | `(tactic| walk_at "w1") => `(tactic| ((conv => whnf); first | refine wT (by omega) ?_ | refine wF (by omega) ?_ | refine uT (by omega) ?_ | refine uF (by omega) ?_ | refine oT (by omega) ?_ | refine oF (by omega) ?_ | refine ifT (by first | rfl | assumption) ?_ | refine ifF (by first | rfl | assumption) ?_ | refine And.intro (by walk_at "b") ?_))
local macro_rules | `(tactic| walk_at "w") => `(tactic| ((repeat (walk_at "w1")); (try (conv => whnf))))
local macro_rules | `(tactic| walk_at "j") => `(tactic| (generalize hSq : @dSeq = Sq; (conv => whnf); subst hSq))
structure Gs (K : PySem.W.Frag) (mg : Str → Option Value) : Prop where
  z_isinstance : mg "isinstance" = none
  z_bool : mg "bool" = none
  z_int : mg "int" = none
  z_all : mg "all" = none
  z_len : mg "len" = none
  z_tuple : mg "tuple" = none
  c_DIGITS : ∃ t, mg "DIGITS" = some (.str "0123456789" t)
  c_MOST_DIGITS : ∃ t, mg "MOST_DIGITS" = some (.int 200 t)
  z_str : mg "str" = none
  c_BOUNDS : TupG K mg "BOUNDS" [.str "at least", .str "at most"]
  z_abs : mg "abs" = none
  z_range : mg "range" = none
  z_min : mg "min" = none
theorem bt_isinstance : bootBuiltins "isinstance" = some (.builtin "isinstance") := by decide +kernel
theorem bt_bool : bootBuiltins "bool" = some (.type "bool") := by decide +kernel
theorem bt_int : bootBuiltins "int" = some (.type "int") := by decide +kernel
theorem bt_all : bootBuiltins "all" = some (.builtin "all") := by decide +kernel
theorem bt_len : bootBuiltins "len" = some (.builtin "len") := by decide +kernel
theorem bt_tuple : bootBuiltins "tuple" = some (.type "tuple") := by decide +kernel
theorem bt_str : bootBuiltins "str" = some (.type "str") := by decide +kernel
theorem bt_abs : bootBuiltins "abs" = some (.builtin "abs") := by decide +kernel
theorem bt_range : bootBuiltins "range" = some (.type "range") := by decide +kernel
theorem bt_min : bootBuiltins "min" = some (.builtin "min") := by decide +kernel
abbrev XS : List Nat := [14]
abbrev HS : List Nat := [14]
structure Exs (P : Program) (w : World) (K : PySem.W.Frag) (mg : Str → Option Value) (base : Heap) : Prop where
  m_LeapfitError : mg "LeapfitError" = some (.ref (He.ga K "LeapfitError"))
  m_ParseError : mg "ParseError" = some (.ref (He.ga K "ParseError"))
  r_ParseError : ExR P w K mg base 14 "ParseError" ["line"]
  X : ExX K XS
  c : ∀ h, List.elem h HS = true → Cat K XS h
  n : ∀ h, List.elem h HS = true → NonC K h
variable {P : Program} {w : World} {K : PySem.W.Frag} {mg : Str → Option Value} {base : Heap} {T : List (Addr × Str)} {f : Addr} {fd : FuncData}

abbrev s_is_integer : Stmt := topS 5
abbrev N_is_integer : List Str := ["value"]
theorem sc_is_integer : FnScope N_is_integer ["value"] (defScope s_is_integer) := ⟨rfl, rfl, rfl, by decide +kernel, rfl, by decide +kernel, by decide +kernel⟩
def S_is_integer : SA := fun ds Q _ => ∃ x : D, ds = [x] ∧ x.plain = true ∧ Q (.bl (isI x))
theorem binds_is_integer (F : FnP K "is_integer" s_is_integer [] f fd) : Binds K fd ["value"] [] := F.bindsN (ps := ["value"]) fun _ _ _ _ _ _ us hl => match us, hl with | [_], _ => rfl
theorem ok_is_integer (Gz : Gs K mg) (F : FnP K "is_integer" s_is_integer [] f fd)  : FnG false P w K mg base 1 f fd ["value"] (spA K T S_is_integer) := by
  refine bodyA F sc_is_integer (fun ds QD ED h => by obtain ⟨x, rfl, _⟩ := h; rfl) (fun cdv hcd A outer s H E g hT hr => ?_)
  have tk := takes_of (X := cxOf (L2.CX P w) P w K mg base N_is_integer "is_integer" (defScope s_is_integer) f cdv A outer s H E) rfl rfl rfl rfl
  have hp := passes_of (X := cxOf (L2.CX P w) P w K mg base N_is_integer "is_integer" (defScope s_is_integer) f cdv A outer s H E) rfl
  have hu := rgu hr
  refine ⟨_, (pxb_one (pxs_ret (px_and (px_callB cd_isiInt (by rfl) Gz.z_isinstance bt_isinstance (pxa_cons (px_var 0) (pxa_cons (px_ty (by rfl) Gz.z_int bt_int) pxa_nil))) (px_one (px_not (px_callB cd_isiBool (by rfl) Gz.z_isinstance bt_isinstance (pxa_cons (px_var 0) (pxa_cons (px_ty (by rfl) Gz.z_bool bt_bool) pxa_nil)))))))), ?_⟩
  intro ds QD ED h
  obtain ⟨x, rfl, hx, q⟩ := h
  walk_at "s"
  refine ⟨rfl, hx, ?_⟩
  walk_at "i" <;> intro hc
  · walk_at "s"
    refine ⟨rfl, hx, ?_⟩
    cases x <;> first | exact q | cases hc
  · cases x <;> first | exact q | cases hc
def ruleD (p q c : Int) : D := .tup [.int p, .int q, .int c]
theorem gcd_step {a b : Int} (ha : 0 ≤ a) (hb : 0 < b) : Int.gcd b (a % b) = Int.gcd a b := by
  obtain ⟨m, rfl⟩ := Int.eq_ofNat_of_zero_le ha
  obtain ⟨n, rfl⟩ := Int.eq_ofNat_of_zero_le (Int.le_of_lt hb)
  show Nat.gcd n (m % n) = Nat.gcd m n
  rw [Nat.gcd_comm n, ← Nat.gcd_rec, Nat.gcd_comm]
theorem gcd_z {a : Int} (ha : 0 ≤ a) : ((Int.gcd a 0 : Nat) : Int) = a := by
  rw [Int.gcd_zero_right]; omega

abbrev s_common_divisor : Stmt := topS 6
abbrev N_common_divisor : List Str := ["one", "other"]
theorem sc_common_divisor : FnScope N_common_divisor ["one", "other"] (defScope s_common_divisor) := ⟨rfl, rfl, rfl, by decide +kernel, rfl, by decide +kernel, by decide +kernel⟩
def S_common_divisor : SA := fun ds Q _ => ∃ a b : Int, ds = [.int a, .int b] ∧ 0 ≤ a ∧ 0 ≤ b ∧ Q (.int (Int.gcd a b))
theorem binds_common_divisor (F : FnP K "common_divisor" s_common_divisor [] f fd) : Binds K fd ["one", "other"] [] := F.bindsN (ps := ["one", "other"]) fun _ _ _ _ _ _ us hl => match us, hl with | [_, _], _ => rfl
theorem ok_common_divisor (Gz : Gs K mg) (F : FnP K "common_divisor" s_common_divisor [] f fd)  : FnG false P w K mg base 1 f fd ["one", "other"] (spA K T S_common_divisor) := by
  refine bodyA F sc_common_divisor (fun ds QD ED h => by obtain ⟨a, b, rfl, _⟩ := h; rfl) (fun cdv hcd A outer s H E g hT hr => ?_)
  have tk := takes_of (X := cxOf (L2.CX P w) P w K mg base N_common_divisor "common_divisor" (defScope s_common_divisor) f cdv A outer s H E) rfl rfl rfl rfl
  have hp := passes_of (X := cxOf (L2.CX P w) P w K mg base N_common_divisor "common_divisor" (defScope s_common_divisor) f cdv A outer s H E) rfl
  have hu := rgu hr
  refine ⟨_, (pxb_cons (pxs_while hp (pxt_cmp od_gt (px_var 1) px_int (nomark _))
    (pxb_one (pxs_par (i := 0) (j := 1) rfl sc_common_divisor.nd rfl rfl (by decide) rfl rfl (pxa_cons (px_var 1) (pxa_cons (px_op od_mod (px_var 0) (px_var 1)) pxa_nil)) (by rfl))))
    (pxb_one (pxs_ret (px_var 0)))), ?_⟩
  intro ds QD ED h
  obtain ⟨a, b, rfl, ha, hb, q⟩ := h
  refine ⟨fun k ds => ∃ x y, ds = ⟨[some (.d (.int x)), some (.d (.int y))], []⟩ ∧ 0 ≤ x ∧ 0 ≤ y ∧ k = y.toNat ∧ Int.gcd x y = Int.gcd a b, ⟨_, a, b, rfl, ha, hb, rfl, rfl⟩, ?_⟩
  rintro k ds ⟨x, y, rfl, hx, hy, rfl, e⟩
  walk_at "i" <;> intro hc
  · have hc := of_decide_eq_true hc
    walk_at "s"
    have hm := natAbs_mod (i := x) hc
    exact ⟨hc, _, (by omega : (x % y).toNat < y.toNat), _, _, rfl, hy, hm.1, rfl, (gcd_step hx hc).trans e⟩
  · have hc := of_decide_eq_false hc
    have hy0 : y = 0 := by omega
    subst hy0
    walk_at "s"
    rw [← e, gcd_z hx] at q
    exact q

abbrev s_is_reduced : Stmt := topS 7
abbrev N_is_reduced : List Str := ["p", "q"]
theorem sc_is_reduced : FnScope N_is_reduced ["p", "q"] (defScope s_is_reduced) := ⟨rfl, rfl, rfl, by decide +kernel, rfl, by decide +kernel, by decide +kernel⟩
def redB (p q : Int) : Bool := decide (0 ≤ p) && (decide (1 ≤ q) && decide ((Int.gcd p q : Int) = 1))
def S_is_reduced : SA := fun ds Q _ => ∃ p q : Int, ds = [.int p, .int q] ∧ Q (.bl (redB p q))
theorem binds_is_reduced (F : FnP K "is_reduced" s_is_reduced [] f fd) : Binds K fd ["p", "q"] [] := F.bindsN (ps := ["p", "q"]) fun _ _ _ _ _ _ us hl => match us, hl with | [_, _], _ => rfl
theorem ok_is_reduced (Gz : Gs K mg) (F : FnP K "is_reduced" s_is_reduced [] f fd) {f_common_divisor : Addr} {fd_common_divisor : FuncData} (G_common_divisor : OwnF false P w K mg base "common_divisor" 1 f_common_divisor fd_common_divisor ["one", "other"] (spA K T S_common_divisor)) (b_common_divisor : Binds K fd_common_divisor ["one", "other"] []) : FnG false P w K mg base 2 f fd ["p", "q"] (spA K T S_is_reduced) := by
  refine bodyA F sc_is_reduced (fun ds QD ED h => by obtain ⟨p, q, rfl, _⟩ := h; rfl) (fun cdv hcd A outer s H E g hT hr => ?_)
  have tk := takes_of (X := cxOf (L2.CX P w) P w K mg base N_is_reduced "is_reduced" (defScope s_is_reduced) f cdv A outer s H E) rfl rfl rfl rfl
  have hp := passes_of (X := cxOf (L2.CX P w) P w K mg base N_is_reduced "is_reduced" (defScope s_is_reduced) f cdv A outer s H E) rfl
  have hu := rgu hr
  refine ⟨_, (pxb_one (pxs_ret (px_and (px_cmp od_ge (px_var 0) px_int (nomark _)) (px_and (px_cmp od_ge (px_var 1) px_int (nomark _)) (px_one (px_cmp (od_eq hr.units) (px_own G_common_divisor b_common_divisor hT (hr.mono (by decide)) tk (pxa_cons (px_var 0) (pxa_cons (px_var 1) pxa_nil))) px_int (nomark _))))))), ?_⟩
  intro ds QD ED h
  obtain ⟨x, y, rfl, q⟩ := h
  unfold redB at q
  walk_at "i" <;> intro hc
  · have hx := of_decide_eq_true hc
    rw [decide_eq_true hx, Bool.true_and] at q
    walk_at "i" <;> intro hc
    · have hy := of_decide_eq_true hc
      rw [decide_eq_true hy, Bool.true_and] at q
      walk_at "s"
      refine ⟨x, y, rfl, hx, by omega, ?_⟩
      walk_at "s"
      exact q
    · have hc : decide (1 ≤ y) = false := hc
      rw [hc, Bool.false_and] at q
      walk_at "s"
      exact q
  · have hc : decide (0 ≤ x) = false := hc
    rw [hc, Bool.false_and] at q
    walk_at "s"
    exact q

abbrev s_is_rule : Stmt := topS 8
abbrev N_is_rule : List Str := ["value", "part"]
theorem sc_is_rule : FnScope N_is_rule ["value"] (defScope s_is_rule) := ⟨rfl, rfl, rfl, by decide +kernel, rfl, by decide +kernel, by decide +kernel⟩
def isRuleB : D → Bool
  | .tup [a, b, c] => match a, b, c with
    | .int p, .int q, .int _ => redB p q
    | _, _, _ => false
  | _ => false
/-- no part is one of the heap's own things -/
def plain2 : D → Bool
  | .tup l => l.all D.plain
  | d => d.plain
theorem rule_n {a b c : D} (h : (isI a && (isI b && (isI c && true))) = false) : isRuleB (.tup [a, b, c]) = false := by
  cases a <;> first | rfl | skip
  cases b <;> first | rfl | skip
  cases c <;> first | rfl | cases h
def S_is_rule : SA := fun ds Q _ => ∃ x : D, ds = [x] ∧ plain2 x = true ∧ Q (.bl (isRuleB x))
theorem binds_is_rule (F : FnP K "is_rule" s_is_rule [] f fd) : Binds K fd ["value"] [] := F.bindsN (ps := ["value"]) fun _ _ _ _ _ _ us hl => match us, hl with | [_], _ => rfl
theorem ok_is_rule (Gz : Gs K mg) (F : FnP K "is_rule" s_is_rule [] f fd) {f_is_reduced : Addr} {fd_is_reduced : FuncData} (G_is_reduced : OwnF false P w K mg base "is_reduced" 2 f_is_reduced fd_is_reduced ["p", "q"] (spA K T S_is_reduced)) (b_is_reduced : Binds K fd_is_reduced ["p", "q"] []) {f_is_integer : Addr} {fd_is_integer : FuncData} (G_is_integer : OwnF false P w K mg base "is_integer" 1 f_is_integer fd_is_integer ["value"] (spA K T S_is_integer)) (b_is_integer : Binds K fd_is_integer ["value"] []) : FnG false P w K mg base 3 f fd ["value"] (spA K T S_is_rule) := by
  refine bodyA F sc_is_rule (fun ds QD ED h => by obtain ⟨x, rfl, _⟩ := h; rfl) (fun cdv hcd A outer s H E g hT hr => ?_)
  have tk := takes_of (X := cxOf (L2.CX P w) P w K mg base N_is_rule "is_rule" (defScope s_is_rule) f cdv A outer s H E) rfl rfl rfl rfl
  have hp := passes_of (X := cxOf (L2.CX P w) P w K mg base N_is_rule "is_rule" (defScope s_is_rule) f cdv A outer s H E) rfl
  have hu := rgu hr
  refine ⟨_, (pxb_one (pxs_ret (px_and (px_callB cd_isiTuple (by rfl) Gz.z_isinstance bt_isinstance (pxa_cons (px_var 0) (pxa_cons (px_ty (by rfl) Gz.z_tuple bt_tuple) pxa_nil))) (px_and (px_cmp (od_eq hr.units) (px_callB cd_len (by rfl) Gz.z_len bt_len (pxa_cons (px_var 0) pxa_nil)) px_int (nomark _)) (px_and (px_callB (cd_all rfl) (by rfl) Gz.z_all bt_all (pxa_cons (px_lc (own := [("part", 1)]) rfl sc_is_rule.nd (pxi_seq (px_var 0)) (blkOk_by (N := N_is_rule) (sc := defScope s_is_rule) (by decide +kernel)) (fun _ _ _ _ _ => (pxc_name (i := 1) sc_is_rule.nd rfl (by first | exact .inl rfl | exact .inr rfl) (by decide))) (fun _ _ _ _ _ => pxts_nil) (fun g _ _ _ _ _ hT2 => have hT := hT2.trans hT; have tk := takes0; (px_own G_is_integer b_is_integer hT (hr.mono (by decide)) tk (pxa_cons (px_var 1) pxa_nil)))) pxa_nil)) (px_one (px_own G_is_reduced b_is_reduced hT (hr.mono (by decide)) tk (pxa_cons (px_ixN (k := 0) (px_var 0)) (pxa_cons (px_ixN (k := 1) (px_var 0)) pxa_nil))))))))), ?_⟩
  intro ds QD ED h
  obtain ⟨x, rfl, hx, q⟩ := h
  by_cases ht : ∃ l, x = .tup l
  · obtain ⟨l, rfl⟩ := ht
    walk_at "s"
    refine ⟨rfl, rfl, ifT rfl ?_⟩
    walk_at "i" <;> intro hc
    · have hl : l.length = 3 := by have := of_decide_eq_true hc; omega
      obtain ⟨a, b, c, rfl⟩ : ∃ a b c, l = [a, b, c] := by
        match l, hl with
        | [a, b, c], _ => exact ⟨_, _, _, rfl⟩
      clear hc
      obtain ⟨ha, hb, hc⟩ : a.plain = true ∧ b.plain = true ∧ c.plain = true := by simpa [plain2] using hx
      walk_at "s"
      refine ⟨sz' rfl, ifT rfl ?_⟩
      walk_at "s"
      refine ⟨_, rfl, ha, ifT rfl ?_⟩
      walk_at "s"
      refine ⟨_, rfl, hb, ifT rfl ?_⟩
      walk_at "s"
      refine ⟨_, rfl, hc, ?_⟩
      walk_at "s"
      refine ⟨[isI a, isI b, isI c], rfl, ?_⟩
      walk_at "i" <;> intro hd
      · obtain ⟨h1, h2, h3⟩ : isI a = true ∧ isI b = true ∧ isI c = true := by simpa using hd
        obtain ⟨i, rfl⟩ : ∃ i, a = .int i := by cases a <;> first | exact ⟨_, rfl⟩ | cases h1
        obtain ⟨j, rfl⟩ : ∃ i, b = .int i := by cases b <;> first | exact ⟨_, rfl⟩ | cases h2
        obtain ⟨k, rfl⟩ : ∃ i, c = .int i := by cases c <;> first | exact ⟨_, rfl⟩ | cases h3
        walk_at "s"
        exact ⟨_, _, rfl, q⟩
      · rw [rule_n hd] at q
        walk_at "s"
        exact q
    · have hl : l.length ≠ 3 := by have := of_decide_eq_false hc; omega
      have e : isRuleB (.tup l) = false := by
        match l, hl with
        | [], _ => rfl
        | [_], _ => rfl
        | [_, _], _ => rfl
        | [_, _, _], h => exact absurd rfl h
        | _ :: _ :: _ :: _ :: _, _ => rfl
      rw [e] at q
      walk_at "s"
      exact q
  · have hpl : x.plain = true := by cases x <;> first | exact hx | exact (ht ⟨_, rfl⟩).elim
    have e1 : x.isTuple = false := by cases x <;> first | rfl | exact (ht ⟨_, rfl⟩).elim
    have e : isRuleB x = false := by cases x <;> first | rfl | exact (ht ⟨_, rfl⟩).elim
    rw [e] at q
    walk_at "s"
    refine ⟨rfl, hpl, ifF e1 ?_⟩
    walk_at "s"
    exact q
theorem str_of {x : D} (h : x.isStr = true) : ∃ s, x = .str s := by cases x <;> first | exact ⟨_, rfl⟩ | cases h
theorem intI_of {x : D} (h : isI x = true) : ∃ i, x = .int i := by cases x <;> first | exact ⟨_, rfl⟩ | cases h
theorem rec_len {l : List D} (h : l.length ≠ 3) : isRecB (.tup l) = false := by
  unfold isRecB
  split
  · rename_i e
    cases e
    exact absurd rfl h
  · rfl
theorem rec_n1 {a b c : D} (h : a.isStr = false) : isRecB (.tup [a, b, c]) = false := by
  cases a <;> first | rfl | cases h
theorem rec_n2 {s : Str} {b c : D} (h : isI b = false) : isRecB (.tup [.str s, b, c]) = false := by
  cases b <;> first | rfl | cases h
theorem rec_n3 {s : Str} {i : Int} {c : D} : isRecB (.tup [.str s, .int i, c]) = (isIn (.str s) [.str "at least", .str "at most"] && isI c) := by
  cases c <;> first | (show false = _; exact (Bool.and_false _).symm) | (show _ = _; exact (Bool.and_true _).symm)

open C8 SX
theorem lts {n : Nat} (h : n ≤ 100000) : n < sizeLine := Nat.lt_of_le_of_lt h (by rw [sizeLine_eq]; decide)
theorem ltl {n : Nat} (h : n ≤ 100000) : n ≤ sizeLine := Nat.le_of_lt (lts h)
theorem dSeq_j {a b : TSd} {De : DE} {ds : DS} (P : DS → Prop) (tail : ∀ ds', P ds' → b De ds') (h : ∀ K : DS → Prop, (∀ ds', P ds' → K ds') → a { De with nx := K } ds) : dSeq a b De ds := h _ tail
theorem dSeq_go {a b : TSd} {De : DE} {ds : DS} (h : a { De with nx := fun ds' => b De ds' } ds) : dSeq a b De ds := h
def digs (l : List Nat) : List Nat := if l.take 1 = [45] then l.drop 1 else l
def isDg (c : Nat) : Bool := decide (c ∈ [48, 49, 50, 51, 52, 53, 54, 55, 56, 57])
def pok (l : List Nat) : Bool := decide (0 < (digs l).length) && decide ((digs l).length ≤ 200) && (digs l).all isDg && !(decide ((digs l).take 1 = [48]) && decide (l ≠ [48]))
/-- the number that a word is -/
def pint (l : List Nat) : Option Int := if pok l then intText? (S l) else none
def optD : Option Int → D
  | some n => .int n
  | none => .non
theorem isDg_iff {c : Nat} : isDg c = true ↔ 48 ≤ c ∧ c ≤ 57 := by
  unfold isDg
  rw [decide_eq_true_eq]
  simp only [List.mem_cons, List.not_mem_nil, or_false]
  omega
theorem dg_all {d : List Nat} (h : d.all isDg = true) : d.all (fun c => decide (48 ≤ c) && decide (c ≤ 57)) = true := by
  rw [List.all_eq_true] at h ⊢
  intro c hc
  have := isDg_iff.mp (h c hc)
  rw [decide_eq_true this.1, decide_eq_true this.2]; rfl
theorem int_word {l : List Nat} (h0 : 0 < (digs l).length) (h1 : (digs l).length ≤ 200) (h2 : (digs l).all isDg = true) : (∃ n, intText? (S l) = some n) ∧ l.length ≤ 201 := by
  unfold digs at h0 h1 h2
  split at h0
  · rename_i e
    rw [if_pos e] at h1 h2
    match l, e with
    | c :: r, e =>
      obtain rfl : c = 45 := by simpa using e
      have h0 : 0 < r.length := h0
      have h1 : r.length ≤ 200 := h1
      refine ⟨⟨_, PySem.intText_neg (x := S (45 :: r)) rfl (fun c hc => isDg_iff.mp (List.all_eq_true.mp h2 c hc)) (fun z => by rw [z] at h0; cases h0) (by rw [S_len]; show r.length + 1 ≤ _; omega)⟩, by show r.length + 1 ≤ _; omega⟩
  · rename_i e
    rw [if_neg e] at h1 h2
    exact ⟨⟨_, int_S (dg_all h2) (fun z => by rw [z] at h0; cases h0) (by omega)⟩, by omega⟩
theorem S_ne {a b : List Nat} (h : a ≠ b) : S a ≠ S b := fun z => h (S_inj z)
theorem S_one (s : Str) (c : Nat) (h : s.cps.toList = [c]) : s = S [c] := by
  rw [← S_tl s, h]
def sgB : D → D
  | .str s => .bl (isDg (s.cps.toList.headD 0))
  | _ => .non
theorem sg_map (d : List Nat) : (signD (S d)).map sgB = (d.map isDg).map D.bl := by
  unfold signD
  rw [List.map_map, List.map_map]; rfl

abbrev s_parse_integer : Stmt := topS 12
abbrev N_parse_integer : List Str := ["word", "digits", "sign"]
theorem sc_parse_integer : FnScope N_parse_integer ["word"] (defScope s_parse_integer) := ⟨rfl, rfl, rfl, by decide +kernel, rfl, by decide +kernel, by decide +kernel⟩
def S_parse_integer : SA := fun ds Q _ => ∃ l : List Nat, ds = [.str (S l)] ∧ l.length ≤ 100000 ∧ Q (optD (pint l))
theorem binds_parse_integer (F : FnP K "parse_integer" s_parse_integer [] f fd) : Binds K fd ["word"] [] := F.bindsN (ps := ["word"]) fun _ _ _ _ _ _ us hl => match us, hl with | [_], _ => rfl
theorem ok_parse_integer (Gz : Gs K mg) (F : FnP K "parse_integer" s_parse_integer [] f fd)  : FnG false P w K mg base 1 f fd ["word"] (spA K T S_parse_integer) := by
  refine bodyA F sc_parse_integer (fun ds QD ED h => by obtain ⟨l, rfl, _⟩ := h; rfl) (fun cdv hcd A outer s H E g hT hr => ?_)
  have tk := takes_of (X := cxOf (L2.CX P w) P w K mg base N_parse_integer "parse_integer" (defScope s_parse_integer) f cdv A outer s H E) rfl rfl rfl rfl
  have hp := passes_of (X := cxOf (L2.CX P w) P w K mg base N_parse_integer "parse_integer" (defScope s_parse_integer) f cdv A outer s H E) rfl
  have hu := rgu hr
  refine ⟨_, (pxb_cons (pxs_set (i := 1) sc_parse_integer.nd rfl (by first | exact .inl rfl | exact .inr rfl) (px_ifExp (pxt_cmp (od_eq hr.units) (px_sl1T (px_var 0) px_int) px_str (nomark _)) (px_sl2T (px_var 0) px_int) (px_var 0)))
    (pxb_cons (pxs_if (PXW.pxt (pxw_or (pxt_not (pxt_chain od_lt od_le px_int (px_callB cd_len (by rfl) Gz.z_len bt_len (pxa_cons (px_var 1) pxa_nil)) (px_gI Gz.c_MOST_DIGITS))) (pxw_or1 (pxt_not (pxt_val (px_callB (cd_all rfl) (by rfl) Gz.z_all bt_all (pxa_cons (px_lc (own := [("sign", 2)]) rfl sc_parse_integer.nd (pxi_str (px_var 1)) (blkOk_by (N := N_parse_integer) (sc := defScope s_parse_integer) (by decide +kernel)) (fun _ _ _ _ _ => (pxc_name (i := 2) sc_parse_integer.nd rfl (by first | exact .inl rfl | exact .inr rfl) (by decide))) (fun _ _ _ _ _ => pxts_nil) (fun g _ _ _ _ _ hT2 => have hT := hT2.trans hT; (px_cmp od_inS (px_var 2) (px_gS Gz.c_DIGITS) (by rfl)))) pxa_nil)))))))
    (pxb_one (pxs_ret px_non))
    pxb_nil)
    (pxb_cons (pxs_if (PXW.pxt (pxw_and (pxt_cmp (od_eq hr.units) (px_ix (px_var 1) px_int) px_str (nomark _)) (pxw_and1 (pxt_cmp (od_ne hr.units) (px_var 0) px_str (nomark _)))))
    (pxb_one (pxs_ret px_non))
    pxb_nil)
    (pxb_one (pxs_ret (px_callTy cd_intX (by rfl) Gz.z_int bt_int (pxa_cons (px_var 0) pxa_nil))))))), ?_⟩
  intro ds QD ED h
  obtain ⟨l, rfl, hl, q⟩ := h
  have em : Str.ofString "-" = S [45] := by decide +kernel
  have e0 : Str.ofString "0" = S [48] := by decide +kernel
  walk_at "j"
  refine dSeq_j (fun ds => ds = ⟨[some (.d (.str (S l))), some (.d (.str (S (digs l)))), none], []⟩) (fun ds hds => ?_) (fun J hJ => ?_)
  rotate_left
  · walk_at "s"
    refine ⟨by rw [S_len]; exact ltl hl, ?_⟩
    rw [slice_to (by decide)]
    walk_at "s"
    refine ⟨fun hc => ?_, fun hc => ?_⟩
    · have hc : l.take 1 = [45] := S_inj ((of_decide_eq_true hc).trans em)
      walk_at "s"
      refine ⟨by rw [S_len]; exact ltl hl, ?_⟩
      rw [slice_from (by decide)]
      refine hJ _ ?_
      unfold digs
      rw [if_pos hc]; rfl
    · have hc : l.take 1 ≠ [45] := fun z => of_decide_eq_false hc (by rw [em, show l.take (Int.toNat 1) = l.take 1 from rfl, z])
      walk_at "s"
      refine hJ _ ?_
      unfold digs
      rw [if_neg hc]; rfl
  subst hds
  have hdl : (digs l).length ≤ l.length := by
    unfold digs
    split
    · rw [List.length_drop]; omega
    · exact Nat.le_refl _
  have no : pok l = false → QD (optD none) := fun h => by
    unfold pint at q
    rw [h] at q
    exact q
  have yes : pok l = true → QD (optD (intText? (S l))) := fun h => by
    unfold pint at q
    rw [h] at q
    exact q
  walk_at "s"
  refine ⟨by rw [S_len]; exact ltl (by omega), ?_⟩
  walk_at "s"
  rw [S_len]
  have e9 : (Str.ofString "0123456789").cps.toList = [48, 49, 50, 51, 52, 53, 54, 55, 56, 57] := by decide +kernel
  refine splitD (fun h0 => ?_) (fun h0 => ?_)
  rotate_left
  · refine ifT rfl (ifT rfl ?_)
    walk_at "s"
    refine no ?_
    unfold pok
    rw [decide_eq_false (by omega : ¬ 0 < (digs l).length), Bool.false_and, Bool.false_and, Bool.false_and]
  walk_at "s"
  refine splitM (fun h1 => ?_) (fun h1 => ?_)
  · have h1 := of_decide_eq_false h1
    refine ifT rfl ?_
    walk_at "s"
    refine no ?_
    unfold pok
    rw [decide_eq_false (by omega : ¬ (digs l).length ≤ 200), Bool.and_false, Bool.false_and, Bool.false_and]
  have h1 := of_decide_eq_true h1
  walk_at "s"
  refine ⟨by unfold signD; rw [List.length_map]; exact lts (by show (digs l).length ≤ _; omega), ?_⟩
  refine cLoop_map sgB (fun y acc N hy hN => ?_) ?_
  · obtain ⟨c, hc, rfl⟩ := List.mem_map.mp hy
    walk_at "i" <;> intro hc
    rotate_left
    · cases hc
    walk_at "s"
    refine ⟨c, rfl, ?_⟩
    rw [e9]
    exact hN
  rw [sg_map]
  walk_at "s"
  refine ⟨_, rfl, ?_⟩
  rw [List.all_map]
  refine splitM (fun h2 => ?_) (fun h2 => ?_)
  · have h2 : (digs l).all isDg = false := h2
    walk_at "s"
    refine no ?_
    unfold pok
    rw [h2, Bool.and_false, Bool.false_and]
  have h2 : (digs l).all isDg = true := h2
  obtain ⟨⟨n, hn⟩, hl2⟩ := int_word (by omega) (by omega) h2
  have kp : pok l = !(decide ((digs l).take 1 = [48]) && decide (l ≠ [48])) := by
    unfold pok
    rw [h2, decide_eq_true (by omega : 0 < (digs l).length), decide_eq_true (by omega : (digs l).length ≤ 200)]; rfl
  obtain ⟨c0, dr, hd⟩ : ∃ c r, digs l = c :: r := by
    cases h : digs l with
    | nil => rw [h] at h0; exact absurd h0 (by decide)
    | cons c r => exact ⟨c, r, rfl⟩
  rw [hd] at kp ⊢
  walk_at "s"
  refine ⟨c0, ltl (by rw [← hd, S_len]; omega), by rw [L3.atI_get (by decide)]; rfl, ?_⟩
  walk_at "s"
  rw [e0]
  have ht : List.take 1 (c0 :: dr) = [c0] := rfl
  rw [ht] at kp
  have fin : pok l = true → QD (.int n) := fun h => by
    have := yes h
    rw [hn] at this
    exact this
  refine splitD (fun hc => ?_) (fun hc => ?_)
  · have hc : [c0] = [48] := S_inj hc
    walk_at "s"
    refine ⟨fun hc2 => ?_, fun hc2 => ?_⟩
    · have hc2 : l ≠ [48] := fun z => by rw [z] at hc2; simp at hc2
      walk_at "s"
      refine no ?_
      rw [kp, decide_eq_true hc, decide_eq_true hc2]; rfl
    · have hc2 : ¬ l ≠ [48] := fun z => by
        have : (!decide (S l = S [48])) = true := by rw [decide_eq_false (S_ne z)]; rfl
        rw [this] at hc2; cases hc2
      walk_at "s"
      refine ⟨n, hn, by rw [S_len]; omega, fin ?_⟩
      rw [kp, decide_eq_false hc2, Bool.and_false]; rfl
  · have hc : ¬ [c0] = [48] := fun z => hc (congrArg S z)
    refine ifF rfl ?_
    walk_at "s"
    refine ⟨n, hn, by rw [S_len]; omega, fin ?_⟩
    rw [kp, decide_eq_false hc, Bool.false_and]; rfl
open C8 SX
/-- the signs of str(i) -/
def numI (i : Int) : List Nat := if i < 0 then 45 :: TL.numL i.natAbs else TL.numL i.natAbs
theorem num_int (i : Int) : Str.ofString (toString i) = S (numI i) := by
  unfold numI
  cases i with
  | ofNat n =>
    show Str.ofString (toString ((n : Nat) : Int)) = S (if ((n : Nat) : Int) < 0 then 45 :: TL.numL ((n : Nat) : Int).natAbs else TL.numL ((n : Nat) : Int).natAbs)
    rw [if_neg (by omega)]
    exact num_S n
  | negSucc m =>
    rw [if_pos (Int.negSucc_lt_zero m)]
    refine TL.ext_tl ?_
    rw [TL.tl_ofString]
    have h := TL.tl_num (m + 1)
    rw [TL.tl_ofString] at h
    show List.map Char.toNat ("-" ++ toString (m + 1)).toList = 45 :: TL.numL (m + 1)
    rw [String.toList_append, List.map_append]
    rw [show List.map Char.toNat (toString (m + 1)).toList = TL.numL (m + 1) from h]
    rfl
theorem numL_head : ∀ n : Nat, 0 < n → ∀ c r, TL.numL n = c :: r → c ≠ 48 := by
  intro n
  induction n using Nat.strongRecOn with
  | _ n ih =>
    intro hn c r e
    by_cases h : n < 10
    · rw [TL.numL_lt h] at e
      injection e with e1 _
      omega
    · rw [TL.numL_step (by omega)] at e
      cases h2 : TL.numL (n / 10) with
      | nil => exact absurd h2 (TL.numL_ne _)
      | cons a b =>
        rw [h2] at e
        injection e with e1 _
        rw [← e1]
        exact ih (n / 10) (by omega) (by omega) a b h2
theorem numL_all (n : Nat) : (TL.numL n).all isDg = true := by
  rw [List.all_eq_true]
  intro c hc
  exact isDg_iff.mpr (TL.numL_digits n c hc)
theorem numL_t1 (n : Nat) : (TL.numL n).take 1 ≠ [45] := fun h => by
  cases e : TL.numL n with
  | nil => exact TL.numL_ne _ e
  | cons c r =>
    rw [e] at h
    have h : c = 45 := by simpa using h
    have := TL.numL_digits n c (by rw [e]; exact List.mem_cons_self)
    omega
theorem numL_z {n : Nat} (h : (TL.numL n).take 1 = [48]) : n = 0 := by
  cases e : TL.numL n with
  | nil => exact absurd e (TL.numL_ne _)
  | cons c r =>
    rw [e] at h
    have h : c = 48 := by simpa using h
    by_cases hn : n = 0
    · exact hn
    · exact absurd h (numL_head n (by omega) c r e)
theorem digs_num (i : Int) : digs (numI i) = TL.numL i.natAbs := by
  unfold digs numI
  split
  · rfl
  · rw [if_neg (numL_t1 _)]
theorem pint_num {i : Int} (h : i.natAbs < 10 ^ 200) : pint (numI i) = some i := by
  have hl : (TL.numL i.natAbs).length ≤ 200 := TL.numL_len (by decide) h
  have h0 : 0 < (TL.numL i.natAbs).length := List.length_pos_iff.mpr (TL.numL_ne _)
  have hk : pok (numI i) = true := by
    unfold pok
    rw [digs_num, decide_eq_true h0, decide_eq_true hl, numL_all]
    show (!_) = true
    by_cases hz : (TL.numL i.natAbs).take 1 = [48]
    · have hz := numL_z hz
      have : i = 0 := by omega
      subst this
      decide +kernel
    · rw [decide_eq_false hz]; rfl
  unfold pint
  rw [if_pos hk]
  unfold numI
  split
  · rename_i hi
    rw [intText_neg (x := S (45 :: TL.numL i.natAbs)) rfl (TL.numL_digits _) (TL.numL_ne _) (by rw [S_len]; show _ + 1 ≤ _; omega), TL.numL_val]
    congr 1; omega
  · rename_i hi
    rw [intText_digits (x := S (TL.numL i.natAbs)) (TL.numL_digits _) (TL.numL_ne _) (by rw [S_len]; omega)]
    show some ((NumText.digitsVal (TL.numL i.natAbs) : Nat) : Int) = _
    rw [TL.numL_val]
    congr 1; omega
def cRule : List Nat := [114, 117, 108, 101]
theorem eRule : Str.ofString "rule" = S cRule := by decide +kernel
theorem eRuleB : Str.ofString "rule " = S (cRule ++ [32]) := by decide +kernel
theorem eB : Str.ofString " " = S [32] := by decide +kernel
theorem eAt : Str.ofString "at" = S [97, 116] := by decide +kernel
theorem eAtB : Str.ofString " at " = S [32, 97, 116, 32] := by decide +kernel
theorem eE : Str.empty = S [] := rfl
/-- words with a blank between -/
def wtext (ws : List (List Nat)) : List Nat := TL.joinL [32] ws
def rtext (p q c : Int) : List Nat := wtext [cRule, numI p, numI q, numI c]
theorem num_b (i : Int) : ∀ c ∈ numI i, c ≠ 32 := by
  intro c hc
  unfold numI at hc
  split at hc
  · rcases List.mem_cons.mp hc with rfl | hc
    · decide
    · have := TL.numL_digits _ c hc; omega
  · have := TL.numL_digits _ c hc; omega
theorem num_len {i : Int} {k : Nat} (hk : 0 < k) (h : i.natAbs < 10 ^ k) : (numI i).length ≤ k + 1 := by
  have := TL.numL_len hk h
  unfold numI
  split
  · show _ + 1 ≤ _; omega
  · omega
theorem log_bd {i : Int} (h : Bd 1900 i) : i.natAbs.log2 < 1920 := by
  by_cases h0 : i.natAbs = 0
  · rw [h0]; decide
  · have : i.natAbs < 2 ^ 1920 := Nat.lt_of_lt_of_le (show i.natAbs < 2 ^ 1900 from h) (Nat.pow_le_pow_right (by decide) (by decide))
    exact (Nat.log2_lt h0).mpr this
theorem num_le {i : Int} (h : Bd 1900 i) : (numI i).length ≤ 601 := num_len (by decide) (Nat.lt_of_lt_of_le (show i.natAbs < 2 ^ 1900 from h) (by decide +kernel))
theorem rtext_eq (p q c : Int) : rtext p q c = [] ++ (cRule ++ [32]) ++ numI p ++ [32] ++ numI q ++ [32] ++ numI c := by
  simp [rtext, wtext, TL.joinL]
def cLo (lo : Bool) : List Nat := if lo then [97, 116, 32, 108, 101, 97, 115, 116] else [97, 116, 32, 109, 111, 115, 116] ++ []
def bwS (lo : Bool) : Str := if lo then "at least" else "at most"
def recB (lo : Bool) (t n : Int) : D := .tup [.str (bwS lo), .int t, .int n]
theorem bwS_eq (lo : Bool) : bwS lo = S (cLo lo) := by cases lo <;> decide +kernel
def ctext (lo : Bool) (t n : Int) : List Nat := wtext [cLo lo, numI n, [97, 116], numI t]
theorem ctext_eq (lo : Bool) (t n : Int) : ctext lo t n = [] ++ cLo lo ++ [32] ++ numI n ++ [32, 97, 116, 32] ++ numI t := by
  simp [ctext, wtext, TL.joinL]
theorem rec_sh {x : D} (h : isRecB x = true) : ∃ lo t n, x = recB lo t n := by
  obtain ⟨⟨lo, t, n⟩, rfl⟩ := rec_of h
  exact ⟨lo, t, n, by cases lo <;> rfl⟩
theorem rule_sh {x : D} (h : isRuleB x = true) : ∃ p q c, x = ruleD p q c := by
  unfold isRuleB at h
  split at h
  · split at h
    · exact ⟨_, _, _, rfl⟩
    · cases h
  · cases h

open C8 SX
def wD (l : List Nat) : D := .str (S l)
def pw (l : List Nat) : D := optD (pint l)
def pwD : D → D
  | .str s => pw s.cps.toList
  | _ => .non
theorem pw_map (ws : List (List Nat)) : (ws.map wD).map pwD = ws.map pw := by
  rw [List.map_map]; rfl
theorem optD_atom : ∀ o : Option Int, (optD o).atom = true
  | some _ => rfl
  | none => rfl
theorem optD_plain : ∀ o : Option Int, (optD o).plain = true
  | some _ => rfl
  | none => rfl
theorem pws_atom (ws : List (List Nat)) : (ws.map pw).all D.atom = true := by
  rw [List.all_eq_true]
  intro x hx
  obtain ⟨w, _, rfl⟩ := List.mem_map.mp hx
  exact optD_atom _
theorem pws_plain (ws : List (List Nat)) : (ws.map pw).all D.plain = true := by
  rw [List.all_eq_true]
  intro x hx
  obtain ⟨w, _, rfl⟩ := List.mem_map.mp hx
  exact optD_plain _
/-- the rule that words are -/
def rfrom (ws : List (List Nat)) : D := if isIn .non (ws.map pw) || !isRuleB (.tup (ws.map pw)) then .non else .tup (ws.map pw)
def words (l : List Nat) : List (List Nat) := TL.spl [32] 0 [] l
theorem split_w (l : List Nat) : (Txt.split (S l) (S [32])).map D.str = (words l).map wD := by
  rw [split_S (by decide) (by decide), List.map_map]; rfl
theorem spl_facts : ∀ (l acc : List Nat), TL.spl [32] 0 acc l ≠ [] ∧ (TL.spl [32] 0 acc l).length ≤ l.length + 1 ∧ ∀ w ∈ TL.spl [32] 0 acc l, w.length ≤ acc.length + l.length
  | [], acc => by
    rw [TL.spl_nil]
    exact ⟨List.cons_ne_nil _ _, Nat.le_refl _, fun w hw => by rw [List.mem_singleton.mp hw]; exact Nat.le_refl _⟩
  | c :: r, acc => by
    cases h : TL.pre [32] (c :: r) with
    | true =>
      rw [TL.spl_hit h]
      obtain ⟨h1, h2, h3⟩ := spl_facts r []
      refine ⟨List.cons_ne_nil _ _, by show (TL.spl [32] 0 [] r).length + 1 ≤ r.length + 1 + 1; omega, fun w hw => ?_⟩
      rcases List.mem_cons.mp hw with rfl | hw
      · omega
      · have := h3 w hw
        simp only [List.length_nil, List.length_cons] at this ⊢
        omega
    | false =>
      rw [TL.spl_miss h]
      obtain ⟨h1, h2, h3⟩ := spl_facts r (acc ++ [c])
      refine ⟨h1, by simp only [List.length_cons]; omega, fun w hw => ?_⟩
      have := h3 w hw
      simp only [List.length_append, List.length_cons, List.length_nil] at this ⊢
      omega
theorem words_ne (l : List Nat) : words l ≠ [] := (spl_facts l []).1
theorem words_len (l : List Nat) : (words l).length ≤ l.length + 1 ∧ ∀ w ∈ words l, w.length ≤ l.length := by
  refine ⟨(spl_facts l []).2.1, fun w hw => ?_⟩
  have := (spl_facts l []).2.2 w hw
  simpa using this
def ruleOf (l : List Nat) : D := if (words l).head? = some cRule then rfrom ((words l).drop 1) else .non
theorem cut_take (l : List D) (m : Nat) : L3.cutD l none (some (m : Int)) = l.take m := by
  unfold L3.cutD
  rw [HT.sIx_nat]
  show ((l.drop 0).take (min m l.length - 0)) = _
  rw [List.drop_zero, Nat.sub_zero]
  rcases Nat.le_total m l.length with h | h
  · rw [Nat.min_eq_left h]
  · rw [Nat.min_eq_right h, List.take_of_length_le h, List.take_of_length_le (Nat.le_refl _)]
theorem cut_drop (l : List D) (m : Nat) : L3.cutD l (some (m : Int)) none = l.drop m := by
  unfold L3.cutD
  rw [HT.sIx_nat]
  show (l.drop (min m l.length)).take (l.length - min m l.length) = _
  rcases Nat.le_total m l.length with h | h
  · rw [Nat.min_eq_left h, List.take_of_length_le]
    rw [List.length_drop]; exact Nat.le_refl _
  · rw [Nat.min_eq_right h, Nat.sub_self, List.take_zero, List.drop_of_length_le h]
def bnd (w : List Nat) : Bool := decide (w = cLo true) || decide (w = cLo false)
theorem bnd_in (w : List Nat) : isIn (.str (S w)) [.str "at least", .str "at most"] = bnd w := by
  have e1 : ("at least" : Str) = S (cLo true) := bwS_eq true
  have e2 : ("at most" : Str) = S (cLo false) := bwS_eq false
  rw [e1, e2]
  have k : ∀ a b : List Nat, (S a == S b) = decide (b = a) := fun a b => by
    rw [S_beq_eq]; exact decide_eq_decide.mpr ⟨Eq.symm, Eq.symm⟩
  show ((S (cLo true) == S w) || ((S (cLo false) == S w) || false)) = _
  rw [k, k, Bool.or_false]; rfl
/-- the record that words are -/
def recFrom : List (List Nat) → D
  | [a, b, c, d, e] => if decide (d = [97, 116]) && bnd (a ++ 32 :: b) then (match pint c, pint e with
    | some n, some t => .tup [.str (S (a ++ 32 :: b)), .int t, .int n]
    | _, _ => .non) else .non
  | _ => .non
def exParse (x : D) : EX := ⟨14, ["line"], [x]⟩

abbrev s_rule_from : Stmt := topS 13
abbrev N_rule_from : List Str := ["words", "numbers", "word"]
theorem sc_rule_from : FnScope N_rule_from ["words"] (defScope s_rule_from) := ⟨rfl, rfl, rfl, by decide +kernel, rfl, by decide +kernel, by decide +kernel⟩
def S_rule_from : SA := fun ds Q _ => ∃ ws : List (List Nat), ds = [.lst (ws.map wD)] ∧ ws.length ≤ 100000 ∧ (∀ w ∈ ws, w.length ≤ 100000) ∧ Q (rfrom ws)
theorem binds_rule_from (F : FnP K "rule_from" s_rule_from [] f fd) : Binds K fd ["words"] [] := F.bindsN (ps := ["words"]) fun _ _ _ _ _ _ us hl => match us, hl with | [_], _ => rfl
theorem ok_rule_from (Gz : Gs K mg) (F : FnP K "rule_from" s_rule_from [] f fd) {f_is_rule : Addr} {fd_is_rule : FuncData} (G_is_rule : OwnF false P w K mg base "is_rule" 3 f_is_rule fd_is_rule ["value"] (spA K T S_is_rule)) (b_is_rule : Binds K fd_is_rule ["value"] []) {f_parse_integer : Addr} {fd_parse_integer : FuncData} (G_parse_integer : OwnF false P w K mg base "parse_integer" 1 f_parse_integer fd_parse_integer ["word"] (spA K T S_parse_integer)) (b_parse_integer : Binds K fd_parse_integer ["word"] []) : FnG false P w K mg base 4 f fd ["words"] (spA K T S_rule_from) := by
  refine bodyA F sc_rule_from (fun ds QD ED h => by obtain ⟨ws, rfl, _⟩ := h; rfl) (fun cdv hcd A outer s H E g hT hr => ?_)
  have tk := takes_of (X := cxOf (L2.CX P w) P w K mg base N_rule_from "rule_from" (defScope s_rule_from) f cdv A outer s H E) rfl rfl rfl rfl
  have hp := passes_of (X := cxOf (L2.CX P w) P w K mg base N_rule_from "rule_from" (defScope s_rule_from) f cdv A outer s H E) rfl
  have hu := rgu hr
  refine ⟨_, (pxb_cons (pxs_set (i := 1) sc_rule_from.nd rfl (by first | exact .inl rfl | exact .inr rfl) (px_callTy cd_tuple (by rfl) Gz.z_tuple bt_tuple (pxa_cons (px_lc (own := [("word", 2)]) rfl sc_rule_from.nd (pxi_seq (px_var 0)) (blkOk_by (N := N_rule_from) (sc := defScope s_rule_from) (by decide +kernel)) (fun _ _ _ _ _ => (pxc_name (i := 2) sc_rule_from.nd rfl (by first | exact .inl rfl | exact .inr rfl) (by decide))) (fun _ _ _ _ _ => pxts_nil) (fun g _ _ _ _ _ hT2 => have hT := hT2.trans hT; have tk := takes0; (px_own G_parse_integer b_parse_integer hT (hr.mono (by decide)) tk (pxa_cons (px_var 2) pxa_nil)))) pxa_nil)))
    (pxb_one (pxs_ret (px_ifExp (PXW.pxt (pxw_or (pxt_cmp od_inS px_non (px_var 1) (by rfl)) (pxw_or1 (pxt_not (pxt_val (px_own G_is_rule b_is_rule hT (hr.mono (by decide)) tk (pxa_cons (px_var 1) pxa_nil))))))) px_non (px_var 1))))), ?_⟩
  intro ds QD ED h
  obtain ⟨ws, rfl, hn, hw, q⟩ := h
  walk_at "s"
  refine ⟨by rw [List.length_map]; exact lts hn, ?_⟩
  refine cLoop_map pwD (fun y acc N hy hN => ?_) ?_
  · obtain ⟨w, hwm, rfl⟩ := List.mem_map.mp hy
    walk_at "i" <;> intro hc
    rotate_left
    · cases hc
    walk_at "s"
    refine ⟨w, rfl, hw w hwm, ?_⟩
    exact hN
  rw [pw_map]
  walk_at "s"
  refine ⟨⟨rfl, pws_atom ws⟩, ?_⟩
  unfold rfrom at q
  refine splitB (fun hc => ?_) (fun hc => ?_)
  · rw [hc] at q
    refine ifT rfl ?_
    walk_at "s"
    exact q
  rw [hc, Bool.false_or] at q
  walk_at "s"
  refine ⟨.tup (ws.map pw), rfl, pws_plain ws, ?_⟩
  walk_at "s"
  refine splitM (fun hr => ?_) (fun hr => ?_)
  · rw [hr] at q
    walk_at "s"
    exact q
  · rw [hr] at q
    walk_at "s"
    exact q

abbrev s_parse_rule : Stmt := topS 14
abbrev N_parse_rule : List Str := ["text", "words", "rule"]
theorem sc_parse_rule : FnScope N_parse_rule ["text"] (defScope s_parse_rule) := ⟨rfl, rfl, rfl, by decide +kernel, rfl, by decide +kernel, by decide +kernel⟩
structure PruP (ds : List D) (Q : D → Prop) (E : EX → Prop) : Prop where
  h : ∃ x : D, ds = [x] ∧ x.plain = true ∧ (x.isStr = false → E (exParse x)) ∧ ∀ l, x = .str (S l) → l.length ≤ 99000 ∧
    (ruleOf l = .non → E (exParse x)) ∧ (ruleOf l ≠ .non → Q (ruleOf l))
def S_parse_rule : SA := PruP
theorem binds_parse_rule (F : FnP K "parse_rule" s_parse_rule [] f fd) : Binds K fd ["text"] [] := F.bindsN (ps := ["text"]) fun _ _ _ _ _ _ us hl => match us, hl with | [_], _ => rfl
theorem ok_parse_rule (Gz : Gs K mg) (F : FnP K "parse_rule" s_parse_rule [] f fd) {f_rule_from : Addr} {fd_rule_from : FuncData} (G_rule_from : OwnF false P w K mg base "rule_from" 4 f_rule_from fd_rule_from ["words"] (spA K T S_rule_from)) (b_rule_from : Binds K fd_rule_from ["words"] []) (Ex : Exs P w K mg base) : FnG false P w K mg base 5 f fd ["text"] (spA K T S_parse_rule) := by
  refine bodyA F sc_parse_rule (fun ds QD ED h => by obtain ⟨⟨x, rfl, _⟩⟩ := h; rfl) (fun cdv hcd A outer s H E g hT hr => ?_)
  have tk := takes_of (X := cxOf (L2.CX P w) P w K mg base N_parse_rule "parse_rule" (defScope s_parse_rule) f cdv A outer s H E) rfl rfl rfl rfl
  have hp := passes_of (X := cxOf (L2.CX P w) P w K mg base N_parse_rule "parse_rule" (defScope s_parse_rule) f cdv A outer s H E) rfl
  have hu := rgu hr
  refine ⟨_, (pxb_cons (pxs_if (pxt_not (pxt_val (px_callB cd_isiStr (by rfl) Gz.z_isinstance bt_isinstance (pxa_cons (px_var 0) (pxa_cons (px_ty (by rfl) Gz.z_str bt_str) pxa_nil)))))
    (pxb_one (pxs_raise1 Ex.r_ParseError rfl tk hr (pxa_cons (px_var 0) pxa_nil)))
    pxb_nil)
    (pxb_cons (pxs_set (i := 1) sc_parse_rule.nd rfl (by first | exact .inl rfl | exact .inr rfl) (px_split (px_var 0) px_str))
    (pxb_cons (pxs_set (i := 2) sc_parse_rule.nd rfl (by first | exact .inl rfl | exact .inr rfl) (px_ifExp (pxt_cmp (od_eq hr.units) (px_ixN (k := 0) (px_var 1)) px_str (nomark _)) (px_own G_rule_from b_rule_from hT (hr.mono (by decide)) tk (pxa_cons (px_sl2T (px_var 1) px_int) pxa_nil)) px_non))
    (pxb_cons (pxs_if (pxt_cmp od_isN (px_var 2) px_non (nomark _))
    (pxb_one (pxs_raise1 Ex.r_ParseError rfl tk hr (pxa_cons (px_var 0) pxa_nil)))
    pxb_nil)
    (pxb_one (pxs_ret (px_var 2))))))), ?_⟩
  intro ds QD ED h
  obtain ⟨x, rfl, hx, qe, q⟩ := h.h
  walk_at "s"
  refine ⟨rfl, hx, ?_⟩
  refine splitM (fun hs => ?_) (fun hs => ?_)
  · walk_at "s"
    exact ⟨rfl, qe hs⟩
  obtain ⟨s0, rfl⟩ := str_of hs
  obtain ⟨l, rfl⟩ : ∃ l, s0 = S l := ⟨_, (S_tl s0).symm⟩
  obtain ⟨hl, q1, q2⟩ := q l rfl
  walk_at "s"
  rw [eB]
  refine ⟨⟨rfl, by rw [S_len]; exact ltl (by omega)⟩, ?_⟩
  rw [split_w]
  obtain ⟨hwl, hww⟩ := words_len l
  have hr0 : ruleOf l = if (words l).head? = some cRule then rfrom ((words l).drop 1) else .non := rfl
  obtain ⟨w0, wr, ew⟩ : ∃ a b, words l = a :: b := by
    cases h : words l with
    | nil => exact absurd h (words_ne l)
    | cons a b => exact ⟨a, b, rfl⟩
  rw [ew] at hr0 hwl hww ⊢
  have hwl : wr.length + 1 ≤ l.length + 1 := hwl
  walk_at "j"
  refine dSeq_j (fun ds => ds = ⟨[some (.d (.str (S l))), some (.d (.lst ((w0 :: wr).map wD))), some (.d (ruleOf l))], []⟩) (fun ds hds => ?_) (fun J hJ => ?_)
  rotate_left
  · walk_at "s"
    rw [eRule]
    refine splitD (fun hc => ?_) (fun hc => ?_)
    · have hc : w0 = cRule := S_inj hc
      rw [if_pos (show (w0 :: wr).head? = some cRule by rw [hc]; rfl)] at hr0
      walk_at "s"
      rw [show (1 : Int) = ((1 : Nat) : Int) from rfl, cut_drop]
      refine ⟨wr, rfl, by omega, fun w hw => ?_, ?_⟩
      · have := hww w (List.mem_cons_of_mem _ hw)
        omega
      walk_at "s"
      refine hJ _ ?_
      rw [hr0]; rfl
    · have hc : w0 ≠ cRule := fun z => hc (by rw [z])
      rw [if_neg (show ¬ (w0 :: wr).head? = some cRule from fun z => hc (Option.some.inj z))] at hr0
      walk_at "s"
      refine hJ _ ?_
      rw [hr0]; rfl
  subst hds
  walk_at "s"
  refine splitB (fun hc => ?_) (fun hc => ?_)
  · have hc : ruleOf l = .non := by
      cases h : ruleOf l <;> first | rfl | (rw [h] at hc; cases hc)
    rw [hc]
    walk_at "s"
    exact ⟨rfl, q1 hc⟩
  · have hc2 : ruleOf l ≠ .non := fun z => by rw [z] at hc; cases hc
    walk_at "s"
    exact q2 hc2

abbrev s_record_from : Stmt := topS 15
abbrev N_record_from : List Str := ["words", "count", "time"]
theorem sc_record_from : FnScope N_record_from ["words"] (defScope s_record_from) := ⟨rfl, rfl, rfl, by decide +kernel, rfl, by decide +kernel, by decide +kernel⟩
def S_record_from : SA := fun ds Q _ => ∃ ws : List (List Nat), ds = [.lst (ws.map wD)] ∧ ws.length ≤ 100000 ∧ (∀ w ∈ ws, w.length ≤ 100000) ∧ Q (recFrom ws)
theorem binds_record_from (F : FnP K "record_from" s_record_from [] f fd) : Binds K fd ["words"] [] := F.bindsN (ps := ["words"]) fun _ _ _ _ _ _ us hl => match us, hl with | [_], _ => rfl
theorem ok_record_from (Gz : Gs K mg) (F : FnP K "record_from" s_record_from [] f fd) {f_parse_integer : Addr} {fd_parse_integer : FuncData} (G_parse_integer : OwnF false P w K mg base "parse_integer" 1 f_parse_integer fd_parse_integer ["word"] (spA K T S_parse_integer)) (b_parse_integer : Binds K fd_parse_integer ["word"] []) : FnG false P w K mg base 2 f fd ["words"] (spA K T S_record_from) := by
  refine bodyA F sc_record_from (fun ds QD ED h => by obtain ⟨ws, rfl, _⟩ := h; rfl) (fun cdv hcd A outer s H E g hT hr => ?_)
  have tk := takes_of (X := cxOf (L2.CX P w) P w K mg base N_record_from "record_from" (defScope s_record_from) f cdv A outer s H E) rfl rfl rfl rfl
  have hp := passes_of (X := cxOf (L2.CX P w) P w K mg base N_record_from "record_from" (defScope s_record_from) f cdv A outer s H E) rfl
  have hu := rgu hr
  refine ⟨_, (pxb_cons (pxs_if (PXW.pxt (pxw_or (pxt_cmp (od_ne hr.units) (px_callB cd_len (by rfl) Gz.z_len bt_len (pxa_cons (px_var 0) pxa_nil)) px_int (nomark _)) (pxw_or (pxt_cmp (od_ne hr.units) (px_ixN (k := 3) (px_var 0)) px_str (nomark _)) (pxw_or1 (pxt_cmp od_notInS (px_join px_str (px_sl1T (px_var 0) px_int)) (px_gT Gz.c_BOUNDS) (by rfl))))))
    (pxb_one (pxs_ret px_non))
    pxb_nil)
    (pxb_cons (pxs_par (i := 1) (j := 2) rfl sc_record_from.nd rfl rfl (by decide) rfl rfl (pxa_cons (px_own G_parse_integer b_parse_integer hT (hr.mono (by decide)) tk (pxa_cons (px_ixN (k := 2) (px_var 0)) pxa_nil)) (pxa_cons (px_own G_parse_integer b_parse_integer hT (hr.mono (by decide)) tk (pxa_cons (px_ixN (k := 4) (px_var 0)) pxa_nil)) pxa_nil)) (by rfl))
    (pxb_one (pxs_ret (px_ifExp (PXW.pxt (pxw_or (pxt_cmp od_isN (px_var 1) px_non (nomark _)) (pxw_or1 (pxt_cmp od_isN (px_var 2) px_non (nomark _))))) px_non (px_tup (pxa_cons (px_join px_str (px_sl1T (px_var 0) px_int)) (pxa_cons (px_var 2) (pxa_cons (px_var 1) pxa_nil))))))))), ?_⟩
  intro ds QD ED h
  obtain ⟨ws, rfl, hn, hw, q⟩ := h
  walk_at "s"
  rw [List.length_map]
  refine splitM (fun h5 => ?_) (fun h5 => ?_)
  · have h5 := of_decide_eq_false h5
    have e : recFrom ws = .non := by
      unfold recFrom
      split
      · exact absurd rfl h5
      · rfl
    rw [e] at q
    refine ifT rfl ?_
    walk_at "s"
    exact q
  have h5 : ws.length = 5 := by have := of_decide_eq_true h5; omega
  obtain ⟨a, b, c, d, e, rfl⟩ : ∃ a b c d e, ws = [a, b, c, d, e] := by
    match ws, h5 with
    | [a, b, c, d, e], _ => exact ⟨_, _, _, _, _, rfl⟩
  have q : QD (if decide (d = [97, 116]) && bnd (a ++ 32 :: b) then (match pint c, pint e with
    | some n, some t => .tup [.str (S (a ++ 32 :: b)), .int t, .int n]
    | _, _ => .non) else .non) := q
  walk_at "s"
  rw [eAt]
  refine splitM (fun hd => ?_) (fun hd => ?_)
  · have hd : d ≠ [97, 116] := fun z => of_decide_eq_false hd (by rw [z])
    rw [decide_eq_false hd, Bool.false_and] at q
    refine ifT rfl ?_
    walk_at "s"
    exact q
  have hd : d = [97, 116] := S_inj (of_decide_eq_true hd)
  rw [decide_eq_true hd, Bool.true_and] at q
  walk_at "s"
  rw [show (2 : Int) = ((2 : Nat) : Int) from rfl, cut_take, eB]
  have la : a.length ≤ 100000 := hw a (by simp)
  have lb : b.length ≤ 100000 := hw b (by simp)
  have lc : c.length ≤ 100000 := hw c (by simp)
  have le : e.length ≤ 100000 := hw e (by simp)
  have ej : Txt.join (S [32]) [S a, S b] = S (a ++ 32 :: b) := join_S [32] [a, b]
  have hsum : ([S a, S b].map (·.length)).sum + [S a, S b].length * (S [32]).length ≤ 16777216 := by
    show (S a).length + ((S b).length + 0) + 2 * 1 ≤ _
    rw [S_len, S_len]; omega
  refine ⟨[S a, S b], rfl, hsum, ?_⟩
  rw [ej]
  walk_at "s"
  refine ⟨⟨rfl, rfl⟩, ?_⟩
  rw [bnd_in]
  refine splitM (fun hb => ?_) (fun hb => ?_)
  · rw [hb] at q
    walk_at "s"
    exact q
  rw [hb] at q
  walk_at "s"
  refine ⟨c, rfl, lc, ?_⟩
  walk_at "s"
  refine ⟨e, rfl, le, ?_⟩
  have pc : ∀ o : Option Int, o = none ∨ ∃ n, o = some n := fun o => by cases o; exact .inl rfl; exact .inr ⟨_, rfl⟩
  rcases pc (pint c) with hc | ⟨n, hc⟩
  · rw [hc] at q ⊢
    refine ifT rfl (ifT rfl ?_)
    walk_at "s"
    exact q
  rcases pc (pint e) with he | ⟨t, he⟩
  · rw [hc, he] at q
    rw [hc, he]
    refine ifF rfl ?_
    walk_at "s"
    refine ifT rfl ?_
    walk_at "s"
    exact q
  rw [hc, he] at q
  rw [hc, he]
  refine ifF rfl ?_
  walk_at "s"
  refine ifF rfl ?_
  walk_at "s"
  rw [cut_take]
  refine ⟨[S a, S b], rfl, hsum, ?_⟩
  rw [ej]
  walk_at "s"
  exact ⟨sz rfl, q⟩

abbrev s_parse_record : Stmt := topS 16
abbrev N_parse_record : List Str := ["text", "record"]
theorem sc_parse_record : FnScope N_parse_record ["text"] (defScope s_parse_record) := ⟨rfl, rfl, rfl, by decide +kernel, rfl, by decide +kernel, by decide +kernel⟩
structure PrecP (ds : List D) (Q : D → Prop) (E : EX → Prop) : Prop where
  h : ∃ x : D, ds = [x] ∧ x.plain = true ∧ (x.isStr = false → E (exParse x)) ∧ ∀ l, x = .str (S l) → l.length ≤ 99000 ∧
    (recFrom (words l) = .non → E (exParse x)) ∧ (recFrom (words l) ≠ .non → Q (recFrom (words l)))
def S_parse_record : SA := PrecP
theorem binds_parse_record (F : FnP K "parse_record" s_parse_record [] f fd) : Binds K fd ["text"] [] := F.bindsN (ps := ["text"]) fun _ _ _ _ _ _ us hl => match us, hl with | [_], _ => rfl
theorem ok_parse_record (Gz : Gs K mg) (F : FnP K "parse_record" s_parse_record [] f fd) {f_record_from : Addr} {fd_record_from : FuncData} (G_record_from : OwnF false P w K mg base "record_from" 2 f_record_from fd_record_from ["words"] (spA K T S_record_from)) (b_record_from : Binds K fd_record_from ["words"] []) (Ex : Exs P w K mg base) : FnG false P w K mg base 3 f fd ["text"] (spA K T S_parse_record) := by
  refine bodyA F sc_parse_record (fun ds QD ED h => by obtain ⟨⟨x, rfl, _⟩⟩ := h; rfl) (fun cdv hcd A outer s H E g hT hr => ?_)
  have tk := takes_of (X := cxOf (L2.CX P w) P w K mg base N_parse_record "parse_record" (defScope s_parse_record) f cdv A outer s H E) rfl rfl rfl rfl
  have hp := passes_of (X := cxOf (L2.CX P w) P w K mg base N_parse_record "parse_record" (defScope s_parse_record) f cdv A outer s H E) rfl
  have hu := rgu hr
  refine ⟨_, (pxb_cons (pxs_if (pxt_not (pxt_val (px_callB cd_isiStr (by rfl) Gz.z_isinstance bt_isinstance (pxa_cons (px_var 0) (pxa_cons (px_ty (by rfl) Gz.z_str bt_str) pxa_nil)))))
    (pxb_one (pxs_raise1 Ex.r_ParseError rfl tk hr (pxa_cons (px_var 0) pxa_nil)))
    pxb_nil)
    (pxb_cons (pxs_set (i := 1) sc_parse_record.nd rfl (by first | exact .inl rfl | exact .inr rfl) (px_own G_record_from b_record_from hT (hr.mono (by decide)) tk (pxa_cons (px_split (px_var 0) px_str) pxa_nil)))
    (pxb_cons (pxs_if (pxt_cmp od_isN (px_var 1) px_non (nomark _))
    (pxb_one (pxs_raise1 Ex.r_ParseError rfl tk hr (pxa_cons (px_var 0) pxa_nil)))
    pxb_nil)
    (pxb_one (pxs_ret (px_var 1)))))), ?_⟩
  intro ds QD ED h
  obtain ⟨x, rfl, hx, qe, q⟩ := h.h
  walk_at "s"
  refine ⟨rfl, hx, ?_⟩
  refine splitM (fun hs => ?_) (fun hs => ?_)
  · walk_at "s"
    exact ⟨rfl, qe hs⟩
  obtain ⟨s0, rfl⟩ := str_of hs
  obtain ⟨l, rfl⟩ : ∃ l, s0 = S l := ⟨_, (S_tl s0).symm⟩
  obtain ⟨hl, q1, q2⟩ := q l rfl
  walk_at "s"
  rw [eB]
  refine ⟨⟨rfl, by rw [S_len]; exact ltl (by omega)⟩, ?_⟩
  rw [split_w]
  obtain ⟨hwl, hww⟩ := words_len l
  walk_at "s"
  refine ⟨words l, rfl, by omega, fun w hw => ?_, ?_⟩
  · have := hww w hw
    omega
  walk_at "s"
  refine splitB (fun hc => ?_) (fun hc => ?_)
  · have hc : recFrom (words l) = .non := by
      cases h : recFrom (words l) <;> first | rfl | (rw [h] at hc; cases hc)
    walk_at "s"
    exact ⟨rfl, q1 hc⟩
  · have hc2 : recFrom (words l) ≠ .non := fun z => by rw [z] at hc; cases hc
    walk_at "s"
    exact q2 hc2
abbrev PK : List Key := pkey "at" "left"
theorem cut_pen (ns : List Int) (h : ns.length ≤ 63) : L3.cutD (ns.map D.int) none (some 63) = ns.map D.int := by
  unfold L3.cutD
  simp only [HT.sIx, List.length_map]
  rw [List.drop_zero]
  refine List.take_of_length_le ?_
  rw [List.length_map]
  simp
  omega
def cellI (lim z : Int) : Int := if (10 : Int) ^ Int.toNat 18 ≤ (z.natAbs : Int) then (z.natAbs : Int) % lim else z
def cellD (lim : Int) : D → D
  | .int z => .int (cellI lim z)
  | d => d
theorem cells_map (lim : Int) (ns : List Int) : (ns.map D.int).map (cellD lim) = (ns.map (cellI lim)).map D.int := by
  rw [List.map_map, List.map_map]; rfl
theorem cell_bd {lim z : Int} (hlim : 0 < lim) (h : z.natAbs < 2 ^ 1048577) : (cellI lim z).natAbs < 2 ^ 1048577 := by
  unfold cellI
  split
  · have h1 := Int.emod_nonneg (z.natAbs : Int) (by omega : lim ≠ 0)
    have h2 : (z.natAbs : Int) % lim ≤ z.natAbs := by
      by_cases h : (z.natAbs : Int) < lim
      · rw [Int.emod_eq_of_lt (by omega) h]; exact Int.le_refl _
      · exact Int.le_trans (Int.le_of_lt (Int.emod_lt_of_pos _ hlim)) (by omega)
    exact Nat.lt_of_le_of_lt (by omega) h
  · exact h

abbrev s__law_start : Stmt := topS 18
abbrev N__law_start : List Str := ["_law_script", "_law_limit", "_law_cell"]
theorem sc__law_start : FnScope N__law_start ["_law_script"] (defScope s__law_start) := ⟨rfl, rfl, rfl, by decide +kernel, rfl, by decide +kernel, by decide +kernel⟩
abbrev S__law_start : SC := S_pen PK
theorem binds__law_start (F : FnP K "_law_start" s__law_start [] f fd) : Binds K fd ["_law_script"] [] := F.bindsN (ps := ["_law_script"]) fun _ _ _ _ _ _ us hl => match us, hl with | [_], _ => rfl
theorem ok__law_start (Gz : Gs K mg) (F : FnP K "_law_start" s__law_start [] f fd)  : FnG false P w K mg base 1 f fd ["_law_script"] (spC K T S__law_start) := by
  refine bodyC F sc__law_start (fun ds QD h => by obtain ⟨ns, rfl, _⟩ := h; rfl) (fun cdv hcd A outer s H E g hT hr => ?_)
  have tk := takes_of (X := cxOf (L2.CX P w) P w K mg base N__law_start "_law_start" (defScope s__law_start) f cdv A outer s H E) rfl rfl rfl rfl
  have hp := passes_of (X := cxOf (L2.CX P w) P w K mg base N__law_start "_law_start" (defScope s__law_start) f cdv A outer s H E) rfl
  have hu := rgu hr
  refine ⟨_, (pxb_cons (pxs_set (i := 1) sc__law_start.nd rfl (by first | exact .inl rfl | exact .inr rfl) (px_op od_powW (px_op od_pow px_int px_int) px_int))
    (pxb_one (pxs_ret (px_dic (pxd_cons (px_lc (own := [("_law_cell", 2)]) rfl sc__law_start.nd (pxi_seq (px_sl1 (px_var 0) px_int)) (blkOk_by (N := N__law_start) (sc := defScope s__law_start) (by decide +kernel)) (fun _ _ _ _ _ => (pxc_name (i := 2) sc__law_start.nd rfl (by first | exact .inl rfl | exact .inr rfl) (by decide))) (fun _ _ _ _ _ => pxts_nil) (fun g _ _ _ _ _ hT2 => have hT := hT2.trans hT; (px_ifExp (pxt_cmp od_ge (px_callB cd_abs (by rfl) Gz.z_abs bt_abs (pxa_cons (px_var 2) pxa_nil)) (px_op od_pow px_int px_int) (nomark _)) (px_op od_mod (px_callB cd_abs (by rfl) Gz.z_abs bt_abs (pxa_cons (px_var 2) pxa_nil)) (px_var 1)) (px_var 2)))) (pxd_cons px_int (pxd_cons px_int pxd_nil))))))), ?_⟩
  intro ds QD h
  obtain ⟨ns, rfl, hl, hb, q⟩ := h
  walk_at "s"
  refine ⟨by unfold CPow; decide, ?_⟩
  walk_at "s"
  have hc : CPowW ((10 : Int) ^ Int.toNat 60) 60 := ⟨by decide, by decide +kernel⟩
  have ha : (0 : Int) < (10 : Int) ^ Int.toNat 60 := Int.pow_pos (by decide)
  generalize (10 : Int) ^ Int.toNat 60 = a at hc ha ⊢
  refine ⟨hc, ?_⟩
  have hlim : 0 < a ^ Int.toNat 60 := Int.pow_pos ha
  walk_at "s"
  rw [cut_pen ns hl]
  refine ⟨by rw [List.length_map]; exact Nat.lt_of_le_of_lt hl (sz' rfl), ?_⟩
  refine cLoop_map (cellD (a ^ Int.toNat 60)) (fun x acc N hx hN => ?_) ?_
  · obtain ⟨z, hz, rfl⟩ := List.mem_map.mp hx
    walk_at "s"
    refine ⟨fun _ => ?_, fun h => (nomatch h)⟩
    walk_at "s"
    refine ⟨pow18, ?_⟩
    rw [absI]
    have e : cellD (a ^ Int.toNat 60) (.int z) = .int (if (10 : Int) ^ Int.toNat 18 ≤ (z.natAbs : Int) then (z.natAbs : Int) % (a ^ Int.toNat 60) else z) := rfl
    rw [e] at hN
    refine splitD (fun hc => ?_) (fun hc => ?_)
    · rw [if_pos hc] at hN
      walk_at "s"
      refine ⟨hlim, ?_⟩
      rw [absI]
      exact hN
    · rw [if_neg hc] at hN
      walk_at "s"
      exact hN
  · walk_at "s"
    rw [cells_map]
    refine ⟨trivial, q _ ⟨_, 0, 0, rfl, by rw [List.length_map]; exact hl, fun z hz => ?_, by decide, by decide, by decide, by exact Int.pow_pos (by decide)⟩⟩
    obtain ⟨y, hy, rfl⟩ := List.mem_map.mp hz
    exact cell_bd hlim (hb y hy)
theorem dSeq_join {a b : TSd} {De : DE} {ds : DS} (P : DS → Prop) (tail : ∀ ds', P ds' → b De ds') (h : ∀ K : DS → Prop, (∀ ds', P ds' → K ds') → a { De with nx := K } ds) : dSeq a b De ds := h _ tail

abbrev s__law_draw : Stmt := topS 19
abbrev N__law_draw : List Str := ["_law_state", "_law_size", "_law_digit", "_law_at", "_law_cell", "_law_mixed", "_law_step"]
theorem sc__law_draw : FnScope N__law_draw ["_law_state", "_law_size"] (defScope s__law_draw) := ⟨rfl, rfl, rfl, by decide +kernel, rfl, by decide +kernel, by decide +kernel⟩
abbrev S__law_draw : SB := S_draw PK
theorem binds__law_draw (F : FnP K "_law_draw" s__law_draw [] f fd) : Binds K fd ["_law_state", "_law_size"] [] := F.bindsN (ps := ["_law_state", "_law_size"]) fun _ _ _ _ _ _ us hl => match us, hl with | [_, _], _ => rfl
theorem ok__law_draw (Gz : Gs K mg) (F : FnP K "_law_draw" s__law_draw [] f fd)  : FnG false P w K mg base 1 f fd ["_law_state", "_law_size"] (spB K T S__law_draw) := by
  refine bodyB F sc__law_draw (fun c ds QD ED h => by obtain ⟨k, n, _, _, rfl, _⟩ := h; rfl) (fun cdv hcd A outer s H E g hT hr => ?_)
  have tk := takes_of (X := cxOf (L2.CX P w) P w K mg base N__law_draw "_law_draw" (defScope s__law_draw) f cdv A outer s H E) rfl rfl rfl rfl
  have hp := passes_of (X := cxOf (L2.CX P w) P w K mg base N__law_draw "_law_draw" (defScope s__law_draw) f cdv A outer s H E) rfl
  have hu := rgu hr
  refine ⟨_, (pxb_cons (pxs_if (pxt_cmp od_gt (px_dgetS (j := 2) hu (px_var 0)) px_int (nomark _))
    (pxb_cons (pxs_set (i := 2) sc__law_draw.nd rfl (by first | exact .inl rfl | exact .inr rfl) (px_op od_mod (px_dgetS (j := 2) hu (px_var 0)) (px_var 1)))
    (pxb_cons (pxs_dputS (j := 2) hu (px_op od_div (px_dgetS (j := 2) hu (px_var 0)) (px_var 1)) (px_var 0))
    (pxb_one (pxs_ret (px_var 2)))))
    pxb_nil)
    (pxb_cons (pxs_set (i := 3) sc__law_draw.nd rfl (by first | exact .inl rfl | exact .inr rfl) (px_dgetS (j := 1) hu (px_var 0)))
    (pxb_cons (pxs_dputS (j := 1) hu (px_op od_add (px_var 3) px_int) (px_var 0))
    (pxb_cons (pxs_set (i := 4) sc__law_draw.nd rfl (by first | exact .inl rfl | exact .inr rfl) (px_op od_add (px_op od_mul (px_var 3) (px_var 3)) px_int))
    (pxb_cons (pxs_if (pxt_cmp (od_ne hr.units) (px_dgetS (j := 0) hu (px_var 0)) (px_lst pxa_nil) (nomark _))
    (pxb_one (pxs_set (i := 4) sc__law_draw.nd rfl (by first | exact .inl rfl | exact .inr rfl) (px_ix (px_dgetS (j := 0) hu (px_var 0)) (px_op od_mod (px_var 3) (px_callB cd_len (by rfl) Gz.z_len bt_len (pxa_cons (px_dgetS (j := 0) hu (px_var 0)) pxa_nil))))))
    pxb_nil)
    (pxb_cons (pxs_if (PXW.pxt (pxw_and (pxt_cmp od_lt (px_var 3) (px_callB cd_len (by rfl) Gz.z_len bt_len (pxa_cons (px_dgetS (j := 0) hu (px_var 0)) pxa_nil)) (nomark _)) (pxw_and1 (pxt_cmp od_ge (px_var 4) (px_op od_pow px_int px_int) (nomark _)))))
    (pxb_cons (pxs_dputS (j := 2) hu (px_op od_div (px_var 4) (px_var 1)) (px_var 0))
    (pxb_one (pxs_ret (px_op od_mod (px_var 4) (px_var 1)))))
    pxb_nil)
    (pxb_cons (pxs_set (i := 5) sc__law_draw.nd rfl (by first | exact .inl rfl | exact .inr rfl) (px_op od_mod (px_op od_mul (px_op od_add (px_op od_add (px_op od_mod (px_var 4) px_int) (px_op od_mul px_int (px_var 3))) px_int) px_int) px_int))
    (pxb_cons (pxs_for hp rfl (pxi_range1 (by rfl) Gz.z_range (pxa_cons px_int pxa_nil)) (pxg_name (i := 6) sc__law_draw.nd rfl (by first | exact .inl rfl | exact .inr rfl))
    (pxb_cons (pxs_set (i := 5) sc__law_draw.nd rfl (by first | exact .inl rfl | exact .inr rfl) (px_op od_add (px_op od_add (px_op od_add (px_op od_mul (px_var 5) (px_var 5)) (px_op od_mul px_int (px_var 5))) (px_var 3)) (px_var 6)))
    (pxb_one (pxs_set (i := 5) sc__law_draw.nd rfl (by first | exact .inl rfl | exact .inr rfl) (px_op od_mod (px_var 5) px_int)))))
    (pxb_one (pxs_ret (px_op od_mod (px_op od_div (px_var 5) px_int) (px_var 1)))))))))))), ?_⟩
  intro c ds QD ED h
  obtain ⟨k, n, ⟨cells, t, l, rfl, hc, hb, ht0, ht, hl0, hl⟩, hk, rfl, hn0, hn, q⟩ := h
  have hw : CDivW n n := wdiv (b := 64) hn0 (Nat.lt_of_lt_of_le (m := 2 ^ 64) (by omega) (Nat.le_refl _)) (by decide)
  have mB : ∀ i j : Int, i.natAbs < 2 ^ 200 → j.natAbs < 2 ^ 200 → CMulW i j := fun i j h1 h2 => wmul h1 h2 (by decide)
  have h5 : 0 ≤ t → t < 2 ^ 60 → (t * t + 5).natAbs < 2 ^ 200 := fun a b => by
    have h : Bd 121 (t * t + 5) := Bd.add (n := 120) (Bd.mul (n := 60) (m := 60) (by unfold Bd; omega) (by unfold Bd; omega)) (bdT (by decide))
    exact h.mono (by decide)
  walk_at "p"
  walk_at "i" <;> intro hc1
  · walk_at "p"
    walk_at "s"
    refine ⟨hn0, ?_⟩
    walk_at "p"
    walk_at "s"
    refine ⟨hw, ?_⟩
    walk_at "q"
    walk_at "s"
    refine ⟨True.intro, q _ _ (Int.emod_nonneg _ (by omega)) (Int.emod_lt_of_pos _ hn0) ⟨cells, t, l / n, rfl, hc, hb, ht0, by omega, Int.ediv_nonneg hl0 (by omega), ?_⟩⟩
    exact Int.lt_of_le_of_lt (Int.ediv_le_self _ hl0) hl
  · walk_at "p"
    walk_at "s"
    walk_at "q"
    walk_at "s"
    refine ⟨mB _ _ (by omega) (by omega), ?_⟩
    dsimp only [dC, rdAdd, dgName]
    refine dSeq_join (fun ds' => ∃ (cell : Int) (z2 z5 z6 : Option Z), ds' = ⟨[some (.m 0), some (.d (.int n)), z2, some (.d (.int t)), some (.d (.int cell)), z5, z6], [some (pen PK cells (t + 1) l)]⟩ ∧ cell.natAbs < 2 ^ 1048577) ?_ (fun K hK => ?_)
    · rintro ds' ⟨cell, z2, z5, z6, rfl, hcell⟩
      walk_at "p"
      walk_at "i" <;> intro hc3
      · walk_at "s"
        refine ⟨pow18, ?_⟩
        walk_at "i" <;> intro hc4
        · have hc4 := of_decide_eq_true hc4
          have hc0 : 0 ≤ cell := Int.le_trans (Int.le_of_lt (Int.pow_pos (by decide))) hc4
          walk_at "s"
          refine ⟨hw, ?_⟩
          walk_at "q"
          walk_at "s"
          refine ⟨hn0, ?_⟩
          walk_at "s"
          refine ⟨True.intro, q _ _ (Int.emod_nonneg _ (by omega)) (Int.emod_lt_of_pos _ hn0) ⟨cells, t + 1, _, rfl, hc, hb, by omega, by omega, Int.ediv_nonneg hc0 (by omega), ?_⟩⟩
          refine Int.lt_of_le_of_lt (Int.ediv_le_self _ hc0) ?_
          have h1 : ((cell.natAbs : Nat) : Int) < ((2 ^ 1048577 : Nat) : Int) := Int.ofNat_lt.mpr hcell
          rw [Int.natAbs_of_nonneg hc0] at h1
          rw [Int.natCast_pow] at h1; exact h1
        · walk_at "s"
          refine ⟨(by decide : (0 : Int) < 4294967311), ?_⟩
          walk_at "s"
          refine ⟨mB _ _ (by decide) (by omega), ?_⟩
          walk_at "s"
          refine ⟨mB _ _ (by omega) (by decide), ?_⟩
          walk_at "s"
          refine ⟨(by decide : (0 : Int) < 4294967311), ?_⟩
          walk_at "s"
          refine ⟨by decide, ?_⟩
          refine dLoop_rng (fun i ds => ∃ (m : Int) (z6 : Option Z), ds = ⟨[some (.m 0), some (.d (.int n)), z2, some (.d (.int t)), some (.d (.int cell)), some (.d (.int m)), z6], [some (pen PK cells (t + 1) l)]⟩ ∧ 0 ≤ m ∧ m < 4294967311) ⟨_, _, rfl, Int.emod_nonneg _ (by decide), Int.emod_lt_of_pos _ (by decide)⟩ ?_ ?_
          · rintro i ds N hi ⟨m, z6, rfl, m0, m1⟩ hN
            have hi : i < 3 := hi
            walk_at "s"
            refine ⟨mB _ _ (by omega) (by omega), ?_⟩
            walk_at "s"
            refine ⟨mB _ _ (by decide) (by omega), ?_⟩
            walk_at "s"
            refine ⟨(by decide : (0 : Int) < 4294967311), ?_⟩
            walk_at "s"
            exact hN _ ⟨_, _, rfl, Int.emod_nonneg _ (by decide), Int.emod_lt_of_pos _ (by decide)⟩
          · rintro ds ⟨m, z6, rfl, m0, m1⟩
            walk_at "s"
            refine ⟨wdiv (b := 6) (by decide) (by decide) (by decide), ?_⟩
            walk_at "s"
            refine ⟨hn0, ?_⟩
            walk_at "s"
            exact ⟨True.intro, q _ _ (Int.emod_nonneg _ (by omega)) (Int.emod_lt_of_pos _ hn0) ⟨cells, t + 1, l, rfl, hc, hb, by omega, by omega, hl0, hl⟩⟩
      · walk_at "i" <;> intro hc5
        · cases hc5
        · walk_at "s"
          refine ⟨(by decide : (0 : Int) < 4294967311), ?_⟩
          walk_at "s"
          refine ⟨mB _ _ (by decide) (by omega), ?_⟩
          walk_at "s"
          refine ⟨mB _ _ (by omega) (by decide), ?_⟩
          walk_at "s"
          refine ⟨(by decide : (0 : Int) < 4294967311), ?_⟩
          walk_at "s"
          refine ⟨by decide, ?_⟩
          refine dLoop_rng (fun i ds => ∃ (m : Int) (z6 : Option Z), ds = ⟨[some (.m 0), some (.d (.int n)), z2, some (.d (.int t)), some (.d (.int cell)), some (.d (.int m)), z6], [some (pen PK cells (t + 1) l)]⟩ ∧ 0 ≤ m ∧ m < 4294967311) ⟨_, _, rfl, Int.emod_nonneg _ (by decide), Int.emod_lt_of_pos _ (by decide)⟩ ?_ ?_
          · rintro i ds N hi ⟨m, z6, rfl, m0, m1⟩ hN
            have hi : i < 3 := hi
            walk_at "s"
            refine ⟨mB _ _ (by omega) (by omega), ?_⟩
            walk_at "s"
            refine ⟨mB _ _ (by decide) (by omega), ?_⟩
            walk_at "s"
            refine ⟨(by decide : (0 : Int) < 4294967311), ?_⟩
            walk_at "s"
            exact hN _ ⟨_, _, rfl, Int.emod_nonneg _ (by decide), Int.emod_lt_of_pos _ (by decide)⟩
          · rintro ds ⟨m, z6, rfl, m0, m1⟩
            walk_at "s"
            refine ⟨wdiv (b := 6) (by decide) (by decide) (by decide), ?_⟩
            walk_at "s"
            refine ⟨hn0, ?_⟩
            walk_at "s"
            exact ⟨True.intro, q _ _ (Int.emod_nonneg _ (by omega)) (Int.emod_lt_of_pos _ hn0) ⟨cells, t + 1, l, rfl, hc, hb, by omega, by omega, hl0, hl⟩⟩
    · walk_at "p"
      walk_at "s"
      refine ⟨by decide, lay_eqOk (n := 1) (m := 1) (by simpa [D.lay] using lays_int 0 cells) (by rfl) (by decide) (by decide), ?_⟩
      walk_at "i" <;> intro hc2
      · walk_at "p"
        walk_at "p"
        walk_at "s"
        have hne : 0 < cells.length := by
          cases cells with
          | nil => exact absurd hc2 (by decide)
          | cons => simp
        refine ⟨by simpa using hne, ?_⟩
        walk_at "s"
        have hm := natAbs_mod (i := t) (j := ((cells.map D.int).length : Int)) (by simpa using hne)
        rw [List.length_map] at hm
        obtain ⟨z, hz, e⟩ := atI_ints (l := cells) hm.1 hm.2
        refine ⟨_, by rw [List.length_map]; exact e, ?_⟩
        exact hK _ ⟨z, _, _, _, rfl, hb z hz⟩
      · exact hK _ ⟨_, _, _, _, rfl, Nat.lt_of_lt_of_le (m := 2 ^ 200) (h5 ht0 (by omega)) (Nat.pow_le_pow_right (by decide) (by decide))⟩

abbrev s__law_divisor : Stmt := topS 20
abbrev N__law_divisor : List Str := ["_law_one", "_law_two"]
theorem sc__law_divisor : FnScope N__law_divisor ["_law_one", "_law_two"] (defScope s__law_divisor) := ⟨rfl, rfl, rfl, by decide +kernel, rfl, by decide +kernel, by decide +kernel⟩
def S__law_divisor : SA := fun ds Q _ => ∃ a b : Int, ds = [.int a, .int b] ∧ 0 ≤ a ∧ 0 ≤ b ∧ Q (.int (Int.gcd a b))
theorem binds__law_divisor (F : FnP K "_law_divisor" s__law_divisor [] f fd) : Binds K fd ["_law_one", "_law_two"] [] := F.bindsN (ps := ["_law_one", "_law_two"]) fun _ _ _ _ _ _ us hl => match us, hl with | [_, _], _ => rfl
theorem ok__law_divisor (Gz : Gs K mg) (F : FnP K "_law_divisor" s__law_divisor [] f fd)  : FnG false P w K mg base 1 f fd ["_law_one", "_law_two"] (spA K T S__law_divisor) := by
  refine bodyA F sc__law_divisor (fun ds QD ED h => by obtain ⟨a, b, rfl, _⟩ := h; rfl) (fun cdv hcd A outer s H E g hT hr => ?_)
  have tk := takes_of (X := cxOf (L2.CX P w) P w K mg base N__law_divisor "_law_divisor" (defScope s__law_divisor) f cdv A outer s H E) rfl rfl rfl rfl
  have hp := passes_of (X := cxOf (L2.CX P w) P w K mg base N__law_divisor "_law_divisor" (defScope s__law_divisor) f cdv A outer s H E) rfl
  have hu := rgu hr
  refine ⟨_, (pxb_cons (pxs_while hp (pxt_cmp od_gt (px_var 1) px_int (nomark _))
    (pxb_one (pxs_par (i := 0) (j := 1) rfl sc__law_divisor.nd rfl rfl (by decide) rfl rfl (pxa_cons (px_var 1) (pxa_cons (px_op od_mod (px_var 0) (px_var 1)) pxa_nil)) (by rfl))))
    (pxb_one (pxs_ret (px_var 0)))), ?_⟩
  intro ds QD ED h
  obtain ⟨a, b, rfl, ha, hb, q⟩ := h
  refine ⟨fun k ds => ∃ x y, ds = ⟨[some (.d (.int x)), some (.d (.int y))], []⟩ ∧ 0 ≤ x ∧ 0 ≤ y ∧ k = y.toNat ∧ Int.gcd x y = Int.gcd a b, ⟨_, a, b, rfl, ha, hb, rfl, rfl⟩, ?_⟩
  rintro k ds ⟨x, y, rfl, hx, hy, rfl, e⟩
  walk_at "i" <;> intro hc
  · have hc := of_decide_eq_true hc
    walk_at "s"
    have hm := natAbs_mod (i := x) hc
    exact ⟨hc, _, (by omega : (x % y).toNat < y.toNat), _, _, rfl, hy, hm.1, rfl, (gcd_step hx hc).trans e⟩
  · have hc := of_decide_eq_false hc
    have hy0 : y = 0 := by omega
    subst hy0
    walk_at "s"
    rw [← e, gcd_z hx] at q
    exact q
def RuleOk (p q : Int) : Prop := 0 ≤ p ∧ 1 ≤ q ∧ Int.gcd p q = 1
theorem gcd_pos {p q : Int} (hp : 0 ≤ p) (hq : 1 ≤ q) : 0 < (Int.gcd p q : Int) ∧ (Int.gcd p q : Int) ≤ q := by
  have h : Int.gcd p q ≠ 0 := fun z => by
    have := (Int.gcd_eq_zero_iff.mp z).2
    omega
  have h2 : (Int.gcd p q : Int) ∣ q := Int.gcd_dvd_right ..
  exact ⟨by omega, Int.le_of_dvd (by omega) h2⟩
theorem lowest_ok {p q : Int} (hp : 0 ≤ p) (hq : 1 ≤ q) : RuleOk (p / (Int.gcd p q : Int)) (q / (Int.gcd p q : Int)) := by
  obtain ⟨hg, hgq⟩ := gcd_pos hp hq
  refine ⟨Int.ediv_nonneg hp (by omega), ?_, ?_⟩
  · exact Int.le_ediv_of_mul_le hg (by omega)
  · exact Int.gcd_ediv_gcd_ediv_gcd_of_ne_zero_right (by omega)

abbrev s__law_rule : Stmt := topS 21
abbrev N__law_rule : List Str := ["_law_state", "_law_scale", "_law_p", "_law_q", "_law_c", "_law_g"]
theorem sc__law_rule : FnScope N__law_rule ["_law_state"] (defScope s__law_rule) := ⟨rfl, rfl, rfl, by decide +kernel, rfl, by decide +kernel, by decide +kernel⟩
def S__law_rule : SB := fun c ds Q _ => ∃ k : Nat, PenC PK k c ∧ 10 ≤ k ∧ ds = [] ∧ ∀ p q v c', Rl.Ok p q → Bd 40 p → Bd 40 q → Bd 40 v → PenC PK (k - 10) c' → Q (ruleD p q v) c'
theorem binds__law_rule (F : FnP K "_law_rule" s__law_rule [] f fd) : Binds K fd ["_law_state"] [] := F.bindsN (ps := ["_law_state"]) fun _ _ _ _ _ _ us hl => match us, hl with | [_], _ => rfl
theorem ok__law_rule (Gz : Gs K mg) (F : FnP K "_law_rule" s__law_rule [] f fd) {f__law_divisor : Addr} {fd__law_divisor : FuncData} (G__law_divisor : OwnF false P w K mg base "_law_divisor" 1 f__law_divisor fd__law_divisor ["_law_one", "_law_two"] (spA K T S__law_divisor)) (b__law_divisor : Binds K fd__law_divisor ["_law_one", "_law_two"] []) {f__law_draw : Addr} {fd__law_draw : FuncData} (G__law_draw : OwnF false P w K mg base "_law_draw" 1 f__law_draw fd__law_draw ["_law_state", "_law_size"] (spB K T S__law_draw)) (b__law_draw : Binds K fd__law_draw ["_law_state", "_law_size"] []) : FnG false P w K mg base 2 f fd ["_law_state"] (spB K T S__law_rule) := by
  refine bodyB F sc__law_rule (fun c ds QD ED h => by obtain ⟨k, _, _, rfl, _⟩ := h; rfl) (fun cdv hcd A outer s H E g hT hr => ?_)
  have tk := takes_of (X := cxOf (L2.CX P w) P w K mg base N__law_rule "_law_rule" (defScope s__law_rule) f cdv A outer s H E) rfl rfl rfl rfl
  have hp := passes_of (X := cxOf (L2.CX P w) P w K mg base N__law_rule "_law_rule" (defScope s__law_rule) f cdv A outer s H E) rfl
  have hu := rgu hr
  refine ⟨_, (pxb_cons (pxs_set (i := 1) sc__law_rule.nd rfl (by first | exact .inl rfl | exact .inr rfl) (px_ix (px_lst (pxa_cons px_int (pxa_cons px_int (pxa_cons (px_op od_pow px_int px_int) pxa_nil)))) (px_ownB G__law_draw b__law_draw hT (hr.mono (by decide)) tk (pxa_cons (px_var 0) (pxa_cons px_int pxa_nil)))))
    (pxb_cons (pxs_par (i := 2) (j := 3) rfl sc__law_rule.nd rfl rfl (by decide) rfl rfl (pxa_cons (px_ownB G__law_draw b__law_draw hT (hr.mono (by decide)) tk (pxa_cons (px_var 0) (pxa_cons (px_var 1) pxa_nil))) (pxa_cons (px_op od_add px_int (px_ownB G__law_draw b__law_draw hT (hr.mono (by decide)) tk (pxa_cons (px_var 0) (pxa_cons (px_var 1) pxa_nil)))) pxa_nil)) (by rfl))
    (pxb_cons (pxs_par (i := 4) (j := 5) rfl sc__law_rule.nd rfl rfl (by decide) rfl rfl (pxa_cons (px_op od_sub (px_ownB G__law_draw b__law_draw hT (hr.mono (by decide)) tk (pxa_cons (px_var 0) (pxa_cons (px_op od_mul px_int (px_var 1)) pxa_nil))) (px_var 1)) (pxa_cons (px_own G__law_divisor b__law_divisor hT (hr.mono (by decide)) tk (pxa_cons (px_var 2) (pxa_cons (px_var 3) pxa_nil))) pxa_nil)) (by rfl))
    (pxb_one (pxs_ret (px_tup (pxa_cons (px_op od_div (px_var 2) (px_var 5)) (pxa_cons (px_op od_div (px_var 3) (px_var 5)) (pxa_cons (px_op od_div (px_var 4) (px_var 5)) pxa_nil))))))))), ?_⟩
  intro c ds QD ED h
  obtain ⟨k, hp, hk, rfl, q⟩ := h
  walk_at "s"
  refine ⟨by unfold CPow; decide, ?_⟩
  walk_at "s"
  refine ⟨sz rfl, hp.closed, _, _, hp, by omega, rfl, by decide, by decide, fun j c j0 j1 hp => ⟨hp.closed, ?_⟩⟩
  walk_at "s"
  obtain ⟨sc, e, s1, s2⟩ : ∃ sc : Int, atI [D.int 5, D.int 30, D.int ((10 : Int) ^ Int.toNat 9)] j = some (.int sc) ∧ 1 ≤ sc ∧ sc ≤ 1000000000 := by
    obtain rfl | rfl | rfl : j = 0 ∨ j = 1 ∨ j = 2 := by omega
    · exact ⟨5, rfl, by decide, by decide⟩
    · exact ⟨30, rfl, by decide, by decide⟩
    · exact ⟨(10 : Int) ^ Int.toNat 9, rfl, by decide, by decide⟩
  refine ⟨_, e, ?_⟩
  walk_at "s"
  refine ⟨hp.closed, _, _, hp, by omega, rfl, by omega, by omega, fun p c p0 p1 hp => ⟨hp.closed, ?_⟩⟩
  walk_at "s"
  refine ⟨hp.closed, _, _, hp, by omega, rfl, by omega, by omega, fun y c y0 y1 hp => ⟨hp.closed, ?_⟩⟩
  walk_at "s"
  have mB : ∀ i j : Int, i.natAbs < 2 ^ 200 → j.natAbs < 2 ^ 200 → CMulW i j := fun i j h1 h2 => wmul h1 h2 (by decide)
  refine ⟨mB _ _ (by decide) (by omega), ?_⟩
  walk_at "s"
  refine ⟨hp.closed, _, _, hp, by omega, rfl, by omega, by omega, fun v c v0 v1 hp => ⟨hp.closed, ?_⟩⟩
  walk_at "s"
  refine ⟨_, _, rfl, p0, by omega, ?_⟩
  obtain ⟨hg, hle⟩ := gcd_pos (q := 1 + y) p0 (by omega)
  have ok := lowest_ok (q := 1 + y) p0 (by omega)
  have bg : Bd 60 (Int.gcd p (1 + y) : Int) := by unfold Bd; omega
  walk_at "s"
  refine ⟨bg.divW hg (by decide), ?_⟩
  walk_at "s"
  refine ⟨bg.divW hg (by decide), ?_⟩
  walk_at "s"
  refine ⟨bg.divW hg (by decide), ?_⟩
  walk_at "s"
  have bp : Bd 40 p := by unfold Bd; omega
  have by' : Bd 40 (1 + y) := by unfold Bd; omega
  have bv : Bd 40 (v - sc) := by unfold Bd; omega
  exact ⟨sz rfl, hp.closed, q _ _ _ _ ok bp.div by'.div bv.div (hp.le (by omega))⟩
open C8 SX

abbrev s__law_integer : Stmt := topS 22
abbrev N__law_integer : List Str := ["_law_word", "_law_digits", "_law_sign"]
theorem sc__law_integer : FnScope N__law_integer ["_law_word"] (defScope s__law_integer) := ⟨rfl, rfl, rfl, by decide +kernel, rfl, by decide +kernel, by decide +kernel⟩
def S__law_integer : SA := fun ds Q _ => ∃ l : List Nat, ds = [.str (S l)] ∧ l.length ≤ 100000 ∧ Q (optD (pint l))
theorem binds__law_integer (F : FnP K "_law_integer" s__law_integer [] f fd) : Binds K fd ["_law_word"] [] := F.bindsN (ps := ["_law_word"]) fun _ _ _ _ _ _ us hl => match us, hl with | [_], _ => rfl
theorem ok__law_integer (Gz : Gs K mg) (F : FnP K "_law_integer" s__law_integer [] f fd)  : FnG false P w K mg base 1 f fd ["_law_word"] (spA K T S__law_integer) := by
  refine bodyA F sc__law_integer (fun ds QD ED h => by obtain ⟨l, rfl, _⟩ := h; rfl) (fun cdv hcd A outer s H E g hT hr => ?_)
  have tk := takes_of (X := cxOf (L2.CX P w) P w K mg base N__law_integer "_law_integer" (defScope s__law_integer) f cdv A outer s H E) rfl rfl rfl rfl
  have hp := passes_of (X := cxOf (L2.CX P w) P w K mg base N__law_integer "_law_integer" (defScope s__law_integer) f cdv A outer s H E) rfl
  have hu := rgu hr
  refine ⟨_, (pxb_cons (pxs_set (i := 1) sc__law_integer.nd rfl (by first | exact .inl rfl | exact .inr rfl) (px_ifExp (pxt_cmp (od_eq hr.units) (px_sl1T (px_var 0) px_int) px_str (nomark _)) (px_sl2T (px_var 0) px_int) (px_var 0)))
    (pxb_cons (pxs_if (PXW.pxt (pxw_or (pxt_cmp (od_eq hr.units) (px_var 1) px_str (nomark _)) (pxw_or (pxt_cmp od_gt (px_callB cd_len (by rfl) Gz.z_len bt_len (pxa_cons (px_var 1) pxa_nil)) px_int (nomark _)) (pxw_or1 (pxt_cmp (od_ne0 hr.units) (px_lc (own := [("_law_sign", 2)]) rfl sc__law_integer.nd (pxi_str (px_var 1)) (blkOk_by (N := N__law_integer) (sc := defScope s__law_integer) (by decide +kernel)) (fun _ _ _ _ _ => (pxc_name (i := 2) sc__law_integer.nd rfl (by first | exact .inl rfl | exact .inr rfl) (by decide))) (fun _ _ _ _ _ => pxts_one (K := K) rfl (fun g hT2 => have hT := hT2.trans hT; (pxt_cmp od_notInS (px_var 2) px_str (by rfl)))) (fun g _ _ _ _ _ hT2 => have hT := hT2.trans hT; (px_var 2))) (px_lst pxa_nil) (nomark _))))))
    (pxb_one (pxs_ret px_non))
    pxb_nil)
    (pxb_one (pxs_ret (px_ifExp (PXW.pxt (pxw_and (pxt_cmp (od_eq hr.units) (px_ix (px_var 1) px_int) px_str (nomark _)) (pxw_and1 (pxt_cmp (od_ne hr.units) (px_var 0) px_str (nomark _))))) px_non (px_callTy cd_intX (by rfl) Gz.z_int bt_int (pxa_cons (px_var 0) pxa_nil))))))), ?_⟩
  intro ds QD ED h
  obtain ⟨l, rfl, hl, q⟩ := h
  have em : Str.ofString "-" = S [45] := by decide +kernel
  have e0 : Str.ofString "0" = S [48] := by decide +kernel
  walk_at "j"
  refine dSeq_j (fun ds => ds = ⟨[some (.d (.str (S l))), some (.d (.str (S (digs l)))), none], []⟩) (fun ds hds => ?_) (fun J hJ => ?_)
  rotate_left
  · walk_at "s"
    refine ⟨by rw [S_len]; exact ltl hl, ?_⟩
    rw [slice_to (by decide)]
    walk_at "s"
    refine ⟨fun hc => ?_, fun hc => ?_⟩
    · have hc : l.take 1 = [45] := S_inj ((of_decide_eq_true hc).trans em)
      walk_at "s"
      refine ⟨by rw [S_len]; exact ltl hl, ?_⟩
      rw [slice_from (by decide)]
      refine hJ _ ?_
      unfold digs
      rw [if_pos hc]; rfl
    · have hc : l.take 1 ≠ [45] := fun z => of_decide_eq_false hc (by rw [em, show l.take (Int.toNat 1) = l.take 1 from rfl, z])
      walk_at "s"
      refine hJ _ ?_
      unfold digs
      rw [if_neg hc]; rfl
  subst hds
  have hdl : (digs l).length ≤ l.length := by
    unfold digs
    split
    · rw [List.length_drop]; omega
    · exact Nat.le_refl _
  have no : pok l = false → QD (optD none) := fun h => by
    unfold pint at q
    rw [h] at q
    exact q
  have yes : pok l = true → QD (optD (intText? (S l))) := fun h => by
    unfold pint at q
    rw [h] at q
    exact q
  walk_at "s"
  have eN : Str.ofString "" = S [] := rfl
  have e9 : (Str.ofString "0123456789").cps.toList = [48, 49, 50, 51, 52, 53, 54, 55, 56, 57] := by decide +kernel
  rw [eN]
  refine splitD (fun h0 => ?_) (fun h0 => ?_)
  · have h0 : digs l = [] := S_inj h0
    refine ifT rfl ?_
    walk_at "s"
    refine no ?_
    unfold pok
    rw [h0]; rfl
  have h0 : digs l ≠ [] := fun z => h0 (by rw [z])
  have h0 : 0 < (digs l).length := List.length_pos_iff.mpr h0
  walk_at "s"
  refine ⟨by rw [S_len]; exact ltl (by omega), ?_⟩
  walk_at "s"
  rw [S_len]
  refine splitD (fun h1 => ?_) (fun h1 => ?_)
  · refine ifT rfl ?_
    walk_at "s"
    refine no ?_
    unfold pok
    rw [decide_eq_false (by omega : ¬ (digs l).length ≤ 200), Bool.and_false, Bool.false_and, Bool.false_and]
  walk_at "s"
  refine ⟨by unfold signD; rw [List.length_map]; exact lts (by show (digs l).length ≤ _; omega), ?_⟩
  refine cLoop_list (fun i acc w => w = [] ∧ decide (acc.length = 0) = ((digs l).take i).all isDg) ⟨rfl, rfl⟩ (fun i y acc w N hy hI hN => ?_) (fun acc w hI => ?_)
  · obtain ⟨rfl, ha⟩ := hI
    unfold signD at hy
    rw [List.getElem?_map] at hy
    obtain ⟨c, hc, rfl⟩ := Option.map_eq_some_iff.mp hy
    have hc : (digs l)[i]? = some c := hc
    have et : (digs l).take (i + 1) = (digs l).take i ++ [c] := by rw [List.take_add_one, hc]; rfl
    have bad : isDg c = false → ∀ k, k = acc ++ [D.str ⟨#[c]⟩] → decide (k.length = 0) = ((digs l).take (i + 1)).all isDg := fun h k e => by
      rw [et, List.all_append, e]
      show _ = (_ && (isDg c && true))
      rw [h, Bool.false_and, Bool.and_false, List.length_append]
      exact decide_eq_false (by show ¬ _ + 1 = 0; omega)
    have good : isDg c = true → decide (acc.length = 0) = ((digs l).take (i + 1)).all isDg := fun h => by
      rw [et, List.all_append, ← ha]
      show _ = (_ && (isDg c && true))
      rw [h, Bool.and_true, Bool.and_true]
    clear hy et
    walk_at "s"
    refine ⟨c, rfl, ?_⟩
    rw [e9]
    cases hd : isDg c with
    | true =>
      have hd2 : decide (c ∈ [48, 49, 50, 51, 52, 53, 54, 55, 56, 57]) = true := hd
      rw [hd2]
      refine ifF rfl ?_
      exact hN _ _ ⟨rfl, good hd⟩
    | false =>
      have hd2 : decide (c ∈ [48, 49, 50, 51, 52, 53, 54, 55, 56, 57]) = false := hd
      rw [hd2]
      refine ifT rfl ?_
      walk_at "s"
      exact hN _ _ ⟨rfl, bad hd _ rfl⟩
  obtain ⟨rfl, ha⟩ := hI
  rw [show (signD (S (digs l))).length = (digs l).length by unfold signD; rw [List.length_map], List.take_length] at ha
  walk_at "s"
  refine ⟨Nat.zero_le _, ?_⟩
  walk_at "s"
  cases h2 : (digs l).all isDg with
  | false =>
    rw [h2] at ha
    refine ifT (decide_eq_true (of_decide_eq_false ha)) ?_
    walk_at "s"
    refine no ?_
    unfold pok
    rw [h2, Bool.and_false, Bool.false_and]
  | true =>
    rw [h2] at ha
    refine ifF (decide_eq_false (fun z => z (of_decide_eq_true ha))) ?_
    obtain ⟨⟨n, hn⟩, hl2⟩ := int_word (by omega) (by omega) h2
    have kp : pok l = !(decide ((digs l).take 1 = [48]) && decide (l ≠ [48])) := by
      unfold pok
      rw [h2, decide_eq_true (by omega : 0 < (digs l).length), decide_eq_true (by omega : (digs l).length ≤ 200)]; rfl
    obtain ⟨c0, dr, hd⟩ : ∃ c r, digs l = c :: r := by
      cases h : digs l with
      | nil => rw [h] at h0; exact absurd h0 (by decide)
      | cons c r => exact ⟨c, r, rfl⟩
    rw [hd] at kp ⊢
    walk_at "s"
    refine ⟨c0, ltl (by rw [← hd, S_len]; omega), by rw [L3.atI_get (by decide)]; rfl, ?_⟩
    walk_at "s"
    rw [e0]
    have ht : List.take 1 (c0 :: dr) = [c0] := rfl
    rw [ht] at kp
    have fin : pok l = true → QD (.int n) := fun h => by
      have := yes h
      rw [hn] at this
      exact this
    refine splitD (fun hc => ?_) (fun hc => ?_)
    · have hc : [c0] = [48] := S_inj hc
      walk_at "s"
      refine ⟨fun hc2 => ?_, fun hc2 => ?_⟩
      · have hc2 : l ≠ [48] := fun z => by rw [z] at hc2; simp at hc2
        walk_at "s"
        refine no ?_
        rw [kp, decide_eq_true hc, decide_eq_true hc2]; rfl
      · have hc2 : ¬ l ≠ [48] := fun z => by
          have : (!decide (S l = S [48])) = true := by rw [decide_eq_false (S_ne z)]; rfl
          rw [this] at hc2; cases hc2
        walk_at "s"
        refine ⟨n, hn, by rw [S_len]; omega, fin ?_⟩
        rw [kp, decide_eq_false hc2, Bool.and_false]; rfl
    · have hc : ¬ [c0] = [48] := fun z => hc (congrArg S z)
      refine ifF rfl ?_
      walk_at "s"
      refine ⟨n, hn, by rw [S_len]; omega, fin ?_⟩
      rw [kp, decide_eq_false hc, Bool.false_and]; rfl
theorem isRule_len {l : List D} (h : l.length ≠ 3) : isRuleB (.tup l) = false := by
  match l, h with
  | [], _ => rfl
  | [_], _ => rfl
  | [_, _], _ => rfl
  | [_, _, _], h => exact absurd rfl h
  | _ :: _ :: _ :: _ :: _, _ => rfl
theorem rfrom_len {ws : List (List Nat)} (h : ws.length ≠ 3) : rfrom ws = .non := by
  unfold rfrom
  rw [isRule_len (by rw [List.length_map]; exact h), if_pos (by cases isIn .non (ws.map pw) <;> rfl)]
theorem three_ints {a b c : List Nat} (h : isIn .non ([a, b, c].map pw) = false) : ∃ p q v, [a, b, c].map pw = [.int p, .int q, .int v] := by
  have e : [a, b, c].map pw = [optD (pint a), optD (pint b), optD (pint c)] := rfl
  rw [e] at h ⊢
  cases ha : pint a <;> cases hb : pint b <;> cases hc : pint c <;> rw [ha, hb, hc] at h <;> first | exact ⟨_, _, _, rfl⟩ | cases h

abbrev s__law_rule_in : Stmt := topS 23
abbrev N__law_rule_in : List Str := ["_law_words", "_law_numbers", "_law_one", "_law_two", "_law_word"]
theorem sc__law_rule_in : FnScope N__law_rule_in ["_law_words"] (defScope s__law_rule_in) := ⟨rfl, rfl, rfl, by decide +kernel, rfl, by decide +kernel, by decide +kernel⟩
def S__law_rule_in : SA := fun ds Q _ => ∃ ws : List (List Nat), ds = [.lst (ws.map wD)] ∧ ws.length ≤ 100000 ∧ (∀ w ∈ ws, w.length ≤ 100000) ∧ Q (rfrom ws)
theorem binds__law_rule_in (F : FnP K "_law_rule_in" s__law_rule_in [] f fd) : Binds K fd ["_law_words"] [] := F.bindsN (ps := ["_law_words"]) fun _ _ _ _ _ _ us hl => match us, hl with | [_], _ => rfl
theorem ok__law_rule_in (Gz : Gs K mg) (F : FnP K "_law_rule_in" s__law_rule_in [] f fd) {f__law_integer : Addr} {fd__law_integer : FuncData} (G__law_integer : OwnF false P w K mg base "_law_integer" 1 f__law_integer fd__law_integer ["_law_word"] (spA K T S__law_integer)) (b__law_integer : Binds K fd__law_integer ["_law_word"] []) : FnG false P w K mg base 2 f fd ["_law_words"] (spA K T S__law_rule_in) := by
  refine bodyA F sc__law_rule_in (fun ds QD ED h => by obtain ⟨ws, rfl, _⟩ := h; rfl) (fun cdv hcd A outer s H E g hT hr => ?_)
  have tk := takes_of (X := cxOf (L2.CX P w) P w K mg base N__law_rule_in "_law_rule_in" (defScope s__law_rule_in) f cdv A outer s H E) rfl rfl rfl rfl
  have hp := passes_of (X := cxOf (L2.CX P w) P w K mg base N__law_rule_in "_law_rule_in" (defScope s__law_rule_in) f cdv A outer s H E) rfl
  have hu := rgu hr
  refine ⟨_, (pxb_cons (pxs_setLc (i := 1) (own := [("_law_word", 4)]) rfl sc__law_rule_in.nd rfl rfl (sw_true rfl rfl rfl (by decide +kernel)) (pxi_seq (px_var 0)) (blkOk_by (N := N__law_rule_in) (sc := defScope s__law_rule_in) (by decide +kernel)) (fun _ _ _ _ _ => (pxc_name (i := 4) sc__law_rule_in.nd rfl (by first | exact .inl rfl | exact .inr rfl) (by decide))) (fun _ _ _ _ _ => pxts_nil) (fun g _ _ _ _ _ hT2 => have hT := hT2.trans hT; have tk := takes0; (px_own G__law_integer b__law_integer hT (hr.mono (by decide)) tk (pxa_cons (px_var 4) pxa_nil))))
    (pxb_cons (pxs_if (PXW.pxt (pxw_or (pxt_cmp (od_ne hr.units) (px_callB cd_len (by rfl) Gz.z_len bt_len (pxa_cons (px_var 0) pxa_nil)) px_int (nomark _)) (pxw_or (pxt_cmp od_inS px_non (px_var 1) (by rfl)) (pxw_or (pxt_cmp od_lt (px_ixN (k := 0) (px_var 1)) px_int (nomark _)) (pxw_or1 (pxt_cmp od_lt (px_ixN (k := 1) (px_var 1)) px_int (nomark _)))))))
    (pxb_one (pxs_ret px_non))
    pxb_nil)
    (pxb_cons (pxs_par (i := 2) (j := 3) rfl sc__law_rule_in.nd rfl rfl (by decide) rfl rfl (pxa_cons (px_ixN (k := 0) (px_var 1)) (pxa_cons (px_ixN (k := 1) (px_var 1)) pxa_nil)) (by rfl))
    (pxb_cons (pxs_while hp (pxt_cmp od_gt (px_var 3) px_int (nomark _))
    (pxb_one (pxs_par (i := 2) (j := 3) rfl sc__law_rule_in.nd rfl rfl (by decide) rfl rfl (pxa_cons (px_var 3) (pxa_cons (px_op od_mod (px_var 2) (px_var 3)) pxa_nil)) (by rfl))))
    (pxb_one (pxs_ret (px_ifExp (pxt_cmp (od_eq hr.units) (px_var 2) px_int (nomark _)) (px_callTy cd_tuple (by rfl) Gz.z_tuple bt_tuple (pxa_cons (px_var 1) pxa_nil)) px_non))))))), ?_⟩
  intro ds QD ED h
  obtain ⟨ws, rfl, hn, hw, q⟩ := h
  walk_at "s"
  refine ⟨by rw [List.length_map]; exact lts hn, ?_⟩
  refine cLoop_map pwD (fun y acc N hy hN => ?_) ?_
  · obtain ⟨w, hwm, rfl⟩ := List.mem_map.mp hy
    walk_at "i" <;> intro hc
    rotate_left
    · cases hc
    walk_at "s"
    refine ⟨w, rfl, hw w hwm, ?_⟩
    exact hN
  rw [pw_map]
  walk_at "s"
  rw [List.length_map]
  refine splitM (fun h3 => ?_) (fun h3 => ?_)
  · have h3 := of_decide_eq_false h3
    rw [rfrom_len (by omega)] at q
    refine ifT rfl ?_
    walk_at "s"
    exact q
  have h3 : ws.length = 3 := by have := of_decide_eq_true h3; omega
  obtain ⟨a, b, c, rfl⟩ : ∃ a b c, ws = [a, b, c] := by
    match ws, h3 with
    | [a, b, c], _ => exact ⟨_, _, _, rfl⟩
  walk_at "s"
  refine ⟨⟨rfl, pws_atom [a, b, c]⟩, ?_⟩
  unfold rfrom at q
  refine splitB (fun hi => ?_) (fun hi => ?_)
  · have hi : isIn .non ([a, b, c].map pw) = true := hi
    rw [hi] at q
    refine ifT rfl ?_
    walk_at "s"
    exact q
  have hi : isIn .non ([a, b, c].map pw) = false := hi
  rw [hi, Bool.false_or] at q
  obtain ⟨p, y, v, e⟩ := three_ints hi
  rw [e] at q ⊢
  have q : QD (if (!redB p y) = true then .non else ruleD p y v) := q
  unfold redB at q
  clear e hi
  walk_at "s"
  refine splitD (fun h0 => ?_) (fun h0 => ?_)
  · rw [decide_eq_false (by omega : ¬ 0 ≤ p), Bool.false_and] at q
    refine ifT rfl ?_
    walk_at "s"
    exact q
  rw [decide_eq_true (by omega : 0 ≤ p), Bool.true_and] at q
  walk_at "s"
  refine splitD (fun h1 => ?_) (fun h1 => ?_)
  · rw [decide_eq_false (by omega : ¬ 1 ≤ y), Bool.false_and] at q
    walk_at "s"
    exact q
  rw [decide_eq_true (by omega : 1 ≤ y), Bool.true_and] at q
  walk_at "s"
  refine ⟨fun k ds => ∃ x z, ds = ⟨[some (.d (.lst ([a, b, c].map wD))), some (.d (.lst [.int p, .int y, .int v])), some (.d (.int x)), some (.d (.int z)), none], []⟩ ∧ 0 ≤ x ∧ 0 ≤ z ∧ k = z.toNat ∧ Int.gcd x z = Int.gcd p y, ⟨_, p, y, rfl, by omega, by omega, rfl, rfl⟩, ?_⟩
  rintro k ds ⟨x, z, rfl, hx, hz, rfl, e⟩
  walk_at "i" <;> intro hc
  · have hc := of_decide_eq_true hc
    walk_at "s"
    have hm := natAbs_mod (i := x) hc
    exact ⟨hc, _, (by omega : (x % z).toNat < z.toNat), _, _, rfl, hz, hm.1, rfl, (gcd_step hx hc).trans e⟩
  · have hc := of_decide_eq_false hc
    have hz0 : z = 0 := by omega
    subst hz0
    have e1 : (Int.gcd p y : Int) = x := by rw [← e, gcd_z hx]
    rw [e1] at q
    walk_at "s"
    refine splitD (fun h2 => ?_) (fun h2 => ?_)
    · rw [decide_eq_true h2] at q
      walk_at "s"
      exact q
    · rw [decide_eq_false h2] at q
      walk_at "s"
      exact q
def cLst : List Nat := [108, 101, 97, 115, 116]
def cMst : List Nat := [109, 111, 115, 116]
theorem cut_blank : ∀ {a a' b b' : List Nat}, 32 ∉ a → 32 ∉ a' → a ++ 32 :: b = a' ++ 32 :: b' → a = a' ∧ b = b'
  | [], [], b, b', _, _, e => by injection e with _ e; exact ⟨rfl, e⟩
  | [], c :: a', b, b', _, h', e => by
    injection e with e _
    exact absurd (e ▸ List.mem_cons_self) h'
  | c :: a, [], b, b', h, _, e => by
    injection e with e _
    exact absurd (e ▸ List.mem_cons_self) h
  | c :: a, c' :: a', b, b', h, h', e => by
    injection e with e1 e2
    obtain ⟨h1, h2⟩ := cut_blank (fun z => h (List.mem_cons_of_mem _ z)) (fun z => h' (List.mem_cons_of_mem _ z)) e2
    rw [e1, h1, h2]; exact ⟨rfl, rfl⟩
theorem bnd_words {a b : List Nat} (ha : 32 ∉ a) : bnd (a ++ 32 :: b) = (decide (a = [97, 116]) && (decide (b = cLst) || decide (b = cMst))) := by
  have k : ∀ w : List Nat, decide (a ++ 32 :: b = [97, 116] ++ 32 :: w) = (decide (a = [97, 116]) && decide (b = w)) := fun w => by
    by_cases h : a ++ 32 :: b = [97, 116] ++ 32 :: w
    · obtain ⟨h1, h2⟩ := cut_blank ha (by decide) h
      rw [decide_eq_true h, decide_eq_true h1, decide_eq_true h2]; rfl
    · rw [decide_eq_false h]
      by_cases h1 : a = [97, 116]
      · by_cases h2 : b = w
        · exact absurd (by rw [h1, h2]) h
        · rw [decide_eq_false h2, Bool.and_false]
      · rw [decide_eq_false h1, Bool.false_and]
  unfold bnd
  have e1 : cLo true = [97, 116] ++ 32 :: cLst := rfl
  have e2 : cLo false = [97, 116] ++ 32 :: cMst := rfl
  rw [e1, e2, k, k]
  cases decide (a = [97, 116]) <;> rfl
theorem least_in (w : List Nat) : isIn (.str (S w)) [.str "least", .str "most"] = (decide (w = cLst) || decide (w = cMst)) := by
  have e1 : ("least" : Str) = S cLst := by decide +kernel
  have e2 : ("most" : Str) = S cMst := by decide +kernel
  rw [e1, e2]
  have k : ∀ a b : List Nat, (S a == S b) = decide (b = a) := fun a b => by
    rw [S_beq_eq]; exact decide_eq_decide.mpr ⟨Eq.symm, Eq.symm⟩
  show ((S cLst == S w) || ((S cMst == S w) || false)) = _
  rw [k, k, Bool.or_false]

abbrev s__law_record_in : Stmt := topS 24
abbrev N__law_record_in : List Str := ["_law_words", "_law_n", "_law_t"]
theorem sc__law_record_in : FnScope N__law_record_in ["_law_words"] (defScope s__law_record_in) := ⟨rfl, rfl, rfl, by decide +kernel, rfl, by decide +kernel, by decide +kernel⟩
def S__law_record_in : SA := fun ds Q _ => ∃ ws : List (List Nat), ds = [.lst (ws.map wD)] ∧ ws.length ≤ 100000 ∧ (∀ w ∈ ws, w.length ≤ 99000 ∧ 32 ∉ w) ∧ Q (recFrom ws)
theorem binds__law_record_in (F : FnP K "_law_record_in" s__law_record_in [] f fd) : Binds K fd ["_law_words"] [] := F.bindsN (ps := ["_law_words"]) fun _ _ _ _ _ _ us hl => match us, hl with | [_], _ => rfl
theorem ok__law_record_in (Gz : Gs K mg) (F : FnP K "_law_record_in" s__law_record_in [] f fd) {f__law_integer : Addr} {fd__law_integer : FuncData} (G__law_integer : OwnF false P w K mg base "_law_integer" 1 f__law_integer fd__law_integer ["_law_word"] (spA K T S__law_integer)) (b__law_integer : Binds K fd__law_integer ["_law_word"] []) : FnG false P w K mg base 2 f fd ["_law_words"] (spA K T S__law_record_in) := by
  refine bodyA F sc__law_record_in (fun ds QD ED h => by obtain ⟨ws, rfl, _⟩ := h; rfl) (fun cdv hcd A outer s H E g hT hr => ?_)
  have tk := takes_of (X := cxOf (L2.CX P w) P w K mg base N__law_record_in "_law_record_in" (defScope s__law_record_in) f cdv A outer s H E) rfl rfl rfl rfl
  have hp := passes_of (X := cxOf (L2.CX P w) P w K mg base N__law_record_in "_law_record_in" (defScope s__law_record_in) f cdv A outer s H E) rfl
  have hu := rgu hr
  refine ⟨_, (pxb_cons (pxs_if (PXW.pxt (pxw_or (pxt_cmp (od_ne hr.units) (px_callB cd_len (by rfl) Gz.z_len bt_len (pxa_cons (px_var 0) pxa_nil)) px_int (nomark _)) (pxw_or (pxt_cmp (od_ne hr.units) (px_ixN (k := 0) (px_var 0)) px_str (nomark _)) (pxw_or (pxt_cmp od_notInS (px_ixN (k := 1) (px_var 0)) (px_tup (pxa_cons px_str (pxa_cons px_str pxa_nil))) (by rfl)) (pxw_or1 (pxt_cmp (od_ne hr.units) (px_ixN (k := 3) (px_var 0)) px_str (nomark _)))))))
    (pxb_one (pxs_ret px_non))
    pxb_nil)
    (pxb_cons (pxs_par (i := 1) (j := 2) rfl sc__law_record_in.nd rfl rfl (by decide) rfl rfl (pxa_cons (px_own G__law_integer b__law_integer hT (hr.mono (by decide)) tk (pxa_cons (px_ixN (k := 2) (px_var 0)) pxa_nil)) (pxa_cons (px_own G__law_integer b__law_integer hT (hr.mono (by decide)) tk (pxa_cons (px_ixN (k := 4) (px_var 0)) pxa_nil)) pxa_nil)) (by rfl))
    (pxb_one (pxs_ret (px_ifExp (PXW.pxt (pxw_or (pxt_cmp od_isN (px_var 1) px_non (nomark _)) (pxw_or1 (pxt_cmp od_isN (px_var 2) px_non (nomark _))))) px_non (px_tup (pxa_cons (px_op od_add px_str (px_ixN (k := 1) (px_var 0))) (pxa_cons (px_var 2) (pxa_cons (px_var 1) pxa_nil))))))))), ?_⟩
  intro ds QD ED h
  obtain ⟨ws, rfl, hn, hw, q⟩ := h
  walk_at "s"
  rw [List.length_map]
  refine splitM (fun h5 => ?_) (fun h5 => ?_)
  · have h5 := of_decide_eq_false h5
    have e : recFrom ws = .non := by
      unfold recFrom
      split
      · exact absurd rfl h5
      · rfl
    rw [e] at q
    refine ifT rfl ?_
    walk_at "s"
    exact q
  have h5 : ws.length = 5 := by have := of_decide_eq_true h5; omega
  obtain ⟨a, b, c, d, e, rfl⟩ : ∃ a b c d e, ws = [a, b, c, d, e] := by
    match ws, h5 with
    | [a, b, c, d, e], _ => exact ⟨_, _, _, _, _, rfl⟩
  have q : QD (if decide (d = [97, 116]) && bnd (a ++ 32 :: b) then (match pint c, pint e with
    | some n, some t => .tup [.str (S (a ++ 32 :: b)), .int t, .int n]
    | _, _ => .non) else .non) := q
  have ha := hw a (by simp)
  have hb := hw b (by simp)
  have hc := hw c (by simp)
  have he := hw e (by simp)
  rw [bnd_words ha.2] at q
  walk_at "s"
  rw [eAt]
  refine splitM (fun ka => ?_) (fun ka => ?_)
  · have ka : a ≠ [97, 116] := fun z => of_decide_eq_false ka (by rw [z])
    rw [decide_eq_false ka, Bool.false_and, Bool.and_false] at q
    refine ifT rfl ?_
    walk_at "s"
    exact q
  have ka : a = [97, 116] := S_inj (of_decide_eq_true ka)
  subst ka
  rw [decide_eq_true rfl, Bool.true_and] at q
  walk_at "s"
  refine ⟨sz rfl, ?_⟩
  walk_at "s"
  refine ⟨⟨rfl, rfl⟩, ?_⟩
  have eb : isIn (wD b) [.str "least", .str "most"] = (decide (b = cLst) || decide (b = cMst)) := least_in b
  rw [eb]
  refine splitM (fun kb => ?_) (fun kb => ?_)
  · rw [kb, Bool.and_false] at q
    refine ifT rfl ?_
    walk_at "s"
    exact q
  rw [kb, Bool.and_true] at q
  walk_at "s"
  refine splitM (fun kd => ?_) (fun kd => ?_)
  · have kd : d ≠ [97, 116] := fun z => of_decide_eq_false kd (by rw [z])
    rw [decide_eq_false kd] at q
    walk_at "s"
    exact q
  have kd : d = [97, 116] := S_inj (of_decide_eq_true kd)
  rw [decide_eq_true kd] at q
  walk_at "s"
  refine ⟨c, rfl, by omega, ?_⟩
  walk_at "s"
  refine ⟨e, rfl, by omega, ?_⟩
  have pc : ∀ o : Option Int, o = none ∨ ∃ n, o = some n := fun o => by cases o; exact .inl rfl; exact .inr ⟨_, rfl⟩
  rcases pc (pint c) with hc1 | ⟨n, hc1⟩
  · rw [hc1] at q ⊢
    refine ifT rfl (ifT rfl ?_)
    walk_at "s"
    exact q
  rcases pc (pint e) with he1 | ⟨t, he1⟩
  · rw [hc1, he1] at q
    rw [hc1, he1]
    refine ifF rfl ?_
    walk_at "s"
    refine ifT rfl ?_
    walk_at "s"
    exact q
  rw [hc1, he1] at q
  rw [hc1, he1]
  refine ifF rfl ?_
  walk_at "s"
  refine ifF rfl ?_
  walk_at "s"
  rw [show Str.ofString "at " = S [97, 116, 32] by decide +kernel]
  refine ⟨ltl (by rw [S_len, S_len]; show 3 + b.length ≤ _; omega), ?_⟩
  rw [S_cat]
  walk_at "s"
  exact ⟨sz rfl, q⟩
open C8 SX
/-- a text of few plain signs -/
def Tx (n : Nat) (l : List Nat) : Prop := l.length ≤ n ∧ ∀ c ∈ l, c < 128
theorem Tx.app {a b : Nat} {l m : List Nat} (h : Tx a l) (k : Tx b m) : Tx (a + b) (l ++ m) :=
  ⟨by rw [List.length_append]; have := h.1; have := k.1; omega, fun c hc => (List.mem_append.mp hc).elim (h.2 c) (k.2 c)⟩
theorem Tx.mono {a b : Nat} {l : List Nat} (h : Tx a l) (k : a ≤ b) : Tx b l := ⟨Nat.le_trans h.1 k, h.2⟩
theorem Tx.sub {a : Nat} {l m : List Nat} (h : Tx a l) (k : m.length ≤ a) (s : ∀ c ∈ m, c ∈ l) : Tx a m := ⟨k, fun c hc => h.2 c (s c hc)⟩
theorem Tx.of {l : List Nat} (h : l.all (fun c => decide (c < 128)) = true) : Tx l.length l := ⟨Nat.le_refl _, fun c hc => of_decide_eq_true (List.all_eq_true.mp h c hc)⟩
theorem num_tx {i : Int} (h : Bd 41 i) : Tx 15 (numI i) := by
  refine ⟨num_len (by decide) (Nat.lt_of_lt_of_le (show i.natAbs < 2 ^ 41 from h) (by decide)), fun c hc => ?_⟩
  unfold numI at hc
  split at hc
  · rcases List.mem_cons.mp hc with rfl | hc
    · decide
    · have := TL.numL_digits _ c hc; omega
  · have := TL.numL_digits _ c hc; omega
theorem rtext_tx {p q c : Int} (hp : Bd 41 p) (hq : Bd 41 q) (hc : Bd 41 c) : Tx 60 (rtext p q c) := by
  rw [rtext_eq]
  have b1 : Tx 1 [32] := .of (by decide)
  have b5 : Tx 5 ([] ++ (cRule ++ [32])) := .of (by decide)
  exact ((((((b5.app (num_tx hp)).app b1).app (num_tx hq)).app b1).app (num_tx hc))).mono (by decide)
theorem ctext_tx {lo : Bool} {t n : Int} (ht : Bd 41 t) (hn : Bd 41 n) : Tx 60 (ctext lo t n) := by
  rw [ctext_eq]
  have b1 : Tx 1 [32] := .of (by decide)
  have b4 : Tx 4 [32, 97, 116, 32] := .of (by decide)
  have b8 : Tx 8 ([] ++ cLo lo) := by cases lo <;> exact (Tx.of (by decide)).mono (by decide)
  exact (((((b8.app b1).app (num_tx hn)).app b4).app (num_tx ht))).mono (by decide)
theorem text3 (p q c : Int) : Str.ofString "rule " ++ Str.ofString (toString p) ++ Str.ofString " " ++ Str.ofString (toString q) ++ Str.ofString " " ++ Str.ofString (toString c) = S (rtext p q c) := by
  rw [num_int, num_int, num_int, eRuleB, eB, S_cat, S_cat, S_cat, S_cat, S_cat, rtext_eq]
  congr 1
theorem slen {i : Int} (h : Bd 1900 i) : (Str.ofString (toString i)).length ≤ 601 := by
  rw [num_int, S_len]; exact num_le h
theorem alen (a b : Str) : (a ++ b).length = a.length + b.length := by
  rw [TL.len_tl, TL.len_tl, TL.len_tl, TL.tl_append, List.length_append]
def bwB (lo : Bool) : Str := if lo then "at least " else "at most "
theorem text5 (lo : Bool) (t n : Int) : bwB lo ++ Str.ofString (toString n) ++ Str.ofString " at " ++ Str.ofString (toString t) = S (ctext lo t n) := by
  have e : bwB lo = S (cLo lo ++ [32]) := by cases lo <;> decide +kernel
  rw [num_int, num_int, e, eAtB, S_cat, S_cat, S_cat, ctext_eq]
  congr 1

abbrev s__law_line : Stmt := topS 27
abbrev N__law_line : List Str := ["_law_state", "_law_rule_here", "_law_bound"]
theorem sc__law_line : FnScope N__law_line ["_law_state"] (defScope s__law_line) := ⟨rfl, rfl, rfl, by decide +kernel, rfl, by decide +kernel, by decide +kernel⟩
def S__law_line : SB := fun c ds Q _ => ∃ k : Nat, PenC PK k c ∧ 30 ≤ k ∧ ds = [] ∧ ∀ (l : List Nat) c', Tx 60 l → PenC PK (k - 30) c' → Q (.str (S l)) c'
theorem binds__law_line (F : FnP K "_law_line" s__law_line [] f fd) : Binds K fd ["_law_state"] [] := F.bindsN (ps := ["_law_state"]) fun _ _ _ _ _ _ us hl => match us, hl with | [_], _ => rfl
theorem ok__law_line (Gz : Gs K mg) (F : FnP K "_law_line" s__law_line [] f fd) {f__law_draw : Addr} {fd__law_draw : FuncData} (G__law_draw : OwnF false P w K mg base "_law_draw" 1 f__law_draw fd__law_draw ["_law_state", "_law_size"] (spB K T S__law_draw)) (b__law_draw : Binds K fd__law_draw ["_law_state", "_law_size"] []) {f__law_rule : Addr} {fd__law_rule : FuncData} (G__law_rule : OwnF false P w K mg base "_law_rule" 2 f__law_rule fd__law_rule ["_law_state"] (spB K T S__law_rule)) (b__law_rule : Binds K fd__law_rule ["_law_state"] []) : FnG false P w K mg base 3 f fd ["_law_state"] (spB K T S__law_line) := by
  refine bodyB F sc__law_line (fun c ds QD ED h => by obtain ⟨k, _, _, rfl, _⟩ := h; rfl) (fun cdv hcd A outer s H E g hT hr => ?_)
  have tk := takes_of (X := cxOf (L2.CX P w) P w K mg base N__law_line "_law_line" (defScope s__law_line) f cdv A outer s H E) rfl rfl rfl rfl
  have hp := passes_of (X := cxOf (L2.CX P w) P w K mg base N__law_line "_law_line" (defScope s__law_line) f cdv A outer s H E) rfl
  have hu := rgu hr
  refine ⟨_, (pxb_cons (pxs_set (i := 1) sc__law_line.nd rfl (by first | exact .inl rfl | exact .inr rfl) (px_ownB G__law_rule b__law_rule hT (hr.mono (by decide)) tk (pxa_cons (px_var 0) pxa_nil)))
    (pxb_cons (pxs_if (pxt_cmp (od_eq hr.units) (px_ownB G__law_draw b__law_draw hT (hr.mono (by decide)) tk (pxa_cons (px_var 0) (pxa_cons px_int pxa_nil))) px_int (nomark _))
    (pxb_one (pxs_ret (px_op od_add (px_op od_add (px_op od_add (px_op od_add (px_op od_add px_str (px_callTy cd_str (by rfl) Gz.z_str bt_str (pxa_cons (px_ixN (k := 0) (px_var 1)) pxa_nil))) px_str) (px_callTy cd_str (by rfl) Gz.z_str bt_str (pxa_cons (px_ixN (k := 1) (px_var 1)) pxa_nil))) px_str) (px_callTy cd_str (by rfl) Gz.z_str bt_str (pxa_cons (px_ixN (k := 2) (px_var 1)) pxa_nil)))))
    pxb_nil)
    (pxb_cons (pxs_set (i := 2) sc__law_line.nd rfl (by first | exact .inl rfl | exact .inr rfl) (px_ix (px_lst (pxa_cons px_str (pxa_cons px_str pxa_nil))) (px_ownB G__law_draw b__law_draw hT (hr.mono (by decide)) tk (pxa_cons (px_var 0) (pxa_cons px_int pxa_nil)))))
    (pxb_one (pxs_ret (px_op od_add (px_op od_add (px_op od_add (px_var 2) (px_callTy cd_str (by rfl) Gz.z_str bt_str (pxa_cons (px_op od_sub (px_ownB G__law_draw b__law_draw hT (hr.mono (by decide)) tk (pxa_cons (px_var 0) (pxa_cons px_int pxa_nil))) px_int) pxa_nil))) px_str) (px_callTy cd_str (by rfl) Gz.z_str bt_str (pxa_cons (px_op od_sub (px_ownB G__law_draw b__law_draw hT (hr.mono (by decide)) tk (pxa_cons (px_var 0) (pxa_cons (px_op od_pow px_int px_int) pxa_nil))) px_int) pxa_nil)))))))), ?_⟩
  intro c ds QD ED h
  obtain ⟨k, hp, hk, rfl, q⟩ := h
  walk_at "s"
  refine ⟨hp.closed, _, hp, by omega, rfl, fun p y v c ok bp bq bv hp => ⟨hp.closed, ?_⟩⟩
  walk_at "s"
  refine ⟨hp.closed, _, _, hp, by omega, rfl, by decide, by decide, fun d c d0 d1 hp => ⟨hp.closed, ?_⟩⟩
  walk_at "s"
  refine splitD (fun hd => ?_) (fun hd => ?_)
  · walk_at "s"
    have bp9 : Bd 1900 p := bp.mono (by decide)
    have bq9 : Bd 1900 y := bq.mono (by decide)
    have bw9 : Bd 1900 v := bv.mono (by decide)
    have lp := slen bp9
    have lq := slen bq9
    have lw := slen bw9
    have c1 : (Str.ofString "rule ").length = 5 := rfl
    have c2 : (Str.ofString " ").length = 1 := rfl
    refine ⟨bp9, ?_⟩
    walk_at "s"
    refine ⟨ltl (by omega), ?_⟩
    walk_at "s"
    refine ⟨ltl (by rw [alen]; omega), ?_⟩
    walk_at "s"
    refine ⟨bq9, ?_⟩
    walk_at "s"
    refine ⟨ltl (by rw [alen, alen]; omega), ?_⟩
    walk_at "s"
    refine ⟨ltl (by rw [alen, alen, alen]; omega), ?_⟩
    walk_at "s"
    refine ⟨bw9, ?_⟩
    walk_at "s"
    refine ⟨ltl (by rw [alen, alen, alen, alen]; omega), ?_⟩
    rw [text3]
    exact ⟨hp.closed, q _ _ (rtext_tx (bp.mono (by decide)) (bq.mono (by decide)) (bv.mono (by decide))) (hp.le (by omega))⟩
  walk_at "s"
  refine ⟨sz rfl, ?_⟩
  walk_at "s"
  refine ⟨hp.closed, _, _, hp, by omega, rfl, by decide, by decide, fun e c e1 e2 hp => ⟨hp.closed, ?_⟩⟩
  walk_at "s"
  obtain ⟨lo, el⟩ : ∃ lo : Bool, atI [D.str "at least ", D.str "at most "] e = some (.str (bwB lo)) := by
    rcases (by omega : e = 0 ∨ e = 1) with rfl | rfl
    · exact ⟨true, rfl⟩
    · exact ⟨false, rfl⟩
  refine ⟨_, el, ?_⟩
  clear el e1 e2
  walk_at "s"
  refine ⟨hp.closed, _, _, hp, by omega, rfl, by decide, by decide, fun n c n0 n1 hp => ⟨hp.closed, ?_⟩⟩
  have bn : Bd 41 (n - 50) := Bd.mono (n := 10) (by unfold Bd; omega) (by decide)
  walk_at "s"
  refine ⟨bn.mono (by decide), ?_⟩
  have ln := slen (bn.mono (show 41 ≤ 1900 by decide))
  have lb : (bwB lo).length ≤ 9 := by cases lo <;> exact Nat.le_of_ble_eq_true rfl
  have c3 : (Str.ofString " at ").length = 4 := rfl
  walk_at "s"
  refine ⟨ltl (by omega), ?_⟩
  walk_at "s"
  refine ⟨ltl (by rw [alen]; omega), ?_⟩
  walk_at "s"
  refine ⟨by unfold CPow; decide, ?_⟩
  walk_at "s"
  refine ⟨hp.closed, _, _, hp, by omega, rfl, by decide, by decide, fun t c t0 t1 hp => ⟨hp.closed, ?_⟩⟩
  have t1 : t < 1000000 := t1
  have bt : Bd 41 (t - 99) := Bd.mono (n := 30) (by unfold Bd; omega) (by decide)
  walk_at "s"
  refine ⟨bt.mono (by decide), ?_⟩
  have lt := slen (bt.mono (show 41 ≤ 1900 by decide))
  walk_at "s"
  refine ⟨ltl (by rw [alen, alen]; omega), ?_⟩
  rw [text5]
  exact ⟨hp.closed, q _ _ (ctext_tx bt bn) (hp.le (by omega))⟩
theorem pre32 {c : Nat} {r : List Nat} : TL.pre [32] (c :: r) = true ↔ c = 32 := by
  show (([c] : List Nat) == [32]) = true ↔ c = 32
  simp
theorem spl_mem : ∀ (l acc w : List Nat) (c : Nat), w ∈ TL.spl [32] 0 acc l → c ∈ w → c ∈ acc ∨ (c ∈ l ∧ c ≠ 32)
  | [], acc, w, c, hw, hc => by
    rw [TL.spl_nil, List.mem_singleton] at hw
    exact .inl (hw ▸ hc)
  | x :: r, acc, w, c, hw, hc => by
    cases h : TL.pre [32] (x :: r) with
    | true =>
      rw [TL.spl_hit h] at hw
      rcases List.mem_cons.mp hw with rfl | hw
      · exact .inl hc
      · rcases spl_mem r [] w c hw hc with h | h
        · cases h
        · exact .inr ⟨List.mem_cons_of_mem _ h.1, h.2⟩
    | false =>
      rw [TL.spl_miss h] at hw
      have hx : x ≠ 32 := fun z => by rw [pre32.mpr z] at h; cases h
      rcases spl_mem r (acc ++ [x]) w c hw hc with h | h
      · rcases List.mem_append.mp h with h | h
        · exact .inl h
        · rw [List.mem_singleton.mp h]; exact .inr ⟨List.mem_cons_self, hx⟩
      · exact .inr ⟨List.mem_cons_of_mem _ h.1, h.2⟩
theorem words_mem {l w : List Nat} {c : Nat} (hw : w ∈ words l) (hc : c ∈ w) : c ∈ l ∧ c ≠ 32 := by
  rcases spl_mem l [] w c hw hc with h | h
  · cases h
  · exact h
theorem Tx.take {a : Nat} {l : List Nat} (h : Tx a l) (n : Nat) : Tx a (l.take n) := h.sub (by rw [List.length_take]; have := h.1; omega) fun c hc => List.mem_of_mem_take hc
theorem Tx.drop {a : Nat} {l : List Nat} (h : Tx a l) (n : Nat) : Tx a (l.drop n) := h.sub (by rw [List.length_drop]; have := h.1; omega) fun c hc => List.mem_of_mem_drop hc
theorem Tx.siz {a : Nat} {l : List Nat} (h : Tx a l) (k : a ≤ 100000) : (S l).length ≤ sizeLine := by
  rw [S_len]; have := h.1; exact ltl (by omega)
theorem Tx.siz2 {a b : Nat} {l m : List Nat} (h : Tx a l) (h2 : Tx b m) (k : a + b ≤ 100000) : (S l).length + (S m).length ≤ sizeLine := by
  rw [S_len, S_len]; have := h.1; have := h2.1; exact ltl (by omega)
theorem wD_str (vs : List (List Nat)) : vs.map wD = (vs.map S).map D.str := by
  rw [List.map_map]; rfl
def sumL (vs : List (List Nat)) : Nat := (vs.map List.length).sum
theorem sumL_app (a b : List (List Nat)) : sumL (a ++ b) = sumL a + sumL b := by
  unfold sumL
  rw [List.map_append, List.sum_append]
theorem sumL_le {n : Nat} : ∀ {vs : List (List Nat)}, (∀ w ∈ vs, w.length ≤ n) → sumL vs ≤ n * vs.length
  | [], _ => Nat.le_refl _
  | v :: vs, h => by
    have h1 := sumL_le (vs := vs) fun w hw => h w (List.mem_cons_of_mem _ hw)
    have h2 := h v List.mem_cons_self
    show v.length + sumL vs ≤ n * (vs.length + 1)
    rw [Nat.mul_add]
    omega
theorem sumL_S (vs : List (List Nat)) : ((vs.map S).map (·.length)).sum = sumL vs := by
  unfold sumL
  rw [SX.lens]
theorem join_tx {vs : List (List Nat)} {b : Nat} (h : sumL vs + vs.length ≤ b) (h2 : ∀ w ∈ vs, ∀ c ∈ w, c < 128) : Tx b (TL.joinL [32] vs) := by
  have key : ∀ vs : List (List Nat), (∀ w ∈ vs, ∀ c ∈ w, c < 128) → (TL.joinL [32] vs).length ≤ sumL vs + vs.length ∧ ∀ c ∈ TL.joinL [32] vs, c < 128 := by
    intro vs
    induction vs with
    | nil => intro _; exact ⟨Nat.le_refl _, fun c hc => by cases hc⟩
    | cons v r ih =>
      intro h
      obtain ⟨i1, i2⟩ := ih fun w hw => h w (List.mem_cons_of_mem _ hw)
      cases r with
      | nil => exact ⟨by show v.length ≤ v.length + 0 + 1; omega, fun c hc => h v List.mem_cons_self c hc⟩
      | cons u r =>
        refine ⟨?_, fun c hc => ?_⟩
        · show (v ++ ([32] ++ TL.joinL [32] (u :: r))).length ≤ v.length + sumL (u :: r) + ((u :: r).length + 1)
          rw [List.length_append, List.length_append]
          show v.length + (1 + _) ≤ _
          omega
        · rcases List.mem_append.mp (show c ∈ v ++ ([32] ++ TL.joinL [32] (u :: r)) from hc) with hc | hc
          · exact h v List.mem_cons_self c hc
          · rcases List.mem_append.mp hc with hc | hc
            · rw [List.mem_singleton.mp hc]; decide
            · exact i2 c hc
  obtain ⟨h3, h4⟩ := key vs h2
  exact ⟨by omega, h4⟩
theorem up_lt : ∀ c, c < 128 → PyProof.Rows.up1 c < 128 := by decide +kernel
theorem up_tx {a : Nat} {l : List Nat} (h : Tx a l) : Txt.upper (S l) = S (l.map PyProof.Rows.up1) ∧ Tx a (l.map PyProof.Rows.up1) := by
  refine ⟨upper_S (List.all_eq_true.mpr fun c hc => decide_eq_true (h.2 c hc)), by rw [List.length_map]; exact h.1, fun c hc => ?_⟩
  obtain ⟨d, hd, rfl⟩ := List.mem_map.mp hc
  exact up_lt d (h.2 d hd)

abbrev s__law_changed : Stmt := topS 25
abbrev N__law_changed : List Str := ["_law_state", "_law_line_here", "_law_words", "_law_at", "_law_spot", "_law_signs", "_law_sign", "_law_some", "_law_word"]
theorem sc__law_changed : FnScope N__law_changed ["_law_state", "_law_line_here"] (defScope s__law_changed) := ⟨rfl, rfl, rfl, by decide +kernel, rfl, by decide +kernel, by decide +kernel⟩
def S__law_changed : SB := fun c ds Q _ => ∃ (k : Nat) (l : List Nat), PenC PK k c ∧ 30 ≤ k ∧ ds = [.str (S l)] ∧ Tx 60 l ∧ ∀ (m : List Nat) c', Tx 90000 m → PenC PK (k - 30) c' → Q (.str (S m)) c'
theorem binds__law_changed (F : FnP K "_law_changed" s__law_changed [] f fd) : Binds K fd ["_law_state", "_law_line_here"] [] := F.bindsN (ps := ["_law_state", "_law_line_here"]) fun _ _ _ _ _ _ us hl => match us, hl with | [_, _], _ => rfl
theorem ok__law_changed (Gz : Gs K mg) (F : FnP K "_law_changed" s__law_changed [] f fd) {f__law_draw : Addr} {fd__law_draw : FuncData} (G__law_draw : OwnF false P w K mg base "_law_draw" 1 f__law_draw fd__law_draw ["_law_state", "_law_size"] (spB K T S__law_draw)) (b__law_draw : Binds K fd__law_draw ["_law_state", "_law_size"] []) : FnG false P w K mg base 2 f fd ["_law_state", "_law_line_here"] (spB K T S__law_changed) := by
  refine bodyB F sc__law_changed (fun c ds QD ED h => by obtain ⟨k, l, _, _, rfl, _⟩ := h; rfl) (fun cdv hcd A outer s H E g hT hr => ?_)
  have tk := takes_of (X := cxOf (L2.CX P w) P w K mg base N__law_changed "_law_changed" (defScope s__law_changed) f cdv A outer s H E) rfl rfl rfl rfl
  have hp := passes_of (X := cxOf (L2.CX P w) P w K mg base N__law_changed "_law_changed" (defScope s__law_changed) f cdv A outer s H E) rfl
  have hu := rgu hr
  refine ⟨_, (pxb_cons (pxs_par (i := 2) (j := 3) rfl sc__law_changed.nd rfl rfl (by decide) rfl rfl (pxa_cons (px_split (px_var 1) px_str) (pxa_cons (px_ownB G__law_draw b__law_draw hT (hr.mono (by decide)) tk (pxa_cons (px_var 0) (pxa_cons (px_op od_add (px_callB cd_len (by rfl) Gz.z_len bt_len (pxa_cons (px_var 1) pxa_nil)) px_int) pxa_nil))) pxa_nil)) (by rfl))
    (pxb_cons (pxs_par (i := 4) (j := 5) rfl sc__law_changed.nd rfl rfl (by decide) rfl rfl (pxa_cons (px_ownB G__law_draw b__law_draw hT (hr.mono (by decide)) tk (pxa_cons (px_var 0) (pxa_cons (px_callB cd_len (by rfl) Gz.z_len bt_len (pxa_cons (px_var 2) pxa_nil)) pxa_nil))) (pxa_cons px_str pxa_nil)) (by rfl))
    (pxb_cons (pxs_set (i := 6) sc__law_changed.nd rfl (by first | exact .inl rfl | exact .inr rfl) (px_ix (px_var 5) (px_ownB G__law_draw b__law_draw hT (hr.mono (by decide)) tk (pxa_cons (px_var 0) (pxa_cons (px_callB cd_len (by rfl) Gz.z_len bt_len (pxa_cons (px_var 5) pxa_nil)) pxa_nil)))))
    (pxb_cons (pxs_set (i := 7) sc__law_changed.nd rfl (by first | exact .inl rfl | exact .inr rfl) (px_lstM (pxa_cons (px_op od_add (px_op od_add (px_sl1T (px_var 1) (px_var 3)) (px_var 6)) (px_sl2T (px_var 1) (px_var 3))) (pxa_cons (px_op od_add (px_sl1T (px_var 1) (px_var 3)) (px_sl2T (px_var 1) (px_op od_add (px_var 3) px_int))) (pxa_cons (px_op od_add (px_op od_add (px_sl1T (px_var 1) (px_var 3)) (px_var 6)) (px_sl2T (px_var 1) (px_op od_add (px_var 3) px_int))) pxa_nil)))))
    (pxb_cons (pxs_set (i := 7) sc__law_changed.nd rfl (by first | exact .inl rfl | exact .inr rfl) (px_op od_addS (px_var 7) (px_lst (pxa_cons (px_op od_add (px_var 1) px_str) (pxa_cons (px_op od_add px_str (px_var 1)) (pxa_cons px_str (pxa_cons (px_join px_str (px_op od_add (px_sl1T (px_var 2) (px_var 4)) (px_sl2T (px_var 2) (px_op od_add (px_var 4) px_int)))) (pxa_cons (px_op od_add (px_var 1) px_str) (pxa_cons (px_upper (px_var 1)) pxa_nil)))))))))
    (pxb_cons (pxs_set (i := 7) sc__law_changed.nd rfl (by first | exact .inl rfl | exact .inr rfl) (px_op od_addS (px_var 7) (px_lst (pxa_cons (px_join px_str (px_op od_add (px_sl1T (px_var 2) (px_op od_add (px_var 4) px_int)) (px_sl2T (px_var 2) (px_var 4)))) (pxa_cons (px_ixN (k := 0) (px_var 2)) (pxa_cons (px_op od_add px_str (px_var 1)) (pxa_cons (px_op od_add px_str (px_var 1)) (pxa_cons (px_op od_add (px_var 1) px_str) pxa_nil))))))))
    (pxb_cons (pxs_set (i := 8) sc__law_changed.nd rfl (by first | exact .inl rfl | exact .inr rfl) (px_ix (px_lst (pxa_cons px_str (pxa_cons px_str (pxa_cons px_str (pxa_cons px_str (pxa_cons (px_op od_mulS px_str px_int) (pxa_cons (px_op od_add px_str (px_op od_mulS px_str px_int)) (pxa_cons (px_op od_mulS px_str px_int) (pxa_cons (px_op od_mulS px_str px_int) pxa_nil))))))))) (px_ownB G__law_draw b__law_draw hT (hr.mono (by decide)) tk (pxa_cons (px_var 0) (pxa_cons px_int pxa_nil)))))
    (pxb_cons (pxs_expr (px_appendS (px_var 7) (px_join px_str (px_op od_add (px_op od_add (px_sl1T (px_var 2) (px_var 4)) (px_lst (pxa_cons (px_var 8) pxa_nil))) (px_sl2T (px_var 2) (px_op od_add (px_var 4) px_int))))))
    (pxb_one (pxs_ret (px_ix (px_var 7) (px_ownB G__law_draw b__law_draw hT (hr.mono (by decide)) tk (pxa_cons (px_var 0) (pxa_cons px_int pxa_nil)))))))))))))), ?_⟩
  intro c ds QD ED h
  obtain ⟨k, l, hp, hk, rfl, hl, q⟩ := h
  walk_at "s"
  rw [eB]
  have hll : l.length ≤ 60 := hl.1
  refine ⟨⟨rfl, by rw [S_len]; exact ltl (by omega)⟩, ?_⟩
  rw [split_w]
  obtain ⟨hwl, hww⟩ := words_len l
  have hwn := List.length_pos_iff.mpr (words_ne l)
  have hwt : ∀ w ∈ words l, Tx 60 w := fun w hw => ⟨by have := hww w hw; omega, fun c hc => hl.2 c (words_mem hw hc).1⟩
  generalize words l = ws at hwl hww hwn hwt ⊢
  walk_at "s"
  refine ⟨by rw [S_len]; exact ltl (by omega), ?_⟩
  walk_at "s"
  rw [S_len]
  refine ⟨hp.closed, _, _, hp, by omega, rfl, by omega, by omega, fun at0 c a0 a1 hp => ⟨hp.closed, ?_⟩⟩
  obtain ⟨n, rfl⟩ := Int.eq_ofNat_of_zero_le a0
  walk_at "s"
  rw [List.length_map]
  refine ⟨hp.closed, _, _, hp, by omega, rfl, by omega, by omega, fun sp c s0 s1 hp => ⟨hp.closed, ?_⟩⟩
  obtain ⟨m, rfl⟩ := Int.eq_ofNat_of_zero_le s0
  walk_at "s"
  refine ⟨ltl (by decide +kernel), ?_⟩
  walk_at "s"
  have hsg : (Str.ofString "0123456789 abtmostleasrpuiT-+_.\t").cps.toList.length = (Str.ofString "0123456789 abtmostleasrpuiT-+_.\t").length := rfl
  have hs128 : (Str.ofString "0123456789 abtmostleasrpuiT-+_.\t").cps.toList.all (fun c => decide (c < 128)) = true := by decide +kernel
  have hs0 : 0 < (Str.ofString "0123456789 abtmostleasrpuiT-+_.\t").length ∧ (Str.ofString "0123456789 abtmostleasrpuiT-+_.\t").length < 1000 := by decide +kernel
  generalize Str.ofString "0123456789 abtmostleasrpuiT-+_.\t" = sgs at hsg hs128 hs0 ⊢
  refine ⟨hp.closed, _, _, hp, by omega, rfl, by omega, by omega, fun gg c g0 g1 hp => ⟨hp.closed, ?_⟩⟩
  walk_at "s"
  obtain ⟨sg, esg, hsm, _⟩ := atI_in (l := sgs.cps.toList) g0 (by rw [hsg]; exact g1)
  refine ⟨sg, ltl (by omega), esg, ?_⟩
  rw [show ({ cps := #[sg] } : Str) = S [sg] from rfl]
  have tg : Tx 1 [sg] := ⟨Nat.le_refl _, fun c hc => by rw [List.mem_singleton.mp hc]; exact of_decide_eq_true (List.all_eq_true.mp hs128 _ hsm)⟩
  have esl : (S l).length ≤ sizeLine := hl.siz (by decide)
  have t1 := hl.take n
  have t2 := hl.drop n
  have t3 := hl.drop (n + 1)
  have st : ∀ i : Nat, Txt.slice (S l) none (some (i : Int)) = S (l.take i) := fun i => by rw [slice_to (by omega)]; rfl
  have sd : ∀ i : Nat, Txt.slice (S l) (some (i : Int)) none = S (l.drop i) := fun i => by rw [slice_from (by omega)]; rfl
  have n1 : ((n : Nat) : Int) + 1 = ((n + 1 : Nat) : Int) := rfl
  have m1 : ((m : Nat) : Int) + 1 = ((m + 1 : Nat) : Int) := rfl
  have hm : m < ws.length := by omega
  have hw61 : ws.length ≤ 61 := by omega
  have hwc : ∀ w ∈ ws, ∀ c ∈ w, c < 128 := fun w hw => (hwt w hw).2
  have hw60 : ∀ w ∈ ws, w.length ≤ 60 := fun w hw => (hwt w hw).1
  have sub : ∀ a b : Nat, sumL (ws.take a ++ ws.drop b) + (ws.take a ++ ws.drop b).length ≤ 8000 ∧ (∀ w ∈ ws.take a ++ ws.drop b, ∀ c ∈ w, c < 128) ∧ ((ws.map wD).take a).length + ((ws.map wD).drop b).length ≤ sizeLine := fun a b => by
    have hmem : ∀ w ∈ ws.take a ++ ws.drop b, w ∈ ws := fun w hw => (List.mem_append.mp hw).elim List.mem_of_mem_take List.mem_of_mem_drop
    have h1 := sumL_le (n := 60) (vs := ws.take a ++ ws.drop b) fun w hw => hw60 w (hmem w hw)
    have h2 : (ws.take a ++ ws.drop b).length ≤ 122 := by rw [List.length_append, List.length_take, List.length_drop]; omega
    refine ⟨by omega, fun w hw => hwc w (hmem w hw), ltl ?_⟩
    rw [List.length_take, List.length_drop, List.length_map]; omega
  have catw : ∀ a b : Nat, (ws.map wD).take a ++ (ws.map wD).drop b = ((ws.take a ++ ws.drop b).map S).map D.str := fun a b => by
    rw [← List.map_take, ← List.map_drop, ← List.map_append, wD_str]
  have jb : ∀ vs : List (List Nat), sumL vs + vs.length ≤ 20000 → ((vs.map S).map (·.length)).sum + (vs.map S).length * (S [32]).length ≤ 16777216 := fun vs h => by
    rw [sumL_S, List.length_map]
    show sumL vs + vs.length * 1 ≤ _
    omega
  walk_at "j"
  refine dSeq_j (fun ds => ∃ (M : List (List Nat)) (z5 z8 : Option Z), ds = ⟨[some (.m 0), some (.d (.str (S l))), some (.d (.lst (ws.map wD))), some (.d (.int (n : Int))), some (.d (.int (m : Int))), z5, some (.d (.str (S [sg]))), some (.m 1), z8], [some c, some (.lst (M.map wD))]⟩ ∧ M.length = 3 ∧ ∀ x ∈ M, Tx 90000 x) (fun ds hds => ?_) (fun J hJ => ?_)
  rotate_left
  · repeat (walk_at "s"; first | (refine ⟨esl, ?_⟩; first | rw [st] | (rw [n1, sd]) | rw [sd]) | (refine ⟨by (simp only [S_len, List.length_append, List.length_take, List.length_drop, List.length_cons, List.length_nil]; exact ltl (by omega)), ?_⟩; rw [S_cat]))
    walk_at "s"
    refine ⟨sz rfl, ?_⟩
    refine hJ _ ⟨[l.take n ++ [sg] ++ l.drop n, l.take n ++ l.drop (n + 1), l.take n ++ [sg] ++ l.drop (n + 1)], _, _, rfl, rfl, fun x hx => ?_⟩
    simp only [List.mem_cons, List.not_mem_nil, or_false] at hx
    rcases hx with rfl | rfl | rfl
    · exact ((t1.app tg).app t2).mono (by decide)
    · exact (t1.app t3).mono (by decide)
    · exact ((t1.app tg).app t3).mono (by decide)
  obtain ⟨M, z5, z8, rfl, hM3, hM⟩ := hds
  have eN : Str.ofString "" = S [] := rfl
  have e1 : Str.ofString " 1" = S [32, 49] := by decide +kernel
  obtain ⟨eu, tu⟩ := up_tx hl
  walk_at "j"
  refine dSeq_j (fun ds => ∃ (M : List (List Nat)) (z5 z8 : Option Z) (w1 : Option MC), ds = ⟨[some (.m 0), some (.d (.str (S l))), some (.d (.lst (ws.map wD))), some (.d (.int (n : Int))), some (.d (.int (m : Int))), z5, some (.d (.str (S [sg]))), some (.m 2), z8], [some c, w1, some (.lst (M.map wD))]⟩ ∧ M.length = 9 ∧ ∀ x ∈ M, Tx 90000 x) (fun ds hds => ?_) (fun J hJ => ?_)
  rotate_left
  · obtain ⟨u1, u2, u3⟩ := sub m (m + 1)
    walk_at "s"
    refine ⟨by rw [S_len, S_len]; exact ltl (by show _ + 1 ≤ _; omega), ?_⟩
    rw [S_cat]
    walk_at "s"
    refine ⟨by rw [S_len, S_len]; exact ltl (by show 1 + _ ≤ _; omega), ?_⟩
    rw [S_cat, eN]
    walk_at "s"
    rw [cut_take, m1, cut_drop]
    refine ⟨u3, ?_⟩
    rw [catw]
    walk_at "s"
    refine ⟨_, rfl, jb _ (by omega), ?_⟩
    rw [join_S]
    walk_at "s"
    rw [e1]
    refine ⟨by rw [S_len, S_len]; exact ltl (by show _ + 2 ≤ _; omega), ?_⟩
    rw [S_cat]
    walk_at "s"
    refine ⟨by rw [S_len]; omega, ?_⟩
    rw [eu]
    walk_at "s"
    refine ⟨sz rfl, ?_⟩
    refine ⟨_, _, rfl, rfl, ltl (by rw [List.length_map]; show M.length + 6 ≤ _; omega), ?_⟩
    refine hJ _ ⟨M ++ [l ++ [32], [32] ++ l, [], TL.joinL [32] (ws.take m ++ ws.drop (m + 1)), l ++ [32, 49], l.map PyProof.Rows.up1], z5, z8, some (.lst (M.map wD)), ?_, by rw [List.length_append, hM3]; rfl, fun x hx => ?_⟩
    · rw [List.map_append]; rfl
    rcases List.mem_append.mp hx with h | h
    · exact hM x h
    simp only [List.mem_cons, List.not_mem_nil, or_false] at h
    have b1 : Tx 1 [32] := .of (by decide)
    have b2 : Tx 2 [32, 49] := .of (by decide)
    rcases h with rfl | rfl | rfl | rfl | rfl | rfl
    · exact (hl.app b1).mono (by decide)
    · exact (b1.app hl).mono (by decide)
    · exact (Tx.of (l := []) rfl).mono (by decide)
    · exact (join_tx u1 u2).mono (by decide)
    · exact (hl.app b2).mono (by decide)
    · exact tu.mono (by decide)
  clear hM3 hM
  obtain ⟨M, z5, z8, w1, rfl, hM9, hM⟩ := hds
  have ez : Str.ofString "0" = S [48] := by decide +kernel
  have em : Str.ofString "-" = S [45] := by decide +kernel
  have en : Str.ofString "\n" = S [10] := by decide +kernel
  obtain ⟨w0, wr, ew⟩ : ∃ a b, ws = a :: b := by
    cases ws with
    | nil => exact absurd hwn (by decide)
    | cons a b => exact ⟨a, b, rfl⟩
  walk_at "j"
  refine dSeq_j (fun ds => ∃ (M : List (List Nat)) (z5 z8 : Option Z) (w1 w2 : Option MC), ds = ⟨[some (.m 0), some (.d (.str (S l))), some (.d (.lst (ws.map wD))), some (.d (.int (n : Int))), some (.d (.int (m : Int))), z5, some (.d (.str (S [sg]))), some (.m 3), z8], [some c, w1, w2, some (.lst (M.map wD))]⟩ ∧ M.length = 14 ∧ ∀ x ∈ M, Tx 90000 x) (fun ds hds => ?_) (fun J hJ => ?_)
  rotate_left
  · obtain ⟨u1, u2, u3⟩ := sub (m + 1) m
    walk_at "s"
    rw [m1, cut_take]
    walk_at "s"
    rw [cut_drop]
    refine ⟨u3, ?_⟩
    rw [catw]
    walk_at "s"
    refine ⟨_, rfl, jb _ (by omega), ?_⟩
    rw [join_S]
    have ej : ∃ jj, jj = TL.joinL [32] (ws.take (m + 1) ++ ws.drop m) := ⟨_, rfl⟩
    obtain ⟨jj, ejj⟩ := ej
    rw [← ejj]
    have tj : Tx 8000 jj := by rw [ejj]; exact join_tx u1 u2
    clear ejj
    rw [ew]
    walk_at "s"
    rw [ez]
    refine ⟨by rw [S_len, S_len]; exact ltl (by show 1 + _ ≤ _; omega), ?_⟩
    rw [S_cat]
    walk_at "s"
    rw [em]
    refine ⟨by rw [S_len, S_len]; exact ltl (by show 1 + _ ≤ _; omega), ?_⟩
    rw [S_cat]
    walk_at "s"
    rw [en]
    refine ⟨by rw [S_len, S_len]; exact ltl (by show _ + 1 ≤ _; omega), ?_⟩
    rw [S_cat]
    walk_at "s"
    refine ⟨sz rfl, ?_⟩
    refine ⟨_, _, rfl, rfl, ltl (by rw [List.length_map]; show M.length + 5 ≤ _; omega), ?_⟩
    refine hJ _ ⟨M ++ [jj, w0, [48] ++ l, [45] ++ l, l ++ [10]], z5, z8, w1, some (.lst (M.map wD)), ?_, by rw [List.length_append, hM9]; rfl, fun x hx => ?_⟩
    · rw [List.map_append, ew]; rfl
    rcases List.mem_append.mp hx with h | h
    · exact hM x h
    simp only [List.mem_cons, List.not_mem_nil, or_false] at h
    have b1 : Tx 1 [48] := .of (by decide)
    have b2 : Tx 1 [45] := .of (by decide)
    have b3 : Tx 1 [10] := .of (by decide)
    rcases h with rfl | rfl | rfl | rfl | rfl
    · exact tj.mono (by decide)
    · exact (hwt _ (by rw [ew]; exact List.mem_cons_self)).mono (by decide)
    · exact (b1.app hl).mono (by decide)
    · exact (b2.app hl).mono (by decide)
    · exact (hl.app b3).mono (by decide)
  clear hM9 hM ew
  obtain ⟨M, z5, z8, w1, w2, rfl, hM14, hM⟩ := hds
  have e9 : Str.ofString "9" = S [57] := by decide +kernel
  have ea : Str.ofString "1" = S [49] := by decide +kernel
  have eb : Str.ofString "-0" = S [45, 48] := by decide +kernel
  have ec : Str.ofString "+7" = S [43, 55] := by decide +kernel
  have rp : ∀ n : Nat, Tx n (List.replicate n 57) := fun n => ⟨by rw [List.length_replicate]; exact Nat.le_refl _, fun c hc => by rw [(List.mem_replicate.mp hc).2]; decide⟩
  walk_at "j"
  refine dSeq_j (fun ds => ∃ (c : MC) (W : List Nat), ds = ⟨[some (.m 0), some (.d (.str (S l))), some (.d (.lst (ws.map wD))), some (.d (.int (n : Int))), some (.d (.int (m : Int))), z5, some (.d (.str (S [sg]))), some (.m 3), some (.d (wD W))], [some c, w1, w2, some (.lst (M.map wD))]⟩ ∧ Tx 5001 W ∧ PenC PK (k - 5) c) (fun ds hds => ?_) (fun J hJ => ?_)
  rotate_left
  · walk_at "s"
    have t2 := rp 200
    have t3 := rp 201
    have t4 := rp 5000
    refine ⟨57, 200, e9, rfl, by decide, by decide, ?_⟩
    generalize List.replicate 200 57 = R at t2 ⊢
    walk_at "s"
    refine ⟨57, 200, e9, rfl, by decide, by decide, ?_⟩
    have t2' := rp 200
    generalize List.replicate 200 57 = R' at t2' ⊢
    walk_at "s"
    rw [em]
    refine ⟨by have h := t2'.1; show (S [45]).length + (S R').length ≤ _; rw [S_len, S_len]; exact ltl (by show 1 + _ ≤ _; omega), ?_⟩
    rw [show S [45] ++ ({ cps := R'.toArray } : Str) = S ([45] ++ R') from S_cat _ _]
    walk_at "s"
    refine ⟨57, 201, e9, rfl, by decide, by decide, ?_⟩
    generalize List.replicate 201 57 = R3 at t3 ⊢
    walk_at "s"
    refine ⟨57, 5000, e9, rfl, by decide, by decide, ?_⟩
    generalize List.replicate 5000 57 = R4 at t4 ⊢
    walk_at "s"
    refine ⟨sz rfl, ?_⟩
    walk_at "s"
    refine ⟨hp.closed, _, _, hp, by omega, rfl, by decide, by decide, fun ww c g0 g1 hp => ⟨hp.closed, ?_⟩⟩
    walk_at "s"
    obtain ⟨x, ex, hxm, _⟩ := atI_in (l := [D.str (Str.ofString "1"), .str (Str.ofString "0"), .str (Str.ofString "-0"), .str (Str.ofString "+7"), .str (S R), .str (S ([45] ++ R')), .str (S R3), .str (S R4)]) g0 g1
    refine ⟨x, ex, ?_⟩
    obtain ⟨W, rfl, tW⟩ : ∃ W, x = wD W ∧ Tx 5001 W := by
      rw [ea, ez, eb, ec] at hxm
      simp only [List.mem_cons, List.not_mem_nil, or_false] at hxm
      have k1 : ∀ l : List Nat, l.all (fun c => decide (c < 128)) = true → l.length ≤ 5001 → Tx 5001 l := fun l h h2 => (Tx.of h).mono h2
      rcases hxm with rfl | rfl | rfl | rfl | rfl | rfl | rfl | rfl
      · exact ⟨_, rfl, k1 _ (by decide) (by decide)⟩
      · exact ⟨_, rfl, k1 _ (by decide) (by decide)⟩
      · exact ⟨_, rfl, k1 _ (by decide) (by decide)⟩
      · exact ⟨_, rfl, k1 _ (by decide) (by decide)⟩
      · exact ⟨_, rfl, t2.mono (by decide)⟩
      · exact ⟨_, rfl, ((Tx.of (l := [45]) (by decide)).app t2').mono (by decide)⟩
      · exact ⟨_, rfl, t3.mono (by decide)⟩
      · exact ⟨_, rfl, t4.mono (by decide)⟩
    exact hJ _ ⟨c, W, rfl, tW, hp.le (by omega)⟩
  obtain ⟨c, W, rfl, tW, hp⟩ := hds
  walk_at "s"
  refine ⟨⟨_, _, rfl, rfl⟩, ?_⟩
  walk_at "s"
  rw [cut_take]
  refine ⟨sz rfl, ?_⟩
  walk_at "s"
  refine ⟨ltl (by rw [List.length_take, List.length_map]; show _ + 1 ≤ _; omega), ?_⟩
  walk_at "s"
  rw [m1, cut_drop]
  refine ⟨ltl (by rw [List.length_append, List.length_take, List.length_drop, List.length_map]; show _ + 1 + _ ≤ _; omega), ?_⟩
  have ecat : (ws.map wD).take m ++ [wD W] ++ (ws.map wD).drop (m + 1) = ((ws.take m ++ [W] ++ ws.drop (m + 1)).map S).map D.str := by
    rw [← wD_str, List.map_append, List.map_append, List.map_take, List.map_drop]; rfl
  rw [ecat]
  have hvs : sumL (ws.take m ++ [W] ++ ws.drop (m + 1)) + (ws.take m ++ [W] ++ ws.drop (m + 1)).length ≤ 20000 := by
    have h1 := sumL_le (n := 60) (vs := ws.take m) fun w hw => hw60 w (List.mem_of_mem_take hw)
    have h2 := sumL_le (n := 60) (vs := ws.drop (m + 1)) fun w hw => hw60 w (List.mem_of_mem_drop hw)
    have h3 : sumL [W] = W.length := by show W.length + 0 = _; omega
    have h4 := tW.1
    rw [sumL_app, sumL_app, h3, List.length_append, List.length_append]
    rw [List.length_take] at h1 ⊢
    rw [List.length_drop] at h2 ⊢
    show _ + (_ + 1 + _) ≤ _
    omega
  have hvc : ∀ w ∈ ws.take m ++ [W] ++ ws.drop (m + 1), ∀ c ∈ w, c < 128 := fun w hw => by
    rcases List.mem_append.mp hw with h | h
    · rcases List.mem_append.mp h with h | h
      · exact hwc w (List.mem_of_mem_take h)
      · rw [List.mem_singleton.mp h]; exact tW.2
    · exact hwc w (List.mem_of_mem_drop h)
  walk_at "s"
  refine ⟨_, rfl, jb _ hvs, ?_⟩
  rw [join_S]
  have tj := join_tx hvs hvc
  generalize TL.joinL [32] (ws.take m ++ [W] ++ ws.drop (m + 1)) = jj at tj ⊢
  walk_at "s"
  refine ⟨⟨_, _, _, rfl, rfl, rfl, lts (by rw [List.length_map]; omega), ?_⟩⟩
  walk_at "s"
  refine ⟨hp.closed, _, _, hp, by omega, rfl, by decide, by decide, fun ww c g0 g1 hp => ⟨hp.closed, ?_⟩⟩
  walk_at "s"
  have hl15 : (M.map wD ++ [wD jj]).length = 15 := by rw [List.length_append, List.length_map, hM14]; rfl
  obtain ⟨x, ex, hxm, _⟩ := atI_in (l := M.map wD ++ [wD jj]) g0 (by rw [hl15]; exact g1)
  refine ⟨x, ex, ?_⟩
  have hx : ∃ v, x = wD v ∧ Tx 90000 v := by
    rcases List.mem_append.mp hxm with h | h
    · obtain ⟨v, hv, rfl⟩ := List.mem_map.mp h
      exact ⟨v, rfl, hM v hv⟩
    · exact ⟨jj, List.mem_singleton.mp h, tj.mono (by decide)⟩
  obtain ⟨v, rfl, tv⟩ := hx
  exact ⟨hp.closed, q v _ tv (hp.le (by omega))⟩

abbrev s__law_parsed : Stmt := topS 26
abbrev N__law_parsed : List Str := ["_law_call", "_law_wrong", "_law_found", "e"]
theorem sc__law_parsed : FnScope N__law_parsed ["_law_call"] (defScope s__law_parsed) := ⟨rfl, rfl, rfl, by decide +kernel, rfl, by decide +kernel, by decide +kernel⟩
structure ParP (S : SA) (f : Addr) (ds : List D) (Q : D → Prop) (E : EX → Prop) : Prop where
  e : ds = [.ref f]
  h : ∀ (Q' : D → Prop) (E' : EX → Prop), (∀ y, Q (.tup [.str "parsed", y]) → Q' y) → (∀ v, Q (.tup [.str "error", v]) → E' (exParse v)) → S [] Q' E'
def S__law_parsed : SL := ParP
theorem binds__law_parsed (F : FnP K "_law_parsed" s__law_parsed [] f fd) : Binds K fd ["_law_call"] [] := F.bindsN (ps := ["_law_call"]) fun _ _ _ _ _ _ us hl => match us, hl with | [_], _ => rfl
theorem ok__law_parsed (Gz : Gs K mg) (F : FnP K "_law_parsed" s__law_parsed [] f fd) (hm : mg "_law_parsed" = some (.ref f)) (Ex : Exs P w K mg base) {k : Nat} (hk : 0 ≤ k) : GiveF false P w K mg base T "_law_parsed" k (defArgs s__law_parsed) (defBody s__law_parsed) (defScope s__law_parsed) f fd N__law_parsed ["_law_call"] 0 "_law_call" 0 S__law_parsed := by
  refine { F := F, sc := sc__law_parsed, hm := hm, hN := rfl, hv := by first | exact .inl rfl | exact .inr (.inl rfl), hd := by decide, hcd := by decide, len := fun S f ds QD ED h => by (obtain ⟨rfl, _⟩ := h; rfl), b := binds__law_parsed F, gives := fun S fn cdv A outer s H E g hcd hT hr act => ?_ }
  have tk := takes_of (X := cxOf (L2.CX P w) P w K mg base N__law_parsed "_law_parsed" (defScope s__law_parsed) f cdv A outer s H E) rfl rfl rfl rfl
  have hp := passes_of (X := cxOf (L2.CX P w) P w K mg base N__law_parsed "_law_parsed" (defScope s__law_parsed) f cdv A outer s H E) rfl
  have hu := rgu hr
  refine ⟨_, (pxb_cons (pxs_set (i := 1) sc__law_parsed.nd rfl (by first | exact .inl rfl | exact .inr rfl) px_non)
    (pxb_cons (pxs_set (i := 2) sc__law_parsed.nd rfl (by first | exact .inl rfl | exact .inr rfl) px_non)
    (pxb_cons (pxs_try (xs := XS) rfl rfl sc__law_parsed.nd rfl tk (fun W' pn xe tk hp => (pxb_one (pxs_set (i := 2) sc__law_parsed.nd rfl (by first | exact .inl rfl | exact .inr rfl) (ActOk.act0 act rfl _ _ _ _ _ tk))))
    (.as (i := 3) (h := 14) (js := []) rfl rfl ⟨(by rfl), (by decide), .inl Ex.m_ParseError⟩ (Ex.c 14 (by decide)) (fun e a d oe pn hx ix => (pxb_cons (pxs_set (i := 1) sc__law_parsed.nd rfl (by first | exact .inl rfl | exact .inr rfl) (px_xfS Ex.X hx ix (px_var 3)))
    (pxb_one (pxs_ret (px_tup (pxa_cons px_str (pxa_cons (px_var 1) pxa_nil)))))))
    .nil))
    (pxb_one (pxs_ret (px_tup (pxa_cons px_str (pxa_cons (px_var 2) pxa_nil)))))))), ?_⟩
  intro ds QD ED h
  obtain ⟨rfl, h⟩ := h
  walk_at "s"
  refine ⟨rfl, rfl, h _ _ (fun y q => ?_) (fun v q => ?_)⟩
  · walk_at "s"
    exact ⟨sz rfl, q⟩
  · walk_at "s"
    refine ⟨rfl, ?_⟩
    walk_at "s"
    refine ⟨fun _ a d => ?_, fun z => nomatch z⟩
    walk_at "s"
    refine ⟨⟨rfl, rfl, rfl, rfl⟩, ?_⟩
    walk_at "s"
    exact ⟨sz rfl, q⟩
open C8 SX
abbrev SL : SA := fun ds Q _ => ∃ ns : List Int, ds = [.lsf (ns.map D.int)] ∧ ns.length ≤ 63 ∧ (∀ z ∈ ns, z.natAbs < 2 ^ 1048577) ∧ Q (.bl true)
theorem neD {P : Prop} {x y : D} (e : x = y) (h : x.sim = true) (hc : (!PyData.eqv x.pd y.pd) = true) : P := by
  subst e
  rw [eqv_self h] at hc
  cases hc

theorem eRule2 : Str.ofString "rule" = S cRule := eRule
theorem parseP {x : D} {Q : D → Prop} {E : EX → Prop} {l : List Nat} (hx : x = .str (S l)) (hl : l.length ≤ 90000) (h1 : ruleOf l = .non → E (exParse x)) (h2 : ruleOf l ≠ .non → Q (ruleOf l)) : PruP [x] Q E :=
  ⟨⟨x, rfl, by rw [hx]; rfl, (fun z => by rw [hx] at z; cases z), fun m e => by
    have : m = l := by rw [hx] at e; injection e with e; exact (S_inj e).symm
    subst this
    exact ⟨by omega, h1, h2⟩⟩⟩
theorem parseC {x : D} {Q : D → Prop} {E : EX → Prop} {l : List Nat} (hx : x = .str (S l)) (hl : l.length ≤ 90000) (h1 : recFrom (words l) = .non → E (exParse x)) (h2 : recFrom (words l) ≠ .non → Q (recFrom (words l))) : PrecP [x] Q E :=
  ⟨⟨x, rfl, by rw [hx]; rfl, (fun z => by rw [hx] at z; cases z), fun m e => by
    have : m = l := by rw [hx] at e; injection e with e; exact (S_inj e).symm
    subst this
    exact ⟨by omega, h1, h2⟩⟩⟩
theorem parseN {x : D} {Q : D → Prop} {E : EX → Prop} (hx : x.plain = true) (hs : x.isStr = false) (h : E (exParse x)) : PruP [x] Q E :=
  ⟨⟨x, rfl, hx, fun _ => h, fun l e => by rw [e] at hs; cases hs⟩⟩
theorem parseM {x : D} {Q : D → Prop} {E : EX → Prop} (hx : x.plain = true) (hs : x.isStr = false) (h : E (exParse x)) : PrecP [x] Q E :=
  ⟨⟨x, rfl, hx, fun _ => h, fun l e => by rw [e] at hs; cases hs⟩⟩
theorem strOk_tx {n : Nat} {l : List Nat} (h : Tx n l) : PyData.strOk (S l) = true := by
  show l.toArray.all (fun c => decide (c < 0x110000)) = true
  rw [List.all_toArray]
  exact List.all_eq_true.mpr fun c hc => decide_eq_true (by have := h.2 c hc; omega)
theorem sErr : PyData.strOk "error" = true := by decide +kernel
theorem sPar : PyData.strOk "parsed" = true := by decide +kernel
theorem err_lay {n : Nat} {l : List Nat} (h : Tx n l) : (D.tup [.str "error", .str (S l)]).lay 3 = true := by
  show (PyData.strOk "error" && (PyData.strOk (S l) && true)) = true
  rw [sErr, strOk_tx h]; rfl
theorem par_lay (p q v : Int) : (D.tup [.str "parsed", ruleD p q v]).lay 3 = true := by
  show (PyData.strOk "parsed" && _) = true
  rw [sPar]; rfl
theorem rec_lay3 (lo : Bool) (t n : Int) : (D.tup [.str "parsed", recB lo t n]).lay 3 = true := by
  have h : PyData.strOk (bwS lo) = true := by cases lo <;> decide +kernel
  show (PyData.strOk "parsed" && ((PyData.strOk (bwS lo) && (true && (true && true))) && true)) = true
  rw [sPar, h]; rfl
theorem rfrom_sh {ws : List (List Nat)} (h : rfrom ws ≠ .non) : ∃ p q v, rfrom ws = ruleD p q v := by
  unfold rfrom at h ⊢
  split at h
  · exact absurd rfl h
  · rename_i hc
    rw [if_neg hc]
    have h2 : isRuleB (.tup (ws.map pw)) = true := by
      cases hb : isRuleB (.tup (ws.map pw)) with
      | true => rfl
      | false => rw [hb] at hc; exact absurd (by cases isIn .non (ws.map pw) <;> rfl) hc
    exact rule_sh h2
theorem ruleOf_sh {l : List Nat} (h : ruleOf l ≠ .non) : ∃ p q v, ruleOf l = ruleD p q v := by
  unfold ruleOf at h ⊢
  split at h
  · rename_i hc
    rw [if_pos hc]
    exact rfrom_sh h
  · exact absurd rfl h
theorem recFrom_sh {ws : List (List Nat)} (h : recFrom ws ≠ .non) : ∃ lo t n, recFrom ws = recB lo t n := by
  unfold recFrom at h ⊢
  split at h
  · rename_i a b c d e
    split at h
    · rename_i hc
      rw [if_pos hc]
      rw [Bool.and_eq_true] at hc
      have hb : ∃ lo, a ++ 32 :: b = cLo lo := by
        have := hc.2
        unfold bnd at this
        rw [Bool.or_eq_true, decide_eq_true_eq, decide_eq_true_eq] at this
        exact this.elim (fun h => ⟨true, h⟩) fun h => ⟨false, h⟩
      obtain ⟨lo, hb⟩ := hb
      split at h
      · rename_i n t e1 e2
        rw [hb, ← bwS_eq]
        exact ⟨lo, t, n, rfl⟩
      · exact absurd rfl h
    · exact absurd rfl h
  · exact absurd rfl h

abbrev s_law : Stmt := topS 28
abbrev N_law : List Str := ["_law_script", "_law_state", "_law_turn", "_law_words", "_law_rule_here", "_law_record", "_law_line_here", "_law_value"]
theorem sc_law : FnScope N_law ["_law_script"] (defScope s_law) := ⟨rfl, rfl, rfl, by decide +kernel, rfl, by decide +kernel, by decide +kernel⟩
abbrev S_law : SA := SL
theorem binds_law (F : FnP K "law" s_law [] f fd) : Binds K fd ["_law_script"] [] := F.bindsN (ps := ["_law_script"]) fun _ _ _ _ _ _ us hl => match us, hl with | [_], _ => rfl
theorem ok_law (Gz : Gs K mg) (F : FnP K "law" s_law [] (He.fAd K ("law", none)) fd) {f__law_parsed : Addr} {fd__law_parsed : FuncData} (G__law_parsed : ∀ {k : Nat}, 0 ≤ k → GiveF false P w K mg base T "_law_parsed" k (defArgs s__law_parsed) (defBody s__law_parsed) (defScope s__law_parsed) f__law_parsed fd__law_parsed N__law_parsed ["_law_call"] 0 "_law_call" 0 S__law_parsed) {f_parse_record : Addr} {fd_parse_record : FuncData} (G_parse_record : OwnF false P w K mg base "parse_record" 3 f_parse_record fd_parse_record ["text"] (spA K T S_parse_record)) (b_parse_record : Binds K fd_parse_record ["text"] []) {f_parse_rule : Addr} {fd_parse_rule : FuncData} (G_parse_rule : OwnF false P w K mg base "parse_rule" 5 f_parse_rule fd_parse_rule ["text"] (spA K T S_parse_rule)) (b_parse_rule : Binds K fd_parse_rule ["text"] []) {f__law_record_in : Addr} {fd__law_record_in : FuncData} (G__law_record_in : OwnF false P w K mg base "_law_record_in" 2 f__law_record_in fd__law_record_in ["_law_words"] (spA K T S__law_record_in)) (b__law_record_in : Binds K fd__law_record_in ["_law_words"] []) {f__law_rule_in : Addr} {fd__law_rule_in : FuncData} (G__law_rule_in : OwnF false P w K mg base "_law_rule_in" 2 f__law_rule_in fd__law_rule_in ["_law_words"] (spA K T S__law_rule_in)) (b__law_rule_in : Binds K fd__law_rule_in ["_law_words"] []) {f__law_draw : Addr} {fd__law_draw : FuncData} (G__law_draw : OwnF false P w K mg base "_law_draw" 1 f__law_draw fd__law_draw ["_law_state", "_law_size"] (spB K T S__law_draw)) (b__law_draw : Binds K fd__law_draw ["_law_state", "_law_size"] []) {f__law_changed : Addr} {fd__law_changed : FuncData} (G__law_changed : OwnF false P w K mg base "_law_changed" 2 f__law_changed fd__law_changed ["_law_state", "_law_line_here"] (spB K T S__law_changed)) (b__law_changed : Binds K fd__law_changed ["_law_state", "_law_line_here"] []) {f__law_line : Addr} {fd__law_line : FuncData} (G__law_line : OwnF false P w K mg base "_law_line" 3 f__law_line fd__law_line ["_law_state"] (spB K T S__law_line)) (b__law_line : Binds K fd__law_line ["_law_state"] []) {f__law_start : Addr} {fd__law_start : FuncData} (G__law_start : OwnF false P w K mg base "_law_start" 1 f__law_start fd__law_start ["_law_script"] (spC K T S__law_start)) (b__law_start : Binds K fd__law_start ["_law_script"] []) (MK : MkD K mg base T ("law", none) (("law" : Str) ++ ".<locals>." ++ "<lambda>")) : FnG false P w K mg base 8 (He.fAd K ("law", none)) fd ["_law_script"] (spA K T S_law) := by
  refine bodyA F sc_law (fun ds QD ED h => by obtain ⟨ns, rfl, _⟩ := h; rfl) (fun cdv hcd A outer s H E g hT hr => ?_)
  have tk := takes_of (X := cxOf (L2.CX P w) P w K mg base N_law "law" (defScope s_law) (He.fAd K ("law", none)) cdv A outer s H E) rfl rfl rfl rfl
  have hp := passes_of (X := cxOf (L2.CX P w) P w K mg base N_law "law" (defScope s_law) (He.fAd K ("law", none)) cdv A outer s H E) rfl
  have hu := rgu hr
  have mk : Maker (cxOf (L2.CX P w) P w K mg base N_law "law" (defScope s_law) (He.fAd K ("law", none)) cdv A outer s H E) T := mk_of hcd MK rfl
  rw [← hT] at mk
  refine ⟨_, (pxb_cons (pxs_set (i := 1) sc_law.nd rfl (by first | exact .inl rfl | exact .inr rfl) (px_ownC G__law_start b__law_start hT (hr.mono (by decide)) tk (pxa_cons (px_var 0) pxa_nil)))
    (pxb_cons (pxs_for hp rfl (pxi_range1 (by rfl) Gz.z_range (pxa_cons (px_op od_add px_int (px_callB (cd_min2 rfl) (by rfl) Gz.z_min bt_min (pxa_cons px_int (pxa_cons (px_callB cd_len (by rfl) Gz.z_len bt_len (pxa_cons (px_var 0) pxa_nil)) pxa_nil)))) pxa_nil)) (pxg_name (i := 2) sc_law.nd rfl (by first | exact .inl rfl | exact .inr rfl))
    (pxb_cons (pxs_set (i := 6) sc_law.nd rfl (by first | exact .inl rfl | exact .inr rfl) (px_ownB G__law_line b__law_line hT (hr.mono (by decide)) tk (pxa_cons (px_var 1) pxa_nil)))
    (pxb_cons (pxs_if (pxt_cmp od_gt (px_ownB G__law_draw b__law_draw hT (hr.mono (by decide)) tk (pxa_cons (px_var 1) (pxa_cons px_int pxa_nil))) px_int (nomark _))
    (pxb_one (pxs_set (i := 6) sc_law.nd rfl (by first | exact .inl rfl | exact .inr rfl) (px_ownB G__law_changed b__law_changed hT (hr.mono (by decide)) tk (pxa_cons (px_var 1) (pxa_cons (px_var 6) pxa_nil)))))
    pxb_nil)
    (pxb_cons (pxs_set (i := 3) sc_law.nd rfl (by first | exact .inl rfl | exact .inr rfl) (px_split (px_var 6) px_str))
    (pxb_cons (pxs_set (i := 4) sc_law.nd rfl (by first | exact .inl rfl | exact .inr rfl) (px_ifExp (pxt_cmp (od_eq hr.units) (px_ixN (k := 0) (px_var 3)) px_str (nomark _)) (px_own G__law_rule_in b__law_rule_in hT (hr.mono (by decide)) tk (pxa_cons (px_sl2T (px_var 3) px_int) pxa_nil)) px_non))
    (pxb_cons (pxs_if (pxt_cmp (od_neT2 hr.units) (px_lam (ps := []) (k := 6) (k2 := 5) (G__law_parsed (by decide)) hT (hr.mono (by decide)) tk (by decide) rfl (lamP_by (sc := defScope s_law) (ps := []) (N := N_law) (by decide +kernel)) (fun cl pm cv ctv us hl => match us, hl with | [], _ => rfl) (pxf_here (ps := []) rfl rfl mk (lamP_by (sc := defScope s_law) (ps := []) (N := N_law) (by decide +kernel)) rfl pxa_nil) (fun A outer s H E f c' g W hT hr tk => have hr := rg0 hr; (px_own G_parse_rule b_parse_rule hT (hr.mono (by decide)) tk (pxa_cons (px_var 6) pxa_nil)))) (px_ifExp (pxt_cmp od_isN (px_var 4) px_non (nomark _)) (px_tup (pxa_cons px_str (pxa_cons (px_var 6) pxa_nil))) (px_tup (pxa_cons px_str (pxa_cons (px_var 4) pxa_nil)))) (nomark _))
    (pxb_one (pxs_ret px_bl))
    pxb_nil)
    (pxb_cons (pxs_set (i := 5) sc_law.nd rfl (by first | exact .inl rfl | exact .inr rfl) (px_own G__law_record_in b__law_record_in hT (hr.mono (by decide)) tk (pxa_cons (px_var 3) pxa_nil)))
    (pxb_one (pxs_if (pxt_cmp (od_neT2 hr.units) (px_lam (ps := []) (k := 4) (k2 := 3) (G__law_parsed (by decide)) hT (hr.mono (by decide)) tk (by decide) rfl (lamP_by (sc := defScope s_law) (ps := []) (N := N_law) (by decide +kernel)) (fun cl pm cv ctv us hl => match us, hl with | [], _ => rfl) (pxf_here (ps := []) rfl rfl mk (lamP_by (sc := defScope s_law) (ps := []) (N := N_law) (by decide +kernel)) rfl pxa_nil) (fun A outer s H E f c' g W hT hr tk => have hr := rg0 hr; (px_own G_parse_record b_parse_record hT (hr.mono (by decide)) tk (pxa_cons (px_var 6) pxa_nil)))) (px_ifExp (pxt_cmp od_isN (px_var 5) px_non (nomark _)) (px_tup (pxa_cons px_str (pxa_cons (px_var 6) pxa_nil))) (px_tup (pxa_cons px_str (pxa_cons (px_var 5) pxa_nil)))) (nomark _))
    (pxb_one (pxs_ret px_bl))
    pxb_nil)))))))))
    (pxb_cons (pxs_for hp rfl (pxi_seq (px_tup (pxa_cons px_non (pxa_cons px_int (pxa_cons (px_lst (pxa_cons px_str pxa_nil)) (pxa_cons (px_tup (pxa_cons px_str pxa_nil)) (pxa_cons px_dic0 (pxa_cons px_bl pxa_nil)))))))) (pxg_name (i := 7) sc_law.nd rfl (by first | exact .inl rfl | exact .inr rfl))
    (pxb_cons (pxs_if (pxt_cmp (od_neT2 hr.units) (px_lam (ps := []) (k := 6) (k2 := 5) (G__law_parsed (by decide)) hT (hr.mono (by decide)) tk (by decide) rfl (lamP_by (sc := defScope s_law) (ps := []) (N := N_law) (by decide +kernel)) (fun cl pm cv ctv us hl => match us, hl with | [], _ => rfl) (pxf_here (ps := []) rfl rfl mk (lamP_by (sc := defScope s_law) (ps := []) (N := N_law) (by decide +kernel)) rfl pxa_nil) (fun A outer s H E f c' g W hT hr tk => have hr := rg0 hr; (px_own G_parse_rule b_parse_rule hT (hr.mono (by decide)) tk (pxa_cons (px_var 7) pxa_nil)))) (px_tup (pxa_cons px_str (pxa_cons (px_var 7) pxa_nil))) (nomark _))
    (pxb_one (pxs_ret px_bl))
    pxb_nil)
    (pxb_one (pxs_if (pxt_cmp (od_neT2 hr.units) (px_lam (ps := []) (k := 4) (k2 := 3) (G__law_parsed (by decide)) hT (hr.mono (by decide)) tk (by decide) rfl (lamP_by (sc := defScope s_law) (ps := []) (N := N_law) (by decide +kernel)) (fun cl pm cv ctv us hl => match us, hl with | [], _ => rfl) (pxf_here (ps := []) rfl rfl mk (lamP_by (sc := defScope s_law) (ps := []) (N := N_law) (by decide +kernel)) rfl pxa_nil) (fun A outer s H E f c' g W hT hr tk => have hr := rg0 hr; (px_own G_parse_record b_parse_record hT (hr.mono (by decide)) tk (pxa_cons (px_var 7) pxa_nil)))) (px_tup (pxa_cons px_str (pxa_cons (px_var 7) pxa_nil))) (nomark _))
    (pxb_one (pxs_ret px_bl))
    pxb_nil))))
    (pxb_one (pxs_ret px_bl))))), ?_⟩
  intro ds QD ED h
  obtain ⟨ns, rfl, hl, hb, q⟩ := h
  walk_at "s"
  refine ⟨ns, rfl, hl, hb, fun c hp0 => ⟨hp0.closed, ?_⟩⟩
  walk_at "s"
  refine ⟨by rw [List.length_map]; omega, ?_⟩
  refine dLoop_rng (fun i ds => ∃ (c' : MC) (z0 z2 z3 z4 z5 z6 z7 : Option Z), ds = ⟨[z0, some (.m 0), z2, z3, z4, z5, z6, z7], [some c']⟩ ∧ PenC PK (2 ^ 59 - 30000 * i) c') ⟨c, _, _, _, _, _, _, _, rfl, hp0⟩ ?_ ?_
  rotate_left
  · rintro ds ⟨c, z0, z2, z3, z4, z5, z6, z7, rfl, hp⟩
    walk_at "j"
    refine dSeq_go ?_
    walk_at "s"
    repeat (walk_at "s"; refine ⟨sz rfl, ?_⟩)
    walk_at "s"
    have sT1 : PyData.strOk "rule 1 2 3" = true := by decide +kernel
    have sT2 : PyData.strOk "at least 1 at 1" = true := by decide +kernel
    intro f
    walk_at "s"
    refine ⟨rfl, fun Q' E' g1 g2 => ?_⟩
    walk_at "s"
    refine parseN rfl rfl (g2 _ ?_)
    walk_at "s"
    refine ⟨sz rfl, ?_⟩
    walk_at "s"
    refine ⟨lay_eqOk (n := 4) (m := 4) (by show (PyData.strOk "error" && _) = true; rw [sErr]; rfl) (by show (PyData.strOk "error" && _) = true; rw [sErr]; rfl) (by decide) (by decide), ?_⟩
    walk_at "i" <;> intro hc
    · first | exact neD rfl rfl hc | exact absurd hc (by decide +kernel) | exact Bool.noConfusion hc
    clear hc
    walk_at "s"
    intro f
    walk_at "s"
    refine ⟨rfl, fun Q' E' g1 g2 => ?_⟩
    walk_at "s"
    refine parseM rfl rfl (g2 _ ?_)
    walk_at "s"
    refine ⟨sz rfl, ?_⟩
    walk_at "s"
    refine ⟨lay_eqOk (n := 4) (m := 4) (by show (PyData.strOk "error" && _) = true; rw [sErr]; rfl) (by show (PyData.strOk "error" && _) = true; rw [sErr]; rfl) (by decide) (by decide), ?_⟩
    walk_at "i" <;> intro hc
    · first | exact neD rfl rfl hc | exact absurd hc (by decide +kernel) | exact Bool.noConfusion hc
    clear hc
    walk_at "s"
    intro f
    walk_at "s"
    refine ⟨rfl, fun Q' E' g1 g2 => ?_⟩
    walk_at "s"
    refine parseN rfl rfl (g2 _ ?_)
    walk_at "s"
    refine ⟨sz rfl, ?_⟩
    walk_at "s"
    refine ⟨lay_eqOk (n := 4) (m := 4) (by show (PyData.strOk "error" && _) = true; rw [sErr]; rfl) (by show (PyData.strOk "error" && _) = true; rw [sErr]; rfl) (by decide) (by decide), ?_⟩
    walk_at "i" <;> intro hc
    · first | exact neD rfl rfl hc | exact absurd hc (by decide +kernel) | exact Bool.noConfusion hc
    clear hc
    walk_at "s"
    intro f
    walk_at "s"
    refine ⟨rfl, fun Q' E' g1 g2 => ?_⟩
    walk_at "s"
    refine parseM rfl rfl (g2 _ ?_)
    walk_at "s"
    refine ⟨sz rfl, ?_⟩
    walk_at "s"
    refine ⟨lay_eqOk (n := 4) (m := 4) (by show (PyData.strOk "error" && _) = true; rw [sErr]; rfl) (by show (PyData.strOk "error" && _) = true; rw [sErr]; rfl) (by decide) (by decide), ?_⟩
    walk_at "i" <;> intro hc
    · first | exact neD rfl rfl hc | exact absurd hc (by decide +kernel) | exact Bool.noConfusion hc
    clear hc
    walk_at "s"
    intro f
    walk_at "s"
    refine ⟨rfl, fun Q' E' g1 g2 => ?_⟩
    walk_at "s"
    refine parseN rfl rfl (g2 _ ?_)
    walk_at "s"
    refine ⟨sz rfl, ?_⟩
    walk_at "s"
    refine ⟨lay_eqOk (n := 4) (m := 4) (by show (PyData.strOk "error" && ((PyData.strOk "rule 1 2 3" && true) && true)) = true; rw [sErr, sT1]; rfl) (by show (PyData.strOk "error" && ((PyData.strOk "rule 1 2 3" && true) && true)) = true; rw [sErr, sT1]; rfl) (by decide) (by decide), ?_⟩
    walk_at "i" <;> intro hc
    · first | exact neD rfl rfl hc | exact absurd hc (by decide +kernel) | exact Bool.noConfusion hc
    clear hc
    walk_at "s"
    intro f
    walk_at "s"
    refine ⟨rfl, fun Q' E' g1 g2 => ?_⟩
    walk_at "s"
    refine parseM rfl rfl (g2 _ ?_)
    walk_at "s"
    refine ⟨sz rfl, ?_⟩
    walk_at "s"
    refine ⟨lay_eqOk (n := 4) (m := 4) (by show (PyData.strOk "error" && ((PyData.strOk "rule 1 2 3" && true) && true)) = true; rw [sErr, sT1]; rfl) (by show (PyData.strOk "error" && ((PyData.strOk "rule 1 2 3" && true) && true)) = true; rw [sErr, sT1]; rfl) (by decide) (by decide), ?_⟩
    walk_at "i" <;> intro hc
    · first | exact neD rfl rfl hc | exact absurd hc (by decide +kernel) | exact Bool.noConfusion hc
    clear hc
    walk_at "s"
    intro f
    walk_at "s"
    refine ⟨rfl, fun Q' E' g1 g2 => ?_⟩
    walk_at "s"
    refine parseN rfl rfl (g2 _ ?_)
    walk_at "s"
    refine ⟨sz rfl, ?_⟩
    walk_at "s"
    refine ⟨lay_eqOk (n := 4) (m := 4) (by show (PyData.strOk "error" && ((PyData.strOk "at least 1 at 1" && true) && true)) = true; rw [sErr, sT2]; rfl) (by show (PyData.strOk "error" && ((PyData.strOk "at least 1 at 1" && true) && true)) = true; rw [sErr, sT2]; rfl) (by decide) (by decide), ?_⟩
    walk_at "i" <;> intro hc
    · first | exact neD rfl rfl hc | exact absurd hc (by decide +kernel) | exact Bool.noConfusion hc
    clear hc
    walk_at "s"
    intro f
    walk_at "s"
    refine ⟨rfl, fun Q' E' g1 g2 => ?_⟩
    walk_at "s"
    refine parseM rfl rfl (g2 _ ?_)
    walk_at "s"
    refine ⟨sz rfl, ?_⟩
    walk_at "s"
    refine ⟨lay_eqOk (n := 4) (m := 4) (by show (PyData.strOk "error" && ((PyData.strOk "at least 1 at 1" && true) && true)) = true; rw [sErr, sT2]; rfl) (by show (PyData.strOk "error" && ((PyData.strOk "at least 1 at 1" && true) && true)) = true; rw [sErr, sT2]; rfl) (by decide) (by decide), ?_⟩
    walk_at "i" <;> intro hc
    · first | exact neD rfl rfl hc | exact absurd hc (by decide +kernel) | exact Bool.noConfusion hc
    clear hc
    walk_at "s"
    intro f
    walk_at "s"
    refine ⟨rfl, fun Q' E' g1 g2 => ?_⟩
    walk_at "s"
    refine parseN rfl rfl (g2 _ ?_)
    walk_at "s"
    refine ⟨sz rfl, ?_⟩
    walk_at "s"
    refine ⟨rfl, ?_⟩
    refine ifF rfl ?_
    walk_at "s"
    intro f
    walk_at "s"
    refine ⟨rfl, fun Q' E' g1 g2 => ?_⟩
    walk_at "s"
    refine parseM rfl rfl (g2 _ ?_)
    walk_at "s"
    refine ⟨sz rfl, ?_⟩
    walk_at "s"
    refine ⟨rfl, ?_⟩
    refine ifF rfl ?_
    walk_at "s"
    intro f
    walk_at "s"
    refine ⟨rfl, fun Q' E' g1 g2 => ?_⟩
    walk_at "s"
    refine parseN rfl rfl (g2 _ ?_)
    walk_at "s"
    refine ⟨sz rfl, ?_⟩
    walk_at "s"
    refine ⟨lay_eqOk (n := 4) (m := 4) (by show (PyData.strOk "error" && _) = true; rw [sErr]; rfl) (by show (PyData.strOk "error" && _) = true; rw [sErr]; rfl) (by decide) (by decide), ?_⟩
    walk_at "i" <;> intro hc
    · first | exact neD rfl rfl hc | exact absurd hc (by decide +kernel) | exact Bool.noConfusion hc
    clear hc
    walk_at "s"
    intro f
    walk_at "s"
    refine ⟨rfl, fun Q' E' g1 g2 => ?_⟩
    walk_at "s"
    refine parseM rfl rfl (g2 _ ?_)
    walk_at "s"
    refine ⟨sz rfl, ?_⟩
    walk_at "s"
    refine ⟨lay_eqOk (n := 4) (m := 4) (by show (PyData.strOk "error" && _) = true; rw [sErr]; rfl) (by show (PyData.strOk "error" && _) = true; rw [sErr]; rfl) (by decide) (by decide), ?_⟩
    walk_at "i" <;> intro hc
    · first | exact neD rfl rfl hc | exact absurd hc (by decide +kernel) | exact Bool.noConfusion hc
    clear hc
    walk_at "s"
    exact q
  rintro i ds N hi ⟨c, z0, z2, z3, z4, z5, z6, z7, rfl, hp⟩ hN
  have hi : i < 16 := by rw [List.length_map] at hi; omega
  have hbig : (2 : Nat) ^ 59 = 576460752303423488 := by decide
  walk_at "s"
  refine ⟨hp.closed, _, hp, by omega, rfl, fun l0 c hl0 hp => ⟨hp.closed, ?_⟩⟩
  walk_at "j"
  refine dSeq_j (fun ds => ∃ (c : MC) (l : List Nat), ds = ⟨[z0, some (.m 0), some (.d (.int (0 + (i : Int)))), z3, z4, z5, some (.d (.str (S l))), z7], [some c]⟩ ∧ Tx 90000 l ∧ PenC PK (2 ^ 59 - 30000 * i - 100) c) (fun ds hds => ?_) (fun J hJ => ?_)
  rotate_left
  · walk_at "s"
    refine ⟨hp.closed, _, _, hp, by omega, rfl, by decide, by decide, fun d c d0 d1 hp => ⟨hp.closed, ?_⟩⟩
    walk_at "s"
    refine splitD (fun hd => ?_) (fun hd => ?_)
    · walk_at "s"
      refine ⟨hp.closed, _, l0, hp, by omega, rfl, hl0, fun m c hm hp => ⟨hp.closed, ?_⟩⟩
      exact hJ _ ⟨c, m, rfl, hm, hp.le (by omega)⟩
    · walk_at "s"
      exact hJ _ ⟨c, l0, rfl, hl0.mono (by decide), hp.le (by omega)⟩
  obtain ⟨c, l, rfl, hl, hp⟩ := hds
  clear hl0
  walk_at "s"
  rw [eB]
  have hll : l.length ≤ 90000 := hl.1
  refine ⟨⟨rfl, by rw [S_len]; exact ltl (by omega)⟩, ?_⟩
  rw [split_w]
  obtain ⟨hwl, hww⟩ := words_len l
  have hwb : ∀ w ∈ words l, 32 ∉ w := fun w hw h => (words_mem hw h).2 rfl
  have hr0 : ruleOf l = if (words l).head? = some cRule then rfrom ((words l).drop 1) else .non := rfl
  obtain ⟨ws, ews⟩ : ∃ ws, words l = ws := ⟨_, rfl⟩
  have hne := words_ne l
  have hc0 : recFrom (words l) = recFrom ws := by rw [ews]
  rw [ews] at hwl hww hr0 hwb hne ⊢
  obtain ⟨w0, wr, ew⟩ : ∃ a b, ws = a :: b := by
    cases ws with
    | nil => exact absurd rfl hne
    | cons a b => exact ⟨a, b, rfl⟩
  walk_at "j"
  refine dSeq_j (fun ds => ds = ⟨[z0, some (.m 0), some (.d (.int (0 + (i : Int)))), some (.d (.lst (ws.map wD))), some (.d (ruleOf l)), z5, some (.d (.str (S l))), z7], [some c]⟩) (fun ds hds => ?_) (fun J hJ => ?_)
  rotate_left
  · rw [ew] at hwl hww hr0 hJ ⊢
    have hwl : wr.length + 1 ≤ l.length + 1 := hwl
    walk_at "s"
    rw [eRule]
    refine splitD (fun hc => ?_) (fun hc => ?_)
    · have hc : w0 = cRule := S_inj hc
      rw [if_pos (show (w0 :: wr).head? = some cRule by rw [hc]; rfl)] at hr0
      walk_at "s"
      rw [show (1 : Int) = ((1 : Nat) : Int) from rfl, cut_drop]
      refine ⟨wr, rfl, by omega, fun w hw => ?_, ?_⟩
      · have := hww w (List.mem_cons_of_mem _ hw)
        omega
      walk_at "s"
      refine hJ _ ?_
      rw [hr0]; rfl
    · have hc : w0 ≠ cRule := fun z => hc (by rw [z])
      rw [if_neg (show ¬ (w0 :: wr).head? = some cRule from fun z => hc (Option.some.inj z))] at hr0
      walk_at "s"
      refine hJ _ ?_
      rw [hr0]; rfl
  subst hds
  clear ew hr0
  have tl3 := err_lay hl
  walk_at "j"
  refine dSeq_j (fun ds => ds = ⟨[z0, some (.m 0), some (.d (.int (0 + (i : Int)))), some (.d (.lst (ws.map wD))), some (.d (ruleOf l)), z5, some (.d (.str (S l))), z7], [some c]⟩) (fun ds hds => ?_) (fun J hJ => ?_)
  rotate_left
  · walk_at "s"
    intro f
    walk_at "s"
    refine ⟨rfl, fun Q' E' g1 g2 => ?_⟩
    walk_at "s"
    refine parseP rfl hll (fun h => g2 _ ?_) (fun h => g1 _ ?_)
    · rw [h] at hJ ⊢
      walk_at "s"
      repeat (walk_at "s"; refine ⟨sz rfl, ?_⟩)
      refine ifT rfl ?_
      repeat (walk_at "s"; refine ⟨sz rfl, ?_⟩)
      walk_at "s"
      refine ⟨lay_eqOk (n := 3) (m := 3) tl3 tl3 (by decide) (by decide), ?_⟩
      walk_at "i" <;> intro hc
      · exact neD rfl rfl hc
      exact hJ _ rfl
    · obtain ⟨p, y, v, e⟩ := ruleOf_sh h
      rw [e] at hJ ⊢
      walk_at "s"
      repeat (walk_at "s"; refine ⟨sz rfl, ?_⟩)
      refine ifF rfl ?_
      repeat (walk_at "s"; refine ⟨sz rfl, ?_⟩)
      walk_at "s"
      refine ⟨lay_eqOk (n := 3) (m := 3) (par_lay p y v) (par_lay p y v) (by decide) (by decide), ?_⟩
      walk_at "i" <;> intro hc
      · exact neD rfl rfl hc
      exact hJ _ rfl
  subst hds
  walk_at "s"
  refine ⟨ws, rfl, by omega, fun w hw => ⟨by have := hww w hw; omega, hwb w hw⟩, ?_⟩
  walk_at "s"
  intro f
  walk_at "s"
  refine ⟨rfl, fun Q' E' g1 g2 => ?_⟩
  walk_at "s"
  refine parseC rfl hll (fun h => g2 _ ?_) (fun h => g1 _ ?_)
  · rw [← hc0, h]
    walk_at "s"
    repeat (walk_at "s"; refine ⟨sz rfl, ?_⟩)
    refine ifT rfl ?_
    repeat (walk_at "s"; refine ⟨sz rfl, ?_⟩)
    walk_at "s"
    refine ⟨lay_eqOk (n := 3) (m := 3) tl3 tl3 (by decide) (by decide), ?_⟩
    walk_at "i" <;> intro hc
    · exact neD rfl rfl hc
    exact hN _ ⟨c, _, _, _, _, _, _, _, rfl, hp.le (by omega)⟩
  · rw [← hc0]
    obtain ⟨lo, t, n, e⟩ := recFrom_sh h
    rw [e]
    walk_at "s"
    repeat (walk_at "s"; refine ⟨sz rfl, ?_⟩)
    refine ifF rfl ?_
    repeat (walk_at "s"; refine ⟨sz rfl, ?_⟩)
    walk_at "s"
    refine ⟨lay_eqOk (n := 3) (m := 3) (rec_lay3 lo t n) (rec_lay3 lo t n) (by decide) (by decide), ?_⟩
    walk_at "i" <;> intro hc
    · exact neD rfl rfl hc
    exact hN _ ⟨c, _, _, _, _, _, _, _, rfl, hp.le (by omega)⟩
def d_is_integer : He.DefD := ⟨("is_integer", none), "is_integer", "is_integer", defArgs s_is_integer, defBody s_is_integer, defScope s_is_integer, [], []⟩
def d_common_divisor : He.DefD := ⟨("common_divisor", none), "common_divisor", "common_divisor", defArgs s_common_divisor, defBody s_common_divisor, defScope s_common_divisor, [], []⟩
def d_is_reduced : He.DefD := ⟨("is_reduced", none), "is_reduced", "is_reduced", defArgs s_is_reduced, defBody s_is_reduced, defScope s_is_reduced, [], []⟩
def d_is_rule : He.DefD := ⟨("is_rule", none), "is_rule", "is_rule", defArgs s_is_rule, defBody s_is_rule, defScope s_is_rule, [], []⟩
def d_parse_integer : He.DefD := ⟨("parse_integer", none), "parse_integer", "parse_integer", defArgs s_parse_integer, defBody s_parse_integer, defScope s_parse_integer, [], []⟩
def d_rule_from : He.DefD := ⟨("rule_from", none), "rule_from", "rule_from", defArgs s_rule_from, defBody s_rule_from, defScope s_rule_from, [], []⟩
def d_parse_rule : He.DefD := ⟨("parse_rule", none), "parse_rule", "parse_rule", defArgs s_parse_rule, defBody s_parse_rule, defScope s_parse_rule, [], []⟩
def d_record_from : He.DefD := ⟨("record_from", none), "record_from", "record_from", defArgs s_record_from, defBody s_record_from, defScope s_record_from, [], []⟩
def d_parse_record : He.DefD := ⟨("parse_record", none), "parse_record", "parse_record", defArgs s_parse_record, defBody s_parse_record, defScope s_parse_record, [], []⟩
def d__law_start : He.DefD := ⟨("_law_start", none), "_law_start", "_law_start", defArgs s__law_start, defBody s__law_start, defScope s__law_start, [], []⟩
def d__law_draw : He.DefD := ⟨("_law_draw", none), "_law_draw", "_law_draw", defArgs s__law_draw, defBody s__law_draw, defScope s__law_draw, [], []⟩
def d__law_divisor : He.DefD := ⟨("_law_divisor", none), "_law_divisor", "_law_divisor", defArgs s__law_divisor, defBody s__law_divisor, defScope s__law_divisor, [], []⟩
def d__law_rule : He.DefD := ⟨("_law_rule", none), "_law_rule", "_law_rule", defArgs s__law_rule, defBody s__law_rule, defScope s__law_rule, [], []⟩
def d__law_integer : He.DefD := ⟨("_law_integer", none), "_law_integer", "_law_integer", defArgs s__law_integer, defBody s__law_integer, defScope s__law_integer, [], []⟩
def d__law_rule_in : He.DefD := ⟨("_law_rule_in", none), "_law_rule_in", "_law_rule_in", defArgs s__law_rule_in, defBody s__law_rule_in, defScope s__law_rule_in, [], []⟩
def d__law_record_in : He.DefD := ⟨("_law_record_in", none), "_law_record_in", "_law_record_in", defArgs s__law_record_in, defBody s__law_record_in, defScope s__law_record_in, [], []⟩
def d__law_line : He.DefD := ⟨("_law_line", none), "_law_line", "_law_line", defArgs s__law_line, defBody s__law_line, defScope s__law_line, [], []⟩
def d__law_changed : He.DefD := ⟨("_law_changed", none), "_law_changed", "_law_changed", defArgs s__law_changed, defBody s__law_changed, defScope s__law_changed, [], []⟩
def d__law_parsed : He.DefD := ⟨("_law_parsed", none), "_law_parsed", "_law_parsed", defArgs s__law_parsed, defBody s__law_parsed, defScope s__law_parsed, [], []⟩
def d_law : He.DefD := ⟨("law", none), "law", "law", defArgs s_law, defBody s_law, defScope s_law, [], []⟩
abbrev si_ParseError : Stmt := clsS (topS 2) 0
def di_ParseError : He.DefD := ⟨("ParseError", some "__init__"), "__init__", "ParseError.__init__", defArgs si_ParseError, defBody si_ParseError, defScope si_ParseError, [], []⟩
def fn : List He.DefD := [d_is_integer, d_common_divisor, d_is_reduced, d_is_rule, d_parse_integer, d_rule_from, d_parse_rule, d_record_from, d_parse_record, d__law_start, d__law_draw, d__law_divisor, d__law_rule, d__law_integer, d__law_rule_in, d__law_record_in, d__law_line, d__law_changed, d__law_parsed, d_law, di_ParseError]
def fa : List He.Fa := [.glo "law", .free "isinstance", .free "bool", .free "int", .free "all", .free "len", .free "tuple", .str "DIGITS" "0123456789", .int "MOST_DIGITS" 200, .free "str", .glo "BOUNDS", .free "abs", .free "range", .free "min", .glo "LeapfitError", .glo "ParseError", .glo "is_integer", .glo "common_divisor", .glo "is_reduced", .glo "is_rule", .glo "parse_integer", .glo "rule_from", .glo "parse_rule", .glo "record_from", .glo "parse_record", .glo "_law_start", .glo "_law_draw", .glo "_law_divisor", .glo "_law_rule", .glo "_law_integer", .glo "_law_rule_in", .glo "_law_record_in", .glo "_law_line", .glo "_law_changed", .glo "_law_parsed"]
def Tt (K : PySem.W.Frag) : List (Addr × Str) := [((He.cT K ("law", none)).2, ("law" : Str) ++ ".<locals>." ++ "<lambda>")]
def exk0 (K : PySem.W.Frag) : Bool := He.tupB K "BOUNDS" [.str "at least", .str "at most"]
def exk1 (K : PySem.W.Frag) : Bool := exXB K XS
def exk2 (K : PySem.W.Frag) : Bool := catB K XS HS
def exk3 (K : PySem.W.Frag) : Bool := nonB K HS
def exk4 (K : PySem.W.Frag) : Bool := exBB K
def exk5 (K : PySem.W.Frag) : Bool := exIB K "ParseError"
def exk (K : PySem.W.Frag) : Bool := exk0 K && exk1 K && exk2 K && exk3 K && exk4 K && exk5 K
def tf : List He.Defn := [("law", none)]
abbrev R : PySem.W.OpenRow := PySem.W.OpenLaw.row PySem.Challenge.rw_leapfit_k89_texts_that_are_no_rules_or_r
abbrev hk : PySem.W.Hook := L3.hookY 4 fa fn tf exk
def ob (s : PySem.W.SharedT) : He.AlX := L3.obsY 4 fa fn tf exk (HandSHeadRun.getT s)
theorem ob_eq (s : PySem.W.SharedT) : ob s = hk.obs s.abs := L3.obsY_eq (HandSHeadRun.getT_eq s)
def names0 : List Str := ["LeapfitError", "ParseError", "BOUNDS", "is_integer", "common_divisor", "is_reduced", "is_rule", "DIGITS", "MOST_DIGITS", "parse_integer", "rule_from", "parse_rule", "record_from", "parse_record", "_law_start", "_law_draw", "_law_divisor", "_law_rule", "_law_integer", "_law_rule_in", "_law_record_in", "_law_changed", "_law_parsed", "_law_line"]
abbrev names : List Str := names0
theorem run (w : World) : HandSHeadRun.RunEq R (PySem.W.view R.prog [28]) hk ob 4000 names w := by
  intro os
  kernel_rfl
set_option maxHeartbeats 8000000 in
theorem facts {P : Program} {w : World} {K : PySem.W.Frag} {h : Heap} {mg : Str → Option Value} {f : Addr} (X : K.In h) (G : h.Ns mainGlobals mg) (hfa : mg ("law" : Str) = some (.ref f)) (c : He.SaysD fa fn K) (cx : exk K = true) :
    ∃ fd : FuncData, (∀ (s : Shared) (v : Value), BindsTo s fd ⟨[v], []⟩ [("_law_script", v)]) ∧ ∀ base : Heap, K.In base → base.Ns mainGlobals mg → (∀ p ∈ tf.map (He.cT K), LamX.TabB base mg p.1 p.2) → FnG true P w K mg base 8 f fd ["_law_script"] (spA K (Tt K) S_law) := by
  obtain ⟨fd_is_integer, F_is_integer⟩ := c.def_ 0 (d := d_is_integer) rfl
  obtain ⟨fd_common_divisor, F_common_divisor⟩ := c.def_ 1 (d := d_common_divisor) rfl
  obtain ⟨fd_is_reduced, F_is_reduced⟩ := c.def_ 2 (d := d_is_reduced) rfl
  obtain ⟨fd_is_rule, F_is_rule⟩ := c.def_ 3 (d := d_is_rule) rfl
  obtain ⟨fd_parse_integer, F_parse_integer⟩ := c.def_ 4 (d := d_parse_integer) rfl
  obtain ⟨fd_rule_from, F_rule_from⟩ := c.def_ 5 (d := d_rule_from) rfl
  obtain ⟨fd_parse_rule, F_parse_rule⟩ := c.def_ 6 (d := d_parse_rule) rfl
  obtain ⟨fd_record_from, F_record_from⟩ := c.def_ 7 (d := d_record_from) rfl
  obtain ⟨fd_parse_record, F_parse_record⟩ := c.def_ 8 (d := d_parse_record) rfl
  obtain ⟨fd__law_start, F__law_start⟩ := c.def_ 9 (d := d__law_start) rfl
  obtain ⟨fd__law_draw, F__law_draw⟩ := c.def_ 10 (d := d__law_draw) rfl
  obtain ⟨fd__law_divisor, F__law_divisor⟩ := c.def_ 11 (d := d__law_divisor) rfl
  obtain ⟨fd__law_rule, F__law_rule⟩ := c.def_ 12 (d := d__law_rule) rfl
  obtain ⟨fd__law_integer, F__law_integer⟩ := c.def_ 13 (d := d__law_integer) rfl
  obtain ⟨fd__law_rule_in, F__law_rule_in⟩ := c.def_ 14 (d := d__law_rule_in) rfl
  obtain ⟨fd__law_record_in, F__law_record_in⟩ := c.def_ 15 (d := d__law_record_in) rfl
  obtain ⟨fd__law_line, F__law_line⟩ := c.def_ 16 (d := d__law_line) rfl
  obtain ⟨fd__law_changed, F__law_changed⟩ := c.def_ 17 (d := d__law_changed) rfl
  obtain ⟨fd__law_parsed, F__law_parsed⟩ := c.def_ 18 (d := d__law_parsed) rfl
  obtain ⟨fd_law, F_law⟩ := c.def_ 19 (d := d_law) rfl
  obtain ⟨fdi_ParseError, I_ParseError⟩ := c.def_ 20 (d := di_ParseError) rfl
  have e := hfa.symm.trans (He.glo_ok X G (c.fact 0 (f := .glo "law") rfl))
  cases e
  have bb := FunD.bindsA (ps := ["_law_script"]) F_law fun _ _ _ _ _ _ us hl => match us, hl with | [_], _ => rfl
  refine ⟨fd_law, fun s v => bb s [v] rfl, fun base _ _ TB => ?_⟩
  unfold exk at cx
  try simp only [Bool.and_eq_true] at cx
  obtain ⟨⟨⟨⟨⟨cx_0, cx_1⟩, cx_2⟩, cx_3⟩, cx_4⟩, cx_5⟩ := cx
  have Gz : Gs K mg := ⟨He.free_ok X G (c.fact 1 (f := .free "isinstance") rfl), He.free_ok X G (c.fact 2 (f := .free "bool") rfl), He.free_ok X G (c.fact 3 (f := .free "int") rfl), He.free_ok X G (c.fact 4 (f := .free "all") rfl), He.free_ok X G (c.fact 5 (f := .free "len") rfl), He.free_ok X G (c.fact 6 (f := .free "tuple") rfl), He.str_ok X G (c.fact 7 (f := .str "DIGITS" "0123456789") rfl), He.int_ok X G (c.fact 8 (f := .int "MOST_DIGITS" 200) rfl), He.free_ok X G (c.fact 9 (f := .free "str") rfl), TupG.of (He.glo_ok X G (c.fact 10 (f := .glo "BOUNDS") rfl)) cx_0 (fun own H => ⟨_, _, rfl, rfl, ⟨_, _, rfl, rfl, rfl⟩⟩), He.free_ok X G (c.fact 11 (f := .free "abs") rfl), He.free_ok X G (c.fact 12 (f := .free "range") rfl), He.free_ok X G (c.fact 13 (f := .free "min") rfl)⟩
  have m_LeapfitError := He.glo_ok X G (c.fact 14 (f := .glo "LeapfitError") rfl)
  have m_ParseError := He.glo_ok X G (c.fact 15 (f := .glo "ParseError") rfl)
  have XK : ExX K XS := exXB_ok cx_1
  have BK : ExB K mg := exBB_ok m_LeapfitError cx_4
  obtain ⟨i1_ParseError, i2_ParseError⟩ := exIB_ok cx_5
  have r_ParseError : ExR P w K mg base 14 "ParseError" ["line"] := ⟨rfl, m_ParseError, (XK 14 rfl).1, .inr ⟨"line", _, _, rfl, (XK 14 rfl).2 _ (by simp), i1_ParseError, i2_ParseError, init1_ok BK I_ParseError ⟨rfl, rfl, rfl, by decide +kernel, rfl, by decide +kernel, by decide +kernel⟩ rfl rfl rfl (by decide) (by decide) (fun _ => rfl), I_ParseError.bindsN (ps := ["self", "line"]) fun _ _ _ _ _ _ us hl => match us, hl with | [_, _], _ => rfl⟩⟩
  have Ex : Exs P w K mg base := ⟨m_LeapfitError, m_ParseError, r_ParseError, XK, (fun h hh => catB_ok cx_2 hh), (fun h hh => nonB_ok cx_3 hh)⟩
  have hnd : ((Tt K).map (·.1)).Nodup := by unfold Tt; simp
  have MK_law : MkD K mg base (Tt K) ("law", none) (("law" : Str) ++ ".<locals>." ++ "<lambda>") := mkD_of (TB _ (List.mem_map.mpr ⟨_, by unfold tf; simp, rfl⟩)) (by unfold Tt; simp) hnd
  have b_is_integer := binds_is_integer F_is_integer
  have G_is_integer : OwnF false P w K mg base "is_integer" 1 _ fd_is_integer ["value"] (spA K (Tt K) S_is_integer) := ⟨ok_is_integer Gz F_is_integer , He.glo_ok X G (c.fact 16 (f := .glo "is_integer") rfl), F_is_integer.kp⟩
  have b_common_divisor := binds_common_divisor F_common_divisor
  have G_common_divisor : OwnF false P w K mg base "common_divisor" 1 _ fd_common_divisor ["one", "other"] (spA K (Tt K) S_common_divisor) := ⟨ok_common_divisor Gz F_common_divisor , He.glo_ok X G (c.fact 17 (f := .glo "common_divisor") rfl), F_common_divisor.kp⟩
  have b_is_reduced := binds_is_reduced F_is_reduced
  have G_is_reduced : OwnF false P w K mg base "is_reduced" 2 _ fd_is_reduced ["p", "q"] (spA K (Tt K) S_is_reduced) := ⟨ok_is_reduced Gz F_is_reduced G_common_divisor b_common_divisor, He.glo_ok X G (c.fact 18 (f := .glo "is_reduced") rfl), F_is_reduced.kp⟩
  have b_is_rule := binds_is_rule F_is_rule
  have G_is_rule : OwnF false P w K mg base "is_rule" 3 _ fd_is_rule ["value"] (spA K (Tt K) S_is_rule) := ⟨ok_is_rule Gz F_is_rule G_is_reduced b_is_reduced G_is_integer b_is_integer, He.glo_ok X G (c.fact 19 (f := .glo "is_rule") rfl), F_is_rule.kp⟩
  have b_parse_integer := binds_parse_integer F_parse_integer
  have G_parse_integer : OwnF false P w K mg base "parse_integer" 1 _ fd_parse_integer ["word"] (spA K (Tt K) S_parse_integer) := ⟨ok_parse_integer Gz F_parse_integer , He.glo_ok X G (c.fact 20 (f := .glo "parse_integer") rfl), F_parse_integer.kp⟩
  have b_rule_from := binds_rule_from F_rule_from
  have G_rule_from : OwnF false P w K mg base "rule_from" 4 _ fd_rule_from ["words"] (spA K (Tt K) S_rule_from) := ⟨ok_rule_from Gz F_rule_from G_is_rule b_is_rule G_parse_integer b_parse_integer, He.glo_ok X G (c.fact 21 (f := .glo "rule_from") rfl), F_rule_from.kp⟩
  have b_parse_rule := binds_parse_rule F_parse_rule
  have G_parse_rule : OwnF false P w K mg base "parse_rule" 5 _ fd_parse_rule ["text"] (spA K (Tt K) S_parse_rule) := ⟨ok_parse_rule Gz F_parse_rule G_rule_from b_rule_from Ex, He.glo_ok X G (c.fact 22 (f := .glo "parse_rule") rfl), F_parse_rule.kp⟩
  have b_record_from := binds_record_from F_record_from
  have G_record_from : OwnF false P w K mg base "record_from" 2 _ fd_record_from ["words"] (spA K (Tt K) S_record_from) := ⟨ok_record_from Gz F_record_from G_parse_integer b_parse_integer, He.glo_ok X G (c.fact 23 (f := .glo "record_from") rfl), F_record_from.kp⟩
  have b_parse_record := binds_parse_record F_parse_record
  have G_parse_record : OwnF false P w K mg base "parse_record" 3 _ fd_parse_record ["text"] (spA K (Tt K) S_parse_record) := ⟨ok_parse_record Gz F_parse_record G_record_from b_record_from Ex, He.glo_ok X G (c.fact 24 (f := .glo "parse_record") rfl), F_parse_record.kp⟩
  have b__law_start := binds__law_start F__law_start
  have G__law_start : OwnF false P w K mg base "_law_start" 1 _ fd__law_start ["_law_script"] (spC K (Tt K) S__law_start) := ⟨ok__law_start Gz F__law_start , He.glo_ok X G (c.fact 25 (f := .glo "_law_start") rfl), F__law_start.kp⟩
  have b__law_draw := binds__law_draw F__law_draw
  have G__law_draw : OwnF false P w K mg base "_law_draw" 1 _ fd__law_draw ["_law_state", "_law_size"] (spB K (Tt K) S__law_draw) := ⟨ok__law_draw Gz F__law_draw , He.glo_ok X G (c.fact 26 (f := .glo "_law_draw") rfl), F__law_draw.kp⟩
  have b__law_divisor := binds__law_divisor F__law_divisor
  have G__law_divisor : OwnF false P w K mg base "_law_divisor" 1 _ fd__law_divisor ["_law_one", "_law_two"] (spA K (Tt K) S__law_divisor) := ⟨ok__law_divisor Gz F__law_divisor , He.glo_ok X G (c.fact 27 (f := .glo "_law_divisor") rfl), F__law_divisor.kp⟩
  have b__law_rule := binds__law_rule F__law_rule
  have G__law_rule : OwnF false P w K mg base "_law_rule" 2 _ fd__law_rule ["_law_state"] (spB K (Tt K) S__law_rule) := ⟨ok__law_rule Gz F__law_rule G__law_divisor b__law_divisor G__law_draw b__law_draw, He.glo_ok X G (c.fact 28 (f := .glo "_law_rule") rfl), F__law_rule.kp⟩
  have b__law_integer := binds__law_integer F__law_integer
  have G__law_integer : OwnF false P w K mg base "_law_integer" 1 _ fd__law_integer ["_law_word"] (spA K (Tt K) S__law_integer) := ⟨ok__law_integer Gz F__law_integer , He.glo_ok X G (c.fact 29 (f := .glo "_law_integer") rfl), F__law_integer.kp⟩
  have b__law_rule_in := binds__law_rule_in F__law_rule_in
  have G__law_rule_in : OwnF false P w K mg base "_law_rule_in" 2 _ fd__law_rule_in ["_law_words"] (spA K (Tt K) S__law_rule_in) := ⟨ok__law_rule_in Gz F__law_rule_in G__law_integer b__law_integer, He.glo_ok X G (c.fact 30 (f := .glo "_law_rule_in") rfl), F__law_rule_in.kp⟩
  have b__law_record_in := binds__law_record_in F__law_record_in
  have G__law_record_in : OwnF false P w K mg base "_law_record_in" 2 _ fd__law_record_in ["_law_words"] (spA K (Tt K) S__law_record_in) := ⟨ok__law_record_in Gz F__law_record_in G__law_integer b__law_integer, He.glo_ok X G (c.fact 31 (f := .glo "_law_record_in") rfl), F__law_record_in.kp⟩
  have b__law_line := binds__law_line F__law_line
  have G__law_line : OwnF false P w K mg base "_law_line" 3 _ fd__law_line ["_law_state"] (spB K (Tt K) S__law_line) := ⟨ok__law_line Gz F__law_line G__law_draw b__law_draw G__law_rule b__law_rule, He.glo_ok X G (c.fact 32 (f := .glo "_law_line") rfl), F__law_line.kp⟩
  have b__law_changed := binds__law_changed F__law_changed
  have G__law_changed : OwnF false P w K mg base "_law_changed" 2 _ fd__law_changed ["_law_state", "_law_line_here"] (spB K (Tt K) S__law_changed) := ⟨ok__law_changed Gz F__law_changed G__law_draw b__law_draw, He.glo_ok X G (c.fact 33 (f := .glo "_law_changed") rfl), F__law_changed.kp⟩
  have G__law_parsed : ∀ {k : Nat}, 0 ≤ k → GiveF false P w K mg base (Tt K) "_law_parsed" k (defArgs s__law_parsed) (defBody s__law_parsed) (defScope s__law_parsed) _ fd__law_parsed N__law_parsed ["_law_call"] 0 "_law_call" 0 S__law_parsed := fun {k} hk => ok__law_parsed Gz F__law_parsed (He.glo_ok X G (c.fact 34 (f := .glo "_law_parsed") rfl)) Ex hk
  exact fnG_up (ok_law Gz F_law G__law_parsed G_parse_record b_parse_record G_parse_rule b_parse_rule G__law_record_in b__law_record_in G__law_rule_in b__law_rule_in G__law_draw b__law_draw G__law_changed b__law_changed G__law_line b__law_line G__law_start b__law_start MK_law)
end Law
open PySem PySem.W PySem.Calls PyProof.Rows
set_option maxHeartbeats 0 in
theorem PySem.Challenge.cw_leapfit_k89_texts_that_are_no_rules_or_r_holds : PySem.Challenge.rw_leapfit_k89_texts_that_are_no_rules_or_r.Holds := by
  w_on; o_law
  refine HandSHeadRun.head_any (r := Law.R) (q := view Law.R.prog [28]) (H := Law.hk) (ob := Law.ob) (M := 4000) (loose := Law.names) (d := HandSHeadRun.topDef Law.R.prog 28) (kwd := []) Law.ob_eq
    (by kernel_rfl) (fun s => by kernel_rfl) Law.run (by kernel_rfl) (by kernel_rfl) (by kernel_rfl) (by rfl)
    (by first | assumption | decide +kernel) (by decide +kernel) ⟨rfl, rfl, rfl, rfl, rfl, by decide +kernel⟩ ?hw ?hc
  case hw => w_witness2
  case hc =>
    refine L3.walk_G (l := PySem.Challenge.rw_leapfit_k89_texts_that_are_no_rules_or_r) (n := 63) (k := 8) (x := "_law_script") rfl (by decide) (by kernel_rfl) ⟨rfl, by decide, by decide⟩ fun w mg fa h Y G hmg0 => ?_
    obtain ⟨K, KX, c⟩ := Y
    have hmg : mg ("law" : PySem.Str) = some (.ref fa) := by
      have e : (HandSHeadRun.topDef Law.R.prog 28).name = ("law" : PySem.Str) := by kernel_rfl
      rw [← e]
      exact hmg0
    obtain ⟨fd, hb, hF⟩ := Law.facts (P := PySem.Challenge.rw_leapfit_k89_texts_that_are_no_rules_or_r.prog) (w := w) KX G hmg c.t.d c.more
    have key : ∀ p ∈ Law.tf.map (He.cT K), ∃ q ∈ Law.tf, p = He.cT K q := fun p hp => by
      obtain ⟨q, hq, e⟩ := List.mem_map.mp hp
      exact ⟨q, hq, e.symm⟩
    refine ⟨K, fd, Law.S_law, Law.Tt K, Law.tf.map (He.cT K), KX, fun p hp => ?_, fun p hp => ?_, fun p hp => ?_, fun p hp => ?_, hb, fun ns hl hb => ⟨ns, rfl, hl, hb, rfl⟩, hF⟩
    · obtain ⟨q, hq, rfl⟩ := key p hp; exact c.empty q hq
    · obtain ⟨q, hq, rfl⟩ := key p hp; exact c.out q hq
    · obtain ⟨q, hq, rfl⟩ := key p hp; exact L3.codeHd_of KX (c.hd q hq)
    · have : ∀ r ∈ Law.Tt K, ∃ q ∈ Law.tf, r.1 = (He.cT K q).2 := by unfold Law.Tt Law.tf; simp
      obtain ⟨q, hq, e⟩ := this p hp
      exact ⟨_, List.mem_map.mpr ⟨q, hq, rfl⟩, e⟩
