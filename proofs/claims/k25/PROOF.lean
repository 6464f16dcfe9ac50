import PyProof.Rows.All
import Wide.All
import OpenK.AllK
import Wide.FinOn
import HandS.ForMost
import HandS.ForExc
import HandS.HeadHook2
import HandS.CallSlots
import HandS.IsInst
import HandS.TupAny
import HandS.WideBits
import HandS.Wide
import HandS.Conv
import HandS.RaiseMore
import PyProof.ReprRoads
import HandS.Star
import HandS.Property
import HandS.MakeKwOnly
import HandS.MakeKw
import HandS.Defaults
import OpenK.KMeth
import OpenK.KOps
import HandS.HeadEnd
import HandS.EndBits
import PyProof.ListNew
import PyProof.Conv_bool
import HandS.Head0
import HandS.Head1
import HandS.Head2
import HandS.HeadHook1
import KE.KOpsOwn
import PyProof.InstNe
import HandS.FStr
import KE.KCallOwn
import PyProof.StrOps2
import PyProof.ReprLen
import PySem.Challenge.RW_wovenplaces_k25_rows_that_come_round
set_option Elab.async false
set_option linter.all false
set_option maxRecDepth 100000
set_option maxHeartbeats 4000000
set_option autoImplicit false
/-! Wv: one lemma a construct, each by a plain semantic function over tree data and a small store of mutable things. -/
namespace Wv
open PySem PySem.Spec PyProof.Rows L2

/-! ### data, values, the store, results -/
inductive D where
  | non | bl (b : Bool) | int (i : Int) | str (x : Str)
  | tup (xs : List D) | lst (xs : List D) | scr (ns : List Int)
  | ins (C : Str) (fs : List (Str × D))
  | dic (kvs : List (Key × D))
inductive Vl where
  | d (x : D) | m (k : Nat)
inductive Mu where
  | lst (xs : List D) | ins (C : Str) (fs : List (Str × D)) | dead
inductive Res (α : Type) where
  | ok (a : α) (M : List Mu) | exc (C : Str) (fs : List (Str × D)) (M : List Mu) | bad
abbrev Env := List (Option Vl)
abbrev Sm (α : Type) := Env → List Mu → Res α

/-! ### heaps that grow -/
def Ex (H H' : Hp) : Prop := ∀ a o, H a = some o → H' a = some o
theorem Ex.refl (H : Hp) : Ex H H := fun _ _ h => h
theorem Ex.trans {H H1 H2 : Hp} (a : Ex H H1) (b : Ex H1 H2) : Ex H H2 := fun x o h => b x o (a x o h)
theorem Ex.new {H : Hp} {p : Addr} {o : HO} (h : H p = none) : Ex H (upd H p o) := fun a u e => by
  rw [upd_ne (ne_of_none e h)]
  exact e
theorem Ex.rd {H H' : Hp} {a : Addr} {u : HO} (e : Ex H H') (h : Rd H a u) : Rd H' a u := by
  rcases h with h | ⟨o, h⟩
  · exact Or.inl (e a _ h)
  · exact Or.inr ⟨o, e a _ h⟩
theorem Ex.sqL {K : PySem.W.Frag} {H H' : Hp} {a : Addr} {xs : List V} (e : Ex H H') (h : SqL K H a xs) : SqL K H' a xs := by
  rcases h with h | h
  · exact Or.inl (e.rd h)
  · exact Or.inr h
theorem Ex.sqT {K : PySem.W.Frag} {H H' : Hp} {a : Addr} {xs : List V} (e : Ex H H') (h : SqT K H a xs) : SqT K H' a xs := by
  rcases h with h | h
  · exact Or.inl (e.rd h)
  · exact Or.inr h

/-! ### what stands for what -/
mutual
inductive Rep (K : PySem.W.Frag) (H : Hp) : D → V → Prop where
  | non : Rep K H .non .non
  | bl (b : Bool) : Rep K H (.bl b) (.bl b)
  | int (i : Int) : Rep K H (.int i) (.int i)
  | str (x : Str) : Rep K H (.str x) (.str x)
  | tup {a : Addr} {ds : List D} {vs : List V} : SqT K H a vs → Reps K H ds vs → Rep K H (.tup ds) (.ref a)
  | lst {a : Addr} {ds : List D} {vs : List V} : H a = some (.lst vs) → Reps K H ds vs → Rep K H (.lst ds) (.ref a)
  | scr {a : Addr} {ns : List Int} : SqL K H a (ns.map V.int) → Rep K H (.scr ns) (.ref a)
  | ins {a dx : Addr} {C : Str} {fs : List (Str × D)} {fvs : List (Str × V)} : H a = some (.ins (He.ga K C) dx fvs) → RepF K H fs fvs → Rep K H (.ins C fs) (.ref a)
  | dic {a : Addr} {kvs : List (Key × D)} {kvv : List (Key × V)} : H a = some (.dK kvv) → RepK K H kvs kvv → Rep K H (.dic kvs) (.ref a)
inductive Reps (K : PySem.W.Frag) (H : Hp) : List D → List V → Prop where
  | nil : Reps K H [] []
  | cons {d : D} {v : V} {ds : List D} {vs : List V} : Rep K H d v → Reps K H ds vs → Reps K H (d :: ds) (v :: vs)
inductive RepF (K : PySem.W.Frag) (H : Hp) : List (Str × D) → List (Str × V) → Prop where
  | nil : RepF K H [] []
  | cons {n : Str} {d : D} {v : V} {fs : List (Str × D)} {fvs : List (Str × V)} : Rep K H d v → RepF K H fs fvs → RepF K H ((n, d) :: fs) ((n, v) :: fvs)
inductive RepK (K : PySem.W.Frag) (H : Hp) : List (Key × D) → List (Key × V) → Prop where
  | nil : RepK K H [] []
  | cons {n : Key} {d : D} {v : V} {fs : List (Key × D)} {fvs : List (Key × V)} : Rep K H d v → RepK K H fs fvs → RepK K H ((n, d) :: fs) ((n, v) :: fvs)
end
section
variable {K : PySem.W.Frag} {H H' : Hp}
theorem Rep.mono (e : Ex H H') {d : D} {v : V} (h : Rep K H d v) : Rep K H' d v := by
  refine Rep.rec (motive_1 := fun d v _ => Rep K H' d v) (motive_2 := fun ds vs _ => Reps K H' ds vs) (motive_3 := fun fs fvs _ => RepF K H' fs fvs) (motive_4 := fun fs fvs _ => RepK K H' fs fvs)
    .non .bl .int .str (fun h _ ih => .tup (e.sqT h) ih) (fun h _ ih => .lst (e _ _ h) ih) (fun h => .scr (e.sqL h)) (fun h _ ih => .ins (e _ _ h) ih) (fun h _ ih => .dic (e _ _ h) ih) .nil (fun _ _ a b => .cons a b) .nil (fun _ _ a b => .cons a b) .nil (fun _ _ a b => .cons a b) h
theorem Reps.mono (e : Ex H H') : ∀ {ds : List D} {vs : List V}, Reps K H ds vs → Reps K H' ds vs
  | _, _, .nil => .nil
  | _, _, .cons a b => .cons (a.mono e) (Reps.mono e b)
theorem RepK.mono (e : Ex H H') : ∀ {fs : List (Key × D)} {fvs : List (Key × V)}, RepK K H fs fvs → RepK K H' fs fvs
  | _, _, .nil => .nil
  | _, _, .cons a b => .cons (a.mono e) (RepK.mono e b)
theorem RepF.mono (e : Ex H H') : ∀ {fs : List (Str × D)} {fvs : List (Str × V)}, RepF K H fs fvs → RepF K H' fs fvs
  | _, _, .nil => .nil
  | _, _, .cons a b => .cons (a.mono e) (RepF.mono e b)
theorem Reps.length : ∀ {ds : List D} {vs : List V}, Reps K H ds vs → ds.length = vs.length
  | _, _, .nil => rfl
  | _, _, .cons _ b => congrArg (· + 1) (Reps.length b)
theorem Reps.get : ∀ {ds : List D} {vs : List V} {i : Nat} {d : D}, Reps K H ds vs → ds[i]? = some d → ∃ v, vs[i]? = some v ∧ Rep K H d v
  | _, _, _, _, .nil, e => by simp at e
  | _, _, 0, _, .cons r _, e => by simp at e; subst e; exact ⟨_, rfl, r⟩
  | _, _, i + 1, x, .cons _ t, e => by
    obtain ⟨u, h1, h2⟩ := Reps.get (i := i) (d := x) t (by simpa using e)
    exact ⟨u, by simpa using h1, h2⟩
theorem Reps.getV : ∀ {ds : List D} {vs : List V} {i : Nat} {v : V}, Reps K H ds vs → vs[i]? = some v → ∃ d, ds[i]? = some d ∧ Rep K H d v
  | _, _, _, _, .nil, e => by simp at e
  | _, _, 0, _, .cons r _, e => by simp at e; subst e; exact ⟨_, rfl, r⟩
  | _, _, i + 1, x, .cons _ t, e => by
    obtain ⟨u, h1, h2⟩ := Reps.getV (i := i) (v := x) t (by simpa using e)
    exact ⟨u, by simpa using h1, h2⟩
theorem Reps.append : ∀ {ds es : List D} {vs ws : List V}, Reps K H ds vs → Reps K H es ws → Reps K H (ds ++ es) (vs ++ ws)
  | _, _, _, _, .nil, h => h
  | _, _, _, _, .cons a b, h => .cons a (Reps.append b h)
theorem Reps.take : ∀ {ds : List D} {vs : List V} (n : Nat), Reps K H ds vs → Reps K H (ds.take n) (vs.take n)
  | _, _, 0, _ => .nil
  | _, _, _ + 1, .nil => .nil
  | _, _, n + 1, .cons a b => .cons a (Reps.take n b)
theorem Reps.drop : ∀ {ds : List D} {vs : List V} (n : Nat), Reps K H ds vs → Reps K H (ds.drop n) (vs.drop n)
  | _, _, 0, h => h
  | _, _, _ + 1, .nil => .nil
  | _, _, n + 1, .cons _ b => Reps.drop n b
theorem Reps.set {d : D} {v : V} (r : Rep K H d v) : ∀ {ds : List D} {vs : List V} (i : Nat), Reps K H ds vs → Reps K H (ds.set i d) (vs.set i v)
  | _, _, _, .nil => .nil
  | _, _, 0, .cons _ t => .cons r t
  | _, _, i + 1, .cons q t => .cons q (Reps.set r i t)
theorem RepF.lookup {f : Str} : ∀ {fs : List (Str × D)} {fvs : List (Str × V)} {d : D}, RepF K H fs fvs → fs.lookup f = some d → ∃ v, fvs.lookup f = some v ∧ Rep K H d v
  | _, _, _, .nil, e => nomatch e
  | (n, d) :: fs, _, x, .cons (v := v) (fvs := fvs) a b, e => by
    rw [List.lookup_cons] at e ⊢
    cases q : (f == n) with
    | true =>
      rw [q] at e
      cases e
      exact ⟨v, rfl, a⟩
    | false =>
      rw [q] at e
      exact RepF.lookup b e
theorem RepF.lookup_none {f : Str} : ∀ {fs : List (Str × D)} {fvs : List (Str × V)}, RepF K H fs fvs → fs.lookup f = none → fvs.lookup f = none
  | _, _, .nil, _ => rfl
  | (n, d) :: fs, _, .cons (v := v) (fvs := fvs) a b, e => by
    rw [List.lookup_cons] at e ⊢
    cases q : (f == n) with
    | true =>
      rw [q] at e
      cases e
    | false =>
      rw [q] at e
      exact RepF.lookup_none b e
end
/-- of a value -/
def RepV (K : PySem.W.Frag) (μ : List Addr) (H : Hp) : Vl → V → Prop
  | .d x, v => Rep K H x v
  | .m k, v => ∃ a, μ[k]? = some a ∧ v = .ref a
theorem pre_get {μ μ' : List Addr} (p : μ <+: μ') {k : Nat} {a : Addr} (h : μ[k]? = some a) : μ'[k]? = some a := by
  obtain ⟨t, rfl⟩ := p
  rw [List.getElem?_append_left (List.getElem?_eq_some_iff.mp h).1]
  exact h
theorem RepV.mono {K : PySem.W.Frag} {μ μ' : List Addr} {H H' : Hp} (p : μ <+: μ') (e : Ex H H') {x : Vl} {v : V} (h : RepV K μ H x v) : RepV K μ' H' x v := by
  cases x with
  | d x => exact Rep.mono e h
  | m k =>
    obtain ⟨a, h1, h2⟩ := h
    exact ⟨a, pre_get p h1, h2⟩
inductive RepVs (K : PySem.W.Frag) (μ : List Addr) (H : Hp) : List Vl → List V → Prop where
  | nil : RepVs K μ H [] []
  | cons {x : Vl} {v : V} {xs : List Vl} {vs : List V} : RepV K μ H x v → RepVs K μ H xs vs → RepVs K μ H (x :: xs) (v :: vs)
theorem RepVs.mono {K : PySem.W.Frag} {μ μ' : List Addr} {H H' : Hp} (p : μ <+: μ') (e : Ex H H') : ∀ {xs : List Vl} {vs : List V}, RepVs K μ H xs vs → RepVs K μ' H' xs vs
  | _, _, .nil => .nil
  | _, _, .cons a b => .cons (a.mono p e) (RepVs.mono p e b)
theorem RepVs.length {K : PySem.W.Frag} {μ : List Addr} {H : Hp} : ∀ {xs : List Vl} {vs : List V}, RepVs K μ H xs vs → xs.length = vs.length
  | _, _, .nil => rfl
  | _, _, .cons _ b => congrArg (· + 1) (RepVs.length b)

/-! ### the store -/
def RepMu (K : PySem.W.Frag) (Hs H : Hp) (a : Addr) : Mu → Prop
  | .lst ds => ∃ vs, H a = some (.lst vs) ∧ Reps K Hs ds vs
  | .ins C fs => ∃ dx fvs, H a = some (.ins (He.ga K C) dx fvs) ∧ RepF K Hs fs fvs
  | .dead => True
/-- φ: what is set aside (it stands as it is told), Hs: what never changes, M: the store, μ: where its things stand -/
structure SRel (K : PySem.W.Frag) (φ : Hp) (μ : List Addr) (Hs : Hp) (M : List Mu) (H : Hp) : Prop where
  len : μ.length = M.length
  fr : ∀ b o, φ b = some o → H b = some o ∧ Hs b = none
  out : ∀ b, φ b = none → (∀ (k : Nat), μ[k]? = some b → M[k]? = some Mu.dead) → H b = Hs b
  mu : ∀ (k : Nat) (a : Addr) (m : Mu), μ[k]? = some a → M[k]? = some m → m ≠ Mu.dead → Hs a = none ∧ φ a = none ∧ RepMu K Hs H a m
  nd : ∀ (i j : Nat) (a : Addr), μ[i]? = some a → μ[j]? = some a → M[i]? ≠ some Mu.dead → M[j]? ≠ some Mu.dead → i = j
theorem RepMu.some_of {K : PySem.W.Frag} {Hs H : Hp} {a : Addr} {m : Mu} (h : RepMu K Hs H a m) (n : m ≠ Mu.dead) : ∃ o, H a = some o := by
  cases m with
  | lst ds => obtain ⟨vs, e, _⟩ := h; exact ⟨_, e⟩
  | ins C fs => obtain ⟨dx, fvs, e, _⟩ := h; exact ⟨_, e⟩
  | dead => exact absurd rfl n
theorem RepMu.mono {K : PySem.W.Frag} {Hs Hs' H H' : Hp} {a : Addr} {m : Mu} (h : RepMu K Hs H a m) (e : Ex Hs Hs') (q : H' a = H a) : RepMu K Hs' H' a m := by
  cases m with
  | lst ds => obtain ⟨vs, e1, e2⟩ := h; exact ⟨vs, q.trans e1, e2.mono e⟩
  | ins C fs => obtain ⟨dx, fvs, e1, e2⟩ := h; exact ⟨dx, fvs, q.trans e1, e2.mono e⟩
  | dead => trivial
section
variable {K : PySem.W.Frag} {φ : Hp} {μ : List Addr} {Hs H : Hp} {M : List Mu}
/-- what H does not know is nowhere -/
theorem SRel.free (S : SRel K φ μ Hs M H) {p : Addr} (h : H p = none) : φ p = none ∧ (∀ (k : Nat), μ[k]? = some p → M[k]? = some Mu.dead) ∧ Hs p = none := by
  have h1 : φ p = none := by
    cases e : φ p with
    | none => rfl
    | some o => rw [(S.fr p o e).1] at h; cases h
  have h2 : ∀ (k : Nat), μ[k]? = some p → M[k]? = some Mu.dead := fun k hk => by
    have hl : k < M.length := by rw [← S.len]; exact (List.getElem?_eq_some_iff.mp hk).1
    cases e : M[k]? with
    | none => rw [List.getElem?_eq_none_iff] at e; omega
    | some m =>
      by_cases n : m = Mu.dead
      · rw [n]
      · obtain ⟨o, q⟩ := (S.mu k p m hk e n).2.2.some_of n
        rw [q] at h; cases h
  exact ⟨h1, h2, by rw [← S.out p h1 h2]; exact h⟩
/-- stable objects are read in H -/
theorem SRel.up (S : SRel K φ μ Hs M H) {a : Addr} {o : HO} (h : Hs a = some o) : H a = some o := by
  have h1 : φ a = none := by
    cases e : φ a with
    | none => rfl
    | some u => rw [(S.fr a u e).2] at h; cases h
  rw [S.out a h1 fun k hk => ?_]
  · exact h
  · have hl : k < M.length := by rw [← S.len]; exact (List.getElem?_eq_some_iff.mp hk).1
    cases e : M[k]? with
    | none => rw [List.getElem?_eq_none_iff] at e; omega
    | some m =>
      by_cases n : m = Mu.dead
      · rw [n]
      · rw [(S.mu k a m hk e n).1] at h; cases h
theorem SRel.ex (S : SRel K φ μ Hs M H) : Ex Hs H := fun _ _ h => S.up h
/-- a new stable object -/
theorem SRel.laid (S : SRel K φ μ Hs M H) {p : Addr} (h : H p = none) (o : HO) : SRel K φ μ (upd Hs p o) M (upd H p o) := by
  obtain ⟨h1, h2, h3⟩ := S.free h
  refine ⟨S.len, fun b u e => ?_, fun b e1 e2 => ?_, fun k a m e1 e2 e3 => ?_, S.nd⟩
  · have hb : b ≠ p := fun z => by rw [z, h1] at e; cases e
    rw [upd_ne hb, upd_ne hb]
    exact S.fr b u e
  · by_cases hb : b = p
    · rw [hb, upd_same, upd_same]
    · rw [upd_ne hb, upd_ne hb]
      exact S.out b e1 e2
  · have ha : a ≠ p := fun z => e3 (by
      have := h2 k (by rw [← z]; exact e1)
      rw [e2] at this
      exact Option.some.inj this)
    obtain ⟨q1, q2, q3⟩ := S.mu k a m e1 e2 e3
    refine ⟨by rw [upd_ne ha]; exact q1, q2, q3.mono (Ex.new h3) (upd_ne ha)⟩
/-- a new thing of the store -/
theorem SRel.make (S : SRel K φ μ Hs M H) {p : Addr} (h : H p = none) (o : HO) {m : Mu} (hm : RepMu K Hs (upd H p o) p m) (hn : m ≠ Mu.dead) : SRel K φ (μ ++ [p]) Hs (M ++ [m]) (upd H p o) := by
  obtain ⟨h1, h2, h3⟩ := S.free h
  have hl := S.len
  refine ⟨by simp [hl], fun b u e => ?_, fun b e1 e2 => ?_, fun k a m' e1 e2 e3 => ?_, fun i j a e1 e2 e3 e4 => ?_⟩
  · have hb : b ≠ p := fun z => by rw [z, h1] at e; cases e
    rw [upd_ne hb]
    exact S.fr b u e
  · have hb : b ≠ p := fun z => by
      have := e2 μ.length (by rw [z]; simp)
      rw [hl] at this
      simp at this
      exact hn this
    rw [upd_ne hb]
    refine S.out b e1 fun k hk => ?_
    have hk' : k < μ.length := (List.getElem?_eq_some_iff.mp hk).1
    have := e2 k (by rw [List.getElem?_append_left hk']; exact hk)
    rw [List.getElem?_append_left (by omega)] at this
    exact this
  · by_cases hk : k < μ.length
    · rw [List.getElem?_append_left hk] at e1
      rw [List.getElem?_append_left (by omega)] at e2
      obtain ⟨q1, q2, q3⟩ := S.mu k a m' e1 e2 e3
      have ha : a ≠ p := fun z => e3 (by
        have := h2 k (by rw [← z]; exact e1)
        rw [e2] at this
        exact Option.some.inj this)
      exact ⟨q1, q2, q3.mono (Ex.refl _) (upd_ne ha)⟩
    · have hk2 : k = μ.length := by
        have := (List.getElem?_eq_some_iff.mp e1).1
        simp at this
        omega
      subst hk2
      have ea : p = a := by simpa using e1
      have em : m = m' := by rw [hl] at e2; simpa using e2
      subst ea em
      exact ⟨h3, h1, hm⟩
  · have live : ∀ (k : Nat), (μ ++ [p])[k]? = some a → (M ++ [m])[k]? ≠ some Mu.dead → (k < μ.length ∧ μ[k]? = some a ∧ M[k]? ≠ some Mu.dead ∧ a ≠ p) ∨ (k = μ.length ∧ a = p) := fun k e1 e3 => by
      by_cases hk : k < μ.length
      · rw [List.getElem?_append_left hk] at e1
        rw [List.getElem?_append_left (by omega)] at e3
        exact .inl ⟨hk, e1, e3, fun z => e3 (h2 k (by rw [← z]; exact e1))⟩
      · have hk2 : k = μ.length := by
          have := (List.getElem?_eq_some_iff.mp e1).1
          simp at this
          omega
        subst hk2
        exact .inr ⟨rfl, by simpa using e1.symm⟩
    rcases live i e1 e3 with ⟨_, a1, a2, a3⟩ | ⟨a1, a2⟩ <;> rcases live j e2 e4 with ⟨_, b1, b2, b3⟩ | ⟨b1, b2⟩
    · exact S.nd i j a a1 b1 a2 b2
    · exact absurd b2 a3
    · exact absurd a2 b3
    · rw [a1, b1]
/-- a thing of the store changes -/
theorem SRel.write (S : SRel K φ μ Hs M H) {k : Nat} {a : Addr} {m0 m : Mu} (hk : μ[k]? = some a) (h0 : M[k]? = some m0) (n0 : m0 ≠ Mu.dead) (o : HO) (hm : RepMu K Hs (upd H a o) a m) (hn : m ≠ Mu.dead) : SRel K φ μ Hs (M.set k m) (upd H a o) := by
  obtain ⟨p1, p2, p3⟩ := S.mu k a m0 hk h0 n0
  have hkl : k < M.length := (List.getElem?_eq_some_iff.mp h0).1
  have ns : M[k]? ≠ some Mu.dead := by rw [h0]; exact fun z => n0 (Option.some.inj z)
  refine ⟨by simp [S.len], fun b u e => ?_, fun b e1 e2 => ?_, fun j c m' e1 e2 e3 => ?_, fun i j c e1 e2 e3 e4 => ?_⟩
  · have hb : b ≠ a := fun z => by rw [z, p2] at e; cases e
    rw [upd_ne hb]
    exact S.fr b u e
  · have hb : b ≠ a := fun z => by
      have := e2 k (by rw [z]; exact hk)
      rw [List.getElem?_set_self hkl] at this
      exact hn (Option.some.inj this)
    rw [upd_ne hb]
    refine S.out b e1 fun j hj => ?_
    have := e2 j hj
    by_cases hjk : j = k
    · subst hjk
      rw [hk] at hj
      exact absurd (Option.some.inj hj).symm hb
    · rw [List.getElem?_set_ne (Ne.symm hjk)] at this
      exact this
  · by_cases hjk : j = k
    · subst hjk
      rw [hk] at e1
      cases e1
      rw [List.getElem?_set_self hkl] at e2
      cases e2
      exact ⟨p1, p2, hm⟩
    · rw [List.getElem?_set_ne (Ne.symm hjk)] at e2
      obtain ⟨q1, q2, q3⟩ := S.mu j c m' e1 e2 e3
      have hc : c ≠ a := fun z => hjk (S.nd j k a (by rw [← z]; exact e1) hk (by rw [e2]; exact fun z => e3 (Option.some.inj z)) ns)
      exact ⟨q1, q2, q3.mono (Ex.refl _) (upd_ne hc)⟩
  · have live : ∀ j : Nat, (M.set k m)[j]? ≠ some Mu.dead → M[j]? ≠ some Mu.dead := fun j q => by
      by_cases hjk : j = k
      · rw [hjk]; exact ns
      · rw [List.getElem?_set_ne (Ne.symm hjk)] at q
        exact q
    exact S.nd i j c e1 e2 (live i e3) (live j e4)
/-- a thing of the store comes to rest -/
theorem SRel.rest (S : SRel K φ μ Hs M H) {k : Nat} {a : Addr} {m0 : Mu} {o : HO} (hk : μ[k]? = some a) (h0 : M[k]? = some m0) (n0 : m0 ≠ Mu.dead) (ho : H a = some o) : SRel K φ μ (upd Hs a o) (M.set k .dead) H ∧ Ex Hs (upd Hs a o) := by
  obtain ⟨p1, p2, p3⟩ := S.mu k a m0 hk h0 n0
  have hkl : k < M.length := (List.getElem?_eq_some_iff.mp h0).1
  have ns : M[k]? ≠ some Mu.dead := by rw [h0]; exact fun z => n0 (Option.some.inj z)
  have ex : Ex Hs (upd Hs a o) := Ex.new p1
  refine ⟨⟨by simp [S.len], fun b u e => ?_, fun b e1 e2 => ?_, fun j c m' e1 e2 e3 => ?_, fun i j c e1 e2 e3 e4 => ?_⟩, ex⟩
  · have hb : b ≠ a := fun z => by rw [z, p2] at e; cases e
    rw [upd_ne hb]
    exact S.fr b u e
  · by_cases hb : b = a
    · rw [hb, upd_same]; exact ho
    · rw [upd_ne hb]
      refine S.out b e1 fun j hj => ?_
      by_cases hjk : j = k
      · subst hjk
        rw [hk] at hj
        exact absurd (Option.some.inj hj).symm hb
      · have := e2 j hj
        rw [List.getElem?_set_ne (Ne.symm hjk)] at this
        exact this
  · have hjk : j ≠ k := fun z => by
      subst z
      rw [List.getElem?_set_self hkl] at e2
      exact e3 (Option.some.inj e2).symm
    rw [List.getElem?_set_ne (Ne.symm hjk)] at e2
    obtain ⟨q1, q2, q3⟩ := S.mu j c m' e1 e2 e3
    have hc : c ≠ a := fun z => hjk (S.nd j k a (by rw [← z]; exact e1) hk (by rw [e2]; exact fun z => e3 (Option.some.inj z)) ns)
    exact ⟨by rw [upd_ne hc]; exact q1, q2, q3.mono ex rfl⟩
  · have live : ∀ j : Nat, (M.set k .dead)[j]? ≠ some Mu.dead → M[j]? ≠ some Mu.dead := fun j q => by
      by_cases hjk : j = k
      · rw [hjk]; exact ns
      · rw [List.getElem?_set_ne (Ne.symm hjk)] at q
        exact q
    exact S.nd i j c e1 e2 (live i e3) (live j e4)
/-- all but the first n come to rest -/
theorem SRel.cut (S : SRel K φ μ Hs M H) (n : Nat) : ∃ Hs', Ex Hs Hs' ∧ SRel K φ (μ.take n) Hs' (M.take n) H := by
  classical
  -- the addresses that are let go
  let gone : Addr → Prop := fun b => φ b = none ∧ ¬ ∃ k, k < n ∧ μ[k]? = some b ∧ M[k]? ≠ some Mu.dead
  refine ⟨fun b => if gone b then H b else none, fun b o e => ?_, ⟨by simp [S.len], fun b o e => ?_, fun b e1 e2 => ?_, fun k a m e1 e2 e3 => ?_, fun i j a e1 e2 e3 e4 => ?_⟩⟩
  · have h1 : φ b = none := by
      cases q : φ b with
      | none => rfl
      | some u => rw [(S.fr b u q).2] at e; cases e
    have g : gone b := ⟨h1, fun ⟨k, _, hk, hd⟩ => by
      have hl : k < M.length := by rw [← S.len]; exact (List.getElem?_eq_some_iff.mp hk).1
      have hm : M[k]? = some M[k] := List.getElem?_eq_getElem hl
      rw [(S.mu k b M[k] hk hm (fun z => hd (by rw [hm, z]))).1] at e
      cases e⟩
    show (if gone b then H b else none) = some o
    rw [if_pos g]
    exact S.up e
  · refine ⟨(S.fr b o e).1, ?_⟩
    show (if gone b then H b else none) = none
    rw [if_neg fun g => by rw [g.1] at e; cases e]
  · have g : gone b := ⟨e1, fun ⟨k, hk1, hk, hd⟩ => hd (by
      have := e2 k (by rw [List.getElem?_take_of_lt hk1]; exact hk)
      rw [List.getElem?_take_of_lt hk1] at this
      exact this)⟩
    show H b = (if gone b then H b else none)
    rw [if_pos g]
  · have hk1 : k < n := by
      have := (List.getElem?_eq_some_iff.mp e1).1
      simp at this
      omega
    rw [List.getElem?_take_of_lt hk1] at e1 e2
    obtain ⟨q1, q2, q3⟩ := S.mu k a m e1 e2 e3
    refine ⟨?_, q2, ?_⟩
    · show (if gone a then H a else none) = none
      rw [if_neg fun g => g.2 ⟨k, hk1, e1, by rw [e2]; exact fun z => e3 (Option.some.inj z)⟩]
    · have ex : Ex Hs (fun b => if gone b then H b else none) := fun b o e => by
        have h1 : φ b = none := by
          cases q : φ b with
          | none => rfl
          | some u => rw [(S.fr b u q).2] at e; cases e
        have g : gone b := ⟨h1, fun ⟨k, _, hk, hd⟩ => by
          have hl : k < M.length := by rw [← S.len]; exact (List.getElem?_eq_some_iff.mp hk).1
          have hm : M[k]? = some M[k] := List.getElem?_eq_getElem hl
          rw [(S.mu k b M[k] hk hm (fun z => hd (by rw [hm, z]))).1] at e
          cases e⟩
        show (if gone b then H b else none) = some o
        rw [if_pos g]
        exact S.up e
      exact q3.mono ex rfl
  · have hi : i < n := by
      have := (List.getElem?_eq_some_iff.mp e1).1
      simp at this
      omega
    have hj : j < n := by
      have := (List.getElem?_eq_some_iff.mp e2).1
      simp at this
      omega
    rw [List.getElem?_take_of_lt hi] at e1 e3
    rw [List.getElem?_take_of_lt hj] at e2 e4
    exact S.nd i j a e1 e2 e3 e4
/-- something is set aside -/
theorem SRel.aside (S : SRel K φ μ Hs M H) {p : Addr} (h : H p = none) (o : HO) : SRel K (upd φ p o) μ Hs M (upd H p o) := by
  obtain ⟨h1, h2, h3⟩ := S.free h
  refine ⟨S.len, fun b u e => ?_, fun b e1 e2 => ?_, fun k a m e1 e2 e3 => ?_, S.nd⟩
  · by_cases hb : b = p
    · subst hb
      rw [upd_same] at e ⊢
      exact ⟨e, h3⟩
    · rw [upd_ne hb] at e ⊢
      exact S.fr b u e
  · have hb : b ≠ p := fun z => by rw [z, upd_same] at e1; cases e1
    rw [upd_ne hb] at e1 ⊢
    exact S.out b e1 e2
  · have ha : a ≠ p := fun z => e3 (by
      have := h2 k (by rw [← z]; exact e1)
      rw [e2] at this
      exact Option.some.inj this)
    obtain ⟨q1, q2, q3⟩ := S.mu k a m e1 e2 e3
    exact ⟨q1, by rw [upd_ne ha]; exact q2, q3.mono (Ex.refl _) (upd_ne ha)⟩
/-- what is set aside changes -/
theorem SRel.turn {p : Addr} {o0 : HO} (S : SRel K (upd φ p o0) μ Hs M H) (o : HO) : SRel K (upd φ p o) μ Hs M (upd H p o) := by
  have h0 := S.fr p o0 upd_same
  refine ⟨S.len, fun b u e => ?_, fun b e1 e2 => ?_, fun k a m e1 e2 e3 => ?_, S.nd⟩
  · by_cases hb : b = p
    · subst hb
      rw [upd_same] at e ⊢
      exact ⟨e, h0.2⟩
    · rw [upd_ne hb] at e ⊢
      exact S.fr b u (by rw [upd_ne hb]; exact e)
  · have hb : b ≠ p := fun z => by rw [z, upd_same] at e1; cases e1
    rw [upd_ne hb] at e1 ⊢
    exact S.out b (by rw [upd_ne hb]; exact e1) e2
  · obtain ⟨q1, q2, q3⟩ := S.mu k a m e1 e2 e3
    have ha : a ≠ p := fun z => by rw [z, upd_same] at q2; cases q2
    rw [upd_ne ha] at q2
    exact ⟨q1, by rw [upd_ne ha]; exact q2, q3.mono (Ex.refl _) (upd_ne ha)⟩
/-- what is set aside comes to rest -/
theorem SRel.settle {p : Addr} {o : HO} (S : SRel K (upd φ p o) μ Hs M H) (hp : φ p = none) : SRel K φ μ (upd Hs p o) M H ∧ Ex Hs (upd Hs p o) := by
  have h0 := S.fr p o upd_same
  have ex : Ex Hs (upd Hs p o) := Ex.new h0.2
  refine ⟨⟨S.len, fun b u e => ?_, fun b e1 e2 => ?_, fun k a m e1 e2 e3 => ?_, S.nd⟩, ex⟩
  · have hb : b ≠ p := fun z => by rw [z, hp] at e; cases e
    have := S.fr b u (by rw [upd_ne hb]; exact e)
    rw [upd_ne hb]
    exact this
  · by_cases hb : b = p
    · subst hb
      rw [upd_same]
      exact h0.1
    · rw [upd_ne hb]
      exact S.out b (by rw [upd_ne hb]; exact e1) e2
  · obtain ⟨q1, q2, q3⟩ := S.mu k a m e1 e2 e3
    have ha : a ≠ p := fun z => by rw [z, upd_same] at q2; cases q2
    rw [upd_ne ha] at q2
    exact ⟨by rw [upd_ne ha]; exact q1, q2, q3.mono ex rfl⟩
/-- .. or becomes a thing of the store -/
theorem SRel.adopt {p : Addr} {o : HO} (S : SRel K (upd φ p o) μ Hs M H) (hp : φ p = none) {m : Mu} (hm : RepMu K Hs H p m) (hn : m ≠ Mu.dead) : SRel K φ (μ ++ [p]) Hs (M ++ [m]) H := by
  have h0 := S.fr p o upd_same
  have hl := S.len
  have notin : ∀ (k : Nat), μ[k]? = some p → M[k]? = some Mu.dead := fun k hk => by
    have hkl : k < M.length := by rw [← S.len]; exact (List.getElem?_eq_some_iff.mp hk).1
    have hmk : M[k]? = some M[k] := List.getElem?_eq_getElem hkl
    by_cases n : M[k] = Mu.dead
    · rw [hmk, n]
    · have := (S.mu k p M[k] hk hmk n).2.1
      rw [upd_same] at this
      cases this
  refine ⟨by simp [hl], fun b u e => ?_, fun b e1 e2 => ?_, fun k a m' e1 e2 e3 => ?_, fun i j a e1 e2 e3 e4 => ?_⟩
  · have hb : b ≠ p := fun z => by rw [z, hp] at e; cases e
    exact S.fr b u (by rw [upd_ne hb]; exact e)
  · have hb : b ≠ p := fun z => by
      have := e2 μ.length (by rw [z]; simp)
      rw [hl] at this
      simp at this
      exact hn this
    refine S.out b (by rw [upd_ne hb]; exact e1) fun k hk => ?_
    have hk' : k < μ.length := (List.getElem?_eq_some_iff.mp hk).1
    have := e2 k (by rw [List.getElem?_append_left hk']; exact hk)
    rw [List.getElem?_append_left (by omega)] at this
    exact this
  · by_cases hk : k < μ.length
    · rw [List.getElem?_append_left hk] at e1
      rw [List.getElem?_append_left (by omega)] at e2
      obtain ⟨q1, q2, q3⟩ := S.mu k a m' e1 e2 e3
      have ha : a ≠ p := fun z => by rw [z, upd_same] at q2; cases q2
      rw [upd_ne ha] at q2
      exact ⟨q1, q2, q3⟩
    · have hk2 : k = μ.length := by
        have := (List.getElem?_eq_some_iff.mp e1).1
        simp at this
        omega
      subst hk2
      have ea : p = a := by simpa using e1
      have em : m = m' := by rw [hl] at e2; simpa using e2
      subst ea em
      exact ⟨h0.2, hp, hm⟩
  · have live : ∀ (k : Nat), (μ ++ [p])[k]? = some a → (M ++ [m])[k]? ≠ some Mu.dead → (k < μ.length ∧ μ[k]? = some a ∧ M[k]? ≠ some Mu.dead ∧ a ≠ p) ∨ (k = μ.length ∧ a = p) := fun k e1 e3 => by
      by_cases hk : k < μ.length
      · rw [List.getElem?_append_left hk] at e1
        rw [List.getElem?_append_left (by omega)] at e3
        exact .inl ⟨hk, e1, e3, fun z => e3 (notin k (by rw [← z]; exact e1))⟩
      · have hk2 : k = μ.length := by
          have := (List.getElem?_eq_some_iff.mp e1).1
          simp at this
          omega
        subst hk2
        exact .inr ⟨rfl, by simpa using e1.symm⟩
    rcases live i e1 e3 with ⟨_, a1, a2, a3⟩ | ⟨a1, a2⟩ <;> rcases live j e2 e4 with ⟨_, b1, b2, b3⟩ | ⟨b1, b2⟩
    · exact S.nd i j a a1 b1 a2 b2
    · exact absurd b2 a3
    · exact absurd a2 b3
    · rw [a1, b1]
end
end Wv

namespace Wv
open PySem PySem.Spec PyProof.Rows L2

/-! ### environments -/
structure REnv (K : PySem.W.Frag) (μ : List Addr) (Hs : Hp) (ρ : Env) (σ : L2.St) : Prop where
  len : ρ.length = σ.length
  at_ : ∀ (i : Nat) (x : Vl), ρ[i]? = some (some x) → ∃ v, σ[i]? = some (some v) ∧ RepV K μ Hs x v
theorem REnv.mono {K : PySem.W.Frag} {μ μ' : List Addr} {Hs Hs' : Hp} {ρ : Env} {σ : L2.St} (R : REnv K μ Hs ρ σ) (p : μ <+: μ') (e : Ex Hs Hs') : REnv K μ' Hs' ρ σ :=
  ⟨R.len, fun i x h => let ⟨v, h1, h2⟩ := R.at_ i x h; ⟨v, h1, h2.mono p e⟩⟩
theorem REnv.set {K : PySem.W.Frag} {μ : List Addr} {Hs : Hp} {ρ : Env} {σ : L2.St} (R : REnv K μ Hs ρ σ) (i : Nat) {x : Vl} {v : V} (r : RepV K μ Hs x v) : REnv K μ Hs (ρ.set i (some x)) (σ.set i (some v)) := by
  refine ⟨by simp [R.len], fun j y h => ?_⟩
  by_cases hj : i = j
  · subst hj
    have hl : i < ρ.length := by
      have := (List.getElem?_eq_some_iff.mp h).1
      simpa using this
    rw [List.getElem?_set_self hl] at h
    cases h
    exact ⟨v, List.getElem?_set_self (by rw [← R.len]; exact hl), r⟩
  · rw [List.getElem?_set_ne hj] at h ⊢
    exact R.at_ j y h

/-! ### results -/
def Post {α β : Type} (K : PySem.W.Frag) (W : WX) (R : List Addr → Hp → α → β → Prop) (φ : Hp) (μ : List Addr) (Hs : Hp) (σ : L2.St) (r : Res α) (Q : β → Hp → Prop) : Prop :=
  match r with
  | .ok x M' => ∀ (μ' : List Addr) (Hs' H' : Hp) (v : β), μ <+: μ' → Ex Hs Hs' → SRel K φ μ' Hs' M' H' → R μ' Hs' x v → Q v H'
  | .exc C fs M' => ∀ (μ' : List Addr) (Hs' H' : Hp) (a : Addr) (fvs : List (Str × V)), μ <+: μ' → Ex Hs Hs' → SRel K φ μ' Hs' M' H' → Hs' a = some (.xd fvs) → RepF K Hs' fs fvs → W (.ref (He.ga K C)) (some a) σ H'
  | .bad => False
def rdR {α β : Type} (K : PySem.W.Frag) (W : WX) (R : List Addr → Hp → α → β → Prop) (m : Sm α) : L2.St → Hp → (β → Hp → Prop) → Prop :=
  fun σ H Q => ∃ (φ : Hp) (μ : List Addr) (Hs : Hp) (M : List Mu) (ρ : Env), SRel K φ μ Hs M H ∧ REnv K μ Hs ρ σ ∧ Post K W R φ μ Hs σ (m ρ M) Q
abbrev rd (K : PySem.W.Frag) (W : WX) (m : Sm Vl) : TE := rdR K W (RepV K) m
abbrev rdA (K : PySem.W.Frag) (W : WX) (m : Sm (List Vl)) : TA := rdR K W (RepVs K) m
abbrev rdT (K : PySem.W.Frag) (W : WX) (m : Sm Bool) : TT := rdR K W (fun _ _ (a b : Bool) => a = b) m
abbrev rdO (K : PySem.W.Frag) (W : WX) (m : Sm (Option Int)) : TO := rdR K W (fun _ _ (a b : Option Int) => a = b) m
def bnd {α β : Type} (m : Sm α) (f : α → Sm β) : Sm β := fun ρ M => match m ρ M with
  | .ok a M' => f a ρ M'
  | .exc C fs M' => .exc C fs M'
  | .bad => .bad
def ret {α : Type} (a : α) : Sm α := fun _ M => .ok a M
section
variable {α β γ δ : Type} {K : PySem.W.Frag} {W : WX} {R : List Addr → Hp → α → β → Prop} {R2 : List Addr → Hp → γ → δ → Prop} {φ : Hp} {μ μ' : List Addr} {Hs Hs' H : Hp} {σ : L2.St} {M : List Mu} {ρ : Env}
theorem pre_trans {a b c : List Addr} (h : a <+: b) (h' : b <+: c) : a <+: c := List.IsPrefix.trans h h'
theorem Post.mono {r : Res α} {Q : β → Hp → Prop} (h : Post K W R φ μ Hs σ r Q) (p : μ <+: μ') (e : Ex Hs Hs') : Post K W R φ μ' Hs' σ r Q := by
  cases r with
  | ok x M' => exact fun μ2 Hs2 H2 v p2 e2 => h μ2 Hs2 H2 v (pre_trans p p2) (e.trans e2)
  | exc C fs M' => exact fun μ2 Hs2 H2 a fvs p2 e2 => h μ2 Hs2 H2 a fvs (pre_trans p p2) (e.trans e2)
  | bad => exact h
theorem Post.here {x : α} {v : β} {Q : β → Hp → Prop} (h : Post K W R φ μ Hs σ (.ok x M) Q) (S : SRel K φ μ Hs M H) (r : R μ Hs x v) : Q v H := h μ Hs H v List.prefix_rfl (Ex.refl _) S r
theorem Post.at {x : α} {v : β} {Q : β → Hp → Prop} {H' : Hp} {M' : List Mu} (h : Post K W R φ μ Hs σ (.ok x M') Q) (p : μ <+: μ') (e : Ex Hs Hs') (S : SRel K φ μ' Hs' M' H') (r : R μ' Hs' x v) : Q v H' := h μ' Hs' H' v p e S r
theorem Post.bnd {m : Sm α} {f : α → Sm γ} {Q : δ → Hp → Prop} {Q1 : β → Hp → Prop} (h : Post K W R2 φ μ Hs σ (bnd m f ρ M) Q)
    (k : ∀ (x : α) (M' : List Mu) (μ' : List Addr) (Hs' H' : Hp) (v : β), μ <+: μ' → Ex Hs Hs' → SRel K φ μ' Hs' M' H' → R μ' Hs' x v → Post K W R2 φ μ' Hs' σ (f x ρ M') Q → Q1 v H') : Post K W R φ μ Hs σ (m ρ M) Q1 := by
  unfold Wv.bnd at h
  cases e : m ρ M with
  | ok x M' =>
    rw [e] at h
    exact fun μ2 Hs2 H2 v p2 e2 S2 r2 => k x M' μ2 Hs2 H2 v p2 e2 S2 r2 (h.mono p2 e2)
  | exc C fs M' =>
    rw [e] at h
    exact h
  | bad =>
    rw [e] at h
    exact h
/-- one part is read, then another -/
theorem rdR.then {m : Sm α} {f : α → Sm γ} {Q : δ → Hp → Prop} {Q1 : β → Hp → Prop} {σ : L2.St} {H : Hp} (h : rdR K W R2 (Wv.bnd m f) σ H Q)
    (k : ∀ (x : α) (v : β) (H' : Hp) (φ : Hp) (μ : List Addr) (Hs : Hp) (M' : List Mu) (ρ : Env), SRel K φ μ Hs M' H' → REnv K μ Hs ρ σ → R μ Hs x v → Post K W R2 φ μ Hs σ (f x ρ M') Q → Q1 v H') : rdR K W R m σ H Q1 := by
  obtain ⟨φ, μ, Hs, M, ρ, S, E, P⟩ := h
  exact ⟨φ, μ, Hs, M, ρ, S, E, P.bnd fun x M' μ' Hs' H' v p e S' r P' => k x v H' φ μ' Hs' M' ρ S' (E.mono p e) r P'⟩
end

/-! ### judgements are weakened -/
section
variable {X : Cx}
theorem pe_imp {e : Expr} {t t' : TE} (h : PE X e t) (i : ∀ σ H Q, t' σ H Q → t σ H Q) : PE X e t' := ⟨fun pins s σ H Q I q => h.run pins s σ H Q I (i σ H Q q)⟩
theorem pt_imp {e : Expr} {t t' : TT} (h : PT X e t) (i : ∀ σ H Q, t' σ H Q → t σ H Q) : PT X e t' := ⟨fun pins s σ H Q I q => h.run pins s σ H Q I (i σ H Q q)⟩
theorem pw_imp {e : Expr} {t t' : TT} (h : PW X e t) (i : ∀ σ H Q, t' σ H Q → t σ H Q) : PW X e t' := ⟨fun wh pins s σ H Q I q => h.run wh pins s σ H Q I (i σ H Q q)⟩
theorem pa_imp {es : List Expr} {t t' : TA} (h : PA X es t) (i : ∀ σ H Q, t' σ H Q → t σ H Q) : PA X es t' := ⟨fun pos pins s σ H Q I q => h.run pos pins s σ H Q I (i σ H Q q)⟩
theorem ps_imp {st : Stmt} {t t' : TS} (h : PS X st t) (i : ∀ D σ H, t' D σ H → t D σ H) : PS X st t' := ⟨fun pins s σ H D I q => h.run pins s σ H D I (i D σ H q)⟩
theorem pss_imp {st : List Stmt} {t t' : TS} (h : PSs X st t) (i : ∀ D σ H, t' D σ H → t D σ H) : PSs X st t' := ⟨fun pins s σ H D I q => h.run pins s σ H D I (i D σ H q)⟩
theorem pg_imp {e : Expr} {t t' : TG} (h : PG X e t) (i : ∀ v σ H Q, t' v σ H Q → t v σ H Q) : PG X e t' := ⟨fun pins s σ H v u Q I r q => h.run pins s σ H v u Q I r (i v σ H Q q)⟩
theorem po_imp {e : Option Expr} {t t' : TO} (h : PO X e t) (i : ∀ σ H Q, t' σ H Q → t σ H Q) : PO X e t' := ⟨fun pins s σ H Q I q => h.run pins s σ H Q I (i σ H Q q)⟩
end

/-! ### names, constants, operators -/
def eVar (i : Nat) : Sm Vl := fun ρ M => match ρ[i]? with
  | some (some x) => .ok x M
  | _ => .bad
def eC (d : D) : Sm Vl := fun _ M => .ok (.d d) M
abbrev F2 := Vl → Vl → List Mu → Res Vl
abbrev F1 := Vl → List Mu → Res Vl
abbrev FS := List Vl → List Mu → Res Vl
def eOp (f : F2) (a b : Sm Vl) : Sm Vl := bnd a fun x => bnd b fun y _ M => f x y M
def eUn (f : F1) (a : Sm Vl) : Sm Vl := bnd a fun x _ M => f x M
def eNil : Sm (List Vl) := fun _ M => .ok [] M
def eCons (a : Sm Vl) (r : Sm (List Vl)) : Sm (List Vl) := bnd a fun x => bnd r fun xs _ M => .ok (x :: xs) M
def eAp (f : FS) (as : Sm (List Vl)) : Sm Vl := bnd as fun xs _ M => f xs M
/-- a rule by values serves a plain function -/
def OpS (K : PySem.W.Frag) (r : R2) (f : F2) : Prop := ∀ (W : WX) (φ : Hp) (μ : List Addr) (Hs : Hp) (M : List Mu) (H : Hp) (σ : L2.St) (x y : Vl) (v w : V) (Q : VK), SRel K φ μ Hs M H → RepV K μ Hs x v → RepV K μ Hs y w → Post K W (RepV K) φ μ Hs σ (f x y M) Q → r v w H Q
def UnS (K : PySem.W.Frag) (r : V → Hp → VK → Prop) (f : F1) : Prop := ∀ (W : WX) (φ : Hp) (μ : List Addr) (Hs : Hp) (M : List Mu) (H : Hp) (σ : L2.St) (x : Vl) (v : V) (Q : VK), SRel K φ μ Hs M H → RepV K μ Hs x v → Post K W (RepV K) φ μ Hs σ (f x M) Q → r v H Q
def CallS (K : PySem.W.Frag) (r : List V → Hp → VK → Prop) (f : FS) : Prop := ∀ (W : WX) (φ : Hp) (μ : List Addr) (Hs : Hp) (M : List Mu) (H : Hp) (σ : L2.St) (xs : List Vl) (vs : List V) (Q : VK), SRel K φ μ Hs M H → RepVs K μ Hs xs vs → Post K W (RepV K) φ μ Hs σ (f xs M) Q → r vs H Q
section
variable {X : Cx} {W : WX}
theorem j_var (i : Nat) {x : Str} {pos : Pos} (hN : X.N[i]? = some x := by rfl) (hv : Vis X.env.scope x := by first | exact Or.inl rfl | exact Or.inr (Or.inl rfl) | exact Or.inr (Or.inr rfl)) (hd : (x == ("__debug__" : Str)) = false := by decide)
    (hcd : (x == ("__classdict__" : Str)) = false := by decide) : PE X (.Name x pos) (rd X.K W (eVar i)) := by
  refine pe_imp (pe_var hN hv hd hcd) fun σ H Q h => ?_
  obtain ⟨φ, μ, Hs, M, ρ, S, E, P⟩ := h
  unfold eVar at P
  cases e : ρ[i]? with
  | none => rw [e] at P; exact P.elim
  | some o =>
    cases o with
    | none => rw [e] at P; exact P.elim
    | some x =>
      rw [e] at P
      obtain ⟨v, h1, h2⟩ := E.at_ i x e
      exact ⟨v, h1, P.here S h2⟩
theorem j_c {e : Expr} {d : D} {v : V} (h : PE X e (tC v)) (r : ∀ H, Rep X.K H d v) : PE X e (rd X.K W (eC d)) := by
  refine pe_imp h fun σ H Q h => ?_
  obtain ⟨φ, μ, Hs, M, ρ, S, E, P⟩ := h
  exact P.here S (r Hs)
theorem j_int {i : Int} {j : Nat} {pos : Pos} : PE X (.Constant (.int i) j pos) (rd X.K W (eC (.int i))) := j_c pe_int fun _ => .int i
theorem j_bl {b : Bool} {j : Nat} {pos : Pos} : PE X (.Constant (.bool b) j pos) (rd X.K W (eC (.bl b))) := j_c pe_bl fun _ => .bl b
theorem j_non {j : Nat} {pos : Pos} : PE X (.Constant .none j pos) (rd X.K W (eC .non)) := j_c pe_non fun _ => .non
theorem j_str {x : Str} {j : Nat} {pos : Pos} : PE X (.Constant (.str x) j pos) (rd X.K W (eC (.str x))) := j_c pe_str fun _ => .str x
theorem j_op {op : Operator} {a b : Expr} {pos : Pos} {r : R2} {f : F2} {ma mb : Sm Vl} (ho : OpR X (binaryOp op) r) (hs : OpS X.K r f) (ha : PE X a (rd X.K W ma)) (hb : PE X b (rd X.K W mb)) : PE X (.BinOp a op b pos) (rd X.K W (eOp f ma mb)) := by
  refine pe_imp (pe_op ho ha hb) fun σ H Q h => ?_
  refine rdR.then h fun x v H1 φ μ Hs M ρ S E r P => ⟨φ, μ, Hs, M, ρ, S, E, P.bnd fun y M2 μ2 Hs2 H2 w p e S2 r2 P2 => ?_⟩
  exact hs W φ μ2 Hs2 M2 H2 σ x y v w Q S2 (r.mono p e) r2 P2
theorem j_cmp {op : CmpOp} {a b : Expr} {pos : Pos} {r : R2} {f : F2} {ma mb : Sm Vl} (ho : OpR X (compareOp op) r) (hs : OpS X.K r f) (ha : PE X a (rd X.K W ma)) (hb : PE X b (rd X.K W mb)) (hm : behindInMarks op b = false) : PE X (.Compare a [op] [b] pos) (rd X.K W (eOp f ma mb)) := by
  refine pe_imp (pe_cmpR ho ha hb hm) fun σ H Q h => ?_
  refine rdR.then h fun x v H1 φ μ Hs M ρ S E r P => ⟨φ, μ, Hs, M, ρ, S, E, P.bnd fun y M2 μ2 Hs2 H2 w p e S2 r2 P2 => ?_⟩
  exact hs W φ μ2 Hs2 M2 H2 σ x y v w Q S2 (r.mono p e) r2 P2
theorem j_un {op : UnaryOp} {a : Expr} {pos : Pos} {r : V → Hp → VK → Prop} {f : F1} {ma : Sm Vl} (ho : UnR X (unaryOp op) r) (hs : UnS X.K r f) (ha : PE X a (rd X.K W ma)) : PE X (.UnaryOp op a pos) (rd X.K W (eUn f ma)) := by
  refine pe_imp (pe_un ho ha) fun σ H Q h => ?_
  exact rdR.then h fun x v H1 φ μ Hs M ρ S E r P => hs W φ μ Hs M H1 σ x v Q S r P
theorem ja_nil : PA X [] (rdA X.K W eNil) := by
  refine pa_imp pa_nil fun σ H Q h => ?_
  obtain ⟨φ, μ, Hs, M, ρ, S, E, P⟩ := h
  exact P.here S .nil
theorem ja_cons {e : Expr} {es : List Expr} {m : Sm Vl} {r : Sm (List Vl)} (he : PE X e (rd X.K W m)) (hr : PA X es (rdA X.K W r)) (hs : starEach (e :: es) X.env = (false, eval e X.env) :: starEach es X.env := by rfl) : PA X (e :: es) (rdA X.K W (eCons m r)) := by
  refine pa_imp (pa_cons he hr hs) fun σ H Q h => ?_
  refine rdR.then h fun x v H1 φ μ Hs M ρ S E r P => ⟨φ, μ, Hs, M, ρ, S, E, P.bnd fun y M2 μ2 Hs2 H2 w p e S2 r2 P2 => ?_⟩
  exact P2.here S2 (.cons (r.mono p e) r2)
end
end Wv

namespace Wv
open PySem PySem.Spec PyProof.Rows L2

/-! ### sequences -/
def rawL (M : List Mu) : Vl → Option (List D)
  | .d (.lst xs) => some xs
  | .m k => (match M[k]? with
    | some (.lst xs) => some xs
    | _ => none)
  | _ => none
def seqL (M : List Mu) : Vl → Option (List D)
  | .d (.lst xs) => some xs
  | .d (.scr ns) => some (ns.map D.int)
  | .m k => (match M[k]? with
    | some (.lst xs) => some xs
    | _ => none)
  | _ => none
section
variable {K : PySem.W.Frag} {φ : Hp} {μ : List Addr} {Hs H : Hp} {M : List Mu}
theorem reps_ints (ns : List Int) : Reps K H (ns.map D.int) (ns.map V.int) := by
  induction ns with
  | nil => exact .nil
  | cons n r ih => exact .cons (.int n) ih
theorem mut_lst {k : Nat} {xs : List D} {v : V} (S : SRel K φ μ Hs M H) (hm : M[k]? = some (.lst xs)) (r : RepV K μ Hs (.m k) v) : ∃ a vs, v = .ref a ∧ μ[k]? = some a ∧ H a = some (.lst vs) ∧ Reps K Hs xs vs := by
  obtain ⟨a, ha, rfl⟩ := r
  obtain ⟨_, _, vs, h1, h2⟩ := S.mu k a _ ha hm (fun z => nomatch z)
  exact ⟨a, vs, rfl, ha, h1, h2⟩
theorem rawL_ok {x : Vl} {v : V} {ds : List D} (S : SRel K φ μ Hs M H) (r : RepV K μ Hs x v) (h : rawL M x = some ds) : ∃ a vs, v = .ref a ∧ H a = some (.lst vs) ∧ Reps K Hs ds vs := by
  cases x with
  | d x =>
    cases x with
    | lst xs =>
      obtain rfl : xs = ds := Option.some.inj h
      cases (show Rep K Hs (.lst xs) v from r) with
      | lst h1 h2 => exact ⟨_, _, rfl, S.up h1, h2⟩
    | _ => cases h
  | m k =>
    have h : (match M[k]? with
      | some (.lst xs) => some xs
      | _ => none) = some ds := h
    cases e : M[k]? with
    | none => rw [e] at h; cases h
    | some m =>
      rw [e] at h
      cases m with
      | lst xs =>
        cases h
        obtain ⟨a, vs, h1, _, h2, h3⟩ := mut_lst S e r
        exact ⟨a, vs, h1, h2, h3⟩
      | _ => cases h
theorem seqL_ok {x : Vl} {v : V} {ds : List D} (S : SRel K φ μ Hs M H) (r : RepV K μ Hs x v) (h : seqL M x = some ds) : ∃ a vs, v = .ref a ∧ SqL K H a vs ∧ Reps K Hs ds vs := by
  cases x with
  | d x =>
    cases x with
    | lst xs =>
      obtain rfl : xs = ds := Option.some.inj h
      cases (show Rep K Hs (.lst xs) v from r) with
      | lst h1 h2 => exact ⟨_, _, rfl, SqL.of (S.up h1), h2⟩
    | scr ns =>
      cases h
      cases (show Rep K Hs (.scr ns) v from r) with
      | scr h1 => exact ⟨_, _, rfl, S.ex.sqL h1, reps_ints ns⟩
    | _ => cases h
  | m k =>
    have h : (match M[k]? with
      | some (.lst xs) => some xs
      | _ => none) = some ds := h
    cases e : M[k]? with
    | none => rw [e] at h; cases h
    | some m =>
      rw [e] at h
      cases m with
      | lst xs =>
        cases h
        obtain ⟨a, vs, h1, _, h2, h3⟩ := mut_lst S e r
        exact ⟨a, vs, h1, SqL.of h2, h3⟩
      | _ => cases h
theorem tup_ok {xs : List D} {v : V} (S : SRel K φ μ Hs M H) (r : RepV K μ Hs (.d (.tup xs)) v) : ∃ a vs, v = .ref a ∧ SqT K H a vs ∧ SqT K Hs a vs ∧ Reps K Hs xs vs := by
  cases (show Rep K Hs (.tup xs) v from r) with
  | tup h1 h2 => exact ⟨_, _, rfl, S.ex.sqT h1, h1, h2⟩
theorem int_ok {i : Int} {v : V} (r : RepV K μ Hs (.d (.int i)) v) : v = .int i := by
  cases (show Rep K Hs (.int i) v from r); rfl
theorem str_ok {x : Str} {v : V} (r : RepV K μ Hs (.d (.str x)) v) : v = .str x := by
  cases (show Rep K Hs (.str x) v from r); rfl
theorem bl_ok {b : Bool} {v : V} (r : RepV K μ Hs (.d (.bl b)) v) : v = .bl b := by
  cases (show Rep K Hs (.bl b) v from r); rfl
theorem non_ok {v : V} (r : RepV K μ Hs (.d .non) v) : v = .non := by
  cases (show Rep K Hs .non v from r); rfl
end
section
variable {K : PySem.W.Frag} {W : WX} {φ : Hp} {μ : List Addr} {Hs H : Hp} {M : List Mu} {σ : L2.St} {Q : VK}
/-- a new list, a new tuple is told -/
theorem Post.newL {ds : List D} {vs : List V} (P : Post K W (RepV K) φ μ Hs σ (.ok (.d (.lst ds)) M) Q) (S : SRel K φ μ Hs M H) (r : Reps K Hs ds vs) {p : Addr} (hp : H p = none) : Q (.ref p) (upd H p (.lst vs)) := by
  have e : Ex Hs (upd Hs p (.lst vs)) := Ex.new (S.free hp).2.2
  exact P.at List.prefix_rfl e (S.laid hp _) (show Rep K (upd Hs p (.lst vs)) (.lst ds) (.ref p) from .lst upd_same (r.mono e))
theorem Post.newT {ds : List D} {vs : List V} (P : Post K W (RepV K) φ μ Hs σ (.ok (.d (.tup ds)) M) Q) (S : SRel K φ μ Hs M H) (r : Reps K Hs ds vs) {p : Addr} (hp : H p = none) : Q (.ref p) (upd H p (.tup vs)) := by
  have e : Ex Hs (upd Hs p (.tup vs)) := Ex.new (S.free hp).2.2
  exact P.at List.prefix_rfl e (S.laid hp _) (show Rep K (upd Hs p (.tup vs)) (.tup ds) (.ref p) from .tup (.inl (.inl upd_same)) (r.mono e))
end

/-! ### arithmetic -/
def fAdd : F2 := fun x y M => match x, y with
  | .d (.int i), .d (.int j) => .ok (.d (.int (i + j))) M
  | .d (.str a), .d (.str b) => if a.length + b.length ≤ sizeLine then .ok (.d (.str (a ++ b))) M else .bad
  | .d (.tup xs), .d (.tup ys) => if xs.length + ys.length ≤ sizeLine then .ok (.d (.tup (xs ++ ys))) M else .bad
  | x, y => match rawL M x, rawL M y with
    | some xs, some ys => if xs.length + ys.length ≤ sizeLine then .ok (.d (.lst (xs ++ ys))) M else .bad
    | _, _ => .bad
def fSub : F2 := fun x y M => match x, y with
  | .d (.int i), .d (.int j) => .ok (.d (.int (i - j))) M
  | _, _ => .bad
def smallI (i : Int) : Bool := decide (-(2 ^ 64) < i ∧ i < 2 ^ 64)
def fMul : F2 := fun x y M => match x, y with
  | .d (.int i), .d (.int j) => if smallI i || smallI j then .ok (.d (.int (i * j))) M else .bad
  | x, .d (.int k) => match rawL M x with
    | some xs => if -(2 ^ 63) ≤ k ∧ k < 2 ^ 63 ∧ xs.length * k.toNat ≤ sizeLine then .ok (.d (.lst (List.replicate k.toNat xs).flatten)) M else .bad
    | _ => .bad
  | _, _ => .bad
def fMod : F2 := fun x y M => match x, y with
  | .d (.int i), .d (.int j) => if 0 < j then .ok (.d (.int (i % j))) M else .bad
  | _, _ => .bad
def fDiv : F2 := fun x y M => match x, y with
  | .d (.int i), .d (.int j) => if 0 < j ∧ j < 1073741824 then .ok (.d (.int (i / j))) M else .bad
  | _, _ => .bad
def fPow : F2 := fun x y M => match x, y with
  | .d (.int i), .d (.int j) => if 0 ≤ j ∧ j ≤ 1000000 ∧ i.natAbs < 2 ^ 64 then .ok (.d (.int (i ^ j.toNat))) M else .bad
  | _, _ => .bad
def fNeg : F1 := fun x M => match x with
  | .d (.int i) => .ok (.d (.int (-i))) M
  | _ => .bad
def fLt : F2 := fun x y M => match x, y with
  | .d (.int i), .d (.int j) => .ok (.d (.bl (decide (i < j)))) M
  | _, _ => .bad
def fLe : F2 := fun x y M => match x, y with
  | .d (.int i), .d (.int j) => .ok (.d (.bl (decide (i ≤ j)))) M
  | _, _ => .bad
def fGt : F2 := fun x y M => match x, y with
  | .d (.int i), .d (.int j) => .ok (.d (.bl (decide (j < i)))) M
  | _, _ => .bad
def fGe : F2 := fun x y M => match x, y with
  | .d (.int i), .d (.int j) => .ok (.d (.bl (decide (j ≤ i)))) M
  | _, _ => .bad
section
variable {X : Cx} {K : PySem.W.Frag}
def rAddA (K : PySem.W.Frag) : R2 := fun x y H Q => (rI0 fun i j => .int (i + j)) x y H Q ∨ (∃ i j, x = .str i ∧ y = .str j ∧ i.length + j.length ≤ sizeLine ∧ Q (.str (i ++ j)) H) ∨ rCatA K x y H Q ∨ rCat x y H Q
theorem op_addA : OpR X (binaryOp .Add) (rAddA X.K) := op_add.or (op_add_str.or (op_catA.or op_cat))
theorem os_add : OpS K (rAddA K) fAdd := by
  intro W φ μ Hs M H σ x y v w Q S rx ry P
  unfold fAdd at P
  split at P
  · rename_i i j
    cases int_ok rx
    cases int_ok ry
    exact .inl ⟨_, _, rfl, rfl, P.here S (.int _)⟩
  · rename_i a b
    cases str_ok rx
    cases str_ok ry
    split at P
    · exact .inr (.inl ⟨_, _, rfl, rfl, by assumption, P.here S (.str _)⟩)
    · exact P.elim
  · rename_i xs ys
    obtain ⟨a, vs, rfl, h1, h1', h2⟩ := tup_ok S rx
    obtain ⟨b, ws, rfl, h3, h3', h4⟩ := tup_ok S ry
    split at P
    · rename_i hl
      refine .inr (.inr (.inl ⟨a, b, vs, ws, rfl, rfl, h1, h3, by rw [← h2.length, ← h4.length]; exact hl, fun e => ?_, fun _ e => ?_, fun _ _ p hp => ?_⟩))
      · subst e
        have : xs = [] := List.eq_nil_of_length_eq_zero (by rw [h2.length]; rfl)
        subst this
        exact P.here S ry
      · subst e
        have : ys = [] := List.eq_nil_of_length_eq_zero (by rw [h4.length]; rfl)
        subst this
        rw [List.append_nil] at P
        exact P.here S rx
      · exact P.newT S (h2.append h4) hp
    · exact P.elim
  · split at P
    · rename_i xs ys h1 h2
      obtain ⟨a, vs, rfl, h3, h4⟩ := rawL_ok S rx h1
      obtain ⟨b, ws, rfl, h5, h6⟩ := rawL_ok S ry h2
      split at P
      · rename_i hl
        exact .inr (.inr (.inr ⟨a, b, vs, ws, rfl, rfl, h3, h5, by rw [← h4.length, ← h6.length]; exact hl, fun p hp => P.newL S (h4.append h6) hp⟩))
      · exact P.elim
    · exact P.elim
theorem os_sub : OpS K (rI0 fun i j => .int (i - j)) fSub := by
  intro W φ μ Hs M H σ x y v w Q S rx ry P
  unfold fSub at P
  split at P
  · cases int_ok rx
    cases int_ok ry
    exact ⟨_, _, rfl, rfl, P.here S (.int _)⟩
  · exact P.elim
theorem reps_flat {H : Hp} {ds : List D} {vs : List V} (h : Reps K H ds vs) : ∀ n : Nat, Reps K H (List.replicate n ds).flatten (List.replicate n vs).flatten
  | 0 => .nil
  | n + 1 => by
    rw [List.replicate_succ, List.replicate_succ, List.flatten_cons, List.flatten_cons]
    exact h.append (reps_flat h n)
def rMulA : R2 := fun x y H Q => (rI CMul fun i j => .int (i * j)) x y H Q ∨ rRep x y H Q
theorem op_mulA : OpR X (binaryOp .Mult) rMulA := op_mul.or op_rep
theorem os_mul : OpS K rMulA fMul := by
  intro W φ μ Hs M H σ x y v w Q S rx ry P
  unfold fMul at P
  split at P
  · rename_i i j
    cases int_ok rx
    cases int_ok ry
    split at P
    · rename_i hc
      refine .inl ⟨_, _, rfl, rfl, ?_, P.here S (.int _)⟩
      rcases Bool.or_eq_true_iff.mp hc with h | h
      · exact .inl (of_decide_eq_true h)
      · exact .inr (of_decide_eq_true h)
    · exact P.elim
  · rename_i k _
    cases int_ok ry
    split at P
    · rename_i xs h1
      obtain ⟨a, vs, rfl, h3, h4⟩ := rawL_ok S rx h1
      split at P
      · rename_i hc
        obtain ⟨c1, c2, c3⟩ := hc
        exact .inr ⟨a, k, vs, rfl, rfl, h3, c1, c2, by rw [← h4.length]; exact c3, fun p hp => P.newL S (reps_flat h4 _) hp⟩
      · exact P.elim
    · exact P.elim
  · exact P.elim
theorem os_mod : OpS K (rI (fun _ j => 0 < j) fun i j => .int (i % j)) fMod := by
  intro W φ μ Hs M H σ x y v w Q S rx ry P
  unfold fMod at P
  split at P
  · cases int_ok rx
    cases int_ok ry
    split at P
    · exact ⟨_, _, rfl, rfl, by assumption, P.here S (.int _)⟩
    · exact P.elim
  · exact P.elim
theorem os_div : OpS K (rI CDiv fun i j => .int (i / j)) fDiv := by
  intro W φ μ Hs M H σ x y v w Q S rx ry P
  unfold fDiv at P
  split at P
  · cases int_ok rx
    cases int_ok ry
    split at P
    · exact ⟨_, _, rfl, rfl, by assumption, P.here S (.int _)⟩
    · exact P.elim
  · exact P.elim
theorem os_pow : OpS K (rI CPow fun i j => .int (i ^ j.toNat)) fPow := by
  intro W φ μ Hs M H σ x y v w Q S rx ry P
  unfold fPow at P
  split at P
  · cases int_ok rx
    cases int_ok ry
    split at P
    · exact ⟨_, _, rfl, rfl, by assumption, P.here S (.int _)⟩
    · exact P.elim
  · exact P.elim
theorem us_neg : UnS K (rU fun i => .int (-i)) fNeg := by
  intro W φ μ Hs M H σ x v Q S rx P
  unfold fNeg at P
  split at P
  · cases int_ok rx
    exact ⟨_, rfl, P.here S (.int _)⟩
  · exact P.elim
theorem os_lt : OpS K (rI0 fun i j => .bl (decide (i < j))) fLt := by
  intro W φ μ Hs M H σ x y v w Q S rx ry P
  unfold fLt at P
  split at P
  · cases int_ok rx
    cases int_ok ry
    exact ⟨_, _, rfl, rfl, P.here S (.bl _)⟩
  · exact P.elim
theorem os_le : OpS K (rI0 fun i j => .bl (decide (i ≤ j))) fLe := by
  intro W φ μ Hs M H σ x y v w Q S rx ry P
  unfold fLe at P
  split at P
  · cases int_ok rx
    cases int_ok ry
    exact ⟨_, _, rfl, rfl, P.here S (.bl _)⟩
  · exact P.elim
theorem os_gt : OpS K (rI0 fun i j => .bl (decide (j < i))) fGt := by
  intro W φ μ Hs M H σ x y v w Q S rx ry P
  unfold fGt at P
  split at P
  · cases int_ok rx
    cases int_ok ry
    exact ⟨_, _, rfl, rfl, P.here S (.bl _)⟩
  · exact P.elim
theorem os_ge : OpS K (rI0 fun i j => .bl (decide (j ≤ i))) fGe := by
  intro W φ μ Hs M H σ x y v w Q S rx ry P
  unfold fGe at P
  split at P
  · cases int_ok rx
    cases int_ok ry
    exact ⟨_, _, rfl, rfl, P.here S (.bl _)⟩
  · exact P.elim
end

/-! ### equality -/
mutual
def D.py : D → Option PyData
  | .non => some .none
  | .bl b => some (.bool b)
  | .int i => some (.int i)
  | .str x => some (.str x)
  | .tup xs => (match D.pys xs with
    | some ps => some (.tuple ps)
    | none => none)
  | .lst xs => (match D.pys xs with
    | some ps => some (.list ps)
    | none => none)
  | .scr ns => some (.list (ns.map PyData.int))
  | .ins _ _ => none
  | .dic _ => none
def D.pys : List D → Option (List PyData)
  | [] => some []
  | x :: xs => (match D.py x, D.pys xs with
    | some p, some ps => some (p :: ps)
    | _, _ => none)
end
def pyV (M : List Mu) : Vl → Option PyData
  | .d x => x.py
  | .m k => (match M[k]? with
    | some (.lst xs) => (match D.pys xs with
      | some ps => some (.list ps)
      | none => none)
    | _ => none)
section
variable {K : PySem.W.Frag} {H : Hp}
theorem dp_ints (ns : List Int) : DpAll K H (ns.map V.int) (ns.map PyData.int) := by
  induction ns with
  | nil => exact .nil
  | cons n r ih => exact .cons (.int n) ih
theorem dp_of {d : D} {v : V} (h : Rep K H d v) : ∀ p, D.py d = some p → Dp K H v p := by
  refine Rep.rec (K := K) (H := H) (motive_1 := fun d v _ => ∀ p, D.py d = some p → Dp K H v p) (motive_2 := fun ds vs _ => ∀ ps, D.pys ds = some ps → DpAll K H vs ps) (motive_3 := fun _ _ _ => True) (motive_4 := fun _ _ _ => True)
    ?_ ?_ ?_ ?_ ?_ ?_ ?_ ?_ ?_ ?_ ?_ ?_ ?_ ?_ ?_ h
  · intro p e; cases e; exact .non
  · intro b p e; cases e; exact .bl b
  · intro i p e; cases e; exact .int i
  · intro x p e; cases e; exact .str x
  · intro a ds vs h1 _ ih p e
    unfold D.py at e
    cases q : D.pys ds with
    | none => rw [q] at e; cases e
    | some ps => rw [q] at e; cases e; exact .tup h1 (ih ps q)
  · intro a ds vs h1 _ ih p e
    unfold D.py at e
    cases q : D.pys ds with
    | none => rw [q] at e; cases e
    | some ps => rw [q] at e; cases e; exact .lst (SqL.of h1) (ih ps q)
  · intro a ns h1 p e; cases e; exact .lst h1 (dp_ints ns)
  · intro a dx C fs fvs _ _ _ p e; cases e
  · intro a kvs kvv _ _ _ p e; cases e
  · intro ps e; cases e; exact .nil
  · intro d v ds vs _ _ i1 i2 ps e
    unfold D.pys at e
    cases q1 : D.py d with
    | none => rw [q1] at e; cases e
    | some p1 =>
      cases q2 : D.pys ds with
      | none => rw [q1, q2] at e; cases e
      | some p2 => rw [q1, q2] at e; cases e; exact .cons (i1 p1 q1) (i2 p2 q2)
  · trivial
  · intros; trivial
  · trivial
  · intros; trivial
theorem dps_of : ∀ {ds : List D} {vs : List V}, Reps K H ds vs → ∀ ps, D.pys ds = some ps → DpAll K H vs ps
  | _, _, .nil, _, e => by cases e; exact .nil
  | d :: ds, _, .cons r rs, ps, e => by
    unfold D.pys at e
    cases q1 : D.py d with
    | none => rw [q1] at e; cases e
    | some p1 =>
      cases q2 : D.pys ds with
      | none => rw [q1, q2] at e; cases e
      | some p2 => rw [q1, q2] at e; cases e; exact .cons (dp_of r p1 q1) (dps_of rs p2 q2)
theorem pyV_ok {φ : Hp} {μ : List Addr} {Hs : Hp} {M : List Mu} {x : Vl} {v : V} {p : PyData} (S : SRel K φ μ Hs M H) (r : RepV K μ Hs x v) (h : pyV M x = some p) : Dp K H v p := by
  cases x with
  | d x => exact dp_of (Rep.mono S.ex r) p h
  | m k =>
    have h : (match M[k]? with
      | some (.lst xs) => (match D.pys xs with
        | some ps => some (.list ps)
        | none => none)
      | _ => none) = some p := h
    cases e : M[k]? with
    | none => rw [e] at h; cases h
    | some m =>
      rw [e] at h
      cases m with
      | lst xs =>
        obtain ⟨a, vs, rfl, _, h1, h2⟩ := mut_lst S e r
        cases q : D.pys xs with
        | none => simp only [q] at h; cases h
        | some ps => simp only [q] at h; cases h; exact .lst (SqL.of h1) (dps_of (h2.mono S.ex) ps q)
      | _ => cases h
end
def fEq : F2 := fun x y M => match x, y with
  | .d (.int i), .d (.int j) => .ok (.d (.bl (decide (i = j)))) M
  | .d (.str i), .d (.str j) => .ok (.d (.bl (decide (i = j)))) M
  | .d (.bl i), .d (.bl j) => .ok (.d (.bl (decide (i = j)))) M
  | x, y => match pyV M x, pyV M y with
    | some p, some q => if SeqAt.shaped p && SeqAt.shaped q then .ok (.d (.bl (PyData.eqv p q))) M else .bad
    | _, _ => .bad
def fNe : F2 := fun x y M => match x, y with
  | .d (.int i), .d (.int j) => .ok (.d (.bl (!decide (i = j)))) M
  | .d (.str i), .d (.str j) => .ok (.d (.bl (!decide (i = j)))) M
  | .d (.bl i), .d (.bl j) => .ok (.d (.bl (!decide (i = j)))) M
  | x, y => match pyV M x, pyV M y with
    | some p, some q => if SeqAt.shaped p && SeqAt.shaped q then .ok (.d (.bl (!PyData.eqv p q))) M else .bad
    | _, _ => .bad
def rEqA (K : PySem.W.Frag) : R2 := fun x y H Q => rEq x y H Q ∨ rEqD K x y H Q
def rNeA (K : PySem.W.Frag) : R2 := fun x y H Q => rNe x y H Q ∨ rNeD K x y H Q
section
variable {X : Cx} {K : PySem.W.Frag}
theorem op_eqA (hu : X.A.units + 64 < cLine) : OpR X (compareOp .Eq) (rEqA X.K) := op_eq.or (op_eqD hu)
theorem op_neA (hu : X.A.units + 64 < cLine) : OpR X (compareOp .NotEq) (rNeA X.K) := op_ne.or (op_neD hu)
theorem dec_of {α : Type} [DecidableEq α] {f : α → V} (hf : ∀ a b, f a = f b → a = b) (a b : α) : decide (f a = f b) = decide (a = b) := by
  rw [Bool.eq_iff_iff, decide_eq_true_eq, decide_eq_true_eq]
  exact ⟨hf a b, fun e => by rw [e]⟩
theorem os_eq : OpS K (rEqA K) fEq := by
  intro W φ μ Hs M H σ x y v w Q S rx ry P
  unfold fEq at P
  split at P
  · cases int_ok rx
    cases int_ok ry
    refine .inl ⟨rfl, ?_⟩
    rw [dec_of (f := V.int) (fun _ _ e => by injection e)]
    exact P.here S (.bl _)
  · cases str_ok rx
    cases str_ok ry
    refine .inl ⟨rfl, ?_⟩
    rw [dec_of (f := V.str) (fun _ _ e => by injection e)]
    exact P.here S (.bl _)
  · cases bl_ok rx
    cases bl_ok ry
    refine .inl ⟨rfl, ?_⟩
    rw [dec_of (f := V.bl) (fun _ _ e => by injection e)]
    exact P.here S (.bl _)
  · split at P
    · rename_i p q h1 h2
      split at P
      · rename_i hc
        obtain ⟨c1, c2⟩ := Bool.and_eq_true_iff.mp hc
        exact .inr ⟨p, q, pyV_ok S rx h1, pyV_ok S ry h2, c1, c2, P.here S (.bl _)⟩
      · exact P.elim
    · exact P.elim
theorem os_ne : OpS K (rNeA K) fNe := by
  intro W φ μ Hs M H σ x y v w Q S rx ry P
  unfold fNe at P
  split at P
  · cases int_ok rx
    cases int_ok ry
    refine .inl ⟨rfl, ?_⟩
    rw [dec_of (f := V.int) (fun _ _ e => by injection e)]
    exact P.here S (.bl _)
  · cases str_ok rx
    cases str_ok ry
    refine .inl ⟨rfl, ?_⟩
    rw [dec_of (f := V.str) (fun _ _ e => by injection e)]
    exact P.here S (.bl _)
  · cases bl_ok rx
    cases bl_ok ry
    refine .inl ⟨rfl, ?_⟩
    rw [dec_of (f := V.bl) (fun _ _ e => by injection e)]
    exact P.here S (.bl _)
  · split at P
    · rename_i p q h1 h2
      split at P
      · rename_i hc
        obtain ⟨c1, c2⟩ := Bool.and_eq_true_iff.mp hc
        exact .inr ⟨p, q, pyV_ok S rx h1, pyV_ok S ry h2, c1, c2, P.here S (.bl _)⟩
      · exact P.elim
    · exact P.elim
end

/-! ### in, is -/
def flatD : D → Bool
  | .non => true
  | .bl _ => true
  | .int _ => true
  | .str _ => true
  | _ => false
def eqF : D → D → Bool
  | .non, .non => true
  | .bl a, .bl b => a == b
  | .bl a, .int b => (if a then 1 else 0) == b
  | .int a, .bl b => a == (if b then 1 else 0)
  | .int a, .int b => a == b
  | .str a, .str b => a == b
  | _, _ => false
def seqA (M : List Mu) : Vl → Option (List D)
  | .d (.tup xs) => some xs
  | x => seqL M x
def memD (x : D) (xs : List D) : Bool := xs.any fun y => eqF y x
def fInG (neg : Bool) : F2 := fun x y M => match x with
  | .d x => (match seqA M y with
    | some ys => if flatD x && ys.all flatD then .ok (.d (.bl (if neg then !memD x ys else memD x ys))) M else .bad
    | none => .bad)
  | _ => .bad
def isNonV : Vl → Bool
  | .d .non => true
  | _ => false
def fIsN : F2 := fun x y M => match y with
  | .d .non => .ok (.d (.bl (isNonV x))) M
  | _ => .bad
def fNotN : F2 := fun x y M => match y with
  | .d .non => .ok (.d (.bl (!isNonV x))) M
  | _ => .bad
section
variable {K : PySem.W.Frag} {φ : Hp} {μ : List Addr} {Hs H : Hp} {M : List Mu}
theorem flat_ok {d : D} {v : V} (r : Rep K H d v) (h : flatD d = true) : flatV v = true := by
  cases r <;> first | rfl | exact Bool.noConfusion h
theorem eq_ok {d e : D} {v w : V} (r : Rep K H d v) (s : Rep K H e w) (h : flatD d = true) (h' : flatD e = true) : eqV v w = eqF d e := by
  cases r <;> first | exact Bool.noConfusion h | (cases s <;> first | exact Bool.noConfusion h' | rfl)
theorem flats_ok : ∀ {ds : List D} {vs : List V}, Reps K H ds vs → ds.all flatD = true → vs.all flatV = true
  | _, _, .nil, _ => rfl
  | _, _, .cons a b, h => by
    rw [List.all_cons, Bool.and_eq_true_iff] at h ⊢
    exact ⟨flat_ok a h.1, flats_ok b h.2⟩
theorem mem_ok {x : D} {v : V} (r : Rep K H x v) (hx : flatD x = true) : ∀ {ds : List D} {vs : List V}, Reps K H ds vs → ds.all flatD = true → inV v vs = memD x ds
  | _, _, .nil, _ => rfl
  | _, _, .cons a b, h => by
    rw [List.all_cons, Bool.and_eq_true_iff] at h
    have ih := mem_ok r hx b h.2
    unfold inV memD at ih ⊢
    rw [List.any_cons, List.any_cons, ih, eq_ok a r h.1 hx]
theorem seqA_ok {x : Vl} {v : V} {ds : List D} (S : SRel K φ μ Hs M H) (r : RepV K μ Hs x v) (h : seqA M x = some ds) : ∃ a vs, v = .ref a ∧ (SqL K H a vs ∨ SqT K H a vs) ∧ Reps K Hs ds vs := by
  unfold seqA at h
  split at h
  · cases h
    obtain ⟨a, vs, rfl, h1, _, h2⟩ := tup_ok S r
    exact ⟨a, vs, rfl, .inr h1, h2⟩
  · obtain ⟨a, vs, rfl, h1, h2⟩ := seqL_ok S r h
    exact ⟨a, vs, rfl, .inl h1, h2⟩
theorem os_in (neg : Bool) : OpS K (rIn K neg) (fInG neg) := by
  intro W φ μ Hs M H σ x y v w Q S rx ry P
  unfold fInG at P
  split at P
  · rename_i x
    split at P
    · rename_i ys h1
      obtain ⟨a, vs, rfl, h2, h3⟩ := seqA_ok S ry h1
      split at P
      · rename_i hc
        obtain ⟨c1, c2⟩ := Bool.and_eq_true_iff.mp hc
        refine ⟨a, vs, rfl, h2, flat_ok rx c1, flats_ok h3 c2, ?_⟩
        rw [mem_ok rx c1 h3 c2]
        exact P.here S (.bl _)
      · exact P.elim
    · exact P.elim
  · exact P.elim
theorem rep_non {x : Vl} {v : V} (r : RepV K μ Hs x v) : decide (v = .non) = isNonV x := by
  cases x with
  | d x => cases (show Rep K Hs x v from r) <;> rfl
  | m k => obtain ⟨a, _, rfl⟩ := r; rfl
theorem os_isN : OpS K (fun x y H Q => y = .non ∧ Q (.bl (decide (x = .non))) H) fIsN := by
  intro W φ μ Hs M H σ x y v w Q S rx ry P
  unfold fIsN at P
  split at P
  · cases non_ok ry
    refine ⟨rfl, ?_⟩
    rw [rep_non rx]
    exact P.here S (.bl _)
  · exact P.elim
theorem os_notN : OpS K (fun x y H Q => y = .non ∧ Q (.bl (!decide (x = .non))) H) fNotN := by
  intro W φ μ Hs M H σ x y v w Q S rx ry P
  unfold fNotN at P
  split at P
  · cases non_ok ry
    refine ⟨rfl, ?_⟩
    rw [rep_non rx]
    exact P.here S (.bl _)
  · exact P.elim
end
end Wv

namespace Wv
open PySem PySem.Spec PyProof.Rows L2

theorem bnd_assoc {α β γ : Type} (m : Sm α) (f : α → Sm β) (g : β → Sm γ) : bnd (bnd m f) g = bnd m fun x => bnd (f x) g := by
  funext ρ M
  unfold bnd
  cases m ρ M <;> rfl

/-! ### items, slices -/
section
variable {K : PySem.W.Frag} {H : Hp}
theorem atI_reps {ds : List D} {vs : List V} (h : Reps K H ds vs) {i : Int} {d : D} (e : atI ds i = some d) : ∃ v, atI vs i = some v ∧ Rep K H d v := by
  unfold atI at e ⊢
  rw [← h.length]
  cases q : ixN ds.length i with
  | none => rw [q] at e; cases e
  | some j =>
    rw [q] at e
    exact h.get (i := j) e
end
def fIx : F2 := fun x y M => match y with
  | .d (.int i) => (match x with
    | .d (.str z) => if z.length ≤ sizeLine then (match atI z.cps.toList i with
      | some c => .ok (.d (.str ⟨#[c]⟩)) M
      | none => .bad) else .bad
    | x => (match seqA M x with
      | some ds => (match atI ds i with
        | some d => .ok (.d d) M
        | none => .bad)
      | none => .bad))
  | _ => .bad
theorem os_ix {K : PySem.W.Frag} : OpS K (rIx K) fIx := by
  intro W φ μ Hs M H σ x y v w Q S rx ry P
  unfold fIx at P
  split at P
  · rename_i i
    cases int_ok ry
    split at P
    · rename_i z
      cases str_ok rx
      split at P
      · rename_i hz
        split at P
        · rename_i c hc
          exact .inr (.inr ⟨z, i, c, rfl, rfl, hz, hc, P.here S (.str _)⟩)
        · exact P.elim
      · exact P.elim
    · split at P
      · rename_i ds h1
        split at P
        · rename_i d h2
          obtain ⟨a, vs, rfl, h3, h4⟩ := seqA_ok S rx h1
          obtain ⟨u, h5, h6⟩ := atI_reps h4 h2
          rcases h3 with h3 | h3
          · exact .inl ⟨a, vs, i, u, rfl, rfl, h3, h5, P.here S h6⟩
          · exact .inr (.inl ⟨a, vs, i, u, rfl, rfl, h3, h5, P.here S h6⟩)
        · exact P.elim
      · exact P.elim
  · exact P.elim
def cutD (xs : List D) (lo hi : Option Int) : List D := (xs.drop (HT.sIx xs.length 0 lo)).take (HT.sIx xs.length xs.length hi - HT.sIx xs.length 0 lo)
theorem cut_reps {K : PySem.W.Frag} {H : Hp} {ds : List D} {vs : List V} (h : Reps K H ds vs) (lo hi : Option Int) : Reps K H (cutD ds lo hi) (cutV vs lo hi) := by
  unfold cutD cutV
  rw [h.length]
  exact (h.drop _).take _
abbrev FSl := Vl → Option Int → Option Int → List Mu → Res Vl
def fSl : FSl := fun x lo hi M => match x with
  | .d (.str z) => if z.length ≤ sizeLine then .ok (.d (.str (cutS z lo hi))) M else .bad
  | .d (.tup xs) => .ok (.d (.tup (cutD xs lo hi))) M
  | x => (match seqL M x with
    | some xs => .ok (.d (.lst (cutD xs lo hi))) M
    | none => .bad)
def rSlAll (K : PySem.W.Frag) : V → Option Int → Option Int → Hp → VK → Prop := fun x lo hi H Q => rSlS x lo hi H Q ∨ rSlA K x lo hi H Q ∨ rSlL K x lo hi H Q
theorem sl_all {X : Cx} : SlR X (rSlAll X.K) := sl_str.or (sl_tupA.or sl_list)
theorem cut_whole {xs : List D} {lo hi : Option Int} (h : HT.sIx xs.length 0 lo = 0 ∧ HT.sIx xs.length xs.length hi = xs.length) : cutD xs lo hi = xs := by
  unfold cutD
  rw [h.1, h.2]
  simp
theorem ss_all {K : PySem.W.Frag} (W : WX) (φ : Hp) (μ : List Addr) (Hs : Hp) (M : List Mu) (H : Hp) (σ : L2.St) (x : Vl) (v : V) (lo hi : Option Int) (Q : VK) (S : SRel K φ μ Hs M H) (rx : RepV K μ Hs x v)
    (P : Post K W (RepV K) φ μ Hs σ (fSl x lo hi M) Q) : rSlAll K v lo hi H Q := by
  unfold fSl at P
  split at P
  · cases str_ok rx
    split at P
    · exact .inl ⟨_, rfl, by assumption, P.here S (.str _)⟩
    · exact P.elim
  · rename_i xs
    obtain ⟨a, vs, rfl, h1, h1', h2⟩ := tup_ok S rx
    refine .inr (.inl ⟨a, vs, rfl, h1, fun e => ?_, fun _ p hp => P.newT S (cut_reps h2 lo hi) hp⟩)
    rw [← h2.length] at e
    rw [cut_whole e] at P
    exact P.here S rx
  · split at P
    · rename_i xs h1
      obtain ⟨a, vs, rfl, h3, h4⟩ := seqL_ok S rx h1
      exact .inr (.inr ⟨a, vs, rfl, h3, fun p hp => P.newL S (cut_reps h4 lo hi) hp⟩)
    · exact P.elim
def eNoPart : Sm (Option Int) := fun _ M => .ok none M
def ePart (m : Sm Vl) : Sm (Option Int) := bnd m fun x _ M => match x with
  | .d (.int i) => .ok (some i) M
  | _ => .bad
def eSl (a : Sm Vl) (lo hi : Sm (Option Int)) : Sm Vl := bnd a fun x => bnd lo fun l => bnd hi fun h _ M => fSl x l h M
section
variable {X : Cx} {W : WX}
theorem j_ix {a b : Expr} {pos : Pos} {ma mb : Sm Vl} (ha : PE X a (rd X.K W ma)) (hb : PE X b (rd X.K W mb)) (hs : PlainIx b) : PE X (.Subscript a b pos) (rd X.K W (eOp fIx ma mb)) := by
  refine pe_imp (pe_ix ix_seq ha hb hs) fun σ H Q h => ?_
  refine rdR.then h fun x v H1 φ μ Hs M ρ S E r P => ⟨φ, μ, Hs, M, ρ, S, E, P.bnd fun y M2 μ2 Hs2 H2 w p e S2 r2 P2 => ?_⟩
  exact os_ix W φ μ2 Hs2 M2 H2 σ x y v w Q S2 (r.mono p e) r2 P2
theorem jo_none : PO X none (rdO X.K W eNoPart) := by
  refine po_imp po_none fun σ H Q h => ?_
  obtain ⟨φ, μ, Hs, M, ρ, S, E, P⟩ := h
  exact P.here S rfl
theorem jo_some {e : Expr} {m : Sm Vl} (h : PE X e (rd X.K W m)) : PO X (some e) (rdO X.K W (ePart m)) := by
  refine po_imp (po_some h) fun σ H Q h => ?_
  refine rdR.then h fun x v H1 φ μ Hs M ρ S E r P => ?_
  split at P
  · exact ⟨_, int_ok r, P.here S rfl⟩
  · exact P.elim
theorem j_slice {e : Expr} {lo hi : Option Expr} {p2 pos : Pos} {m : Sm Vl} {l h : Sm (Option Int)} (he : PE X e (rd X.K W m)) (hl : PO X lo (rdO X.K W l)) (hh : PO X hi (rdO X.K W h)) :
    PE X (.Subscript e (.Slice lo hi none p2) pos) (rd X.K W (eSl m l h)) := by
  refine pe_imp (pe_slice sl_all he hl hh) fun σ H Q h => ?_
  refine rdR.then h fun x v H1 φ μ Hs M ρ S E r P => ⟨φ, μ, Hs, M, ρ, S, E, P.bnd fun y M2 μ2 Hs2 H2 w p e S2 r2 P2 => ⟨φ, μ2, Hs2, M2, ρ, S2, E.mono p e, P2.bnd fun z M3 μ3 Hs3 H3 u p3 e3 S3 r3 P3 => ?_⟩⟩
  cases r2
  cases r3
  exact ss_all W φ μ3 Hs3 M3 H3 σ x v _ _ Q S3 (r.mono (pre_trans p p3) (e.trans e3)) P3
end

/-! ### tests -/
def truthV (M : List Mu) : Vl → Option Bool
  | .d .non => some false
  | .d (.bl b) => some b
  | .d (.int i) => some (i != 0)
  | .d (.str z) => if z.length ≤ sizeLine then some ((z.length : Int) != 0) else none
  | x => (match seqA M x with
    | some ds => some (!ds.isEmpty)
    | none => none)
theorem reps_empty {K : PySem.W.Frag} {H : Hp} {ds : List D} {vs : List V} (h : Reps K H ds vs) : vs.isEmpty = ds.isEmpty := by
  cases h <;> rfl
theorem truthV_ok {K : PySem.W.Frag} {φ : Hp} {μ : List Addr} {Hs H : Hp} {M : List Mu} {x : Vl} {v : V} {b : Bool} (S : SRel K φ μ Hs M H) (r : RepV K μ Hs x v) (h : truthV M x = some b) : TruV K v H b := by
  unfold truthV at h
  split at h
  · cases non_ok r; cases h; rfl
  · cases bl_ok r; cases h; rfl
  · cases int_ok r; cases h; rfl
  · cases str_ok r
    split at h
    · cases h; exact ⟨by assumption, rfl⟩
    · cases h
  · split at h
    · rename_i ds h1
      cases h
      obtain ⟨a, vs, rfl, h3, h4⟩ := seqA_ok S r h1
      rcases h3 with h3 | h3
      · exact .inl ⟨vs, h3, by rw [reps_empty h4]⟩
      · exact .inr (.inl ⟨vs, h3, by rw [reps_empty h4]⟩)
    · cases h
def eTru (m : Sm Vl) : Sm Bool := bnd m fun x _ M => match truthV M x with
  | some b => .ok b M
  | none => .bad
def eBool (m : Sm Vl) : Sm Bool := bnd m fun x _ M => match x with
  | .d (.bl b) => .ok b M
  | _ => .bad
def eNotT (m : Sm Bool) : Sm Bool := bnd m fun b _ M => .ok (!b) M
def eAndT (a b : Sm Bool) : Sm Bool := bnd a fun x => if x = true then b else fun _ M => .ok false M
def eOrT (a b : Sm Bool) : Sm Bool := bnd a fun x => if x = true then fun _ M => .ok true M else b
def eIf (c : Sm Bool) (a b : Sm Vl) : Sm Vl := bnd c fun x => if x = true then a else b
/-- and, or, not of truth values -/
def eAnd (a b : Sm Vl) : Sm Vl := bnd a fun x => match x with
  | .d (.bl true) => b
  | .d (.bl false) => fun _ M => .ok (.d (.bl false)) M
  | _ => fun _ _ => .bad
def eOr (a b : Sm Vl) : Sm Vl := bnd a fun x => match x with
  | .d (.bl true) => fun _ M => .ok (.d (.bl true)) M
  | .d (.bl false) => b
  | _ => fun _ _ => .bad
def eNot (a : Sm Vl) : Sm Vl := bnd a fun x _ M => match x with
  | .d (.bl b) => .ok (.d (.bl (!b))) M
  | _ => .bad
/-- a op b op' c -/
def eChain (f g : F2) (a b c : Sm Vl) : Sm Vl := bnd a fun x => bnd b fun y => bnd (fun _ M => f x y M) fun z => match z with
  | .d (.bl true) => bnd c fun w _ M => g y w M
  | .d (.bl false) => fun _ M => .ok (.d (.bl false)) M
  | _ => fun _ _ => .bad
section
variable {X : Cx} {W : WX}
theorem jt_tru {a : Expr} {m : Sm Vl} (ha : PE X a (rd X.K W m)) (he : ∀ whole, isTrue a X.env whole = (do let v ← whole; standAt a.pos; holding [v] (truthy v)) := by intro _; rfl) : PT X a (rdT X.K W (eTru m)) := by
  refine pt_imp (pt_truth ha he) fun σ H Q h => ?_
  refine rdR.then h fun x v H1 φ μ Hs M ρ S E r P => ?_
  split at P
  · rename_i b hb
    exact ⟨b, truthV_ok S r hb, P.here S rfl⟩
  · exact P.elim
theorem jt_bool {a : Expr} {m : Sm Vl} (ha : PE X a (rd X.K W m)) (he : ∀ whole, isTrue a X.env whole = (do let v ← whole; standAt a.pos; holding [v] (truthy v)) := by intro _; rfl) : PT X a (rdT X.K W (eBool m)) := by
  refine pt_imp (pt_truth ha he) fun σ H Q h => ?_
  refine rdR.then h fun x v H1 φ μ Hs M ρ S E r P => ?_
  split at P
  · cases bl_ok r
    exact ⟨_, rfl, P.here S rfl⟩
  · exact P.elim
theorem jt_cmp {op : CmpOp} {a b : Expr} {pos : Pos} {r : R2} {f : F2} {ma mb : Sm Vl} (ho : OpR X (compareOp op) r) (hs : OpS X.K r f) (ha : PE X a (rd X.K W ma)) (hb : PE X b (rd X.K W mb)) (hm : behindInMarks op b = false) :
    PT X (.Compare a [op] [b] pos) (rdT X.K W (eBool (eOp f ma mb))) := by
  refine pt_imp (pt_cmpR ho ha hb hm) fun σ H Q h => ?_
  unfold eBool eOp at h
  rw [bnd_assoc] at h
  refine rdR.then h fun x v H1 φ μ1 Hs1 M1 ρ S1 E r1 P1 => ⟨φ, μ1, Hs1, M1, ρ, S1, E, ?_⟩
  rw [bnd_assoc] at P1
  refine P1.bnd fun y M2 μ2 Hs2 H2 w p2 e2 S2 r2 P2 => ?_
  refine hs W φ μ2 Hs2 M2 H2 σ x y v w _ S2 (r1.mono p2 e2) r2 (P2.bnd (m := fun _ M => f x y M) fun z M3 μ3 Hs3 H3 u p3 e3 S3 r3 P3 => ?_)
  split at P3
  · exact ⟨_, bl_ok r3, P3.here S3 rfl⟩
  · exact P3.elim
theorem jt_chain {op op' : CmpOp} {a b c : Expr} {pos : Pos} {r r' : R2} {f g : F2} {ma mb mc : Sm Vl} (ho : OpR X (compareOp op) r) (hs : OpS X.K r f) (ho' : OpR X (compareOp op') r') (hs' : OpS X.K r' g) (ha : PE X a (rd X.K W ma)) (hb : PE X b (rd X.K W mb)) (hc : PE X c (rd X.K W mc))
    (hm : lastMarks [op, op'] [b, c] = false := by rfl) : PT X (.Compare a [op, op'] [b, c] pos) (rdT X.K W (eBool (eChain f g ma mb mc))) := by
  refine pt_imp (pt_chain ho ho' ha hb hc hm) fun σ H Q h => ?_
  unfold eBool eChain at h
  rw [bnd_assoc] at h
  refine rdR.then h fun x v H1 φ μ1 Hs1 M1 ρ S1 E r1 P1 => ⟨φ, μ1, Hs1, M1, ρ, S1, E, ?_⟩
  rw [bnd_assoc] at P1
  refine P1.bnd fun y M2 μ2 Hs2 H2 w p2 e2 S2 r2 P2 => ?_
  rw [bnd_assoc] at P2
  refine hs W φ μ2 Hs2 M2 H2 σ x y v w _ S2 (r1.mono p2 e2) r2 (P2.bnd (m := fun _ M => f x y M) fun z M3 μ3 Hs3 H3 u p3 e3 S3 r3 P3 => ?_)
  split at P3
  · refine ⟨true, bl_ok r3, ?_⟩
    rw [if_pos rfl]
    rw [bnd_assoc] at P3
    refine ⟨φ, μ3, Hs3, M3, ρ, S3, E.mono (pre_trans p2 p3) (e2.trans e3), P3.bnd fun t M4 μ4 Hs4 H4 k p4 e4 S4 r4 P4 => ?_⟩
    refine hs' W φ μ4 Hs4 M4 H4 σ y t w k _ S4 (r2.mono (pre_trans p3 p4) (e3.trans e4)) r4 (P4.bnd (m := fun _ M => g y t M) fun q M5 μ5 Hs5 H5 k5 p5 e5 S5 r5 P5 => ?_)
    split at P5
    · exact ⟨_, bl_ok r5, P5.here S5 rfl⟩
    · exact P5.elim
  · refine ⟨false, bl_ok r3, ?_⟩
    rw [if_neg Bool.false_ne_true]
    exact ⟨false, rfl, Post.here (M := M3) P3 S3 rfl⟩
  · exact P3.elim
theorem jt_not {a : Expr} {pos : Pos} {m : Sm Bool} (h : PT X a (rdT X.K W m)) : PT X (.UnaryOp .Not a pos) (rdT X.K W (eNotT m)) := by
  refine pt_imp (pt_not h) fun σ H Q h => ?_
  refine rdR.then h fun x v H1 φ μ Hs M ρ S E r P => ?_
  cases r
  exact P.here S rfl
theorem jw_and1 {a : Expr} {pos : Pos} {m : Sm Bool} (h : PT X a (rdT X.K W m)) : PW X (.BoolOp .And [a] pos) (rdT X.K W m) := pw_and1 h
theorem jw_or1 {a : Expr} {pos : Pos} {m : Sm Bool} (h : PT X a (rdT X.K W m)) : PW X (.BoolOp .Or [a] pos) (rdT X.K W m) := pw_or1 h
theorem jw_and {a b : Expr} {rest : List Expr} {pos : Pos} {m n : Sm Bool} (h : PT X a (rdT X.K W m)) (h' : PW X (.BoolOp .And (b :: rest) pos) (rdT X.K W n)) : PW X (.BoolOp .And (a :: b :: rest) pos) (rdT X.K W (eAndT m n)) := by
  refine pw_imp (pw_and h h') fun σ H Q h => ?_
  refine rdR.then h fun x v H1 φ μ Hs M ρ S E r P => ?_
  cases r
  cases x with
  | true =>
    rw [if_pos rfl] at P ⊢
    exact ⟨φ, μ, Hs, M, ρ, S, E, P⟩
  | false =>
    rw [if_neg Bool.false_ne_true] at P ⊢
    exact P.here S rfl
theorem jw_or {a b : Expr} {rest : List Expr} {pos : Pos} {m n : Sm Bool} (h : PT X a (rdT X.K W m)) (h' : PW X (.BoolOp .Or (b :: rest) pos) (rdT X.K W n)) : PW X (.BoolOp .Or (a :: b :: rest) pos) (rdT X.K W (eOrT m n)) := by
  refine pw_imp (pw_or h h') fun σ H Q h => ?_
  refine rdR.then h fun x v H1 φ μ Hs M ρ S E r P => ?_
  cases r
  cases x with
  | true =>
    rw [if_pos rfl] at P ⊢
    exact P.here S rfl
  | false =>
    rw [if_neg Bool.false_ne_true] at P ⊢
    exact ⟨φ, μ, Hs, M, ρ, S, E, P⟩
theorem j_if {c a b : Expr} {pos : Pos} {mc : Sm Bool} {ma mb : Sm Vl} (hc : PT X c (rdT X.K W mc)) (ha : PE X a (rd X.K W ma)) (hb : PE X b (rd X.K W mb)) : PE X (.IfExp c a b pos) (rd X.K W (eIf mc ma mb)) := by
  refine pe_imp (pe_ifExp hc ha hb) fun σ H Q h => ?_
  refine rdR.then h fun x v H1 φ μ Hs M ρ S E r P => ?_
  cases r
  cases x with
  | true =>
    rw [if_pos rfl] at P ⊢
    exact ⟨φ, μ, Hs, M, ρ, S, E, P⟩
  | false =>
    rw [if_neg Bool.false_ne_true] at P ⊢
    exact ⟨φ, μ, Hs, M, ρ, S, E, P⟩
theorem j_one {op : BoolOp} {a : Expr} {pos : Pos} {m : Sm Vl} (h : PE X a (rd X.K W m)) : PE X (.BoolOp op [a] pos) (rd X.K W m) := pe_one h
theorem j_and {a b : Expr} {rest : List Expr} {pos : Pos} {m n : Sm Vl} (h : PE X a (rd X.K W m)) (h' : PE X (.BoolOp .And (b :: rest) pos) (rd X.K W n)) : PE X (.BoolOp .And (a :: b :: rest) pos) (rd X.K W (eAnd m n)) := by
  refine pe_imp (pe_and h h') fun σ H Q h => ?_
  refine rdR.then h fun x v H1 φ μ Hs M ρ S E r P => ?_
  split at P
  · refine ⟨true, bl_ok r, ?_⟩
    rw [if_pos rfl]
    exact ⟨φ, μ, Hs, M, ρ, S, E, P⟩
  · refine ⟨false, bl_ok r, ?_⟩
    rw [if_neg Bool.false_ne_true]
    exact P.here S (.bl _)
  · exact P.elim
theorem j_or {a b : Expr} {rest : List Expr} {pos : Pos} {m n : Sm Vl} (h : PE X a (rd X.K W m)) (h' : PE X (.BoolOp .Or (b :: rest) pos) (rd X.K W n)) : PE X (.BoolOp .Or (a :: b :: rest) pos) (rd X.K W (eOr m n)) := by
  refine pe_imp (pe_or h h') fun σ H Q h => ?_
  refine rdR.then h fun x v H1 φ μ Hs M ρ S E r P => ?_
  split at P
  · refine ⟨true, bl_ok r, ?_⟩
    rw [if_pos rfl]
    exact P.here S (.bl _)
  · refine ⟨false, bl_ok r, ?_⟩
    rw [if_neg Bool.false_ne_true]
    exact ⟨φ, μ, Hs, M, ρ, S, E, P⟩
  · exact P.elim
theorem j_not {a : Expr} {pos : Pos} {m : Sm Vl} (h : PE X a (rd X.K W m)) : PE X (.UnaryOp .Not a pos) (rd X.K W (eNot m)) := by
  refine pe_imp (pe_not h) fun σ H Q h => ?_
  refine rdR.then h fun x v H1 φ μ Hs M ρ S E r P => ?_
  split at P
  · exact ⟨_, bl_ok r, P.here S (.bl _)⟩
  · exact P.elim
theorem j_chain {op op' : CmpOp} {a b c : Expr} {pos : Pos} {r r' : R2} {f g : F2} {ma mb mc : Sm Vl} (ho : OpR X (compareOp op) r) (hs : OpS X.K r f) (ho' : OpR X (compareOp op') r') (hs' : OpS X.K r' g) (ha : PE X a (rd X.K W ma)) (hb : PE X b (rd X.K W mb)) (hc : PE X c (rd X.K W mc)) (hm : lastMarks [op, op'] [b, c] = false := by rfl) :
    PE X (.Compare a [op, op'] [b, c] pos) (rd X.K W (eChain f g ma mb mc)) := by
  refine pe_imp (pe_chain ho ho' ha hb hc hm) fun σ H Q h => ?_
  refine rdR.then h fun x v H1 φ μ1 Hs1 M1 ρ S1 E r1 P1 => ⟨φ, μ1, Hs1, M1, ρ, S1, E, P1.bnd fun y M2 μ2 Hs2 H2 w p2 e2 S2 r2 P2 => ?_⟩
  refine hs W φ μ2 Hs2 M2 H2 σ x y v w _ S2 (r1.mono p2 e2) r2 (P2.bnd (m := fun _ M => f x y M) fun z M3 μ3 Hs3 H3 u p3 e3 S3 r3 P3 => ?_)
  split at P3
  · refine ⟨true, bl_ok r3, ?_⟩
    rw [if_pos rfl]
    refine ⟨φ, μ3, Hs3, M3, ρ, S3, E.mono (pre_trans p2 p3) (e2.trans e3), P3.bnd fun t M4 μ4 Hs4 H4 k p4 e4 S4 r4 P4 => ?_⟩
    exact hs' W φ μ4 Hs4 M4 H4 σ y t w k _ S4 (r2.mono (pre_trans p3 p4) (e3.trans e4)) r4 P4
  · refine ⟨false, bl_ok r3, ?_⟩
    rw [if_neg Bool.false_ne_true]
    exact P3.here S3 (.bl _)
  · exact P3.elim
end
end Wv

namespace Wv
open PySem PySem.Spec PyProof.Rows L2

/-! ### what is stored as data comes to rest -/
def frz1 (M : List Mu) : Vl → Option (D × List Mu)
  | .d x => some (x, M)
  | .m k => (match M[k]? with
    | some (.lst xs) => some (.lst xs, M.set k .dead)
    | some (.ins C fs) => some (.ins C fs, M.set k .dead)
    | _ => none)
def frzs : List Vl → List Mu → Option (List D × List Mu)
  | [], M => some ([], M)
  | x :: xs, M => (match frz1 M x with
    | some (d, M1) => (match frzs xs M1 with
      | some (ds, M2) => some (d :: ds, M2)
      | none => none)
    | none => none)
section
variable {K : PySem.W.Frag} {φ : Hp} {μ : List Addr}
theorem frz1_ok {Hs H : Hp} {M M' : List Mu} {x : Vl} {v : V} {d : D} (S : SRel K φ μ Hs M H) (r : RepV K μ Hs x v) (h : frz1 M x = some (d, M')) : ∃ Hs', Ex Hs Hs' ∧ SRel K φ μ Hs' M' H ∧ Rep K Hs' d v := by
  cases x with
  | d x =>
    cases h
    exact ⟨Hs, Ex.refl _, S, r⟩
  | m k =>
    have h : (match M[k]? with
      | some (.lst xs) => some (D.lst xs, M.set k .dead)
      | some (.ins C fs) => some (D.ins C fs, M.set k .dead)
      | _ => none) = some (d, M') := h
    obtain ⟨a, ha, rfl⟩ := r
    cases e : M[k]? with
    | none => rw [e] at h; cases h
    | some m =>
      rw [e] at h
      cases m with
      | lst xs =>
        cases h
        obtain ⟨_, _, vs, h1, h2⟩ := S.mu k a _ ha e (fun z => nomatch z)
        obtain ⟨S', ex⟩ := S.rest ha e (fun z => nomatch z) h1
        exact ⟨_, ex, S', .lst upd_same (h2.mono ex)⟩
      | ins C fs =>
        cases h
        obtain ⟨_, _, dx, fvs, h1, h2⟩ := S.mu k a _ ha e (fun z => nomatch z)
        obtain ⟨S', ex⟩ := S.rest ha e (fun z => nomatch z) h1
        exact ⟨_, ex, S', .ins upd_same (h2.mono ex)⟩
      | dead => cases h
theorem frzs_ok : ∀ {xs : List Vl} {vs : List V} {Hs H : Hp} {M M' : List Mu} {ds : List D}, SRel K φ μ Hs M H → RepVs K μ Hs xs vs → frzs xs M = some (ds, M') → ∃ Hs', Ex Hs Hs' ∧ SRel K φ μ Hs' M' H ∧ Reps K Hs' ds vs
  | _, _, Hs, H, M, M', ds, S, .nil, h => by
    cases h
    exact ⟨Hs, Ex.refl _, S, .nil⟩
  | x :: xs, _, Hs, H, M, M', ds, S, .cons r rs, h => by
    unfold frzs at h
    cases e1 : frz1 M x with
    | none => rw [e1] at h; cases h
    | some p =>
      obtain ⟨d, M1⟩ := p
      simp only [e1] at h
      cases e2 : frzs xs M1 with
      | none => rw [e2] at h; cases h
      | some q =>
        obtain ⟨ds', M2⟩ := q
        rw [e2] at h
        cases h
        obtain ⟨Hs1, ex1, S1, r1⟩ := frz1_ok S r e1
        obtain ⟨Hs2, ex2, S2, r2⟩ := frzs_ok S1 (rs.mono List.prefix_rfl ex1) e2
        exact ⟨Hs2, ex1.trans ex2, S2, .cons (r1.mono ex2) r2⟩
end
def eTup (as : Sm (List Vl)) : Sm Vl := bnd as fun xs _ M => match frzs xs M with
  | some (ds, M') => if ds.length ≤ sizeLine then .ok (.d (.tup ds)) M' else .bad
  | none => .bad
def eLst (as : Sm (List Vl)) : Sm Vl := bnd as fun xs _ M => match frzs xs M with
  | some (ds, M') => if ds.length ≤ sizeLine then .ok (.d (.lst ds)) M' else .bad
  | none => .bad
def eLstM (as : Sm (List Vl)) : Sm Vl := bnd as fun xs _ M => match frzs xs M with
  | some (ds, M') => if ds.length ≤ sizeLine then .ok (.m M'.length) (M' ++ [.lst ds]) else .bad
  | none => .bad
section
variable {X : Cx} {W : WX}
theorem j_tup {es : List Expr} {x1 : Nat} {pos : Pos} {as : Sm (List Vl)} (h : PA X es (rdA X.K W as)) : PE X (.Tuple es x1 pos) (rd X.K W (eTup as)) := by
  refine pe_imp (pe_tup h) fun σ H Q h => ?_
  refine rdR.then h fun xs vs H1 φ μ Hs M ρ S E r P => ?_
  split at P
  · rename_i ds M' e
    obtain ⟨Hs', ex, S', r'⟩ := frzs_ok S r e
    split at P
    · exact ⟨by rw [← r'.length]; assumption, fun p hp => Post.newT (P.mono List.prefix_rfl ex) S' r' hp⟩
    · exact P.elim
  · exact P.elim
theorem j_lst {es : List Expr} {pos : Pos} {as : Sm (List Vl)} (h : PA X es (rdA X.K W as)) : PE X (.List es pos) (rd X.K W (eLst as)) := by
  refine pe_imp (pe_lst h) fun σ H Q h => ?_
  refine rdR.then h fun xs vs H1 φ μ Hs M ρ S E r P => ?_
  split at P
  · rename_i ds M' e
    obtain ⟨Hs', ex, S', r'⟩ := frzs_ok S r e
    split at P
    · exact ⟨by rw [← r'.length]; assumption, fun p hp => Post.newL (P.mono List.prefix_rfl ex) S' r' hp⟩
    · exact P.elim
  · exact P.elim
theorem Post.newM {K : PySem.W.Frag} {W : WX} {φ : Hp} {μ : List Addr} {Hs H : Hp} {M : List Mu} {σ : L2.St} {Q : VK} {ds : List D} {vs : List V} (P : Post K W (RepV K) φ μ Hs σ (.ok (.m M.length) (M ++ [.lst ds])) Q) (S : SRel K φ μ Hs M H) (r : Reps K Hs ds vs) {p : Addr} (hp : H p = none) : Q (.ref p) (upd H p (.lst vs)) := by
  refine P.at (List.prefix_append μ [p]) (Ex.refl _) (S.make hp (.lst vs) ⟨vs, upd_same, r⟩ (fun z => nomatch z)) ⟨p, ?_, rfl⟩
  rw [← S.len]
  simp
theorem j_lstM {es : List Expr} {pos : Pos} {as : Sm (List Vl)} (h : PA X es (rdA X.K W as)) : PE X (.List es pos) (rd X.K W (eLstM as)) := by
  refine pe_imp (pe_lst h) fun σ H Q h => ?_
  refine rdR.then h fun xs vs H1 φ μ Hs M ρ S E r P => ?_
  split at P
  · rename_i ds M' e
    obtain ⟨Hs', ex, S', r'⟩ := frzs_ok S r e
    split at P
    · exact ⟨by rw [← r'.length]; assumption, fun p hp => Post.newM (P.mono List.prefix_rfl ex) S' r' hp⟩
    · exact P.elim
  · exact P.elim
/-! ### built-in calls -/
theorem j_callB {x : Str} {p pos : Pos} {e : Expr} {es : List Expr} {id : String} {r : List V → Hp → VK → Prop} {f : FS} {as : Sm (List Vl)} (hc : CallR X (.builtin id) r) (hs : CallS X.K r f) (hg : Gl X x) (hm : X.mg x = none) (hv : bootBuiltins x = some (.builtin id)) (ha : PA X (e :: es) (rdA X.K W as))
    (hn : x ≠ "__name__" := by decide) (hd : (x == ("__debug__" : Str)) = false := by decide) (he : starEach (e :: es) X.env = (false, eval e X.env) :: starEach es X.env := by rfl) (hpl : (backTo pos (starEach es X.env)).any (·.1) = false := by rfl) : PE X (.Call (.Name x p) (e :: es) [] pos) (rd X.K W (eAp f as)) := by
  refine pe_imp (pe_callB hc hg hm hv ha (hn := hn) (hdb := hd) (he := he) (hpl := hpl)) fun σ H Q h => ?_
  exact rdR.then h fun xs vs H1 φ μ Hs M ρ S E r P => hs W φ μ Hs M H1 σ xs vs Q S r P
theorem j_callTy {x : Str} {p pos : Pos} {e : Expr} {es : List Expr} {T : String} {r : List V → Hp → VK → Prop} {f : FS} {as : Sm (List Vl)} (hc : CallR X (.type T) r) (hs : CallS X.K r f) (hg : Gl X x) (hm : X.mg x = none) (hv : bootBuiltins x = some (.type T)) (ha : PA X (e :: es) (rdA X.K W as))
    (hn : x ≠ "__name__" := by decide) (hd : (x == ("__debug__" : Str)) = false := by decide) (he : starEach (e :: es) X.env = (false, eval e X.env) :: starEach es X.env := by rfl) (hpl : (backTo pos (starEach es X.env)).any (·.1) = false := by rfl) : PE X (.Call (.Name x p) (e :: es) [] pos) (rd X.K W (eAp f as)) := by
  refine pe_imp (pe_callTy hc hg hm hv ha (hn := hn) (hdb := hd) (he := he) (hpl := hpl)) fun σ H Q h => ?_
  exact rdR.then h fun xs vs H1 φ μ Hs M ρ S E r P => hs W φ μ Hs M H1 σ xs vs Q S r P
end
section
variable {K : PySem.W.Frag} {μ : List Addr} {H : Hp}
theorem rv1 {x : Vl} {vs : List V} (r : RepVs K μ H [x] vs) : ∃ v, vs = [v] ∧ RepV K μ H x v := by
  cases r with
  | cons a b => cases b; exact ⟨_, rfl, a⟩
theorem rv2 {x y : Vl} {vs : List V} (r : RepVs K μ H [x, y] vs) : ∃ v w, vs = [v, w] ∧ RepV K μ H x v ∧ RepV K μ H y w := by
  cases r with
  | cons a b =>
    obtain ⟨w, rfl, h⟩ := rv1 b
    exact ⟨_, w, rfl, a, h⟩
theorem reps_intsV : ∀ {ns : List Int} {vs : List V}, Reps K H (ns.map D.int) vs → vs = ns.map V.int
  | [], _, .nil => rfl
  | n :: r, _, .cons a b => by
    cases a
    rw [reps_intsV b]
    rfl
theorem reps_blsV : ∀ {bs : List Bool} {vs : List V}, Reps K H (bs.map D.bl) vs → vs = bs.map V.bl
  | [], _, .nil => rfl
  | n :: r, _, .cons a b => by
    cases a
    rw [reps_blsV b]
    rfl
theorem reps_strsV : ∀ {bs : List Str} {vs : List V}, Reps K H (bs.map D.str) vs → vs = bs.map V.str
  | [], _, .nil => rfl
  | n :: r, _, .cons a b => by
    cases a
    rw [reps_strsV b]
    rfl
end
def allInts : List D → Option (List Int)
  | [] => some []
  | .int i :: r => (match allInts r with
    | some ns => some (i :: ns)
    | none => none)
  | _ => none
def allBls : List D → Option (List Bool)
  | [] => some []
  | .bl i :: r => (match allBls r with
    | some ns => some (i :: ns)
    | none => none)
  | _ => none
def allStrs : List D → Option (List Str)
  | [] => some []
  | .str i :: r => (match allStrs r with
    | some ns => some (i :: ns)
    | none => none)
  | _ => none
theorem allInts_ok : ∀ {ds : List D} {ns : List Int}, allInts ds = some ns → ds = ns.map D.int
  | [], ns, h => by cases h; rfl
  | d :: r, ns, h => by
    cases d with
    | int i =>
      unfold allInts at h
      cases e : allInts r with
      | none => rw [e] at h; cases h
      | some ms => rw [e] at h; cases h; rw [allInts_ok e]; rfl
    | _ => cases h
theorem allBls_ok : ∀ {ds : List D} {ns : List Bool}, allBls ds = some ns → ds = ns.map D.bl
  | [], ns, h => by cases h; rfl
  | d :: r, ns, h => by
    cases d with
    | bl i =>
      unfold allBls at h
      cases e : allBls r with
      | none => rw [e] at h; cases h
      | some ms => rw [e] at h; cases h; rw [allBls_ok e]; rfl
    | _ => cases h
theorem allStrs_ok : ∀ {ds : List D} {ns : List Str}, allStrs ds = some ns → ds = ns.map D.str
  | [], ns, h => by cases h; rfl
  | d :: r, ns, h => by
    cases d with
    | str i =>
      unfold allStrs at h
      cases e : allStrs r with
      | none => rw [e] at h; cases h
      | some ms => rw [e] at h; cases h; rw [allStrs_ok e]; rfl
    | _ => cases h
theorem allInts_map : ∀ (ns : List Int), allInts (ns.map D.int) = some ns
  | [] => rfl
  | n :: r => by
    show (match allInts (r.map D.int) with | some ns => some (n :: ns) | none => none) = some (n :: r)
    rw [allInts_map r]
theorem allBls_map : ∀ (ns : List Bool), allBls (ns.map D.bl) = some ns
  | [] => rfl
  | n :: r => by
    show (match allBls (r.map D.bl) with | some ns => some (n :: ns) | none => none) = some (n :: r)
    rw [allBls_map r]
theorem allStrs_map : ∀ (ns : List Str), allStrs (ns.map D.str) = some ns
  | [] => rfl
  | n :: r => by
    show (match allStrs (r.map D.str) with | some ns => some (n :: ns) | none => none) = some (n :: r)
    rw [allStrs_map r]
def fLen : FS := fun xs M => match xs with
  | [.d (.str z)] => if z.length ≤ sizeLine then .ok (.d (.int z.length)) M else .bad
  | [x] => (match seqA M x with
    | some ds => .ok (.d (.int ds.length)) M
    | none => .bad)
  | _ => .bad
theorem cs_len {K : PySem.W.Frag} : CallS K (fun xs H Q => ∃ x n, xs = [x] ∧ LenV K x H n ∧ Q (.int n) H) fLen := by
  intro W φ μ Hs M H σ xs vs Q S r P
  unfold fLen at P
  split at P
  · obtain ⟨v, rfl, rx⟩ := rv1 r
    cases str_ok rx
    split at P
    · exact ⟨_, _, rfl, ⟨by assumption, rfl⟩, P.here S (.int _)⟩
    · exact P.elim
  · obtain ⟨v, rfl, rx⟩ := rv1 r
    split at P
    · rename_i ds h1
      obtain ⟨a, vs, rfl, h3, h4⟩ := seqA_ok S rx h1
      refine ⟨_, ds.length, rfl, ?_, P.here S (.int _)⟩
      rcases h3 with h3 | h3
      · exact .inl ⟨vs, h3, h4.length⟩
      · exact .inr ⟨vs, h3, h4.length⟩
    · exact P.elim
  · exact P.elim
def fAbs : FS := fun xs M => match xs with
  | [.d (.int i)] => .ok (.d (.int (if i < 0 then -i else i))) M
  | _ => .bad
theorem cs_abs {K : PySem.W.Frag} : CallS K (fun xs H Q => ∃ i, xs = [.int i] ∧ Q (.int (if i < 0 then -i else i)) H) fAbs := by
  intro W φ μ Hs M H σ xs vs Q S r P
  unfold fAbs at P
  split at P
  · obtain ⟨v, rfl, rx⟩ := rv1 r
    cases int_ok rx
    exact ⟨_, rfl, P.here S (.int _)⟩
  · exact P.elim
def fMax2 : FS := fun xs M => match xs with
  | [.d (.int i), .d (.int j)] => .ok (.d (.int (if j > i then j else i))) M
  | _ => .bad
theorem cs_max2 {K : PySem.W.Frag} : CallS K (fun xs H Q => ∃ i j, xs = [.int i, .int j] ∧ Q (.int (if j > i then j else i)) H) fMax2 := by
  intro W φ μ Hs M H σ xs vs Q S r P
  unfold fMax2 at P
  split at P
  · obtain ⟨v, w, rfl, rx, ry⟩ := rv2 r
    cases int_ok rx
    cases int_ok ry
    exact ⟨_, _, rfl, P.here S (.int _)⟩
  · exact P.elim
def fMin2 : FS := fun xs M => match xs with
  | [.d (.int i), .d (.int j)] => .ok (.d (.int (if j < i then j else i))) M
  | _ => .bad
theorem cs_min2 {K : PySem.W.Frag} : CallS K (fun xs H Q => ∃ i j, xs = [.int i, .int j] ∧ Q (.int (if j < i then j else i)) H) fMin2 := by
  intro W φ μ Hs M H σ xs vs Q S r P
  unfold fMin2 at P
  split at P
  · obtain ⟨v, w, rfl, rx, ry⟩ := rv2 r
    cases int_ok rx
    cases int_ok ry
    exact ⟨_, _, rfl, P.here S (.int _)⟩
  · exact P.elim
def fInt : FS := fun xs M => match xs with
  | [.d (.int i)] => .ok (.d (.int i)) M
  | [.d (.bl b)] => .ok (.d (.int (if b then 1 else 0))) M
  | _ => .bad
theorem cs_int {K : PySem.W.Frag} : CallS K (fun xs H Q => (∃ i, xs = [.int i] ∧ Q (.int i) H) ∨ ∃ k, xs = [.bl k] ∧ Q (.int (if k then 1 else 0)) H) fInt := by
  intro W φ μ Hs M H σ xs vs Q S r P
  unfold fInt at P
  split at P
  · obtain ⟨v, rfl, rx⟩ := rv1 r
    cases int_ok rx
    exact .inl ⟨_, rfl, P.here S (.int _)⟩
  · obtain ⟨v, rfl, rx⟩ := rv1 r
    cases bl_ok rx
    exact .inr ⟨_, rfl, P.here S (.int _)⟩
  · exact P.elim
def fDivmod : FS := fun xs M => match xs with
  | [.d (.int i), .d (.int j)] => if 0 < j ∧ j < 1073741824 then .ok (.d (.tup [.int (i / j), .int (i % j)])) M else .bad
  | _ => .bad
theorem cs_divmod {K : PySem.W.Frag} : CallS K (fun xs H Q => ∃ i j, xs = [.int i, .int j] ∧ CDiv i j ∧ ∀ p, H p = none → Q (.ref p) (upd H p (.tup [.int (i / j), .int (i % j)]))) fDivmod := by
  intro W φ μ Hs M H σ xs vs Q S r P
  unfold fDivmod at P
  split at P
  · obtain ⟨v, w, rfl, rx, ry⟩ := rv2 r
    cases int_ok rx
    cases int_ok ry
    split at P
    · exact ⟨_, _, rfl, by assumption, fun p hp => P.newT S (.cons (.int _) (.cons (.int _) .nil)) hp⟩
    · exact P.elim
  · exact P.elim
def fAll : FS := fun xs M => match xs with
  | [x] => (match seqL M x with
    | some ds => (match allBls ds with
      | some bs => .ok (.d (.bl (bs.all id))) M
      | none => .bad)
    | none => .bad)
  | _ => .bad
theorem cs_all {K : PySem.W.Frag} : CallS K (rAll K) fAll := by
  intro W φ μ Hs M H σ xs vs Q S r P
  unfold fAll at P
  split at P
  · obtain ⟨v, rfl, rx⟩ := rv1 r
    split at P
    · rename_i ds h1
      split at P
      · rename_i bs h2
        obtain ⟨a, vs, rfl, h3, h4⟩ := seqL_ok S rx h1
        rw [allBls_ok h2] at h4
        cases reps_blsV h4
        exact ⟨a, bs, rfl, h3, P.here S (.bl _)⟩
      · exact P.elim
    · exact P.elim
  · exact P.elim
def fAny : FS := fun xs M => match xs with
  | [x] => (match seqL M x with
    | some ds => (match allBls ds with
      | some bs => .ok (.d (.bl (bs.any id))) M
      | none => .bad)
    | none => .bad)
  | _ => .bad
theorem cs_any {K : PySem.W.Frag} : CallS K (rAny K) fAny := by
  intro W φ μ Hs M H σ xs vs Q S r P
  unfold fAny at P
  split at P
  · obtain ⟨v, rfl, rx⟩ := rv1 r
    split at P
    · rename_i ds h1
      split at P
      · rename_i bs h2
        obtain ⟨a, vs, rfl, h3, h4⟩ := seqL_ok S rx h1
        rw [allBls_ok h2] at h4
        cases reps_blsV h4
        exact ⟨a, bs, rfl, h3, P.here S (.bl _)⟩
      · exact P.elim
    · exact P.elim
  · exact P.elim
def fSum : FS := fun xs M => match xs with
  | [x] => (match seqL M x with
    | some ds => (match allInts ds with
      | some ns => .ok (.d (.int ns.sum)) M
      | none => .bad)
    | none => .bad)
  | _ => .bad
theorem cs_sum {K : PySem.W.Frag} : CallS K (rSum K) fSum := by
  intro W φ μ Hs M H σ xs vs Q S r P
  unfold fSum at P
  split at P
  · obtain ⟨v, rfl, rx⟩ := rv1 r
    split at P
    · rename_i ds h1
      split at P
      · rename_i ns h2
        obtain ⟨a, vs, rfl, h3, h4⟩ := seqL_ok S rx h1
        rw [allInts_ok h2] at h4
        cases reps_intsV h4
        exact ⟨a, ns, rfl, h3, P.here S (.int _)⟩
      · exact P.elim
    · exact P.elim
  · exact P.elim
def maxI (ns : List Int) : Int := ns.foldl max (ns.headD 0)
theorem foldl_max_ge : ∀ (ns : List Int) (a : Int), a ≤ ns.foldl max a ∧ ∀ y ∈ ns, y ≤ ns.foldl max a
  | [], a => ⟨Int.le_refl _, fun _ h => nomatch h⟩
  | n :: r, a => by
    obtain ⟨h1, h2⟩ := foldl_max_ge r (max a n)
    refine ⟨?_, fun y hy => ?_⟩
    · show a ≤ r.foldl max (max a n)
      have : a ≤ max a n := by omega
      omega
    · show y ≤ r.foldl max (max a n)
      rcases List.mem_cons.mp hy with rfl | h
      · have : y ≤ max a y := by omega
        omega
      · exact h2 y h
theorem foldl_max_mem : ∀ (ns : List Int) (a : Int), ns.foldl max a = a ∨ ns.foldl max a ∈ ns
  | [], a => .inl rfl
  | n :: r, a => by
    show r.foldl max (max a n) = a ∨ r.foldl max (max a n) ∈ n :: r
    rcases foldl_max_mem r (max a n) with h | h
    · rw [h]
      rcases (show max a n = a ∨ max a n = n by omega) with q | q
      · exact .inl q
      · exact .inr (by rw [q]; exact List.mem_cons_self)
    · exact .inr (List.mem_cons_of_mem _ h)
theorem maxI_is {ns : List Int} {m : Int} (h : m ∈ ns) (hm : ∀ y ∈ ns, y ≤ m) : m = maxI ns := by
  have h1 := (foldl_max_ge ns (ns.headD 0)).2 m h
  have h2 : maxI ns ∈ ns := by
    cases ns with
    | nil => cases h
    | cons n r =>
      rcases foldl_max_mem (n :: r) n with q | q
      · show (n :: r).foldl max n ∈ n :: r
        rw [q]
        exact List.mem_cons_self
      · exact q
  have h3 := hm _ h2
  unfold maxI at h3 ⊢
  omega
def fMaxL : FS := fun xs M => match xs with
  | [x] => (match seqL M x with
    | some ds => (match allInts ds with
      | some ns => if 0 < ns.length then .ok (.d (.int (maxI ns))) M else .bad
      | none => .bad)
    | none => .bad)
  | _ => .bad
theorem cs_maxL {K : PySem.W.Frag} : CallS K (rMax K) fMaxL := by
  intro W φ μ Hs M H σ xs vs Q S r P
  unfold fMaxL at P
  split at P
  · obtain ⟨v, rfl, rx⟩ := rv1 r
    split at P
    · rename_i ds h1
      split at P
      · rename_i ns h2
        split at P
        · rename_i h0
          obtain ⟨a, vs, rfl, h3, h4⟩ := seqL_ok S rx h1
          rw [allInts_ok h2] at h4
          cases reps_intsV h4
          refine ⟨a, ns, rfl, h3, h0, fun m hm hle => ?_⟩
          rw [maxI_is hm hle]
          exact P.here S (.int _)
        · exact P.elim
      · exact P.elim
    · exact P.elim
  · exact P.elim
def fTuple : FS := fun xs M => match xs with
  | [.d (.tup ds)] => .ok (.d (.tup ds)) M
  | [x] => (match seqL M x with
    | some ds => .ok (.d (.tup ds)) M
    | none => .bad)
  | _ => .bad
theorem cs_tuple {K : PySem.W.Frag} : CallS K (fun xs H Q => ∃ p ys, xs = [.ref p] ∧ ((SqL K H p ys ∧ ∀ l, H l = none → Q (.ref l) (upd H l (.tup ys))) ∨ (SqT K H p ys ∧ Q (.ref p) H))) fTuple := by
  intro W φ μ Hs M H σ xs vs Q S r P
  unfold fTuple at P
  split at P
  · obtain ⟨v, rfl, rx⟩ := rv1 r
    obtain ⟨a, vs, rfl, h1, _, h2⟩ := tup_ok S rx
    exact ⟨a, vs, rfl, .inr ⟨h1, P.here S rx⟩⟩
  · obtain ⟨v, rfl, rx⟩ := rv1 r
    split at P
    · rename_i ds h1
      obtain ⟨a, vs, rfl, h3, h4⟩ := seqL_ok S rx h1
      exact ⟨a, vs, rfl, .inl ⟨h3, fun l hl => P.newT S h4 hl⟩⟩
    · exact P.elim
  · exact P.elim
def fList : FS := fun xs M => match xs with
  | [x] => (match seqA M x with
    | some ds => .ok (.d (.lst ds)) M
    | none => .bad)
  | _ => .bad
theorem cs_list {K : PySem.W.Frag} : CallS K (fun xs H Q => ∃ p ys, xs = [.ref p] ∧ (SqL K H p ys ∨ SqT K H p ys) ∧ ∀ l, H l = none → Q (.ref l) (upd H l (.lst ys))) fList := by
  intro W φ μ Hs M H σ xs vs Q S r P
  unfold fList at P
  split at P
  · obtain ⟨v, rfl, rx⟩ := rv1 r
    split at P
    · rename_i ds h1
      obtain ⟨a, vs, rfl, h3, h4⟩ := seqA_ok S rx h1
      exact ⟨a, vs, rfl, h3, fun l hl => P.newL S h4 hl⟩
    · exact P.elim
  · exact P.elim
end Wv

namespace Wv
open PySem PySem.Spec PyProof.Rows L2

/-! ### statements -/
inductive RS where
  | nx (ρ : Env) (M : List Mu) | rt (x : Vl) (M : List Mu) | bk (ρ : Env) (M : List Mu) | ct (ρ : Env) (M : List Mu)
  | exc (ρ : Env) (C : Str) (fs : List (Str × D)) (M : List Mu) | bad
abbrev Ss := Env → List Mu → RS
def PostS (K : PySem.W.Frag) (W : WX) (φ : Hp) (μ : List Addr) (Hs : Hp) (r : RS) (D : Ends) : Prop :=
  match r with
  | .nx ρ' M' => ∀ (μ' : List Addr) (Hs' H' : Hp) (σ' : L2.St), μ <+: μ' → Ex Hs Hs' → SRel K φ μ' Hs' M' H' → REnv K μ' Hs' ρ' σ' → D.nx σ' H'
  | .rt x M' => ∀ (μ' : List Addr) (Hs' H' : Hp) (v : V), μ <+: μ' → Ex Hs Hs' → SRel K φ μ' Hs' M' H' → RepV K μ' Hs' x v → D.rt v H'
  | .bk ρ' M' => ∀ (μ' : List Addr) (Hs' H' : Hp) (σ' : L2.St), μ <+: μ' → Ex Hs Hs' → SRel K φ μ' Hs' M' H' → REnv K μ' Hs' ρ' σ' → D.bk σ' H'
  | .ct ρ' M' => ∀ (μ' : List Addr) (Hs' H' : Hp) (σ' : L2.St), μ <+: μ' → Ex Hs Hs' → SRel K φ μ' Hs' M' H' → REnv K μ' Hs' ρ' σ' → D.ct σ' H'
  | .exc ρ' C fs M' => ∀ (μ' : List Addr) (Hs' H' : Hp) (σ' : L2.St) (a : Addr) (fvs : List (Str × V)), μ <+: μ' → Ex Hs Hs' → SRel K φ μ' Hs' M' H' → REnv K μ' Hs' ρ' σ' → Hs' a = some (.xd fvs) → RepF K Hs' fs fvs → W (.ref (He.ga K C)) (some a) σ' H'
  | .bad => False
def rdS (K : PySem.W.Frag) (W : WX) (s : Ss) : TS := fun D σ H => ∃ (φ : Hp) (μ : List Addr) (Hs : Hp) (M : List Mu) (ρ : Env), SRel K φ μ Hs M H ∧ REnv K μ Hs ρ σ ∧ PostS K W φ μ Hs (s ρ M) D
section
variable {K : PySem.W.Frag} {W : WX} {φ : Hp} {μ μ' : List Addr} {Hs Hs' H : Hp} {σ : L2.St} {M : List Mu} {ρ : Env} {D : Ends}
theorem PostS.mono {r : RS} (h : PostS K W φ μ Hs r D) (p : μ <+: μ') (e : Ex Hs Hs') : PostS K W φ μ' Hs' r D := by
  cases r with
  | nx ρ' M' => exact fun μ2 Hs2 H2 σ2 p2 e2 => h μ2 Hs2 H2 σ2 (pre_trans p p2) (e.trans e2)
  | rt x M' => exact fun μ2 Hs2 H2 v p2 e2 => h μ2 Hs2 H2 v (pre_trans p p2) (e.trans e2)
  | bk ρ' M' => exact fun μ2 Hs2 H2 σ2 p2 e2 => h μ2 Hs2 H2 σ2 (pre_trans p p2) (e.trans e2)
  | ct ρ' M' => exact fun μ2 Hs2 H2 σ2 p2 e2 => h μ2 Hs2 H2 σ2 (pre_trans p p2) (e.trans e2)
  | exc ρ' C fs M' => exact fun μ2 Hs2 H2 σ2 a fvs p2 e2 => h μ2 Hs2 H2 σ2 a fvs (pre_trans p p2) (e.trans e2)
  | bad => exact h
theorem PostS.here (h : PostS K W φ μ Hs (.nx ρ M) D) (S : SRel K φ μ Hs M H) (E : REnv K μ Hs ρ σ) : D.nx σ H := h μ Hs H σ List.prefix_rfl (Ex.refl _) S E
end
/-- an expression, then what is done with its value -/
def sBnd {α : Type} (m : Sm α) (f : α → Ss) : Ss := fun ρ M => match m ρ M with
  | .ok x M' => f x ρ M'
  | .exc C fs M' => .exc ρ C fs M'
  | .bad => .bad
def sSeq (s u : Ss) : Ss := fun ρ M => match s ρ M with
  | .nx ρ' M' => u ρ' M'
  | r => r
def sNext : Ss := fun ρ M => .nx ρ M
def sRet (m : Sm Vl) : Ss := sBnd m fun x _ M => .rt x M
def sRetN : Ss := fun _ M => .rt (.d .non) M
def sIf (c : Sm Bool) (a b : Ss) : Ss := sBnd c fun x => if x = true then a else b
def sExpr (m : Sm Vl) : Ss := sBnd m fun _ ρ M => .nx ρ M
def sBreak : Ss := fun ρ M => .bk ρ M
def sCont : Ss := fun ρ M => .ct ρ M
def sBad : Ss := fun _ _ => .bad
section
variable {K : PySem.W.Frag} {W : WX}
theorem rdS.then {α β : Type} {R : List Addr → Hp → α → β → Prop} {m : Sm α} {f : α → Ss} {D : Ends} {σ : L2.St} {H : Hp} {Q1 : β → Hp → Prop} (h : rdS K W (sBnd m f) D σ H)
    (k : ∀ (x : α) (v : β) (H' : Hp) (φ : Hp) (μ : List Addr) (Hs : Hp) (M' : List Mu) (ρ : Env), SRel K φ μ Hs M' H' → REnv K μ Hs ρ σ → R μ Hs x v → PostS K W φ μ Hs (f x ρ M') D → Q1 v H') : rdR K W R m σ H Q1 := by
  obtain ⟨φ, μ, Hs, M, ρ, S, E, P⟩ := h
  refine ⟨φ, μ, Hs, M, ρ, S, E, ?_⟩
  unfold sBnd at P
  cases e : m ρ M with
  | ok x M' =>
    rw [e] at P
    exact fun μ' Hs' H' v p ex S' r => k x v H' φ μ' Hs' M' ρ S' (E.mono p ex) r (P.mono p ex)
  | exc C fs M' =>
    rw [e] at P
    exact fun μ' Hs' H' a fvs p ex S' h1 h2 => P μ' Hs' H' σ a fvs p ex S' (E.mono p ex) h1 h2
  | bad =>
    rw [e] at P
    exact P.elim
end
section
variable {X : Cx} {W : WX}
theorem js_nil : PSs X [] (rdS X.K W sNext) := by
  refine pss_imp pss_nil fun D σ H h => ?_
  obtain ⟨φ, μ, Hs, M, ρ, S, E, P⟩ := h
  exact P.here S E
theorem js_one {st : Stmt} {s : Ss} (h : PS X st (rdS X.K W s)) : PSs X [st] (rdS X.K W s) := pss_one h
theorem js_cons {st : Stmt} {rest : List Stmt} {s u : Ss} (h : PS X st (rdS X.K W s)) (h' : PSs X rest (rdS X.K W u)) : PSs X (st :: rest) (rdS X.K W (sSeq s u)) := by
  refine pss_imp (pss_cons h h') fun D σ H h => ?_
  obtain ⟨φ, μ, Hs, M, ρ, S, E, P⟩ := h
  refine ⟨φ, μ, Hs, M, ρ, S, E, ?_⟩
  unfold sSeq at P
  cases e : s ρ M with
  | nx ρ' M' =>
    rw [e] at P
    exact fun μ' Hs' H' σ' p ex S' E' => ⟨φ, μ', Hs', M', ρ', S', E', P.mono p ex⟩
  | rt x M' => rw [e] at P; exact P
  | bk ρ' M' => rw [e] at P; exact P
  | ct ρ' M' => rw [e] at P; exact P
  | exc ρ' C fs M' => rw [e] at P; exact P
  | bad => rw [e] at P; exact P.elim
theorem js_pass {pos : Pos} : PS X (.Pass pos) (rdS X.K W sNext) := by
  refine ps_imp ps_pass fun D σ H h => ?_
  obtain ⟨φ, μ, Hs, M, ρ, S, E, P⟩ := h
  exact P.here S E
theorem js_break {pos : Pos} : PS X (.Break pos) (rdS X.K W sBreak) := by
  refine ps_imp ps_break fun D σ H h => ?_
  obtain ⟨φ, μ, Hs, M, ρ, S, E, P⟩ := h
  exact P μ Hs H σ List.prefix_rfl (Ex.refl _) S E
theorem js_never {st : Stmt} : PS X st (rdS X.K W sBad) := by
  refine ps_imp ps_never fun D σ H h => ?_
  obtain ⟨φ, μ, Hs, M, ρ, S, E, P⟩ := h
  exact P.elim
theorem j_never {e : Expr} : PE X e (rd X.K W (fun _ _ => .bad)) := ⟨fun pins s σ H Q I h => by
  obtain ⟨φ, μ, Hs, M, ρ, S, E, P⟩ := h
  exact P.elim⟩
theorem js_expr {e : Expr} {pos : Pos} {m : Sm Vl} (h : PE X e (rd X.K W m)) (hs : swapsWith e none pos.line X.env = pure false := by rfl) : PS X (.Expr e pos) (rdS X.K W (sExpr m)) := by
  refine ps_imp (ps_expr h hs) fun D σ H h => ?_
  exact rdS.then h fun x v H' φ μ Hs M ρ S E r P => P.here S E
theorem js_ret {e : Expr} {pos : Pos} {m : Sm Vl} (h : PE X e (rd X.K W m)) : PS X (.Return (some e) pos) (rdS X.K W (sRet m)) := by
  refine ps_imp (ps_ret h) fun D σ H h => ?_
  exact rdS.then h fun x v H' φ μ Hs M ρ S E r P => P μ Hs H' v List.prefix_rfl (Ex.refl _) S r
theorem js_retN {pos : Pos} : PS X (.Return none pos) (rdS X.K W sRetN) := by
  refine ps_imp ps_retN fun D σ H h => ?_
  obtain ⟨φ, μ, Hs, M, ρ, S, E, P⟩ := h
  exact P μ Hs H .non List.prefix_rfl (Ex.refl _) S .non
theorem js_if {c : Expr} {a b : List Stmt} {pos : Pos} {mc : Sm Bool} {s u : Ss} (hc : PT X c (rdT X.K W mc)) (ha : PSs X a (rdS X.K W s)) (hb : PSs X b (rdS X.K W u)) : PS X (.If c a b pos) (rdS X.K W (sIf mc s u)) := by
  refine ps_imp (ps_if hc ha hb) fun D σ H h => ?_
  refine rdS.then h fun x v H' φ μ Hs M ρ S E r P => ?_
  cases r
  cases x with
  | true =>
    rw [if_pos rfl] at P ⊢
    exact ⟨φ, μ, Hs, M, ρ, S, E, P⟩
  | false =>
    rw [if_neg Bool.false_ne_true] at P ⊢
    exact ⟨φ, μ, Hs, M, ρ, S, E, P⟩
end

/-! ### targets -/
abbrev Tg := Vl → Env → List Mu → Option (Env × List Mu)
abbrev Tgs := List D → Env → List Mu → Option (Env × List Mu)
def PostG (K : PySem.W.Frag) (φ : Hp) (μ : List Addr) (Hs : Hp) (r : Option (Env × List Mu)) (Q : L2.St → Hp → Prop) : Prop := match r with
  | some p => ∀ (μ' : List Addr) (Hs' H' : Hp) (σ' : L2.St), μ <+: μ' → Ex Hs Hs' → SRel K φ μ' Hs' p.2 H' → REnv K μ' Hs' p.1 σ' → Q σ' H'
  | none => False
def rdG (K : PySem.W.Frag) (g : Tg) : TG := fun v σ H Q => ∃ (φ : Hp) (μ : List Addr) (Hs : Hp) (M : List Mu) (ρ : Env) (x : Vl), SRel K φ μ Hs M H ∧ REnv K μ Hs ρ σ ∧ RepV K μ Hs x v ∧ PostG K φ μ Hs (g x ρ M) Q
def rdGs (K : PySem.W.Frag) (g : Tgs) : TGs := fun vs σ H Q => ∃ (φ : Hp) (μ : List Addr) (Hs : Hp) (M : List Mu) (ρ : Env) (xs : List D), SRel K φ μ Hs M H ∧ REnv K μ Hs ρ σ ∧ Reps K Hs xs vs ∧ PostG K φ μ Hs (g xs ρ M) Q
section
variable {K : PySem.W.Frag} {φ : Hp} {μ μ' : List Addr} {Hs Hs' H : Hp} {σ : L2.St} {M : List Mu} {ρ : Env} {Q : L2.St → Hp → Prop}
theorem PostG.mono {r : Option (Env × List Mu)} (h : PostG K φ μ Hs r Q) (p : μ <+: μ') (e : Ex Hs Hs') : PostG K φ μ' Hs' r Q := by
  cases r with
  | none => exact h
  | some q => exact fun μ2 Hs2 H2 σ2 p2 e2 => h μ2 Hs2 H2 σ2 (pre_trans p p2) (e.trans e2)
theorem PostG.here (h : PostG K φ μ Hs (some (ρ, M)) Q) (S : SRel K φ μ Hs M H) (E : REnv K μ Hs ρ σ) : Q σ H := h μ Hs H σ List.prefix_rfl (Ex.refl _) S E
end
def sTo (r : Option (Env × List Mu)) : RS := match r with
  | some p => .nx p.1 p.2
  | none => .bad
def sAsg (m : Sm Vl) (g : Tg) : Ss := sBnd m fun x ρ M => sTo (g x ρ M)
def gN (i : Nat) : Tg := fun x ρ M => some (ρ.set i (some x), M)
def gEnd : Tgs := fun xs ρ M => match xs with
  | [] => some (ρ, M)
  | _ => none
def gAnd (g : Tg) (r : Tgs) : Tgs := fun xs ρ M => match xs with
  | x :: xs => (match g (.d x) ρ M with
    | some p => r xs p.1 p.2
    | none => none)
  | [] => none
def gT (n : Nat) (g : Tgs) : Tg := fun x ρ M => match x with
  | .d (.tup ds) => if ds.length = n then g ds ρ M else none
  | _ => none
def gBnd (m : Sm Vl) (f : Vl → Env → List Mu → Option (Env × List Mu)) : Env → List Mu → Option (Env × List Mu) := fun ρ M => match m ρ M with
  | .ok x M' => f x ρ M'
  | _ => none
/-- o[i] = x, o a list of the store -/
def setM (o i x : Vl) (M : List Mu) : Option (List Mu) := match o, i, x with
  | .m k, .d (.int j), .d y => (match M[k]? with
    | some (.lst xs) => (match ixN xs.length j with
      | some n => some (M.set k (.lst (xs.set n y)))
      | none => none)
    | _ => none)
  | _, _, _ => none
def gS (o i : Sm Vl) : Tg := fun x => gBnd o fun ov => gBnd i fun iv ρ M => match setM ov iv x M with
  | some M' => some (ρ, M')
  | none => none
/-- o.f = x -/
def putD (f : Str) (x : D) : List (Str × D) → List (Str × D)
  | [] => [(f, x)]
  | (n, y) :: r => if n = f then (n, x) :: r else (n, y) :: putD f x r
def setF (cs : List Str) (f : Str) (o x : Vl) (M : List Mu) : Option (List Mu) := match o with
  | .m k => (match frz1 M x with
    | some (d, M1) => (match M1[k]? with
      | some (.ins C fs) => if C ∈ cs ∧ fs.length < 1000 then some (M1.set k (.ins C (putD f d fs))) else none
      | _ => none)
    | none => none)
  | _ => none
def gF (cs : List Str) (o : Sm Vl) (f : Str) : Tg := fun x => gBnd o fun ov ρ M => match setF cs f ov x M with
  | some M' => some (ρ, M')
  | none => none
section
variable {X : Cx} {W : WX}
theorem js_asg {tg e : Expr} {pos : Pos} {m : Sm Vl} {g : Tg} (he : PE X e (rd X.K W m)) (hg : PG X tg (rdG X.K g)) (hs : swapsWithSole [tg] e pos.line X.env = pure false := by rfl) (hw : swappedStores [tg] e X.env = pure none := by rfl)
    (h1 : (assignEach [tg] X.env).map (·.2) = [assign tg X.env] := by rfl) : PS X (.Assign [tg] e pos) (rdS X.K W (sAsg m g)) := by
  refine ps_imp (ps_asg he hg hs hw h1) fun D σ H h => ?_
  refine rdS.then h fun x v H' φ μ Hs M ρ S E r P => ⟨φ, μ, Hs, M, ρ, x, S, E, r, ?_⟩
  cases e : g x ρ M with
  | none => rw [e] at P; exact P.elim
  | some p => rw [e] at P; exact P
theorem js_set {i : Nat} {x : Str} {e : Expr} {m : Sm Vl} {pos pos' : Pos} (hN : X.N.Nodup) (hi : X.N[i]? = some x) (hx : Loc X.env.scope x) (he : PE X e (rd X.K W m)) (hs : swapsWith e (some (.Name x pos')) pos.line X.env = pure false := by rfl)
    (hf : X.fn x = true ∨ X.env.scope.names.lookup x = some .local := by first | exact .inl rfl | exact .inr rfl | assumption) : PS X (.Assign [.Name x pos'] e pos) (rdS X.K W (sAsg m (gN i))) := by
  refine ps_imp (ps_set hN hi hx he hs hf) fun D σ H h => ?_
  exact rdS.then h fun x v H' φ μ Hs M ρ S E r P => P.here S (E.set i r)
theorem jg_name {i : Nat} {x : Str} {pos : Pos} (hN : X.N.Nodup) (hi : X.N[i]? = some x) (hx : Loc X.env.scope x) (hf : X.fn x = true ∨ X.env.scope.names.lookup x = some .local := by first | exact .inl rfl | exact .inr rfl | assumption) : PG X (.Name x pos) (rdG X.K (gN i)) := by
  refine pg_imp (pg_name hN hi hx hf) fun v σ H Q h => ?_
  obtain ⟨φ, μ, Hs, M, ρ, x, S, E, r, P⟩ := h
  exact P.here S (E.set i r)
theorem jgs_nil : PGs X [] (rdGs X.K gEnd) := by
  refine ⟨fun pins s σ H vs us Q I r h => pgs_nil.run pins s σ H vs us Q I r ?_⟩
  obtain ⟨φ, μ, Hs, M, ρ, xs, S, E, r, P⟩ := h
  unfold gEnd at P
  split at P
  · cases r
    exact ⟨rfl, P.here S E⟩
  · exact P.elim
theorem jgs_cons {e : Expr} {es : List Expr} {g : Tg} {u : Tgs} (h : PG X e (rdG X.K g)) (h' : PGs X es (rdGs X.K u)) (he : (assignEach (e :: es) X.env).map (·.2) = assign e X.env :: (assignEach es X.env).map (·.2) := by rfl) : PGs X (e :: es) (rdGs X.K (gAnd g u)) := by
  refine ⟨fun pins s σ H vs us Q I r h2 => (pgs_cons h h' he).run pins s σ H vs us Q I r ?_⟩
  obtain ⟨φ, μ, Hs, M, ρ, xs, S, E, r, P⟩ := h2
  unfold gAnd at P
  split at P
  · rename_i x xs
    cases r with
    | cons r1 r2 =>
      refine ⟨_, _, rfl, φ, μ, Hs, M, ρ, .d x, S, E, r1, ?_⟩
      cases e : g (.d x) ρ M with
      | none => rw [e] at P; exact P.elim
      | some p =>
        rw [e] at P
        exact fun μ' Hs' H' σ' pr ex S' E' => ⟨φ, μ', Hs', p.2, p.1, xs, S', E', r2.mono ex, P.mono pr ex⟩
  · exact P.elim
theorem jg_tup {es : List Expr} {k : Nat} {pos : Pos} {g : Tgs} {n : Nat} (hc : X.calm = true) (h : PGs X es (rdGs X.K g)) (hn : (assignEach es X.env).length = n := by rfl) (hst : (assignEach es X.env).findIdx? (·.1) = none := by rfl) : PG X (.Tuple es k pos) (rdG X.K (gT n g)) := by
  refine pg_imp (pg_tup hc h hn hst) fun v σ H Q h => ?_
  obtain ⟨φ, μ, Hs, M, ρ, x, S, E, r, P⟩ := h
  unfold gT at P
  split at P
  · rename_i ds
    obtain ⟨a, vs, rfl, h1, _, h2⟩ := tup_ok S r
    split at P
    · exact ⟨a, vs, rfl, h1, by rw [← h2.length]; assumption, φ, μ, Hs, M, ρ, ds, S, E, h2, P⟩
    · exact P.elim
  · exact P.elim
theorem gBnd_then {m : Sm Vl} {f : Vl → Env → List Mu → Option (Env × List Mu)} {φ : Hp} {μ : List Addr} {Hs H : Hp} {M : List Mu} {ρ : Env} {σ : L2.St} {Q : L2.St → Hp → Prop} {Q1 : VK} (S : SRel X.K φ μ Hs M H) (E : REnv X.K μ Hs ρ σ) (P : PostG X.K φ μ Hs (gBnd m f ρ M) Q)
    (k : ∀ (x : Vl) (v : V) (H' : Hp) (μ' : List Addr) (Hs' : Hp) (M' : List Mu), μ <+: μ' → Ex Hs Hs' → SRel X.K φ μ' Hs' M' H' → REnv X.K μ' Hs' ρ σ → RepV X.K μ' Hs' x v → PostG X.K φ μ' Hs' (f x ρ M') Q → Q1 v H') : rd X.K W m σ H Q1 := by
  refine ⟨φ, μ, Hs, M, ρ, S, E, ?_⟩
  unfold gBnd at P
  cases e : m ρ M with
  | ok x M' =>
    rw [e] at P
    exact fun μ' Hs' H' v p ex S' r => k x v H' μ' Hs' M' p ex S' (E.mono p ex) r (P.mono p ex)
  | exc C fs M' => rw [e] at P; exact P.elim
  | bad => rw [e] at P; exact P.elim
theorem jg_sub {o i : Expr} {pos : Pos} {mo mi : Sm Vl} (ho : PE X o (rd X.K W mo)) (hi : PE X i (rd X.K W mi))
    (ha : ∀ v, assign (.Subscript o i pos) X.env v = (do
      let ov ← holding [v] (eval o X.env)
      let iv ← holding [v, ov] (eval i X.env)
      standAt pos
      holding [v, ov, iv] (setItem ov iv v)
      release [v, ov, iv] []) := by intro _; rfl) : PG X (.Subscript o i pos) (rdG X.K (gS mo mi)) := by
  refine pg_imp (pg_sub ho hi set_list ha) fun v σ H Q h => ?_
  obtain ⟨φ, μ, Hs, M, ρ, x, S, E, r, P⟩ := h
  refine gBnd_then S E P fun ov vo H1 μ1 Hs1 M1 p1 e1 S1 E1 r1 P1 => ?_
  refine gBnd_then S1 E1 P1 fun iv vi H2 μ2 Hs2 M2 p2 e2 S2 E2 r2 P2 => ?_
  have rx := r.mono (pre_trans p1 p2) (e1.trans e2)
  have ro := r1.mono p2 e2
  cases q : setM ov iv x M2 with
  | none => rw [q] at P2; exact P2.elim
  | some M3 =>
    rw [q] at P2
    unfold setM at q
    split at q
    · rename_i k j y
      cases int_ok r2
      split at q
      · rename_i xs hk
        split at q
        · rename_i n hn
          cases q
          obtain ⟨a, vs, rfl, ha, hl, hr⟩ := mut_lst S2 hk ro
          refine ⟨a, vs, j, n, rfl, rfl, hl, by rw [← hr.length]; exact hn, ?_⟩
          exact P2.here (S2.write ha hk (fun z => nomatch z) (.lst (vs.set n v)) ⟨_, upd_same, hr.set rx n⟩ (fun z => nomatch z)) E2
        · cases q
      · cases q
    · cases q
/-- a target that is a field -/
def gFld (K : PySem.W.Frag) (ta : TE) (f : Str) : TG := fun y σ H Q => ta σ H fun x H2 => ∃ a C dx fs, x = .ref a ∧ H2 a = some (.ins C dx fs) ∧ Cls K C ∧ NoAttr K C f ∧ fs.length < 1000 ∧ Q σ (upd H2 a (.ins C dx (putF f y fs)))
theorem pg_fld {o : Expr} {f : Str} {pos : Pos} {ta : TE} (ho : PE X o ta) : PG X (.Attribute o f pos) (gFld X.K ta f) := by
  refine ⟨fun pins s σ H v u Q I r h => ?_⟩
  rw [assign_Attribute]
  refine wpAny_bind (wpAny_holding (thn (ho.run pins s σ H _ I h) fun ov s1 ⟨x, H1, I1, r1, a, C, dx, fs, ex, ea, c, n, l, q⟩ => ?_))
  subst ex
  obtain rfl : ov = Value.ref a := r1
  refine wpAny_bind (wpAny_standAt (wpAny_bind (wpAny_holding ?_)))
  exact setattr_ok I1 ea c n l r fun s2 I2 => wpAny_release ⟨σ, _, I2, q⟩
theorem putF_rep {K : PySem.W.Frag} {H : Hp} {f : Str} {d : D} {v : V} (r : Rep K H d v) : ∀ {fs : List (Str × D)} {fvs : List (Str × V)}, RepF K H fs fvs → RepF K H (putD f d fs) (putF f v fvs)
  | _, _, .nil => .cons r .nil
  | (n, y) :: fs, _, .cons (v := w) (fvs := fvs) a b => by
    show RepF K H (if n = f then (n, d) :: fs else (n, y) :: putD f d fs) (if n = f then (n, v) :: fvs else (n, w) :: putF f v fvs)
    by_cases h : n = f
    · rw [if_pos h, if_pos h]
      exact .cons r b
    · rw [if_neg h, if_neg h]
      exact .cons a (putF_rep r b)
theorem repF_length {K : PySem.W.Frag} {H : Hp} : ∀ {fs : List (Str × D)} {fvs : List (Str × V)}, RepF K H fs fvs → fs.length = fvs.length
  | _, _, .nil => rfl
  | _, _, .cons _ b => congrArg (· + 1) (repF_length b)
theorem jg_fld {cs : List Str} {o : Expr} {f : Str} {pos : Pos} {mo : Sm Vl} (ho : PE X o (rd X.K W mo)) (hc : ∀ C ∈ cs, Cls X.K (He.ga X.K C) ∧ NoAttr X.K (He.ga X.K C) f) : PG X (.Attribute o f pos) (rdG X.K (gF cs mo f)) := by
  refine pg_imp (pg_fld ho) fun v σ H Q h => ?_
  obtain ⟨φ, μ, Hs, M, ρ, x, S, E, r, P⟩ := h
  refine gBnd_then S E P fun ov vo H1 μ1 Hs1 M1 p1 e1 S1 E1 r1 P1 => ?_
  have rx := r.mono p1 e1
  cases q : setF cs f ov x M1 with
  | none => rw [q] at P1; exact P1.elim
  | some M3 =>
    rw [q] at P1
    unfold setF at q
    split at q
    · rename_i k
      split at q
      · rename_i d M2 hz
        obtain ⟨Hs2, ex2, S2, r2⟩ := frz1_ok S1 rx hz
        split at q
        · rename_i C fs hk
          split at q
          · rename_i hcs
            cases q
            obtain ⟨a, ha, rfl⟩ := r1
            obtain ⟨_, _, dx, fvs, h1, h2⟩ := S2.mu k a _ ha hk (fun z => nomatch z)
            obtain ⟨c1, c2⟩ := hc C hcs.1
            refine ⟨a, _, dx, fvs, rfl, h1, c1, c2, by rw [← repF_length h2]; exact hcs.2, ?_⟩
            exact PostG.here (P1.mono List.prefix_rfl ex2) (S2.write ha hk (fun z => nomatch z) _ ⟨dx, _, upd_same, putF_rep r2 h2⟩ (fun z => nomatch z)) (E1.mono List.prefix_rfl ex2)
          · cases q
        · cases q
      · cases q
    · cases q
/-- self.f = e -/
theorem js_fld {cs : List Str} {o e : Expr} {f : Str} {pos pos' : Pos} {m mo : Sm Vl} (he : PE X e (rd X.K W m)) (ho : PE X o (rd X.K W mo)) (hc : ∀ C ∈ cs, Cls X.K (He.ga X.K C) ∧ NoAttr X.K (He.ga X.K C) f) (hs : swapsWith e (some (.Attribute o f pos')) pos.line X.env = pure false := by rfl) :
    PS X (.Assign [.Attribute o f pos'] e pos) (rdS X.K W (sAsg m (gF cs mo f))) := by
  refine ps_imp (ps_fld ho he hs) fun D σ H h => ?_
  refine rdS.then h fun x v H' φ μ Hs M ρ S E r P => ?_
  have P' : PostG X.K φ μ Hs (gF cs mo f x ρ M) D.nx := by
    cases e : gF cs mo f x ρ M with
    | none => rw [e] at P; exact P
    | some p => rw [e] at P; exact P
  refine gBnd_then S E P' fun ov vo H1 μ1 Hs1 M1 p1 e1 S1 E1 r1 P1 => ?_
  have rx := r.mono p1 e1
  cases q : setF cs f ov x M1 with
  | none => rw [q] at P1; exact P1.elim
  | some M3 =>
    rw [q] at P1
    unfold setF at q
    split at q
    · rename_i k
      split at q
      · rename_i d M2 hz
        obtain ⟨Hs2, ex2, S2, r2⟩ := frz1_ok S1 rx hz
        split at q
        · rename_i C fs hk
          split at q
          · rename_i hcs
            cases q
            obtain ⟨a, ha, rfl⟩ := r1
            obtain ⟨_, _, dx, fvs, h1, h2⟩ := S2.mu k a _ ha hk (fun z => nomatch z)
            obtain ⟨c1, c2⟩ := hc C hcs.1
            refine ⟨a, _, dx, fvs, rfl, h1, c1, c2, by rw [← repF_length h2]; exact hcs.2, ?_⟩
            exact PostG.here (P1.mono List.prefix_rfl ex2) (S2.write ha hk (fun z => nomatch z) _ ⟨dx, _, upd_same, putF_rep r2 h2⟩ (fun z => nomatch z)) (E1.mono List.prefix_rfl ex2)
          · cases q
        · cases q
      · cases q
    · cases q
/-- a, b = x, y (local names) -/
def sPar (i j : Nat) (as : Sm (List Vl)) : Ss := sBnd as fun xs ρ M => match xs with
  | [x, y] => .nx ((ρ.set i (some x)).set j (some y)) M
  | _ => .bad
theorem js_par {i j : Nat} {x y : Str} {a b : Expr} {as : Sm (List Vl)} {px py pt pos : Pos} {kt k2 : Nat} {pt2 : Pos} (hc : X.calm = true) (hN : X.N.Nodup) (hi : X.N[i]? = some x) (hj : X.N[j]? = some y) (hij : i ≠ j)
    (hx : X.env.scope.names.lookup x = some .local) (hy : X.env.scope.names.lookup y = some .local) (ha : PA X [a, b] (rdA X.K W as))
    (hw : swappedStores [.Tuple [.Name x px, .Name y py] kt pt] (.Tuple [a, b] k2 pt2) X.env = pure (some [x, y]))
    (hs : swapsWithSole [.Tuple [.Name x px, .Name y py] kt pt] (.Tuple [a, b] k2 pt2) pos.line X.env = pure false := by rfl) : PS X (.Assign [.Tuple [.Name x px, .Name y py] kt pt] (.Tuple [a, b] k2 pt2) pos) (rdS X.K W (sPar i j as)) := by
  refine ps_imp (ps_par hc hN hi hj hij hx hy ha hw hs) fun D σ H h => ?_
  refine rdS.then h fun xs vs H' φ μ Hs M ρ S E r P => ?_
  split at P
  · obtain ⟨v, w, rfl, r1, r2⟩ := rv2 r
    exact ⟨v, w, rfl, P.here S ((E.set i r1).set j r2)⟩
  · exact P.elim
end
end Wv

namespace Wv
open PySem PySem.Spec PyProof.Rows L2

/-! ### what is walked -/
def ItOk (K : PySem.W.Frag) (J : It) (ds : List D) (Hs0 : Hp) : Prop := ∀ (φ : Hp) (μ : List Addr) (Hs : Hp) (M : List Mu) (H : Hp), SRel K φ μ Hs M H → Ex Hs0 Hs →
  J.stop ds.length H ∧ ∀ (i : Nat) (d : D), ds[i]? = some d → J.go i H ∧ ∀ x H', J.yld i H x H' → ∃ Hs', Ex Hs Hs' ∧ SRel K φ μ Hs' M H' ∧ Rep K Hs' d x
abbrev rdI (K : PySem.W.Frag) (W : WX) (m : Sm (List D)) : TI := rdR K W (fun _ Hs ds J => ItOk K J ds Hs) m
theorem ItOk.mono {K : PySem.W.Frag} {J : It} {ds : List D} {Hs Hs' : Hp} (h : ItOk K J ds Hs) (e : Ex Hs Hs') : ItOk K J ds Hs' := fun φ μ Hs2 M H S e2 => h φ μ Hs2 M H S (e.trans e2)
theorem itl_ok {K : PySem.W.Frag} {Hs0 : Hp} {a : Addr} {ds : List D} {vs : List V} (hl : SqL K Hs0 a vs) (r : Reps K Hs0 ds vs) : ItOk K (Itl K a) ds Hs0 := by
  intro φ μ Hs M H S e
  have h1 : SqL K H a vs := (e.trans S.ex).sqL hl
  refine ⟨⟨vs, h1, by rw [r.length]; exact Nat.le_refl _⟩, fun i d hd => ?_⟩
  obtain ⟨v, hv, rv⟩ := r.get hd
  refine ⟨⟨vs, v, h1, hv⟩, fun x H' hy => ?_⟩
  obtain ⟨rfl, hx⟩ := hy
  have := hx vs h1
  rw [hv] at this
  cases this
  exact ⟨Hs, Ex.refl _, S, rv.mono e⟩
theorem itt_ok {K : PySem.W.Frag} {Hs0 : Hp} {a : Addr} {ds : List D} {vs : List V} (hl : SqT K Hs0 a vs) (r : Reps K Hs0 ds vs) : ItOk K (Itt K a) ds Hs0 := by
  intro φ μ Hs M H S e
  have h1 : SqT K H a vs := (e.trans S.ex).sqT hl
  refine ⟨⟨vs, h1, by rw [r.length]; exact Nat.le_refl _⟩, fun i d hd => ?_⟩
  obtain ⟨v, hv, rv⟩ := r.get hd
  refine ⟨⟨vs, v, h1, hv⟩, fun x H' hy => ?_⟩
  obtain ⟨rfl, hx⟩ := hy
  have := hx vs h1
  rw [hv] at this
  cases this
  exact ⟨Hs, Ex.refl _, S, rv.mono e⟩
def strD (z : Str) : List D := z.cps.toList.map fun c => D.str ⟨#[c]⟩
theorem its_ok {K : PySem.W.Frag} {Hs0 : Hp} {z : Str} : ItOk K (Its z) (strD z) Hs0 := by
  intro φ μ Hs M H S e
  refine ⟨by show z.cps.size ≤ (strD z).length; simp [strD], fun i d hd => ⟨?_, fun x H' hy => ?_⟩⟩
  · have := (List.getElem?_eq_some_iff.mp hd).1
    show i < z.cps.size
    simpa [strD] using this
  · obtain ⟨rfl, c, hc, rfl⟩ := hy
    unfold strD at hd
    rw [List.getElem?_map, Array.getElem?_toList, hc] at hd
    cases hd
    exact ⟨Hs, Ex.refl _, S, .str _⟩
def rngD (lo : Int) (n : Nat) : List D := (List.range n).map fun (i : Nat) => D.int (lo + i)
theorem itr_ok {K : PySem.W.Frag} {Hs0 : Hp} {lo : Int} {n : Nat} : ItOk K (Itr lo n) (rngD lo n) Hs0 := by
  intro φ μ Hs M H S e
  refine ⟨by show n ≤ (rngD lo n).length; simp [rngD], fun i d hd => ⟨?_, fun x H' hy => ?_⟩⟩
  · have := (List.getElem?_eq_some_iff.mp hd).1
    show i < n
    simpa [rngD] using this
  · obtain ⟨rfl, rfl⟩ := hy
    have hi := (List.getElem?_eq_some_iff.mp hd).1
    unfold rngD at hd hi
    rw [List.length_map, List.length_range] at hi
    rw [List.getElem?_map, List.getElem?_range hi] at hd
    cases hd
    exact ⟨Hs, Ex.refl _, S, .int _⟩
def enumD (ds : List D) : List D := ds.zipIdx.map fun p => D.tup [.int (p.2 : Nat), p.1]
theorem ite_ok {K : PySem.W.Frag} {Hs0 : Hp} {a : Addr} {ds : List D} {vs : List V} (hl : SqL K Hs0 a vs) (r : Reps K Hs0 ds vs) : ItOk K (Ite K a) (enumD ds) Hs0 := by
  intro φ μ Hs M H S e
  have h1 : SqL K H a vs := (e.trans S.ex).sqL hl
  have hlen : (enumD ds).length = ds.length := by simp [enumD]
  refine ⟨⟨vs, h1, by rw [hlen, r.length]; exact Nat.le_refl _⟩, fun i d hd => ?_⟩
  have hi : i < ds.length := by rw [← hlen]; exact (List.getElem?_eq_some_iff.mp hd).1
  have hdi : ds[i]? = some ds[i] := List.getElem?_eq_getElem hi
  unfold enumD at hd
  rw [List.getElem?_map, List.getElem?_zipIdx, hdi] at hd
  simp only [Option.map_some, Option.some.injEq, Nat.zero_add] at hd
  obtain ⟨v, hv, rv⟩ := r.get hdi
  refine ⟨⟨vs, v, h1, hv⟩, fun x H' hy => ?_⟩
  obtain ⟨T, y, rfl, hT, rfl, hx⟩ := hy
  have := hx vs h1
  rw [hv] at this
  cases this
  have ex : Ex Hs (upd Hs T (.tup [.int (i : Nat), v])) := Ex.new (S.free hT).2.2
  refine ⟨_, ex, S.laid hT _, ?_⟩
  rw [← hd]
  exact .tup (.inl (.inl upd_same)) (.cons (.int _) (.cons (rv.mono (e.trans ex)) .nil))
def iterV : Vl → Option (List D)
  | .d (.lst xs) => some xs
  | .d (.scr ns) => some (ns.map D.int)
  | .d (.tup xs) => some xs
  | .d (.str z) => some (strD z)
  | _ => none
def eIter (m : Sm Vl) : Sm (List D) := bnd m fun x _ M => match iterV x with
  | some ds => .ok ds M
  | none => .bad
def eRng1 (as : Sm (List Vl)) : Sm (List D) := bnd as fun xs _ M => match xs with
  | [.d (.int j)] => if -(2 ^ 62) ≤ j ∧ j < 2 ^ 62 then .ok (rngD 0 j.toNat) M else .bad
  | _ => .bad
def eRng2 (as : Sm (List Vl)) : Sm (List D) := bnd as fun xs _ M => match xs with
  | [.d (.int i), .d (.int j)] => if (-(2 ^ 62) ≤ i ∧ i < 2 ^ 62) ∧ -(2 ^ 62) ≤ j ∧ j < 2 ^ 62 then .ok (rngD i (j - i).toNat) M else .bad
  | _ => .bad
def eEnum (as : Sm (List Vl)) : Sm (List D) := bnd as fun xs _ M => match xs with
  | [.d (.lst ds)] => .ok (enumD ds) M
  | _ => .bad
section
variable {X : Cx} {W : WX}
/-- a list, a tuple or a text is walked -/
def iAny (K : PySem.W.Frag) (tl : TE) : TI := fun σ H R => tl σ H fun x H1 => (∃ a, x = .ref a ∧ (∃ xs, SqL K H1 a xs) ∧ R (Itl K a) H1) ∨ (∃ a, x = .ref a ∧ (∃ xs, SqT K H1 a xs) ∧ R (Itt K a) H1) ∨ ∃ z, x = .str z ∧ R (Its z) H1
theorem pi_any {tg l : Expr} {tl : TE} (hl : PE X l tl) : PI X tg l (iAny X.K tl) := by
  refine ⟨fun pins s σ H R I h => ?_⟩
  refine thn (hl.run pins s σ H _ I h) fun v s1 ⟨x, H1, I1, r1, q1⟩ => ?_
  rcases q1 with ⟨a, e, ⟨xs, hq⟩, q⟩ | ⟨a, e, ⟨xs, hq⟩, q⟩ | ⟨x, e, q⟩
  · subst e
    cases r1
    obtain ⟨its, rv, p, hz⟩ := I1.list hq
    refine wpAny_pyIter_list p.isList ?_
    refine ⟨s1.heap.objs.size, [s1.heap.objs.size], _, _, H1, rfl, I1.kept (t' := s1.toks) fun b o e => Heap.get?_push_of_some _ e, turn_list a _, ⟨_, Heap.get?_push_size _ rfl, rfl, rfl⟩, fun b hb => ?_, q⟩
    have e : b = s1.heap.objs.size := by simpa using hb
    subst e
    exact I1.fpOk (Nat.le_refl _) (I1.hok.fresh (Nat.le_refl _))
  · subst e
    cases r1
    obtain ⟨its, rv, p, hz⟩ := I1.tuple hq
    refine wpAny_pyIter_tuple (show s1.heap.IsTuple a its.toArray from p) ?_
    refine ⟨s1.heap.objs.size, [s1.heap.objs.size], _, _, H1, rfl, I1.kept (t' := s1.toks) fun b o e => Heap.get?_push_of_some _ e, turn_tuple a _, ⟨_, Heap.get?_push_size _ rfl, rfl, rfl⟩, fun b hb => ?_, q⟩
    have e : b = s1.heap.objs.size := by simpa using hb
    subst e
    exact I1.fpOk (Nat.le_refl _) (I1.hok.fresh (Nat.le_refl _))
  · subst e
    obtain ⟨t, rfl⟩ := r1
    cases ha : x.cps.all (· < 128)
    · exact wpAny_pyIter_wide ha (pi_one (tk := s1.toks) I1 _ (turn_str _ x t "str_iterator" (.inr rfl)) ⟨_, Heap.get?_push_size _ rfl, rfl, rfl⟩ q)
    · exact wpAny_pyIter_ascii ha (pi_one (tk := s1.toks) I1 _ (turn_str _ x t "str_ascii_iterator" (.inl rfl)) ⟨_, Heap.get?_push_size _ rfl, rfl, rfl⟩ q)
theorem pi_imp {tg e : Expr} {t t' : TI} (h : PI X tg e t) (i : ∀ σ H R, t' σ H R → t σ H R) : PI X tg e t' := ⟨fun pins s σ H R I q => h.run pins s σ H R I (i σ H R q)⟩
theorem ji_any {tg e : Expr} {m : Sm Vl} (h : PE X e (rd X.K W m)) : PI X tg e (rdI X.K W (eIter m)) := by
  refine pi_imp (pi_any h) fun σ H R h => ?_
  refine rdR.then h fun x v H1 φ μ Hs M ρ S E r P => ?_
  split at P
  · rename_i ds hd
    unfold iterV at hd
    split at hd
    · rename_i xs
      obtain rfl : xs = ds := Option.some.inj hd
      cases (show Rep X.K Hs (.lst xs) v from r) with
      | lst h1 h2 => exact .inl ⟨_, rfl, ⟨_, SqL.of (S.up h1)⟩, P.here S (itl_ok (SqL.of h1) h2)⟩
    · rename_i ns
      cases hd
      cases (show Rep X.K Hs (.scr ns) v from r) with
      | scr h1 => exact .inl ⟨_, rfl, ⟨_, S.ex.sqL h1⟩, P.here S (itl_ok h1 (reps_ints ns))⟩
    · rename_i xs
      obtain rfl : xs = ds := Option.some.inj hd
      cases (show Rep X.K Hs (.tup xs) v from r) with
      | tup h1 h2 => exact .inr (.inl ⟨_, rfl, ⟨_, S.ex.sqT h1⟩, P.here S (itt_ok h1 h2)⟩)
    · cases hd
      cases str_ok r
      exact .inr (.inr ⟨_, rfl, P.here S its_ok⟩)
    · cases hd
  · exact P.elim
theorem ji_range1 {tg a : Expr} {as : Sm (List Vl)} {p pos : Pos} (hg : Gl X "range") (hm : X.mg "range" = none) (ha : PA X [a] (rdA X.K W as)) (hs : starEach [a] X.env = [(false, eval a X.env)] := by rfl) : PI X tg (.Call (.Name "range" p) [a] [] pos) (rdI X.K W (eRng1 as)) := by
  refine pi_imp (pi_range1 hg hm ha hs) fun σ H R h => ?_
  refine rdR.then h fun xs vs H1 φ μ Hs M ρ S E r P => ?_
  split at P
  · obtain ⟨v, rfl, rx⟩ := rv1 r
    cases int_ok rx
    split at P
    · rename_i hc
      exact ⟨_, rfl, hc.1, hc.2, P.here S itr_ok⟩
    · exact P.elim
  · exact P.elim
theorem ji_range2 {tg a b : Expr} {as : Sm (List Vl)} {p pos : Pos} (hg : Gl X "range") (hm : X.mg "range" = none) (ha : PA X [a, b] (rdA X.K W as)) (hs : starEach [a, b] X.env = [(false, eval a X.env), (false, eval b X.env)] := by rfl) (hs2 : starEach [b] X.env = [(false, eval b X.env)] := by rfl) :
    PI X tg (.Call (.Name "range" p) [a, b] [] pos) (rdI X.K W (eRng2 as)) := by
  refine pi_imp (pi_range2 hg hm ha hs hs2) fun σ H R h => ?_
  refine rdR.then h fun xs vs H1 φ μ Hs M ρ S E r P => ?_
  split at P
  · obtain ⟨v, w, rfl, rx, ry⟩ := rv2 r
    cases int_ok rx
    cases int_ok ry
    split at P
    · rename_i hc
      exact ⟨_, _, rfl, ⟨hc.1.1, hc.1.2, hc.2.1, hc.2.2⟩, P.here S itr_ok⟩
    · exact P.elim
  · exact P.elim
theorem ji_enum {e : Expr} {as : Sm (List Vl)} {p pos tpos : Pos} {elts : List Expr} {kk : Nat} (hg : Gl X "enumerate") (hm : X.mg "enumerate" = none) (ha : PA X [e] (rdA X.K W as)) (hs : starEach [e] X.env = [(false, eval e X.env)] := by rfl) :
    PI X (.Tuple elts kk tpos) (.Call (.Name "enumerate" p) [e] [] pos) (rdI X.K W (eEnum as)) := by
  refine pi_imp (pi_enum hg hm ha hs) fun σ H R h => ?_
  refine rdR.then h fun xs vs H1 φ μ Hs M ρ S E r P => ?_
  split at P
  · rename_i ds
    obtain ⟨v, rfl, rx⟩ := rv1 r
    cases (show Rep X.K Hs (.lst ds) v from rx) with
    | lst h1 h2 => exact ⟨_, _, rfl, SqL.of (S.up h1), P.here S (ite_ok (SqL.of h1) h2)⟩
  · exact P.elim
end

/-! ### for -/
/-- what a name holds of the store beyond n is forgotten -/
def cutE (n : Nat) (ρ : Env) : Env := ρ.map fun o => match o with
  | some (.m k) => if k < n then some (.m k) else none
  | o => o
theorem cutE_ok {K : PySem.W.Frag} {n : Nat} {μ : List Addr} {Hs : Hp} {ρ : Env} {σ : L2.St} (E : REnv K μ Hs ρ σ) : REnv K (μ.take n) Hs (cutE n ρ) σ := by
  refine ⟨by unfold cutE; rw [List.length_map]; exact E.len, fun i x h => ?_⟩
  unfold cutE at h
  rw [List.getElem?_map] at h
  cases e : ρ[i]? with
  | none => rw [e] at h; cases h
  | some o =>
    rw [e] at h
    cases o with
    | none => cases h
    | some y =>
      cases y with
      | d z =>
        cases h
        exact E.at_ i (.d z) e
      | m k =>
        have h : (if k < n then some (Vl.m k) else none) = some x := by simpa using h
        by_cases hk : k < n
        · rw [if_pos hk] at h
          cases h
          obtain ⟨v, h1, a, h2, h3⟩ := E.at_ i (.m k) e
          exact ⟨v, h1, a, by rw [List.getElem?_take_of_lt hk]; exact h2, h3⟩
        · rw [if_neg hk] at h
          cases h
theorem pre_take {μ μ' : List Addr} (h : μ <+: μ') : μ'.take μ.length = μ := by
  obtain ⟨t, rfl⟩ := h
  simp
def forL (n : Nat) (g : Tg) (b : Ss) : List D → Env → List Mu → RS
  | [], ρ, M => .nx ρ M
  | d :: ds, ρ, M => (match g (.d d) ρ M with
    | none => .bad
    | some p => (match b p.1 p.2 with
      | .nx ρ2 M2 => forL n g b ds (cutE n ρ2) (M2.take n)
      | .ct ρ2 M2 => forL n g b ds (cutE n ρ2) (M2.take n)
      | .bk ρ2 M2 => .nx ρ2 M2
      | r => r))
def sFor (mi : Sm (List D)) (g : Tg) (b : Ss) : Ss := sBnd mi fun ds ρ M => forL M.length g b ds ρ M
section
variable {X : Cx} {W : WX}
theorem js_for {tg iter : Expr} {body : List Stmt} {pos : Pos} {mi : Sm (List D)} {g : Tg} {b : Ss} (hp : PassesOwn (model X.prog X.w) X.A X.env X.xe) (hc : X.calm = true) (hi : PI X tg iter (rdI X.K W mi)) (hg : PG X tg (rdG X.K g)) (hb : PSs X body (rdS X.K W b))
    (hs : ∀ x, foldedSetIterable iter X.env x = pure x := by intro _; rfl) : PS X (.For tg iter body [] pos) (rdS X.K W (sFor mi g b)) := by
  refine ps_imp (ps_for hp hc hi hg hb hs) fun D σ H h => ?_
  refine rdS.then h fun ds J H1 φ μ Hs1 M1 ρ1 S1 E1 hJ P => ?_
  refine ⟨fun i m σ H => m = ds.length - i ∧ i ≤ ds.length ∧ ∃ Hs M ρ, Ex Hs1 Hs ∧ SRel X.K φ μ Hs M H ∧ REnv X.K μ Hs ρ σ ∧ PostS X.K W φ μ Hs (forL M1.length g b (ds.drop i) ρ M) D,
    ⟨ds.length, rfl, Nat.zero_le _, Hs1, M1, ρ1, Ex.refl _, S1, E1, P⟩, ?_⟩
  rintro i m σ H ⟨rfl, hi, Hs, M, ρ, ex, S, E, P⟩
  obtain ⟨hst, hgo⟩ := hJ φ μ Hs M H S ex
  by_cases hil : i = ds.length
  · left
    subst hil
    rw [List.drop_length] at P
    exact ⟨hst, P.here S E⟩
  · right
    have hlt : i < ds.length := by omega
    have hd : ds[i]? = some ds[i] := List.getElem?_eq_getElem hlt
    rw [List.drop_eq_getElem_cons hlt] at P
    obtain ⟨hgi, hy⟩ := hgo i _ hd
    refine ⟨hgi, fun σ' H' => ∃ Hs M ρ, Ex Hs1 Hs ∧ SRel X.K φ μ Hs M H' ∧ REnv X.K μ Hs ρ σ' ∧ PostS X.K W φ μ Hs (forL M1.length g b (ds.drop (i + 1)) ρ M) D, fun σ' H' hN => ⟨ds.length - (i + 1), by omega, rfl, by omega, hN⟩, fun x H2 hx => ?_⟩
    obtain ⟨Hs2, ex2, S2, r2⟩ := hy x H2 hx
    refine ⟨φ, μ, Hs2, M, ρ, .d ds[i], S2, E.mono List.prefix_rfl ex2, r2, ?_⟩
    unfold forL at P
    cases eg : g (.d ds[i]) ρ M with
    | none => rw [eg] at P; exact P.elim
    | some p =>
      rw [eg] at P
      refine fun μ3 Hs3 H3 σ3 p3 ex3 S3 E3 => ⟨φ, μ3, Hs3, p.2, p.1, S3, E3, ?_⟩
      have again : ∀ (ρ4 : Env) (M4 : List Mu), PostS X.K W φ μ Hs (forL M1.length g b (ds.drop (i + 1)) (cutE M1.length ρ4) (M4.take M1.length)) D → ∀ (μ4 : List Addr) (Hs4 H4 : Hp) (σ4 : L2.St), μ3 <+: μ4 → Ex Hs3 Hs4 → SRel X.K φ μ4 Hs4 M4 H4 → REnv X.K μ4 Hs4 ρ4 σ4 →
          ∃ Hs M ρ, Ex Hs1 Hs ∧ SRel X.K φ μ Hs M H4 ∧ REnv X.K μ Hs ρ σ4 ∧ PostS X.K W φ μ Hs (forL M1.length g b (ds.drop (i + 1)) ρ M) D := fun ρ4 M4 P4 μ4 Hs4 H4 σ4 p4 ex4 S4 E4 => by
        obtain ⟨Hs5, ex5, S5⟩ := S4.cut M1.length
        have hm : μ4.take M1.length = μ := by rw [← S1.len]; exact pre_take (pre_trans p3 p4)
        have E5 := cutE_ok (n := M1.length) (E4.mono List.prefix_rfl ex5)
        rw [hm] at S5 E5
        have exx : Ex Hs Hs5 := ex2.trans (ex3.trans (ex4.trans ex5))
        exact ⟨Hs5, _, _, ex.trans exx, S5, E5, P4.mono List.prefix_rfl exx⟩
      cases eb : b p.1 p.2 with
      | nx ρ4 M4 => simp only [eb] at P; exact again ρ4 M4 P
      | ct ρ4 M4 => simp only [eb] at P; exact again ρ4 M4 P
      | bk ρ4 M4 =>
        simp only [eb] at P
        exact fun μ4 Hs4 H4 σ4 p4 ex4 S4 E4 => P μ4 Hs4 H4 σ4 (pre_trans p3 p4) (ex2.trans (ex3.trans ex4)) S4 E4
      | rt y M4 =>
        simp only [eb] at P
        exact fun μ4 Hs4 H4 v p4 ex4 S4 E4 => P μ4 Hs4 H4 v (pre_trans p3 p4) (ex2.trans (ex3.trans ex4)) S4 E4
      | exc ρ4 C fs M4 =>
        simp only [eb] at P
        exact fun μ4 Hs4 H4 σ4 a fvs p4 ex4 S4 E4 => P μ4 Hs4 H4 σ4 a fvs (pre_trans p3 p4) (ex2.trans (ex3.trans ex4)) S4 E4
      | bad => simp only [eb] at P; exact P.elim
end

/-! ### while -/
def whileL (n : Nat) (c : Sm Bool) (b : Ss) : Nat → Env → List Mu → RS
  | 0, _, _ => .bad
  | k + 1, ρ, M => (match c ρ M with
    | .ok true M1 => (match b ρ M1 with
      | .nx ρ2 M2 => whileL n c b k (cutE n ρ2) (M2.take n)
      | .ct ρ2 M2 => whileL n c b k (cutE n ρ2) (M2.take n)
      | .bk ρ2 M2 => .nx ρ2 M2
      | r => r)
    | .ok false M1 => .nx ρ M1
    | .exc C fs M1 => .exc ρ C fs M1
    | .bad => .bad)
def fuel : Nat := 1000000000
def sWhile (c : Sm Bool) (b : Ss) : Ss := fun ρ M => whileL M.length c b fuel ρ M
section
variable {X : Cx} {W : WX}
theorem js_while {c : Expr} {body : List Stmt} {pos : Pos} {mc : Sm Bool} {b : Ss} (hp : PassesOwn (model X.prog X.w) X.A X.env X.xe) (hc : PT X c (rdT X.K W mc)) (hb : PSs X body (rdS X.K W b)) : PS X (.While c body [] pos) (rdS X.K W (sWhile mc b)) := by
  refine ps_imp (ps_while hp hc hb) fun D σ H h => ?_
  obtain ⟨φ, μ, Hs1, M1, ρ1, S1, E1, P⟩ := h
  refine ⟨fun m σ H => ∃ Hs M ρ, Ex Hs1 Hs ∧ SRel X.K φ μ Hs M H ∧ REnv X.K μ Hs ρ σ ∧ PostS X.K W φ μ Hs (whileL M1.length mc b m ρ M) D, ⟨fuel, Hs1, M1, ρ1, Ex.refl _, S1, E1, P⟩, ?_⟩
  rintro m σ H ⟨Hs, M, ρ, ex, S, E, P⟩
  cases m with
  | zero => exact P.elim
  | succ k =>
    refine ⟨φ, μ, Hs, M, ρ, S, E, ?_⟩
    unfold whileL at P
    cases ec : mc ρ M with
    | ok x M2 =>
      rw [ec] at P
      intro μ2 Hs2 H2 v p2 ex2 S2 ev
      cases ev
      cases x with
      | false => exact P μ2 Hs2 H2 σ p2 ex2 S2 (E.mono p2 ex2)
      | true =>
        rw [if_pos rfl]
        refine ⟨fun σ' H' => ∃ Hs M ρ, Ex Hs1 Hs ∧ SRel X.K φ μ Hs M H' ∧ REnv X.K μ Hs ρ σ' ∧ PostS X.K W φ μ Hs (whileL M1.length mc b k ρ M) D, fun σ' H' hN => ⟨k, Nat.lt_succ_self k, hN⟩, φ, μ2, Hs2, M2, ρ, S2, E.mono p2 ex2, ?_⟩
        have again : ∀ (ρ4 : Env) (M4 : List Mu), PostS X.K W φ μ Hs (whileL M1.length mc b k (cutE M1.length ρ4) (M4.take M1.length)) D → ∀ (μ4 : List Addr) (Hs4 H4 : Hp) (σ4 : L2.St), μ2 <+: μ4 → Ex Hs2 Hs4 → SRel X.K φ μ4 Hs4 M4 H4 → REnv X.K μ4 Hs4 ρ4 σ4 →
            ∃ Hs M ρ, Ex Hs1 Hs ∧ SRel X.K φ μ Hs M H4 ∧ REnv X.K μ Hs ρ σ4 ∧ PostS X.K W φ μ Hs (whileL M1.length mc b k ρ M) D := fun ρ4 M4 P4 μ4 Hs4 H4 σ4 p4 ex4 S4 E4 => by
          obtain ⟨Hs5, ex5, S5⟩ := S4.cut M1.length
          have hm : μ4.take M1.length = μ := by rw [← S1.len]; exact pre_take (pre_trans p2 p4)
          have E5 := cutE_ok (n := M1.length) (E4.mono List.prefix_rfl ex5)
          rw [hm] at S5 E5
          have exx : Ex Hs Hs5 := ex2.trans (ex4.trans ex5)
          exact ⟨Hs5, _, _, ex.trans exx, S5, E5, P4.mono List.prefix_rfl exx⟩
        cases eb : b ρ M2 with
        | nx ρ4 M4 => simp only [eb] at P; exact again ρ4 M4 P
        | ct ρ4 M4 => simp only [eb] at P; exact again ρ4 M4 P
        | bk ρ4 M4 =>
          simp only [eb] at P
          exact fun μ4 Hs4 H4 σ4 p4 ex4 S4 E4 => P μ4 Hs4 H4 σ4 (pre_trans p2 p4) (ex2.trans ex4) S4 E4
        | rt y M4 =>
          simp only [eb] at P
          exact fun μ4 Hs4 H4 v p4 ex4 S4 E4 => P μ4 Hs4 H4 v (pre_trans p2 p4) (ex2.trans ex4) S4 E4
        | exc ρ4 C fs M4 =>
          simp only [eb] at P
          exact fun μ4 Hs4 H4 σ4 a fvs p4 ex4 S4 E4 => P μ4 Hs4 H4 σ4 a fvs (pre_trans p2 p4) (ex2.trans ex4) S4 E4
        | bad => simp only [eb] at P; exact P.elim
    | exc C fs M2 =>
      rw [ec] at P
      exact fun μ2 Hs2 H2 a fvs p2 ex2 S2 h1 h2 => P μ2 Hs2 H2 σ a fvs p2 ex2 S2 (E.mono p2 ex2) h1 h2
    | bad => rw [ec] at P; exact P.elim
end
end Wv

namespace Wv
open PySem PySem.Spec PyProof.Rows L2

/-! ### list comprehensions -/
def wipeE (ρ : Env) : List Nat → Env
  | [] => ρ
  | v :: vs => (wipeE ρ vs).set v none
theorem REnv.unset {K : PySem.W.Frag} {μ : List Addr} {Hs : Hp} {ρ : Env} {σ : L2.St} (R : REnv K μ Hs ρ σ) (i : Nat) (o : Option V) : REnv K μ Hs (ρ.set i none) (σ.set i o) := by
  refine ⟨by simp [R.len], fun j y h => ?_⟩
  by_cases hj : i = j
  · subst hj
    have hl : i < ρ.length := by
      have := (List.getElem?_eq_some_iff.mp h).1
      simpa using this
    rw [List.getElem?_set_self hl] at h
    cases h
  · rw [List.getElem?_set_ne hj] at h ⊢
    exact R.at_ j y h
theorem wipeE_ok {K : PySem.W.Frag} {μ : List Addr} {Hs : Hp} {ρ : Env} {σ : L2.St} (R : REnv K μ Hs ρ σ) : ∀ vs : List Nat, REnv K μ Hs (wipeE ρ vs) (wipe σ vs)
  | [] => R
  | v :: vs => (wipeE_ok R vs).unset v none
theorem wipe_set {j : Nat} {o : Option V} : ∀ {vs : List Nat} {σ : L2.St}, j ∈ vs → wipe (σ.set j o) vs = wipe σ vs
  | v :: vs, σ, h => by
    show (wipe (σ.set j o) vs).set v none = (wipe σ vs).set v none
    by_cases hj : j ∈ vs
    · rw [wipe_set hj]
    · have e : v = j := by
        rcases List.mem_cons.mp h with q | q
        · exact q.symm
        · exact absurd q hj
      subst e
      have aux : ∀ (ws : List Nat) (τ : L2.St), (wipe (τ.set v o) ws).set v none = (wipe τ ws).set v none := by
        intro ws
        induction ws with
        | nil =>
          intro τ
          show (τ.set v o).set v none = τ.set v none
          simp
        | cons w ws ih =>
          intro τ
          show ((wipe (τ.set v o) ws).set w none).set v none = ((wipe τ ws).set w none).set v none
          by_cases hw : w = v
          · subst hw
            rw [ih]
          · rw [List.set_comm _ _ hw, List.set_comm _ _ hw, ih]
      exact aux vs σ
/-- a comprehension's target: its own names alone -/
def CTg (K : PySem.W.Frag) (vs : List Nat) (g : TG) (gs : D → Env → Option Env) : Prop := ∀ (φ : Hp) (μ : List Addr) (Hs : Hp) (M : List Mu) (H : Hp) (ρ : Env) (σ : L2.St) (d : D) (x : V) (Q : L2.St → Hp → Prop), SRel K φ μ Hs M H → REnv K μ Hs ρ σ → Rep K Hs d x →
  (match gs d ρ with
    | some ρ' => ∀ σ', REnv K μ Hs ρ' σ' → wipe σ' vs = wipe σ vs → Q σ' H
    | none => False) → g x σ H Q
def cName (j : Nat) : D → Env → Option Env := fun d ρ => some (ρ.set j (some (.d d)))
theorem ct_name {K : PySem.W.Frag} {vs : List Nat} {j : Nat} (h : j ∈ vs) : CTg K vs (gName j) (cName j) := by
  intro φ μ Hs M H ρ σ d x Q S E r P
  exact P _ (E.set j (x := .d d) r) (wipe_set h)
def cSets : List Nat → List D → Env → Option Env
  | [], [], ρ => some ρ
  | j :: js, d :: ds, ρ => cSets js ds (ρ.set j (some (.d d)))
  | _, _, _ => none
def cTup (js : List Nat) : D → Env → Option Env := fun d ρ => match d with
  | .tup ds => cSets js ds ρ
  | _ => none
def gNames : List Nat → TGs
  | [] => gNil
  | j :: js => gCons (gName j) (gNames js)
theorem cSets_ok {K : PySem.W.Frag} {μ : List Addr} {Hs : Hp} {vs : List Nat} : ∀ {js : List Nat} {ds : List D} {xs : List V} {ρ : Env} {σ : L2.St} {H : Hp} {Q : L2.St → Hp → Prop}, (∀ j ∈ js, j ∈ vs) → REnv K μ Hs ρ σ → Reps K Hs ds xs →
    (match cSets js ds ρ with
      | some ρ' => ∀ σ', REnv K μ Hs ρ' σ' → wipe σ' vs = wipe σ vs → Q σ' H
      | none => False) → gNames js xs σ H Q
  | [], [], _, ρ, σ, H, Q, _, E, .nil, P => ⟨rfl, P σ E rfl⟩
  | [], _ :: _, _, _, _, _, _, _, _, _, P => P.elim
  | _ :: _, [], _, _, _, _, _, _, _, _, P => P.elim
  | j :: js, d :: ds, _, ρ, σ, H, Q, hj, E, .cons r rs, P => by
    refine ⟨_, _, rfl, cSets_ok (fun i hi => hj i (List.mem_cons_of_mem _ hi)) (E.set j (x := .d d) r) rs ?_⟩
    have P : (match cSets js ds (ρ.set j (some (.d d))) with
      | some ρ' => ∀ σ', REnv K μ Hs ρ' σ' → wipe σ' vs = wipe σ vs → Q σ' H
      | none => False) := P
    cases e : cSets js ds (ρ.set j (some (.d d))) with
    | none => rw [e] at P; exact P
    | some ρ' =>
      rw [e] at P
      exact fun σ' E' hw => P σ' E' (hw.trans (wipe_set (hj j List.mem_cons_self)))
theorem cSets_len : ∀ {js : List Nat} {ds : List D} {ρ ρ' : Env}, cSets js ds ρ = some ρ' → js.length = ds.length
  | [], [], _, _, _ => rfl
  | [], _ :: _, _, _, h => nomatch h
  | _ :: _, [], _, _, h => nomatch h
  | j :: js, d :: ds, ρ, ρ', h => congrArg (· + 1) (cSets_len (js := js) (ds := ds) h)
theorem ct_tup {K : PySem.W.Frag} {vs js : List Nat} (h : ∀ j ∈ js, j ∈ vs) : CTg K vs (gTup K js.length (gNames js)) (cTup js) := by
  intro φ μ Hs M H ρ σ d x Q S E r P
  unfold cTup at P
  cases d with
  | tup ds =>
    cases r with
    | tup h1 h2 =>
      have P : (match cSets js ds ρ with
        | some ρ' => ∀ σ', REnv K μ Hs ρ' σ' → wipe σ' vs = wipe σ vs → Q σ' H
        | none => False) := P
      cases e : cSets js ds ρ with
      | none => rw [e] at P; exact P.elim
      | some ρ' => exact ⟨_, _, rfl, S.ex.sqT h1, by rw [← h2.length]; exact (cSets_len e).symm, cSets_ok h E h2 P⟩
  | _ => exact P.elim

def compL (n : Nat) (gs : D → Env → Option Env) (t : Sm Bool) (e : Sm Vl) (ρ : Env) : List D → List Mu → List D → Res (List D)
  | [], M, acc => .ok acc M
  | d :: ds, M, acc => (match gs d ρ with
    | none => .bad
    | some ρ1 => (match t ρ1 M with
      | .ok true M2 => (match e ρ1 M2 with
        | .ok x M3 => (match frz1 M3 x with
          | some (y, M4) => if acc.length < sizeLine then compL n gs t e ρ ds (M4.take n) (acc ++ [y]) else .bad
          | none => .bad)
        | _ => .bad)
      | .ok false M2 => compL n gs t e ρ ds (M2.take n) acc
      | _ => .bad))
def eLcR (mi : Sm (List D)) (gs : D → Env → Option Env) (t : Sm Bool) (e : Sm Vl) (vs : List Nat) : Sm (List D) := bnd mi fun ds ρ M => compL M.length gs t e (wipeE ρ vs) ds M []
def eLc (mi : Sm (List D)) (gs : D → Env → Option Env) (t : Sm Bool) (e : Sm Vl) (vs : List Nat) : Sm Vl := bnd (eLcR mi gs t e vs) fun ds _ M => .ok (.d (.lst ds)) M
def eLcM (mi : Sm (List D)) (gs : D → Env → Option Env) (t : Sm Bool) (e : Sm Vl) (vs : List Nat) : Sm Vl := bnd (eLcR mi gs t e vs) fun ds _ M => .ok (.m M.length) (M ++ [.lst ds])
def eTrue : Sm Bool := fun _ M => .ok true M
abbrev W0 : WX := fun _ _ _ _ => False
/-- the heart: the reading of a comprehension; k: what becomes of the list -/
theorem lc_rd {K : PySem.W.Frag} {W : WX} {mi : Sm (List D)} {gs : D → Env → Option Env} {g : TG} {t : Sm Bool} {e : Sm Vl} {vs : List Nat} (hg : CTg K vs g gs) {f : List D → Sm Vl} {σ : L2.St} {H : Hp} {Q : VK} (h : rd K W (bnd (eLcR mi gs t e vs) f) σ H Q)
    (k : ∀ (φ : Hp) (μ : List Addr) (Hs : Hp) (M : List Mu) (H : Hp) (ρ : Env) (Dl : Addr) (acc : List D) (accV : List V), φ Dl = none → SRel K (upd φ Dl (.lst accV)) μ Hs M H → Reps K Hs acc accV → Post K W (RepV K) φ μ Hs σ (f acc ρ M) Q → Q (.ref Dl) H) :
    tLc (rdI K W mi) g (rdT K W0 t) (rd K W0 e) vs σ H Q := by
  unfold eLcR at h
  rw [bnd_assoc] at h
  refine rdR.then h fun ds J H1 φ μ Hs1 M1 ρ S1 E1 hJ P => fun Dl hDl => ?_
  have hfr := S1.free hDl
  refine ⟨fun i m H => m = ds.length - i ∧ i ≤ ds.length ∧ ∃ Hs M acc accV, Ex Hs1 Hs ∧ SRel K (upd φ Dl (.lst accV)) μ Hs M H ∧ Reps K Hs acc accV ∧ Post K W (RepV K) φ μ Hs σ (bnd (fun _ _ => compL M1.length gs t e (wipeE ρ vs) (ds.drop i) M acc) f ρ M1) Q,
    ⟨ds.length, rfl, Nat.zero_le _, Hs1, M1, [], [], Ex.refl _, S1.aside hDl _, .nil, P⟩, ?_⟩
  rintro i m H ⟨rfl, hi, Hs, M, acc, accV, ex, S, R, P⟩
  obtain ⟨hst, hgo⟩ := hJ _ μ Hs M H S ex
  by_cases hil : i = ds.length
  · left
    subst hil
    rw [List.drop_length] at P
    exact ⟨hst, k φ μ Hs M H ρ Dl acc accV hfr.1 S R P⟩
  · right
    have hlt : i < ds.length := by omega
    have hd : ds[i]? = some ds[i] := List.getElem?_eq_getElem hlt
    rw [List.drop_eq_getElem_cons hlt] at P
    obtain ⟨hgi, hy⟩ := hgo i _ hd
    refine ⟨hgi, fun H' => ∃ Hs M acc accV, Ex Hs1 Hs ∧ SRel K (upd φ Dl (.lst accV)) μ Hs M H' ∧ Reps K Hs acc accV ∧ Post K W (RepV K) φ μ Hs σ (bnd (fun _ _ => compL M1.length gs t e (wipeE ρ vs) (ds.drop (i + 1)) M acc) f ρ M1) Q, fun H' hN => ⟨ds.length - (i + 1), by omega, rfl, by omega, hN⟩, fun x H2 hx => ?_⟩
    obtain ⟨Hs2, ex2, S2, r2⟩ := hy x H2 hx
    have Ew := wipeE_ok (E1.mono List.prefix_rfl (ex.trans ex2)) vs
    refine hg _ μ Hs2 M H2 (wipeE ρ vs) (wipe σ vs) ds[i] x _ S2 Ew r2 ?_
    cases eg : gs ds[i] (wipeE ρ vs) with
    | none =>
      unfold compL bnd at P
      simp only [eg] at P
      exact P.elim
    | some ρ1 =>
      intro σ2 E2 hw
      have ww : wipe (wipe σ vs) vs = wipe σ vs := by
        have aux : ∀ (ws : List Nat) (τ : L2.St), (∀ w ∈ ws, w ∈ vs) → wipe (wipe τ ws) vs = wipe τ vs := by
          intro ws
          induction ws with
          | nil => intro τ _; rfl
          | cons w ws ih =>
            intro τ hws
            show wipe ((wipe τ ws).set w none) vs = wipe τ vs
            rw [wipe_set (hws w List.mem_cons_self), ih τ fun v hv => hws v (List.mem_cons_of_mem _ hv)]
        exact aux vs σ fun _ h => h
      refine ⟨hw.trans ww, ?_⟩
      refine ⟨_, μ, Hs2, M, ρ1, S2, E2, ?_⟩
      have cutM : ∀ {μ3 : List Addr} {Hs3 H3 : Hp} {M3 : List Mu} {aV : List V}, μ <+: μ3 → SRel K (upd φ Dl (.lst aV)) μ3 Hs3 M3 H3 → ∃ Hs4, Ex Hs3 Hs4 ∧ SRel K (upd φ Dl (.lst aV)) μ Hs4 (M3.take M1.length) H3 := fun {μ3 Hs3 H3 M3 aV} p3 S3 => by
        obtain ⟨Hs4, ex4, S4⟩ := S3.cut M1.length
        have hm : μ3.take M1.length = μ := by rw [← S1.len]; exact pre_take p3
        rw [hm] at S4
        exact ⟨Hs4, ex4, S4⟩
      cases et : t ρ1 M with
      | ok bb M2 =>
        intro μ3 Hs3 H3 v p3 ex3 S3 ev
        cases ev
        cases bb with
        | false =>
          rw [if_neg Bool.false_ne_true]
          unfold compL bnd at P
          simp only [eg, et] at P
          obtain ⟨Hs4, ex4, S4⟩ := cutM p3 S3
          have exx : Ex Hs Hs4 := ex2.trans (ex3.trans ex4)
          exact ⟨Hs4, _, acc, accV, ex.trans exx, S4, R.mono exx, Post.mono (μ' := μ) P List.prefix_rfl exx⟩
        | true =>
          rw [if_pos rfl]
          refine ⟨_, μ3, Hs3, M2, ρ1, S3, E2.mono p3 ex3, ?_⟩
          cases ee : e ρ1 M2 with
          | ok y M3 =>
            intro μ4 Hs4 H4 yv p4 ex4 S4 r4
            unfold compL bnd at P
            simp only [eg, et, ee] at P
            cases ez : frz1 M3 y with
            | none => simp only [ez] at P; exact P.elim
            | some q =>
              obtain ⟨z, M5⟩ := q
              simp only [ez] at P
              obtain ⟨Hs5, ex5, S5, r5⟩ := frz1_ok S4 r4 ez
              obtain ⟨Hs6, ex6, S6⟩ := cutM (pre_trans p3 p4) S5
              have exx : Ex Hs Hs6 := ex2.trans (ex3.trans (ex4.trans (ex5.trans ex6)))
              by_cases hz : acc.length < sizeLine
              · rw [if_pos hz] at P
                refine ⟨accV, (S6.fr Dl _ upd_same).1, by rw [← R.length]; exact hz, Hs6, _, acc ++ [z], accV ++ [yv], ex.trans exx, S6.turn _, (R.mono exx).append (.cons (r5.mono ex6) .nil), Post.mono (μ' := μ) P List.prefix_rfl exx⟩
              · rw [if_neg hz] at P
                exact P.elim
          | exc C fs M3 =>
            unfold compL bnd at P
            simp only [eg, et, ee] at P
            exact P.elim
          | bad =>
            unfold compL bnd at P
            simp only [eg, et, ee] at P
            exact P.elim
      | exc C fs M2 =>
        unfold compL bnd at P
        simp only [eg, et] at P
        exact P.elim
      | bad =>
        unfold compL bnd at P
        simp only [eg, et] at P
        exact P.elim
theorem lc_data {K : PySem.W.Frag} {W : WX} {mi : Sm (List D)} {gs : D → Env → Option Env} {g : TG} {t : Sm Bool} {e : Sm Vl} {vs : List Nat} (hg : CTg K vs g gs) {σ : L2.St} {H : Hp} {Q : VK} (h : rd K W (eLc mi gs t e vs) σ H Q) : tLc (rdI K W mi) g (rdT K W0 t) (rd K W0 e) vs σ H Q :=
  lc_rd hg h fun φ μ Hs M H ρ Dl acc accV hn S R P => by
    obtain ⟨S', ex⟩ := S.settle hn
    exact P.at List.prefix_rfl ex S' (show Rep K _ (.lst acc) (.ref Dl) from .lst upd_same (R.mono ex))
theorem lc_mut {K : PySem.W.Frag} {W : WX} {mi : Sm (List D)} {gs : D → Env → Option Env} {g : TG} {t : Sm Bool} {e : Sm Vl} {vs : List Nat} (hg : CTg K vs g gs) {σ : L2.St} {H : Hp} {Q : VK} (h : rd K W (eLcM mi gs t e vs) σ H Q) : tLc (rdI K W mi) g (rdT K W0 t) (rd K W0 e) vs σ H Q :=
  lc_rd hg h fun φ μ Hs M H ρ Dl acc accV hn S R P => by
    have h0 := S.fr Dl _ upd_same
    refine P.at (List.prefix_append μ [Dl]) (Ex.refl _) (S.adopt hn (m := .lst acc) ⟨accV, h0.1, R⟩ (fun z => nomatch z)) ⟨Dl, ?_, rfl⟩
    rw [← S.len]
    simp
section
variable {X : Cx} {W : WX}
theorem pts_imp {es : List Expr} {t t' : TT} (h : PTs X es t) (i : ∀ σ H Q, t' σ H Q → t σ H Q) : PTs X es t' := ⟨fun pins s σ H Q I q => h.run pins s σ H Q I (i σ H Q q)⟩
theorem jts_nil : PTs X [] (rdT X.K W eTrue) := by
  refine pts_imp pts_nil fun σ H Q h => ?_
  obtain ⟨φ, μ, Hs, M, ρ, S, E, P⟩ := h
  exact P.here S rfl
theorem jts_one {a : Expr} {m : Sm Bool} (h : PT X a (rdT X.K W m)) : PTs X [a] (rdT X.K W m) := pts_one h
theorem j_lc {elt tg iter : Expr} {ifs : List Expr} {scope : Scope} {own : List (Str × Nat)} {pos : Pos} {mi : Sm (List D)} {g : TG} {gs : D → Env → Option Env} {t : Sm Bool} {e : Sm Vl} (hc : X.calm = true) (hN : X.N.Nodup) (hi : PI X tg iter (rdI X.K W mi)) (ok : BlkOk X.N X.env.scope scope own)
    (hct : CTg X.K (own.map (·.2)) g gs)
    (hg : ∀ (s : Shared) (H : Hp) (C : Addr) (cl : List (Str × Addr)) (fp : List Addr), PG (X.blk s H scope (compEnvC scope cl C X.env) fp) tg g) (ht : ∀ (s : Shared) (H : Hp) (C : Addr) (cl : List (Str × Addr)) (fp : List Addr), PTs (X.blk s H scope (compEnvC scope cl C X.env) fp) ifs (rdT X.K W0 t))
    (he : ∀ (s : Shared) (H : Hp) (C : Addr) (cl : List (Str × Addr)) (fp : List Addr), PE (X.blk s H scope (compEnvC scope cl C X.env) fp) elt (rd X.K W0 e)) (hs : ∀ x, foldedSetIterable iter X.env x = pure x := by intro _; rfl) :
    PE X (.ListComp elt [⟨tg, iter, ifs, 0⟩] scope pos) (rd X.K W (eLc mi gs t e (own.map (·.2)))) :=
  pe_imp (pe_lc hc hN hi ok hg ht he hs) fun σ H Q h => lc_data hct h
theorem j_lcM {elt tg iter : Expr} {ifs : List Expr} {scope : Scope} {own : List (Str × Nat)} {pos : Pos} {mi : Sm (List D)} {g : TG} {gs : D → Env → Option Env} {t : Sm Bool} {e : Sm Vl} (hc : X.calm = true) (hN : X.N.Nodup) (hi : PI X tg iter (rdI X.K W mi)) (ok : BlkOk X.N X.env.scope scope own)
    (hct : CTg X.K (own.map (·.2)) g gs)
    (hg : ∀ (s : Shared) (H : Hp) (C : Addr) (cl : List (Str × Addr)) (fp : List Addr), PG (X.blk s H scope (compEnvC scope cl C X.env) fp) tg g) (ht : ∀ (s : Shared) (H : Hp) (C : Addr) (cl : List (Str × Addr)) (fp : List Addr), PTs (X.blk s H scope (compEnvC scope cl C X.env) fp) ifs (rdT X.K W0 t))
    (he : ∀ (s : Shared) (H : Hp) (C : Addr) (cl : List (Str × Addr)) (fp : List Addr), PE (X.blk s H scope (compEnvC scope cl C X.env) fp) elt (rd X.K W0 e)) (hs : ∀ x, foldedSetIterable iter X.env x = pure x := by intro _; rfl) :
    PE X (.ListComp elt [⟨tg, iter, ifs, 0⟩] scope pos) (rd X.K W (eLcM mi gs t e (own.map (·.2)))) :=
  pe_imp (pe_lc hc hN hi ok hg ht he hs) fun σ H Q h => lc_mut hct h
theorem js_setLc {i : Nat} {y : Str} {py : Pos} {elt tg iter : Expr} {ifs : List Expr} {scope : Scope} {own : List (Str × Nat)} {pos spos : Pos} {mi : Sm (List D)} {g : TG} {gs : D → Env → Option Env} {t : Sm Bool} {e : Sm Vl} (hc : X.calm = true) (hN : X.N.Nodup) (hy : X.N[i]? = some y) (hyl : X.env.scope.names.lookup y = some .local)
    (hsw : swapsWith (.ListComp elt [⟨tg, iter, ifs, 0⟩] scope pos) (some (.Name y py)) spos.line X.env = pure true) (hi : PI X tg iter (rdI X.K W mi)) (ok : BlkOk X.N X.env.scope scope own)
    (hct : CTg X.K (own.map (·.2)) g gs)
    (hg : ∀ (s : Shared) (H : Hp) (C : Addr) (cl : List (Str × Addr)) (fp : List Addr), PG (X.blk s H scope (compEnvC scope cl C X.env) fp) tg g) (ht : ∀ (s : Shared) (H : Hp) (C : Addr) (cl : List (Str × Addr)) (fp : List Addr), PTs (X.blk s H scope (compEnvC scope cl C X.env) fp) ifs (rdT X.K W0 t))
    (he : ∀ (s : Shared) (H : Hp) (C : Addr) (cl : List (Str × Addr)) (fp : List Addr), PE (X.blk s H scope (compEnvC scope cl C X.env) fp) elt (rd X.K W0 e)) (hs : ∀ x, foldedSetIterable iter X.env x = pure x := by intro _; rfl) :
    PS X (.Assign [.Name y py] (.ListComp elt [⟨tg, iter, ifs, 0⟩] scope pos) spos) (rdS X.K W (sAsg (eLc mi gs t e (own.map (·.2))) (gN i))) := by
  refine ps_imp (ps_setLc hc hN hy hyl hsw hi ok hg ht he hs) fun D σ H h => ?_
  refine lc_data hct ?_
  exact rdS.then h fun x v H' φ μ Hs M ρ S E r P => P.here S (E.set i r)
theorem js_setLcM {i : Nat} {y : Str} {py : Pos} {elt tg iter : Expr} {ifs : List Expr} {scope : Scope} {own : List (Str × Nat)} {pos spos : Pos} {mi : Sm (List D)} {g : TG} {gs : D → Env → Option Env} {t : Sm Bool} {e : Sm Vl} (hc : X.calm = true) (hN : X.N.Nodup) (hy : X.N[i]? = some y) (hyl : X.env.scope.names.lookup y = some .local)
    (hsw : swapsWith (.ListComp elt [⟨tg, iter, ifs, 0⟩] scope pos) (some (.Name y py)) spos.line X.env = pure true) (hi : PI X tg iter (rdI X.K W mi)) (ok : BlkOk X.N X.env.scope scope own)
    (hct : CTg X.K (own.map (·.2)) g gs)
    (hg : ∀ (s : Shared) (H : Hp) (C : Addr) (cl : List (Str × Addr)) (fp : List Addr), PG (X.blk s H scope (compEnvC scope cl C X.env) fp) tg g) (ht : ∀ (s : Shared) (H : Hp) (C : Addr) (cl : List (Str × Addr)) (fp : List Addr), PTs (X.blk s H scope (compEnvC scope cl C X.env) fp) ifs (rdT X.K W0 t))
    (he : ∀ (s : Shared) (H : Hp) (C : Addr) (cl : List (Str × Addr)) (fp : List Addr), PE (X.blk s H scope (compEnvC scope cl C X.env) fp) elt (rd X.K W0 e)) (hs : ∀ x, foldedSetIterable iter X.env x = pure x := by intro _; rfl) :
    PS X (.Assign [.Name y py] (.ListComp elt [⟨tg, iter, ifs, 0⟩] scope pos) spos) (rdS X.K W (sAsg (eLcM mi gs t e (own.map (·.2))) (gN i))) := by
  refine ps_imp (ps_setLc hc hN hy hyl hsw hi ok hg ht he hs) fun D σ H h => ?_
  refine lc_mut hct ?_
  exact rdS.then h fun x v H' φ μ Hs M ρ S E r P => P.here S (E.set i r)
end
end Wv

namespace Wv
open PySem PySem.Spec PyProof.Rows L2

/-! ### a def's end -/
def exitR (n : Nat) : RS → Res Vl
  | .nx _ M => .ok (.d .non) (M.take n)
  | .rt (.d y) M => .ok (.d y) (M.take n)
  | .rt (.m k) M => if k < n then .ok (.m k) (M.take n) else (match frz1 M (.m k) with
    | some (d, M2) => .ok (.d d) (M2.take n)
    | none => .bad)
  | .exc _ C fs M => .exc C fs (M.take n)
  | _ => .bad
/-- a def that hands back a thing of the store -/
def exitM (n : Nat) : RS → Res Vl
  | .rt (.m k) M => if k < n then .bad else (match M[k]? with
    | some (.lst xs) => .ok (.m n) (M.take n ++ [.lst xs])
    | _ => .bad)
  | .exc _ C fs M => .exc C fs (M.take n)
  | _ => .bad
def startE (n : Nat) (xs : List Vl) : Env := xs.map some ++ List.replicate (n - xs.length) none
def fnS (ex : Nat → RS → Res Vl) (n : Nat) (b : Ss) : FS := fun xs M => ex M.length (b (startE n xs) M)
def spF (K : PySem.W.Frag) (f : FS) : Sp := fun vs H Q E => ∃ (φ : Hp) (μ : List Addr) (Hs : Hp) (M : List Mu) (xs : List Vl), SRel K φ μ Hs M H ∧ RepVs K μ Hs xs vs ∧ Post K (fun c d _ H' => E c d H') (RepV K) φ μ Hs [] (f xs M) Q
section
variable {K : PySem.W.Frag} {φ : Hp} {μ : List Addr} {Hs H : Hp} {M : List Mu}
/-- all but the first n and the k-th come to rest -/
theorem SRel.cut1 (S : SRel K φ μ Hs M H) {n k : Nat} {a : Addr} {m : Mu} (hk : μ[k]? = some a) (hm : M[k]? = some m) (hn : m ≠ .dead) (hnk : n ≤ k) : ∃ Hs', Ex Hs Hs' ∧ SRel K φ (μ.take n ++ [a]) Hs' (M.take n ++ [m]) H := by
  classical
  have hkl : k < M.length := (List.getElem?_eq_some_iff.mp hm).1
  have hlen := S.len
  let stays : Addr → Prop := fun b => b = a ∨ ∃ j : Nat, j < n ∧ μ[j]? = some b ∧ M[j]? ≠ some Mu.dead
  let gone : Addr → Prop := fun b => φ b = none ∧ ¬ stays b
  have ex : Ex Hs (fun b => if gone b then H b else none) := fun b o e => by
    have h1 : φ b = none := by
      cases q : φ b with
      | none => rfl
      | some u => rw [(S.fr b u q).2] at e; cases e
    have g : gone b := ⟨h1, fun st => by
      rcases st with st | ⟨j, _, hj, hd⟩
      · rw [st, (S.mu k a m hk hm hn).1] at e; cases e
      · have hl : j < M.length := by rw [← S.len]; exact (List.getElem?_eq_some_iff.mp hj).1
        have hmj : M[j]? = some M[j] := List.getElem?_eq_getElem hl
        rw [(S.mu j b M[j] hj hmj (fun z => hd (by rw [hmj, z]))).1] at e
        cases e⟩
    show (if gone b then H b else none) = some o
    rw [if_pos g]
    exact S.up e
  have at_lt : ∀ {j : Nat}, j < n → (μ.take n ++ [a])[j]? = μ[j]? ∧ (M.take n ++ [m])[j]? = M[j]? := fun {j} hj => by
    rw [List.getElem?_append_left (by rw [List.length_take]; omega), List.getElem?_append_left (by rw [List.length_take]; omega), List.getElem?_take_of_lt hj, List.getElem?_take_of_lt hj]
    exact ⟨rfl, rfl⟩
  have at_n : (μ.take n ++ [a])[n]? = some a ∧ (M.take n ++ [m])[n]? = some m := by
    have e1 : (μ.take n).length = n := by rw [List.length_take]; omega
    have e2 : (M.take n).length = n := by rw [List.length_take]; omega
    rw [List.getElem?_append_right (by omega), List.getElem?_append_right (by omega), e1, e2, Nat.sub_self]
    exact ⟨rfl, rfl⟩
  have bound : ∀ {j : Nat} {b : Addr}, (μ.take n ++ [a])[j]? = some b → j < n ∨ j = n := fun {j b} h => by
    have := (List.getElem?_eq_some_iff.mp h).1
    rw [List.length_append, List.length_take, List.length_singleton] at this
    omega
  refine ⟨_, ex, ⟨by simp [hlen], fun b o e => ⟨(S.fr b o e).1, ?_⟩, fun b e1 e2 => ?_, fun j b m' e1 e2 e3 => ?_, fun i j b e1 e2 e3 e4 => ?_⟩⟩
  · show (if gone b then H b else none) = none
    rw [if_neg fun g => by rw [g.1] at e; cases e]
  · have g : gone b := ⟨e1, fun st => by
      rcases st with st | ⟨j, hj1, hj, hd⟩
      · have := e2 n (by rw [st]; exact at_n.1)
        rw [at_n.2] at this
        exact hn (Option.some.inj this)
      · have := e2 j (by rw [(at_lt hj1).1]; exact hj)
        rw [(at_lt hj1).2] at this
        exact hd this⟩
    show H b = (if gone b then H b else none)
    rw [if_pos g]
  · rcases bound e1 with hj | hj
    · rw [(at_lt hj).1] at e1
      rw [(at_lt hj).2] at e2
      obtain ⟨q1, q2, q3⟩ := S.mu j b m' e1 e2 e3
      refine ⟨?_, q2, q3.mono ex rfl⟩
      show (if gone b then H b else none) = none
      rw [if_neg fun g => g.2 (.inr ⟨j, hj, e1, by rw [e2]; exact fun z => e3 (Option.some.inj z)⟩)]
    · subst hj
      rw [at_n.1] at e1
      rw [at_n.2] at e2
      cases e1
      cases e2
      obtain ⟨q1, q2, q3⟩ := S.mu k a m hk hm hn
      refine ⟨?_, q2, q3.mono ex rfl⟩
      show (if gone a then H a else none) = none
      rw [if_neg fun g => g.2 (.inl rfl)]
  · have back : ∀ {j : Nat}, (μ.take n ++ [a])[j]? = some b → (M.take n ++ [m])[j]? ≠ some Mu.dead → ∃ j', μ[j']? = some b ∧ M[j']? ≠ some Mu.dead ∧ ((j < n ∧ j' = j) ∨ (j = n ∧ j' = k)) := fun {j} h h' => by
      rcases bound h with hj | hj
      · rw [(at_lt hj).1] at h
        rw [(at_lt hj).2] at h'
        exact ⟨j, h, h', .inl ⟨hj, rfl⟩⟩
      · subst hj
        rw [at_n.1] at h
        cases h
        exact ⟨k, hk, by rw [hm]; exact fun z => hn (Option.some.inj z), .inr ⟨rfl, rfl⟩⟩
    obtain ⟨i', a1, a2, a3⟩ := back e1 e3
    obtain ⟨j', b1, b2, b3⟩ := back e2 e4
    have := S.nd i' j' b a1 b1 a2 b2
    omega
end
section
variable {K : PySem.W.Frag} {φ : Hp} {μ : List Addr} {Hs : Hp} {M : List Mu} {E : XK} {Q : VK}
/-- what a kind of end must do -/
def ExitOk (ex : Nat → RS → Res Vl) : Prop := ∀ (K : PySem.W.Frag) (φ : Hp) (μ : List Addr) (Hs : Hp) (r : RS) (E : XK) (Q : VK), Post K (fun c d _ H' => E c d H') (RepV K) φ μ Hs [] (ex μ.length r) Q →
  PostS K (fun c d _ H' => E c d H') φ μ Hs r { nx := fun _ H' => Q .non H', rt := Q }
theorem exit_exc {K : PySem.W.Frag} {φ : Hp} {μ : List Addr} {Hs : Hp} {ρ : Env} {C : Str} {fs : List (Str × D)} {M : List Mu} {E : XK} {Q : VK} {D : Ends} (P : Post K (fun c d _ H' => E c d H') (RepV K) φ μ Hs [] (.exc C fs (M.take μ.length)) Q) : PostS K (fun c d _ H' => E c d H') φ μ Hs (.exc ρ C fs M) D := by
  intro μ' Hs' H' σ' a fvs p ex S E h1 h2
  obtain ⟨Hs2, ex2, S2⟩ := S.cut μ.length
  rw [pre_take p] at S2
  exact P μ Hs2 H' a fvs List.prefix_rfl (ex.trans ex2) S2 (ex2 _ _ h1) (h2.mono ex2)
theorem exitR_ok : ExitOk exitR := by
  intro K φ μ Hs r E Q P
  cases r with
  | nx ρ M =>
    intro μ' Hs' H' σ' p ex S E
    obtain ⟨Hs2, ex2, S2⟩ := S.cut μ.length
    rw [pre_take p] at S2
    exact P μ Hs2 H' .non List.prefix_rfl (ex.trans ex2) S2 .non
  | rt x M =>
    intro μ' Hs' H' v p ex S r
    cases x with
    | d y =>
      obtain ⟨Hs2, ex2, S2⟩ := S.cut μ.length
      rw [pre_take p] at S2
      exact P μ Hs2 H' v List.prefix_rfl (ex.trans ex2) S2 (Rep.mono ex2 r)
    | m k =>
      unfold exitR at P
      by_cases hk : k < μ.length
      · simp only [hk, if_true] at P
        obtain ⟨Hs2, ex2, S2⟩ := S.cut μ.length
        rw [pre_take p] at S2
        obtain ⟨a, h1, h2⟩ := r
        refine P μ Hs2 H' v List.prefix_rfl (ex.trans ex2) S2 ⟨a, ?_, h2⟩
        obtain ⟨t, rfl⟩ := p
        rw [List.getElem?_append_left hk] at h1
        exact h1
      · simp only [hk, if_false] at P
        cases e : frz1 M (.m k) with
        | none => rw [e] at P; exact P.elim
        | some q =>
          obtain ⟨d, M2⟩ := q
          rw [e] at P
          obtain ⟨Hs1, ex1, S1, r1⟩ := frz1_ok S r e
          obtain ⟨Hs2, ex2, S2⟩ := S1.cut μ.length
          rw [pre_take p] at S2
          exact P μ Hs2 H' v List.prefix_rfl (ex.trans (ex1.trans ex2)) S2 (r1.mono ex2)
  | exc ρ C fs M => exact exit_exc P
  | bk ρ M => exact P.elim
  | ct ρ M => exact P.elim
  | bad => exact P.elim
theorem exitM_ok : ExitOk exitM := by
  intro K φ μ Hs r E Q P
  cases r with
  | rt x M =>
    intro μ' Hs' H' v p ex S r
    cases x with
    | d y => exact P.elim
    | m k =>
      unfold exitM at P
      by_cases hk : k < μ.length
      · simp only [hk, if_true] at P
        exact P.elim
      · simp only [hk, if_false] at P
        cases e : M[k]? with
        | none => rw [e] at P; exact P.elim
        | some m =>
          rw [e] at P
          cases m with
          | lst xs =>
            obtain ⟨a, h1, rfl⟩ := r
            obtain ⟨Hs2, ex2, S2⟩ := S.cut1 (n := μ.length) h1 e (fun z => nomatch z) (by omega)
            rw [pre_take p] at S2
            refine P (μ ++ [a]) Hs2 H' (.ref a) (List.prefix_append μ [a]) (ex.trans ex2) S2 ⟨a, by simp, rfl⟩
          | _ => exact P.elim
  | exc ρ C fs M => exact exit_exc P
  | nx ρ M => exact P.elim
  | bk ρ M => exact P.elim
  | ct ρ M => exact P.elim
  | bad => exact P.elim
theorem startE_ok {K : PySem.W.Frag} {μ : List Addr} {Hs : Hp} {N : List Str} {xs : List Vl} {vs : List V} (r : RepVs K μ Hs xs vs) : REnv K μ Hs (startE N.length xs) (L2.start N vs) := by
  have hl := r.length
  refine ⟨by unfold startE L2.start; simp [hl], fun i x h => ?_⟩
  unfold startE at h
  have hi : i < xs.length := by
    by_cases hi : i < xs.length
    · exact hi
    · rw [List.getElem?_append_right (by simpa using hi), List.getElem?_replicate] at h
      split at h <;> cases h
  rw [List.getElem?_append_left (by simpa using hi), List.getElem?_map] at h
  have get : ∀ {xs : List Vl} {vs : List V} {i : Nat} {x : Vl}, RepVs K μ Hs xs vs → xs[i]? = some x → ∃ v, vs[i]? = some v ∧ RepV K μ Hs x v := by
    intro xs vs i x r
    induction r generalizing i with
    | nil => intro e; simp at e
    | cons a b ih =>
      intro e
      cases i with
      | zero => simp at e; subst e; exact ⟨_, rfl, a⟩
      | succ i => exact ih (by simpa using e)
  cases e : xs[i]? with
  | none => rw [e] at h; cases h
  | some y =>
    rw [e] at h
    cases h
    obtain ⟨v, h1, h2⟩ := get r e
    refine ⟨v, ?_, h2⟩
    unfold L2.start
    rw [List.getElem?_append_left (by rw [List.length_map, ← hl]; exact hi), List.getElem?_map, h1]
    rfl
end

/-! ### what a def is -/
def FnG (P : Program) (w : World) (K : PySem.W.Frag) (mg : Str → Option Value) (base : Heap) (k : Nat) (f : Addr) (ks : List Str) (fs : FS) : Prop :=
  ∀ (A : Around) (outer : List PySem.Env) (s : Shared) (H : Hp) (us ws : List Value) (vs zs : List V) (Q : VK) (E : XK), A.guards = some [] → Room k A → Env0 P w K mg base A outer s H → Vals vs us → Vals zs ws → ws.length = ks.length → spF K fs (vs ++ zs) H Q E →
    codeAny (model P w) A (.call (.ref f) ⟨us, ks.zip ws⟩) (CR (L2.CX P w) outer P w H s Q E) s
theorem FnG.mono {P : Program} {w : World} {K : PySem.W.Frag} {mg : Str → Option Value} {base : Heap} {j k : Nat} {f : Addr} {ks : List Str} {fs : FS} (F : FnG P w K mg base j f ks fs) (h : j ≤ k) : FnG P w K mg base k f ks fs :=
  fun A outer s H us ws vs zs Q E g hr => F A outer s H us ws vs zs Q E g (hr.mono h)
def pick {α : Type} (π : List Nat) (l : List α) : List α := π.filterMap fun i => l[i]?
theorem pick_vals {vs : List V} {us : List Value} (r : Vals vs us) : ∀ π : List Nat, Vals (pick π vs) (pick π us)
  | [] => .nil
  | i :: π => by
    have ih := pick_vals r π
    unfold pick at ih ⊢
    rw [List.filterMap_cons, List.filterMap_cons]
    cases e : vs[i]? with
    | none => rw [r.none_of e]; exact ih
    | some v =>
      obtain ⟨u, h1, h2⟩ := r.get e
      rw [h1]
      exact .cons h2 ih
theorem pick_reps {K : PySem.W.Frag} {μ : List Addr} {Hs : Hp} {xs : List Vl} {vs : List V} (r : RepVs K μ Hs xs vs) : ∀ π : List Nat, RepVs K μ Hs (pick π xs) (pick π vs)
  | [] => .nil
  | i :: π => by
    have ih := pick_reps r π
    have get : ∀ {xs : List Vl} {vs : List V} (i : Nat), RepVs K μ Hs xs vs → (xs[i]? = none ∧ vs[i]? = none) ∨ ∃ x v, xs[i]? = some x ∧ vs[i]? = some v ∧ RepV K μ Hs x v := by
      intro xs vs i r
      induction r generalizing i with
      | nil => exact .inl ⟨by simp, by simp⟩
      | cons a b ih =>
        cases i with
        | zero => exact .inr ⟨_, _, rfl, rfl, a⟩
        | succ i => simpa using ih i
    unfold pick at ih ⊢
    rw [List.filterMap_cons, List.filterMap_cons]
    rcases get i r with ⟨h1, h2⟩ | ⟨x, v, h1, h2, h3⟩
    · rw [h1, h2]; exact ih
    · rw [h1, h2]; exact .cons h3 ih
section
variable {P : Program} {w : World} {K : PySem.W.Frag} {mg : Str → Option Value} {base : Heap} {k : Nat} {f : Addr} {name qual : Str} {params : Arguments} {body : List Stmt} {scope : Scope} {dV kV doc pm cdv ct oc : Value} {an od : Option Addr} {osl : Array (Option Value)} {N ps : List Str}
/-- a def by its body: called with n values in all, the last ones by the keywords ks; π: which value goes to which parameter -/
theorem fnG_def {ex : Nat → RS → Res Vl} {b : Ss} (ks : List Str) (π : List Nat) (n : Nat) (hex : ExitOk ex) (lk : K.lookup f = some ⟨oc, od, .func (PySem.W.fnOf name qual params body scope dV kV doc pm an cdv ct), osl⟩) (hcd : PySem.W.codeIn K cdv qual = true) (S : FnScope N ps scope)
    (hb : ∀ us ws : List Value, us.length + ws.length = n → ws.length = ks.length → bindArgs (PySem.W.fnOf name qual params body scope dV kV doc pm an cdv ct) ⟨us, ks.zip ws⟩ = pure (ps.zip (pick π (us ++ ws))))
    (hπ : ∀ vs : List V, vs.length = n → (pick π vs).length = ps.length)
    (hbody : ∀ (A : Around) (outer : List PySem.Env) (s : Shared) (H : Hp) (E : XK), A.guards = some [] → Room k (A.deeper (envOfC qual scope s.heap.objs.size f cdv)) → PSs (cxOf (L2.CX P w) P w K mg base N qual scope f cdv A outer s H E) body (rdS K (fun c d _ H' => E c d H') b)) :
    FnG P w K mg base (k + 1) f ks (fun xs M => if xs.length = n then fnS ex N.length b (pick π xs) M else .bad) := by
  intro A outer s H us ws vs zs Q E hgd hr e0 r rz hl hsp
  obtain ⟨φ, μ, Hs, M, xs, SR, rx, Pp⟩ := hsp
  dsimp only at Pp
  by_cases hn : xs.length = n
  · rw [if_pos hn] at Pp
    have hvn : (vs ++ zs).length = n := by rw [← rx.length]; exact hn
    have hun : us.length + ws.length = n := by
      rw [List.length_append, r.length, rz.length] at hvn
      exact hvn
    have rp : Vals (pick π (vs ++ zs)) (pick π (us ++ ws)) := pick_vals (r.append rz) π
    refine StX.run_bnd lk hcd S hr e0 (G := fun xs' H2 => xs' = pick π (vs ++ zs) ∧ H2 = H) (fun A' Ex Q' h => ?_) fun s2 H2 xs' ⟨e1, e2⟩ hr' => ?_
    · rw [hb us ws hun hl]
      exact wpAny_pure (h s H _ _ e0 Un.refl rfl (fun _ _ z => z) rp (hπ _ hvn) ⟨rfl, rfl⟩)
    · subst e1 e2
      refine ⟨_, hbody A outer s2 H2 E hgd hr', φ, μ, Hs, M, startE N.length (pick π xs), SR, startE_ok (pick_reps rx π), ?_⟩
      refine hex K φ μ Hs _ E Q ?_
      rw [SR.len]
      exact Pp
  · rw [if_neg hn] at Pp
    exact Pp.elim
/-- def f(*v) -/
theorem fnG_star {ex : Nat → RS → Res Vl} {b : Ss} {pv : Str} (hex : ExitOk ex) (lk : K.lookup f = some ⟨oc, od, .func (PySem.W.fnOf name qual params body scope dV kV doc pm an cdv ct), osl⟩) (hcd : PySem.W.codeIn K cdv qual = true) (S : FnScope N [pv] scope)
    (hb : ∀ rest : List Value, bindArgs (PySem.W.fnOf name qual params body scope dV kV doc pm an cdv ct) ⟨rest, []⟩ = (newTuple rest >>= fun t => pure [(pv, t)]))
    (hbody : ∀ (A : Around) (outer : List PySem.Env) (s : Shared) (H : Hp) (E : XK), A.guards = some [] → Room k (A.deeper (envOfC qual scope s.heap.objs.size f cdv)) → PSs (cxOf (L2.CX P w) P w K mg base N qual scope f cdv A outer s H E) body (rdS K (fun c d _ H' => E c d H') b)) :
    FnG P w K mg base (k + 1) f [] (fun xs M => match frzs xs M with
      | some (ds, M') => if ds.length ≤ sizeLine then fnS ex N.length b [.d (.tup ds)] M' else .bad
      | none => .bad) := by
  intro A outer s H us ws vs zs Q E hgd hr e0 r rz hl hsp
  have hws : ws = [] := List.eq_nil_of_length_eq_zero hl
  subst hws
  cases rz
  rw [List.append_nil] at hsp
  obtain ⟨φ, μ, Hs, M, xs, SR, rx, Pp⟩ := hsp
  dsimp only at Pp
  split at Pp
  · rename_i ds M' e
    obtain ⟨Hs', exx, S', r'⟩ := frzs_ok SR rx e
    split at Pp
    · rename_i hz
      have hz2 : us.length ≤ sizeLine := by rw [← r.length, ← r'.length]; exact hz
      have hn : H s.heap.objs.size = Option.none := e0.hok.fresh (Nat.le_refl _)
      refine StX.run_bnd lk hcd S hr e0 (G := fun xs' H2 => ∃ p, H p = Option.none ∧ xs' = [V.ref p] ∧ H2 = upd H p (.tup vs)) (fun A' Ex Q' h => ?_) fun s2 H2 xs' ⟨p, hp, e1, e2⟩ hr' => ?_
      · have hb' : bindArgs (PySem.W.fnOf name qual params body scope dV kV doc pm an cdv ct) ⟨us, ([] : List Str).zip ([] : List Value)⟩ = (newTuple us >>= fun t => pure [(pv, t)]) := hb us
        rw [hb']
        refine wpAny_bind (wpAny_newTuple (wpAny_pure ?_) hz2)
        have new : ObjOk P w (upd H s.heap.objs.size (.tup vs)) (s.heap.push ({ cls := .type "tuple", data := .seq us.toArray } : Obj)) s.heap.objs.size (.tup vs) := ⟨by rw [r.length]; exact hz2, us, r, ⟨_, Heap.get?_push_size _ rfl, rfl, _, rfl⟩⟩
        have un := StX.un_laid (fs := frs outer) (s := s) (o := ({ cls := .type "tuple", data := .seq us.toArray } : Obj)) (u := .tup vs) hn
        exact h _ _ [V.ref s.heap.objs.size] [Value.ref s.heap.objs.size] (StX.env0_laid e0 new) un rfl (fun e s' => StX.cxUp outer s H _ _ E e s' un (fun b o q => Heap.get?_push_of_some _ q) rfl) (.cons rfl .nil) rfl ⟨_, hn, rfl, rfl⟩
      · subst e1 e2
        have e3 : Wv.Ex Hs' (upd Hs' p (.tup vs)) := Ex.new (S'.free hp).2.2
        refine ⟨_, hbody A outer s2 _ E hgd hr', φ, μ, upd Hs' p (.tup vs), M', startE N.length [.d (.tup ds)], S'.laid hp _, startE_ok (.cons (show Rep K _ (.tup ds) (.ref p) from .tup (.inl (.inl upd_same)) (r'.mono e3)) .nil), ?_⟩
        refine hex K φ μ _ _ E Q ?_
        have q := Post.mono (μ' := μ) Pp List.prefix_rfl (exx.trans e3)
        rw [S'.len]
        exact q
    · exact Pp.elim
  · exact Pp.elim
end
end Wv

namespace Wv
open PySem PySem.Spec PyProof.Rows L2

/-! ### calls of defs -/
theorem Post.reW {α β : Type} {K : PySem.W.Frag} {W : WX} {R : List Addr → Hp → α → β → Prop} {φ : Hp} {μ : List Addr} {Hs : Hp} {σ : L2.St} {r : Res α} {Q : β → Hp → Prop} (h : Post K W R φ μ Hs σ r Q) : Post K (fun c d _ H' => WE W σ c d H') R φ μ Hs [] r Q := by
  cases r <;> exact h
section
variable {X : Cx} {W : WX} {k : Nat} {f : Addr} {ks : List Str} {fs : FS}
theorem run_fnG {pins : List (Addr × Obj)} {σ : L2.St} {H : Hp} {s : Shared} {Q : VK} {us ws : List Value} {vs zs : List V} (F : FnG X.prog X.w X.K X.mg X.base k f ks fs) (gd : X.A.guards = some []) (hr : Room k X.A) (tk : Takes X W)
    (I : Inv X pins σ H s) (r : Vals vs us) (rz : Vals zs ws) (hl : ws.length = ks.length) (h : spF X.K fs (vs ++ zs) H Q (WE W σ)) : wpAny (model X.prog X.w) X.A (call (.ref f) us (ks.zip ws)) (EP X pins σ Q) X.xe s := by
  refine wpAny_call (codeAny_mono (F X.A X.stack s H us ws vs zs Q (WE W σ) gd hr I.env0 r rz hl h) fun r s' hq => ?_)
  cases r with
  | error e => exact passAt tk σ pins H s e s' I hq
  | ok fl =>
    cases fl with
    | ret u => exact I.after hq
    | next => exact False.elim hq
    | brk => exact False.elim hq
    | cont => exact False.elim hq
theorem spF_of {φ : Hp} {μ : List Addr} {Hs : Hp} {M : List Mu} {H : Hp} {σ : L2.St} {xs : List Vl} {vs : List V} {Q : VK} (S : SRel X.K φ μ Hs M H) (r : RepVs X.K μ Hs xs vs) (P : Post X.K W (RepV X.K) φ μ Hs σ (fs xs M) Q) : spF X.K fs vs H Q (WE W σ) := ⟨φ, μ, Hs, M, xs, S, r, P.reW⟩
theorem j_call {x : Str} {p pos : Pos} {e : Expr} {es : List Expr} {as : Sm (List Vl)} (F : FnG X.prog X.w X.K X.mg X.base k f [] fs) (gd : X.A.guards = some []) (hr : Room k X.A) (tk : Takes X W) (hg : Gl X x) (hm : X.mg x = some (.ref f)) (hk : PySem.W.keepIn X.K (.ref f) = true) (ha : PA X (e :: es) (rdA X.K W as))
    (hdb : (x == ("__debug__" : Str)) = false := by decide) (he : starEach (e :: es) X.env = (false, eval e X.env) :: starEach es X.env := by rfl) (hpl : (backTo pos (starEach es X.env)).any (·.1) = false := by rfl) : PE X (.Call (.Name x p) (e :: es) [] pos) (rd X.K W (eAp fs as)) := by
  refine ⟨fun pins s σ H Q I h => ?_⟩
  refine wpAny_Call_Name_kw (ld_glob I hg hm ?_ hdb)
  refine PySem.W.callWith_K (h₀ := X.base) I.ok.mod.kin hk (thn (ha.run pos pins s σ H _ I (rdR.then h (Q1 := fun vs H1 => spF X.K fs vs H1 Q (WE W σ)) fun xs vs H1 φ μ Hs M ρ S E r P => spF_of S r P)) fun us s1 ⟨vs, H1, I1, r, q⟩ => ⟨I1.kIn, ?_⟩) he hpl
  exact run_fnG (ks := []) (ws := []) (zs := []) F gd hr tk I1 r .nil rfl (by rw [List.append_nil]; exact q)
theorem j_call0 {x : Str} {p pos : Pos} (F : FnG X.prog X.w X.K X.mg X.base k f [] fs) (gd : X.A.guards = some []) (hr : Room k X.A) (tk : Takes X W) (hg : Gl X x) (hm : X.mg x = some (.ref f)) (hk : PySem.W.keepIn X.K (.ref f) = true)
    (hdb : (x == ("__debug__" : Str)) = false := by decide) : PE X (.Call (.Name x p) [] [] pos) (rd X.K W (eAp fs eNil)) := by
  refine ⟨fun pins s σ H Q I h => ?_⟩
  refine wpAny_Call_Name_kw (ld_glob I hg hm ?_ hdb)
  obtain ⟨φ, μ, Hs, M, ρ, S, E, P⟩ := h
  exact PySem.W.callWith_K0 I.kIn hk (run_fnG (ks := []) (ws := []) (zs := []) (us := []) (vs := []) F gd hr tk I .nil .nil rfl (spF_of S .nil P))
/-! keywords -/
theorem pk_imp {kws : List Keyword} {t t' : TA} (h : PK X kws t) (i : ∀ σ H Q, t' σ H Q → t σ H Q) : PK X kws t' := ⟨fun pos pins s σ H Q I q => h.run pos pins s σ H Q I (i σ H Q q)⟩
theorem jk_nil : PK X [] (rdA X.K W eNil) := by
  refine pk_imp pk_nil fun σ H Q h => ?_
  obtain ⟨φ, μ, Hs, M, ρ, S, E, P⟩ := h
  exact P.here S .nil
theorem jk_cons {nm : Option Str} {e : Expr} {kpos : Pos} {kws : List Keyword} {m : Sm Vl} {r : Sm (List Vl)} (he : PE X e (rd X.K W m)) (hr : PK X kws (rdA X.K W r)) : PK X (⟨nm, e, kpos⟩ :: kws) (rdA X.K W (eCons m r)) := by
  refine pk_imp (pk_cons he hr) fun σ H Q h => ?_
  refine rdR.then h fun x v H1 φ μ Hs M ρ S E r P => ⟨φ, μ, Hs, M, ρ, S, E, P.bnd fun y M2 μ2 Hs2 H2 w p e S2 r2 P2 => ?_⟩
  exact P2.here S2 (.cons (r.mono p e) r2)
theorem RepVs.append {K : PySem.W.Frag} {μ : List Addr} {H : Hp} : ∀ {xs ys : List Vl} {vs ws : List V}, RepVs K μ H xs vs → RepVs K μ H ys ws → RepVs K μ H (xs ++ ys) (vs ++ ws)
  | _, _, _, _, .nil, h => h
  | _, _, _, _, .cons a b, h => .cons a (RepVs.append b h)
def eApp (as bs : Sm (List Vl)) : Sm (List Vl) := bnd as fun xs => bnd bs fun ys _ M => .ok (xs ++ ys) M
theorem j_callK0 {n : Nat} {x : Str} {p pos : Pos} {kws : List Keyword} {as : Sm (List Vl)} (F : FnG X.prog X.w X.K X.mg X.base k f ks fs) (gd : X.A.guards = some []) (hr : Room k X.A) (tk : Takes X W) (hg : Gl X x) (hm : X.mg x = some (.ref f)) (hk : PySem.W.keepIn X.K (.ref f) = true) (hkw : PK X kws (rdA X.K W as)) (hn : n = ks.length)
    (hall : (backToKw pos (keywordEach kws X.env)).all (·.1.isSome) = true := by rfl) (hks : (backToKw pos (keywordEach kws X.env)).filterMap (·.1) = ks := by rfl) (hdb : (x == ("__debug__" : Str)) = false := by decide)
    (hpl : ((backTo pos (starEach [] X.env)).any (·.1) || (backToKw pos (keywordEach kws X.env)).any (·.1.isNone)) = false := by rfl) : PE X (.Call (.Name x p) [] kws pos) (rd X.K W (eAp (fun xs M => if xs.length = n then fs xs M else .bad) as)) := by
  refine ⟨fun pins s σ H Q I h => ?_⟩
  refine wpAny_Call_Name_kw (ld_glob I hg hm ?_ hdb)
  refine PySem.W.callWith_KW0 (h₀ := X.base) I.ok.mod.kin hk hall ?_ hpl
  refine thn (hkw.run pos pins s σ H _ I (rdR.then h (Q1 := fun vs H1 => vs.length = ks.length ∧ spF X.K fs vs H1 Q (WE W σ)) fun xs vs H1 φ μ Hs M ρ S E r P => ?_)) fun ws s2 ⟨zs, H2, I2, rz, hl, q2⟩ => ⟨I2.kIn, ?_⟩
  · dsimp only at P
    split at P
    · rename_i hx
      exact ⟨by rw [← r.length, hx, hn], spF_of S r P⟩
    · exact P.elim
  · rw [hks]
    exact run_fnG (us := []) (vs := []) F gd hr tk I2 .nil rz (by rw [← rz.length]; exact hl) q2
/-! methods -/
def insV (M : List Mu) : Vl → Option (Str × List (Str × D))
  | .d (.ins C fs) => some (C, fs)
  | .m k => (match M[k]? with
    | some (.ins C fs) => some (C, fs)
    | _ => none)
  | _ => none
theorem insV_ok {K : PySem.W.Frag} {φ : Hp} {μ : List Addr} {Hs H : Hp} {M : List Mu} {x : Vl} {v : V} {C : Str} {fs : List (Str × D)} (S : SRel K φ μ Hs M H) (r : RepV K μ Hs x v) (h : insV M x = some (C, fs)) : ∃ a dx fvs, v = .ref a ∧ H a = some (.ins (He.ga K C) dx fvs) ∧ RepF K Hs fs fvs := by
  cases x with
  | d x =>
    cases x with
    | ins C' fs' =>
      cases h
      cases (show Rep K Hs (.ins C fs) v from r) with
      | ins h1 h2 => exact ⟨_, _, _, rfl, S.up h1, h2⟩
    | _ => cases h
  | m k =>
    have h : (match M[k]? with
      | some (.ins C fs) => some (C, fs)
      | _ => none) = some (C, fs) := h
    obtain ⟨a, ha, rfl⟩ := r
    cases e : M[k]? with
    | none => rw [e] at h; cases h
    | some m =>
      rw [e] at h
      cases m with
      | ins C' fs' =>
        cases h
        obtain ⟨_, _, dx, fvs, h1, h2⟩ := S.mu k a _ ha e (fun z => nomatch z)
        exact ⟨a, dx, fvs, rfl, h1, h2⟩
      | _ => cases h
/-- a field is read -/
def fFld (cs : List Str) (f : Str) : F1 := fun x M => match insV M x with
  | some (C, fs) => if C ∈ cs then (match fs.lookup f with
    | some d => .ok (.d d) M
    | none => .bad) else .bad
  | none => .bad
theorem j_fld {cs : List Str} {e : Expr} {n : Str} {pos : Pos} {m : Sm Vl} (he : PE X e (rd X.K W m)) (hc : ∀ C ∈ cs, Cls X.K (He.ga X.K C) ∧ NoAttr X.K (He.ga X.K C) n) (hb : attributeBase e n X.env (eval e X.env) = eval e X.env := by rfl) : PE X (.Attribute e n pos) (rd X.K W (eUn (fFld cs n) m)) := by
  refine pe_imp (pe_fld he hb) fun σ H Q h => ?_
  refine rdR.then h fun x v H1 φ μ Hs M ρ S E r P => ?_
  unfold fFld at P
  split at P
  · rename_i C fs h1
    obtain ⟨a, dx, fvs, rfl, h2, h3⟩ := insV_ok S r h1
    split at P
    · rename_i hC
      split at P
      · rename_i d hd
        obtain ⟨u, hu, ru⟩ := h3.lookup hd
        obtain ⟨c1, c2⟩ := hc C hC
        exact ⟨a, _, dx, fvs, u, rfl, h2, c1, c2, hu, P.here S ru⟩
      · exact P.elim
    · exact P.elim
  · exact P.elim
/-- a property is read: by the class's getter -/
def fProp (C : Str) (fs : FS) : F1 := fun x M => match insV M x with
  | some (C', _) => if C' = C then (match fs [x] M with
    | .ok y M' => .ok y M'
    | _ => .bad) else .bad
  | none => .bad
theorem j_prop {C : Str} {e : Expr} {n : Str} {pp g : Addr} {pos : Pos} {m : Sm Vl} (he : PE X e (rd X.K W m)) (c : Cls X.K (He.ga X.K C)) (hp : PropOf X.K (He.ga X.K C) n pp g) (F : FnG X.prog X.w X.K X.mg X.base k g [] fs) (gd : X.A.guards = some []) (hr : Room (k + 1) X.A)
    (hb : attributeBase e n X.env (eval e X.env) = eval e X.env := by rfl) : PE X (.Attribute e n pos) (rd X.K W (eUn (fProp C fs) m)) := by
  refine ⟨fun pins s σ H Q I h => ?_⟩
  refine attr_of hb (thn (he.run pins s σ H _ I (rdR.then h (Q1 := fun x H1 => ∃ a dx fvs, x = .ref a ∧ H1 a = some (.ins (He.ga X.K C) dx fvs) ∧ spF X.K fs [x] H1 Q E0) fun x v H1 φ μ Hs M ρ S E r P => ?_)) fun u s1 ⟨x, H1, I1, rx, a, dx, fvs, ex, ea, q⟩ => ?_)
  · unfold fProp at P
    split at P
    · rename_i C' fs' h1
      split at P
      · rename_i hC
        subst hC
        obtain ⟨a, dx, fvs, rfl, h2, h3⟩ := insV_ok S r h1
        refine ⟨a, dx, fvs, rfl, h2, φ, μ, Hs, M, [x], S, .cons r .nil, ?_⟩
        cases e : fs [x] M with
        | ok y M' => rw [e] at P; exact P
        | exc C fl M' => rw [e] at P; exact P.elim
        | bad => rw [e] at P; exact P.elim
      · exact P.elim
    · exact P.elim
  · subst ex
    obtain rfl : u = Value.ref a := rx
    obtain ⟨mA, O, _, _, _, _⟩ := ins_get I1.hok ea
    obtain ⟨od, J, _⟩ := O.look
    obtain ⟨rest, hrec⟩ := hp.rec_
    have I2 := I1.tok (s1.toks + 1)
    have hcs : (PySem.W.clsIn X.K (He.ga X.K C)).isSome = true := by
      obtain ⟨cd, hc, _⟩ := PySem.W.any_some c.hd
      rw [hc]
      rfl
    refine PySem.W.get_bind I1.kIn J (PySem.W.plainGet_of (c.get n)).1 (PySem.W.findObj_data hcs hp.at_ hp.get hp.tak) (PySem.W.plainGet_of (c.get n)).2 (wpAny_call (PySem.W.prop_get (s := { s1 with toks := s1.toks + 1 }) I1.kIn hrec ?_))
    refine codeAny_mono (F X.A.in1 X.stack { s1 with toks := s1.toks + 1 } H1 [.ref a] [] [.ref a] [] Q E0 gd hr.in1 I2.env0.in1 (.cons rfl .nil) .nil rfl (by rw [List.append_nil]; exact q)) fun r s' hq => ?_
    cases r with
    | error er => exact False.elim (passL (X := X.nox) pins σ H1 { s1 with toks := s1.toks + 1 } er s' (I2.wish _) hq)
    | ok fl =>
      cases fl with
      | ret u =>
        obtain ⟨v, H', I3, rv, q3⟩ := I2.after hq
        show wpAny _ _ (handedOut u) _ _ _
        rw [PySem.W.handedOut_of (handed_of rv)]
        exact wpAny_pure ⟨v, H', I3, rv, q3⟩
      | next => exact False.elim hq
      | brk => exact False.elim hq
      | cont => exact False.elim hq
/-- o.m(e, ..) -/
def eMeth (C m : Str) (fs : FS) (o : Sm Vl) (as : Sm (List Vl)) : Sm Vl := bnd o fun x ρ M => match insV M x with
  | some (C', fl) => if C' = C ∧ fl.lookup m = none then bnd as (fun xs _ M => fs (x :: xs) M) ρ M else .bad
  | none => .bad
theorem j_meth {C : Str} {o e : Expr} {es : List Expr} {m : Str} {apos pos : Pos} {pl : PySem.Sem Bool} {mo : Sm Vl} {as : Sm (List Vl)} (ho : PE X o (rd X.K W mo)) (c : Cls X.K (He.ga X.K C)) (hm : Meth X.K (He.ga X.K C) m f) (F : FnG X.prog X.w X.K X.mg X.base k f [] fs) (gd : X.A.guards = some []) (hr : Room k X.A) (tk : Takes X W)
    (ha : PA X (e :: es) (rdA X.K W as))
    (hst : starEach (e :: es) X.env = (false, eval e X.env) :: starEach es X.env := by rfl) (hpl : (backTo pos (starEach es X.env)).any (·.1) = false := by rfl)
    (ht : eval (.Call (.Attribute o m apos) (e :: es) [] pos) X.env = (do
      let ov ← eval o X.env
      standAt apos.atName
      let (f, first) ← holding [ov] (getMethod ov m pl)
      callWith pos f first (backTo pos (starEach (e :: es) X.env)) (backToKw pos (keywordEach [] X.env))) := by rfl) :
    PE X (.Call (.Attribute o m apos) (e :: es) [] pos) (rd X.K W (eMeth C m fs mo as)) := by
  refine ⟨fun pins s σ H Q I h => ?_⟩
  refine PySem.W.methodCall_KW (pl := pl) (thn (ho.run pins s σ H _ I (rdR.then h (Q1 := fun x H1 => ∃ a dx fvs, x = .ref a ∧ H1 a = some (.ins (He.ga X.K C) dx fvs) ∧ fvs.lookup m = none ∧ rdA X.K W as σ H1 fun vs H2 => spF X.K fs (x :: vs) H2 Q (WE W σ)) fun x v H1 φ μ Hs M ρ S E r P => ?_)) fun u s1 ⟨x, H1, I1, rx, a, dx, fvs, ex, ea, l, q⟩ => ?_) ht
  · split at P
    · rename_i C' fl h1
      obtain ⟨a, dx, fvs, rfl, h2, h3⟩ := insV_ok S r h1
      split at P
      · rename_i hC
        obtain ⟨rfl, hl⟩ := hC
        refine ⟨a, dx, fvs, rfl, h2, h3.lookup_none hl, φ, μ, Hs, M, ρ, S, E, P.bnd fun xs M2 μ2 Hs2 H2 vs p e S2 r2 P2 => ?_⟩
        exact spF_of S2 (.cons (r.mono p e) r2) P2
      · exact P.elim
    · exact P.elim
  · subst ex
    obtain rfl : u = Value.ref a := rx
    refine getmeth_ok I1 ea c hm l ?_
    refine PySem.W.callWith_K (first := [.ref a]) (h₀ := X.base) I.ok.mod.kin hm.kp (thn (ha.run pos pins s1 σ H1 _ I1 q) fun us s2 ⟨vs, H2, I2, r, q2⟩ => ⟨I2.kIn, ?_⟩) hst hpl
    exact run_fnG (us := .ref a :: us) (vs := .ref a :: vs) (ks := []) (ws := []) (zs := []) F gd hr tk I2 (.cons rfl r) .nil rfl (by rw [List.append_nil]; exact q2)
theorem j_meth0 {C : Str} {o : Expr} {m : Str} {apos pos : Pos} {pl : PySem.Sem Bool} {mo : Sm Vl} (ho : PE X o (rd X.K W mo)) (c : Cls X.K (He.ga X.K C)) (hm : Meth X.K (He.ga X.K C) m f) (F : FnG X.prog X.w X.K X.mg X.base k f [] fs) (gd : X.A.guards = some []) (hr : Room k X.A) (tk : Takes X W)
    (ht : eval (.Call (.Attribute o m apos) [] [] pos) X.env = (do
      let ov ← eval o X.env
      standAt apos.atName
      let (f, first) ← holding [ov] (getMethod ov m pl)
      callWith pos f first (backTo pos (starEach [] X.env)) (backToKw pos (keywordEach [] X.env))) := by rfl) :
    PE X (.Call (.Attribute o m apos) [] [] pos) (rd X.K W (eMeth C m fs mo eNil)) := by
  refine ⟨fun pins s σ H Q I h => ?_⟩
  refine PySem.W.methodCall_KW (pl := pl) (thn (ho.run pins s σ H _ I (rdR.then h (Q1 := fun x H1 => ∃ a dx fvs, x = .ref a ∧ H1 a = some (.ins (He.ga X.K C) dx fvs) ∧ fvs.lookup m = none ∧ spF X.K fs [x] H1 Q (WE W σ)) fun x v H1 φ μ Hs M ρ S E r P => ?_)) fun u s1 ⟨x, H1, I1, rx, a, dx, fvs, ex, ea, l, q⟩ => ?_) ht
  · split at P
    · rename_i C' fl h1
      obtain ⟨a, dx, fvs, rfl, h2, h3⟩ := insV_ok S r h1
      split at P
      · rename_i hC
        obtain ⟨rfl, hl⟩ := hC
        exact ⟨a, dx, fvs, rfl, h2, h3.lookup_none hl, spF_of S (.cons r .nil) P⟩
      · exact P.elim
    · exact P.elim
  · subst ex
    obtain rfl : u = Value.ref a := rx
    refine getmeth_ok I1 ea c hm l ?_
    exact PySem.W.callWith_K0 (first := [.ref a]) I1.kIn hm.kp (run_fnG (us := [.ref a]) (vs := [.ref a]) (ks := []) (ws := []) (zs := []) F gd hr tk I1 (.cons rfl .nil) .nil rfl q)
end

/-! ### instances are made -/
/-- C(..): a new thing of the store, __init__, then it comes to rest -/
def newS (C : Str) (fs : FS) : FS := fun xs M => match fs (.m M.length :: xs) (M ++ [.ins C []]) with
  | .ok (.d .non) M' => (match M'[M.length]? with
    | some (.ins C' fl) => .ok (.d (.ins C' fl)) (M'.take M.length)
    | _ => .bad)
  | .exc C' fl M' => .exc C' fl (M'.take M.length)
  | _ => .bad
theorem guards_make {A : Around} {args : Args} (h : A.guards = some []) : (A.under (.builtin "type.__call__" args)).guards = some [] := by
  have e : (Code.builtin "type.__call__" args).guards = [] := by
    unfold Code.guards
    rw [if_neg]
    have : (Code.builtin "type.__call__" args).isGuard = false := by
      show guardIds.contains "type.__call__" = false
      decide +kernel
    rw [this]
    exact Bool.false_ne_true
  show pushGuards (Code.builtin "type.__call__" args).guards A.guards = some []
  rw [e, h]
  rfl
section
variable {X : Cx} {W : WX} {k : Nat} {f : Addr} {ks : List Str} {fs : FS}
theorem run_new {C : Str} {pins : List (Addr × Obj)} {σ : L2.St} {H : Hp} {s : Shared} {Q : VK} {us ws : List Value} {vs zs : List V} (Mk_ : Mk X.K (He.ga X.K C) f) (F : FnG X.prog X.w X.K X.mg X.base k f ks fs) (gd : X.A.guards = some []) (hr : Room (k + 1) X.A) (tk : Takes X W)
    (I : Inv X pins σ H s) (r : Vals vs us) (rz : Vals zs ws) (hl : ws.length = ks.length) (h : spF X.K (newS C fs) (vs ++ zs) H Q (WE W σ)) : wpAny (model X.prog X.w) X.A (call (.ref (He.ga X.K C)) us (ks.zip ws)) (EP X pins σ Q) X.xe s := by
  have I2 := Inv.made (C := He.ga X.K C) I
  have hx0 : H (s.heap.objs.size + 1) = none := I.hok.fresh (Nat.le_succ _)
  have hd0 : H s.heap.objs.size = none := I.hok.fresh (Nat.le_refl _)
  have hne : s.heap.objs.size ≠ s.heap.objs.size + 1 := Nat.ne_of_lt (Nat.lt_succ_self _)
  have hq : spF X.K fs (.ref (s.heap.objs.size + 1) :: (vs ++ zs)) (upd (upd H s.heap.objs.size (.own (s.heap.objs.size + 1))) (s.heap.objs.size + 1) (.ins (He.ga X.K C) s.heap.objs.size [])) (fun v H2 => v = .non ∧ Q (.ref (s.heap.objs.size + 1)) H2) (WE W σ) := by
    obtain ⟨φ, μ, Hs, M, xs, S, rx, P⟩ := h
    have S1 := S.laid hd0 (.own (s.heap.objs.size + 1))
    have ex1 : Wv.Ex Hs (upd Hs s.heap.objs.size (.own (s.heap.objs.size + 1))) := Ex.new (S.free hd0).2.2
    have hx1 : upd H s.heap.objs.size (.own (s.heap.objs.size + 1)) (s.heap.objs.size + 1) = none := by rw [upd_ne (Ne.symm hne)]; exact hx0
    have S2 := S1.make hx1 (.ins (He.ga X.K C) s.heap.objs.size []) (m := .ins C []) ⟨s.heap.objs.size, [], upd_same, .nil⟩ (fun z => nomatch z)
    refine ⟨φ, μ ++ [s.heap.objs.size + 1], _, M ++ [.ins C []], .m M.length :: xs, S2, .cons ⟨s.heap.objs.size + 1, by rw [← S.len]; simp, rfl⟩ (rx.mono (List.prefix_append _ _) ex1), ?_⟩
    unfold newS at P
    cases e : fs (.m M.length :: xs) (M ++ [.ins C []]) with
    | ok y M' =>
      rw [e] at P
      intro μ' Hs' H' v p ex S' rv
      cases y with
      | m j => exact P.elim
      | d y =>
        cases y with
        | non =>
          refine ⟨non_ok rv, ?_⟩
          dsimp only at P
          cases e2 : M'[M.length]? with
          | none => rw [e2] at P; exact P.elim
          | some mm =>
            rw [e2] at P
            cases mm with
            | ins C' fl =>
              have ha : μ'[M.length]? = some (s.heap.objs.size + 1) := pre_get p (by rw [← S.len]; simp)
              obtain ⟨_, _, dx, fvs, h1, h2⟩ := S'.mu _ _ _ ha e2 (fun z => nomatch z)
              obtain ⟨S3, ex3⟩ := S'.rest ha e2 (fun z => nomatch z) h1
              obtain ⟨Hs4, ex4, S4⟩ := S3.cut M.length
              have hm : μ'.take M.length = μ := by
                rw [← S.len]
                exact pre_take (pre_trans (List.prefix_append _ _) p)
              have hM : (M'.set M.length Mu.dead).take M.length = M'.take M.length := by
                rw [List.take_set_of_le (Nat.le_refl _)]
              rw [hm, hM] at S4
              exact P μ Hs4 H' (.ref (s.heap.objs.size + 1)) List.prefix_rfl (ex1.trans (ex.trans (ex3.trans ex4))) S4 (show Rep X.K Hs4 (.ins C' fl) _ from .ins (ex4 _ _ upd_same) (h2.mono (ex3.trans ex4)))
            | _ => exact P.elim
        | _ => exact P.elim
    | exc C' fl M' =>
      rw [e] at P
      intro μ' Hs' H' a fvs p ex S' h1 h2
      obtain ⟨Hs4, ex4, S4⟩ := S'.cut M.length
      have hm : μ'.take M.length = μ := by
        rw [← S.len]
        exact pre_take (pre_trans (List.prefix_append _ _) p)
      rw [hm] at S4
      exact P μ Hs4 H' a fvs List.prefix_rfl (ex1.trans (ex.trans ex4)) S4 (ex4 _ _ h1) (h2.mono ex4)
    | bad => rw [e] at P; exact P.elim
  refine wpAny_call (make_map (f := f) I.kIn Mk_.makes Mk_.init (beq_iff_eq.mp Mk_.fn) (codeAny_mono (F _ X.stack _ _ (Value.ref (s.heap.objs.size + 1) :: us) ws (V.ref (s.heap.objs.size + 1) :: vs) zs _ _ (guards_make gd) (hr.make (He.ga X.K C) us (ks.zip ws))
    (I2.env0.make (He.ga X.K C) us (ks.zip ws)) (.cons rfl r) rz hl hq) fun r s' hq' => ?_))
  cases r with
  | error e => exact passAt tk σ pins _ _ e s' I2 hq'
  | ok fl =>
    cases fl with
    | ret u =>
      obtain ⟨v, H', I3, rv, ev, q3⟩ := I2.after hq'
      subst ev
      exact ⟨rv, ⟨V.ref (s.heap.objs.size + 1), H', I3, rfl, q3⟩⟩
    | next => exact False.elim hq'
    | brk => exact False.elim hq'
    | cont => exact False.elim hq'
theorem j_new {x : Str} {p pos : Pos} {e : Expr} {es : List Expr} {as : Sm (List Vl)} (Mk_ : Mk X.K (He.ga X.K x) f) (F : FnG X.prog X.w X.K X.mg X.base k f [] fs) (gd : X.A.guards = some []) (hr : Room (k + 1) X.A) (tk : Takes X W) (hg : Gl X x) (hm : X.mg x = some (.ref (He.ga X.K x))) (ha : PA X (e :: es) (rdA X.K W as))
    (hdb : (x == ("__debug__" : Str)) = false := by decide) (he : starEach (e :: es) X.env = (false, eval e X.env) :: starEach es X.env := by rfl) (hpl : (backTo pos (starEach es X.env)).any (·.1) = false := by rfl) : PE X (.Call (.Name x p) (e :: es) [] pos) (rd X.K W (eAp (newS x fs) as)) := by
  refine ⟨fun pins s σ H Q I h => ?_⟩
  refine wpAny_Call_Name_kw (ld_glob I hg hm ?_ hdb)
  refine PySem.W.callWith_K (h₀ := X.base) I.ok.mod.kin Mk_.kp (thn (ha.run pos pins s σ H _ I (rdR.then h (Q1 := fun vs H1 => spF X.K (newS x fs) vs H1 Q (WE W σ)) fun xs vs H1 φ μ Hs M ρ S E r P => spF_of S r P)) fun us s1 ⟨vs, H1, I1, r, q⟩ => ⟨I1.kIn, ?_⟩) he hpl
  exact run_new (ks := []) (ws := []) (zs := []) Mk_ F gd hr tk I1 r .nil rfl (by rw [List.append_nil]; exact q)
end
end Wv

namespace Wv
open PySem PySem.Spec PyProof.Rows L2
/-- the law's def is called on the script, at a heap in which the script alone is tracked: by its plain function -/
theorem callLaw {P : Program} {w : World} {K : PySem.W.Frag} {mg mb : Str → Option Value} {k : Nat} {fa a : Addr} {fs : FS} {s : Shared} {us : List Value} {ns : List Int}
    (kin : K.In s.heap) (gl : s.heap.Ns mainGlobals mg) (bl : s.heap.Ns builtinsNs mb) (bb : ∀ x : Str, x ≠ "__name__" → mb x = bootBuiltins x) (lim : s.heap.NoLimit) (gens : s.gens = #[])
    (ha : s.heap.get? a = some { cls := .type "list", data := .seq us.toArray }) (hi : IntsAre us ns) (hl : ns.length ≤ sizeLine) (hr : Room k callerA)
    (F : ∀ base : Heap, K.In base → base.Ns mainGlobals mg → FnG P w K mg base k fa [] fs) (hf : fs [.d (.scr ns)] [] = .ok (.d (.bl true)) []) :
    codeAny (model P w) callerA (.call (.ref fa) ⟨[.ref a], []⟩) (fun r s' => r = .ok (.ret (.bool true)) ∧ OldK s.heap s'.heap ∧ s'.os = s.os ∧ AllBare s'.gens) s := by
  have rv := vals_ints hi
  have main : ∀ H : Hp, Only H → SqL K H a (ns.map V.int) → HOk P w H s.heap → (∀ b, H b ≠ none → b = a) → (H a ≠ none → K.lookup a = none) →
      codeAny (model P w) callerA (.call (.ref fa) ⟨[.ref a], []⟩) (fun r s' => r = .ok (.ret (.bool true)) ∧ OldK s.heap s'.heap ∧ s'.os = s.os ∧ AllBare s'.gens) s := by
    intro H only sq hok atA offK
    have nodict : ∀ {b : Addr} {o : Obj} {es : Array DictEntry} {ep : Nat}, s.heap.get? b = some o → o.data = .dict es ep → H b = none := fun {b o es ep} e d => by
      cases q : H b with
      | none => rfl
      | some u =>
        obtain rfl : b = a := atA b (fun z => by rw [q] at z; cases z)
        rw [ha] at e
        cases e
        cases (show Data.seq us.toArray _ = Data.dict es ep from d)
    have toNs : ∀ {b : Addr} {m : Str → Option Value}, s.heap.Ns b m → (hidT s.heap H).Ns b m := fun {b m} ⟨o, es, ep, e, d, r⟩ => ⟨o, es, ep, hidT_get e (nodict e d), d, r⟩
    have kb : K.In (hidT s.heap H) := fun b o e => by
      refine hidT_get (kin b o e) ?_
      cases q : H b with
      | none => rfl
      | some u =>
        have nn : H b ≠ none := fun z => by rw [q] at z; cases z
        obtain rfl : b = a := atA b nn
        rw [offK nn] at e
        cases e
    have md : Mod K mg (hidT s.heap H) := ⟨kb, toNs gl, ⟨mb, toNs bl, bb⟩, let ⟨mc, h1, h2⟩ := lim; ⟨mc, toNs h1, h2⟩⟩
    have env : Env0 P w K mg (hidT s.heap H) callerA [] s H := ⟨rfl, md, fun b o e => of_hidT e, Nat.le_of_eq (hidT_size _ _), trivial, fun b hb => absurd (show b ∈ ([] : List Addr) from hb) (by simp), hok, .of_eq gens⟩
    have sp : spF K fs ([.ref a] ++ []) H (fun v _ => v = .bl true) (fun _ _ _ => False) := by
      refine ⟨fun _ => none, [], H, [], [.d (.scr ns)], ⟨rfl, fun b o e => (nomatch e), fun b _ _ => rfl, fun k a m e => (nomatch (show (none : Option Addr) = some a from e)), fun i j a e => (nomatch (show (none : Option Addr) = some a from e))⟩, .cons (show Rep K H (.scr ns) (.ref a) from .scr sq) .nil, ?_⟩
      rw [hf]
      exact fun _ _ _ v _ _ _ r => bl_ok r
    refine codeAny_mono (F _ kb (toNs gl) callerA [] s H [.ref a] [] [.ref a] [] _ _ rfl hr env (.cons rfl .nil) .nil rfl sp) fun r s' h => ?_
    cases r with
    | error e =>
      obtain ⟨_, _, _, _, _, _, _, _, _, _, _, _, z⟩ := h
      exact z.elim
    | ok fl =>
      cases fl with
      | ret u =>
        obtain ⟨v, H', os, bare, un, hok', r', q⟩ := h
        obtain rfl : v = .bl true := q
        obtain rfl : u = Value.bool true := r'
        refine ⟨rfl, OldK.of_keep fun b o e => ?_, os, bare⟩
        cases q : H b with
        | none => exact un.keep b o e q (fun z => nomatch z) (fun z => nomatch z)
        | some u =>
          rcases only b with z | ⟨ob, xs, z⟩
          · rw [q] at z
            cases z
          · obtain ⟨e1, _⟩ := hok b _ z
            obtain ⟨e2, _⟩ := hok' b _ (un.frzs b ob _ z)
            rw [e] at e1
            cases e1
            exact e2
      | next => exact False.elim h
      | brk => exact False.elim h
      | cont => exact False.elim h
  cases hk : K.lookup a with
  | some o =>
    have e := kin a o hk
    rw [ha] at e
    cases e
    refine main (fun _ => none) (fun _ => .inl rfl) (.inr ⟨_, us.toArray, _, hk, rfl, rfl, rfl, ?_, by simpa using rv⟩) (fun b u z => nomatch z) (fun b z => absurd rfl z) fun z => absurd rfl z
    rw [List.size_toArray, hi.length]
    exact hl
  | none =>
    have at1 : ∀ b, b = a → (fun b => if b = a then some (HO.frz { cls := .type "list", data := .seq us.toArray } (.lst (ns.map V.int))) else none) b = some (HO.frz { cls := .type "list", data := .seq us.toArray } (.lst (ns.map V.int))) := fun b h => if_pos h
    have at0 : ∀ b, b ≠ a → (fun b => if b = a then some (HO.frz { cls := .type "list", data := .seq us.toArray } (.lst (ns.map V.int))) else none) b = none := fun b h => if_neg h
    refine main (fun b => if b = a then some (HO.frz { cls := .type "list", data := .seq us.toArray } (.lst (ns.map V.int))) else none) (fun b => ?_) (.inl (.inr ⟨_, at1 a rfl⟩)) (fun b u z => ?_) (fun b z => ?_) fun _ => hk
    · by_cases hb : b = a
      · exact .inr ⟨_, _, at1 b hb⟩
      · exact .inl (at0 b hb)
    · by_cases hb : b = a
      · rw [at1 b hb] at z
        cases z
        subst hb
        exact ⟨ha, by rw [List.length_map]; exact hl, us, _, rv, ha⟩
      · rw [at0 b hb] at z
        cases z
    · by_cases hb : b = a
      · exact hb
      · exact absurd (at0 b hb) z
/-- a law's walk by the plain function of its def -/
theorem lawWalk {l : PySem.W.OpenLaw} {n k : Nat} {q : Program} {loose : List Str} {XP : (Str → Option Value) → Heap → Prop} {YP : World → Heap → Prop} {d : DefRec}
    (hn : l.most = some n) (hn2 : n ≤ sizeLine) (hdf : d.params.defaults = []) (hr : Room k callerA)
    (F : ∀ (w : World) (mg : Str → Option Value) (fa : Addr) (h : Heap), YP w h → h.Ns mainGlobals mg → mg d.name = some (.ref fa) →
      ∃ (K : PySem.W.Frag) (fs : FS), K.In h ∧ (∀ ns : List Int, ns.length ≤ n → fs [.d (.scr ns)] [] = .ok (.d (.bl true)) []) ∧
        ∀ base : Heap, K.In base → base.Ns mainGlobals mg → FnG l.prog w K mg base k fa [] fs) :
    PySem.W.WalkO q loose XP YP l.row.toRowW d [] (fun f vs => PySem.call f vs) := by
  refine Att.attach_call hn hdf fun w s0 s1 mg mb fa o pm cd doc a us ns G Y ho hd hcd hmg hobj hints hlen hg => ?_
  obtain ⟨K, fs, KX, hf, hF⟩ := F w mg fa _ Y G.T.g hmg
  exact callLaw KX G.T.g G.T.b G.T.builtins G.T.nolimit hg hobj hints (Nat.le_trans hlen hn2) hr hF (hf ns hlen)
end Wv

namespace Wv
open PySem PySem.Spec PyProof.Rows L2

/-! ### isinstance -/
theorem mem_lookup {α β : Type} [BEq α] [LawfulBEq α] {a : α} {b : β} : ∀ {l : List (α × β)}, l.lookup a = some b → (a, b) ∈ l
  | [], h => nomatch h
  | (c, d) :: r, h => by
    rw [List.lookup_cons] at h
    cases q : (a == c) with
    | true =>
      rw [q] at h
      cases h
      rw [eq_of_beq q]
      exact List.mem_cons_self
    | false =>
      rw [q] at h
      exact List.mem_cons_of_mem _ (mem_lookup h)
structure InsT (K : PySem.W.Frag) (C : Addr) : Prop where
  cl : Cls K C
  ha : PySem.W.findIn K (.ref C) "__class__" = some (some (.builtin "object.__class__"))
  hn : PySem.W.specialIn K (.builtin "object.__class__") "__get__" = some (some (.builtin "getset_descriptor.__get__"))
  htk : PySem.W.takesIn K (.builtin "object.__class__") = some true
  hm : PySem.W.mroIn K C (.type "object") = some true
def tyN : D → Option String
  | .non => some "NoneType"
  | .bl _ => some "bool"
  | .int _ => some "int"
  | .str _ => some "str"
  | .tup _ => some "tuple"
  | .lst _ => some "list"
  | .scr _ => some "list"
  | .ins _ _ => none
  | .dic _ => some "dict"
def tyV' (M : List Mu) : Vl → Option (Sum String Str)
  | .d (.ins C _) => some (.inr C)
  | .d x => (tyN x).map .inl
  | .m k => (match M[k]? with
    | some (.lst _) => some (.inl "list")
    | some (.ins C _) => some (.inr C)
    | _ => none)
def fIsi (tb : List (String × Bool)) (tc : List (Str × Bool)) : F1 := fun x M => match tyV' M x with
  | some (.inl a) => (match tb.lookup a with
    | some b => .ok (.d (.bl b)) M
    | none => .bad)
  | some (.inr C) => (match tc.lookup C with
    | some b => .ok (.d (.bl b)) M
    | none => .bad)
  | none => .bad
theorem tyx_tup {K : PySem.W.Frag} {H : Hp} {a : Addr} {vs : List V} (h : SqT K H a vs) : TyX K H (.ref a) (.type "tuple") := by
  rcases h with (h | ⟨o, h⟩) | ⟨o, its, n, h1, h2, _⟩
  · exact .base (.tup h)
  · exact .fTuple h
  · exact .kTuple h1 h2
theorem tyx_lst {K : PySem.W.Frag} {H : Hp} {a : Addr} {vs : List V} (h : SqL K H a vs) : TyX K H (.ref a) (.type "list") := by
  rcases h with (h | ⟨o, h⟩) | ⟨o, its, n, h1, h2, _⟩
  · exact .base (.lst h)
  · exact .base (.frz h)
  · exact .kList h1 h2
theorem tyV_ok {K : PySem.W.Frag} {φ : Hp} {μ : List Addr} {Hs H : Hp} {M : List Mu} {x : Vl} {v : V} (S : SRel K φ μ Hs M H) (r : RepV K μ Hs x v) : (∀ a, tyV' M x = some (.inl a) → TyX K H v (.type a)) ∧ (∀ C, tyV' M x = some (.inr C) → InsT K (He.ga K C) → TyX K H v (.ref (He.ga K C))) := by
  have ins : ∀ {a : Addr} {C : Str} {dx : Addr} {fvs : List (Str × V)}, H a = some (.ins (He.ga K C) dx fvs) → InsT K (He.ga K C) → TyX K H (.ref a) (.ref (He.ga K C)) := fun h t => .base (.ins h t.cl t.ha t.hn t.htk t.hm)
  cases x with
  | d x =>
    cases (show Rep K Hs x v from r) with
    | non => exact ⟨fun a e => by cases e; exact .base .non, fun C e => (nomatch e)⟩
    | bl b => exact ⟨fun a e => by cases e; exact .base (.bl b), fun C e => (nomatch e)⟩
    | int i => exact ⟨fun a e => by cases e; exact .base (.int i), fun C e => (nomatch e)⟩
    | str z => exact ⟨fun a e => by cases e; exact .base (.str z), fun C e => (nomatch e)⟩
    | tup h1 h2 => exact ⟨fun a e => by cases e; exact tyx_tup (S.ex.sqT h1), fun C e => (nomatch e)⟩
    | lst h1 h2 => exact ⟨fun a e => by cases e; exact tyx_lst (SqL.of (S.up h1)), fun C e => (nomatch e)⟩
    | scr h1 => exact ⟨fun a e => by cases e; exact tyx_lst (S.ex.sqL h1), fun C e => (nomatch e)⟩
    | ins h1 h2 => exact ⟨fun a e => (nomatch e), fun C e t => by cases e; exact ins (S.up h1) t⟩
    | dic h1 h2 => exact ⟨fun a e => by cases e; exact .base (.dK (S.up h1)), fun C e => (nomatch e)⟩
  | m k =>
    obtain ⟨a, ha, rfl⟩ := r
    have red : tyV' M (.m k) = (match M[k]? with
      | some (.lst _) => some (.inl "list")
      | some (.ins C _) => some (.inr C)
      | _ => none) := rfl
    cases e : M[k]? with
    | none => rw [red, e]; exact ⟨fun _ e => (nomatch e), fun _ e => (nomatch e)⟩
    | some m =>
      rw [red, e]
      cases m with
      | lst xs =>
        obtain ⟨_, _, vs, h1, _⟩ := S.mu k a _ ha e (fun z => nomatch z)
        exact ⟨fun b q => by cases q; exact tyx_lst (SqL.of h1), fun _ q => (nomatch q)⟩
      | ins C fs =>
        obtain ⟨_, _, dx, fvs, h1, _⟩ := S.mu k a _ ha e (fun z => nomatch z)
        exact ⟨fun b q => (nomatch q), fun C' q t => by cases q; exact ins h1 t⟩
      | dead => exact ⟨fun _ e => (nomatch e), fun _ e => (nomatch e)⟩
section
variable {X : Cx} {W : WX}
theorem j_isi {p pos : Pos} {a b : Expr} {ma : Sm Vl} {c : V} {u : Value} (tb : List (String × Bool)) (tc : List (Str × Bool)) (hg : Gl X "isinstance") (hm : X.mg "isinstance" = none) (ha : PE X a (rd X.K W ma)) (hb : PE X b (tC c)) (hk : ClsV c u)
    (htb : ∀ t r, (t, r) ∈ tb → PySem.W.kitOne X.K (.type t) u = some r) (htc : ∀ C r, (C, r) ∈ tc → InsT X.K (He.ga X.K C) ∧ PySem.W.kitOne X.K (.ref (He.ga X.K C)) u = some r)
    (he : starEach [a, b] X.env = [(false, eval a X.env), (false, eval b X.env)] := by rfl) (he2 : starEach [b] X.env = [(false, eval b X.env)] := by rfl) : PE X (.Call (.Name "isinstance" p) [a, b] [] pos) (rd X.K W (eUn (fIsi tb tc) ma)) := by
  refine pe_imp (pe_callB call_isi hg hm (by decide +kernel) (pa_cons ha (pa_cons hb pa_nil he2) (by rw [he, he2])) (he := by rw [he, he2]) (hpl := by rw [he2]; rfl)) fun σ H Q h => ?_
  refine rdR.then h fun x v H1 φ μ Hs M ρ S E r P => ?_
  obtain ⟨q1, q2⟩ := tyV_ok S r
  unfold fIsi at P
  split at P
  · rename_i t ht
    split at P
    · rename_i bb hbb
      exact ⟨v, c, _, u, bb, rfl, hk, q1 t ht, htb t bb (mem_lookup hbb), P.here S (.bl _)⟩
    · exact P.elim
  · rename_i C hC
    split at P
    · rename_i bb hbb
      obtain ⟨c1, c2⟩ := htc C bb (mem_lookup hbb)
      exact ⟨v, c, _, u, bb, rfl, hk, q2 C hC c1, c2, P.here S (.bl _)⟩
    · exact P.elim
  · exact P.elim
end

/-! ### repr -/
def rRepr (K : PySem.W.Frag) : List V → Hp → VK → Prop := fun xs H Q => ∃ x d, xs = [x] ∧ Dp K H x d ∧ d.showable = true ∧ d.hasDict = false ∧ d.depth ≤ 60 ∧ d.shown.length ≤ sizeLine ∧ Q (.str d.shown) H
theorem call_repr {X : Cx} (gd : X.A.guards = some []) (hu : X.A.units + 100 < cLine) : CallR X (.builtin "repr") (rRepr X.K) := by
  intro pins s σ H xs us Q I r h
  obtain ⟨x, d, rfl, hd, hs, hn, hdep, hz, q⟩ := h
  obtain ⟨u, rfl, rx⟩ := vals1 r
  obtain ⟨as, rr⟩ := Dp.reads I d x u hd rx
  cases hd with
  | non => cases (show u = Value.none from rx); exact PySem.P.repr_of_none ⟨.str _, H, I.tok _, ⟨_, rfl⟩, q⟩
  | bl b => cases (show u = Value.bool b from rx); exact PySem.P.repr_of_bool ⟨.str _, H, I.tok _, ⟨_, rfl⟩, q⟩
  | int i => obtain ⟨t, e⟩ := (show ∃ t, u = Value.int i t from rx); cases e; exact PySem.P.repr_of_int (of_decide_eq_true hs) ⟨.str _, H, I.tok _, ⟨_, rfl⟩, q⟩
  | str z => obtain ⟨t, e⟩ := (show ∃ t, u = Value.str z t from rx); cases e; exact PySem.P.repr_of_str ⟨.str _, H, I.tok _, ⟨_, rfl⟩, q⟩ hz
  | lst h1 h2 =>
    cases rx
    exact repr_of_reads' rr hs (fun e => by rw [hn] at e; cases e) gd (by omega) (fun _ _ e => e) (fun h' u' tk hk => ⟨.str _, H, I.kept hk, ⟨_, rfl⟩, q⟩) hz
  | tup h1 h2 =>
    cases rx
    exact repr_of_reads' rr hs (fun e => by rw [hn] at e; cases e) gd (by omega) (fun _ _ e => e) (fun h' u' tk hk => ⟨.str _, H, I.kept hk, ⟨_, rfl⟩, q⟩) hz
def fRepr : FS := fun xs M => match xs with
  | [x] => (match pyV M x with
    | some d => if d.showable = true ∧ d.hasDict = false ∧ d.depth ≤ 60 ∧ d.shown.length ≤ sizeLine then .ok (.d (.str d.shown)) M else .bad
    | none => .bad)
  | _ => .bad
theorem cs_repr {K : PySem.W.Frag} : CallS K (rRepr K) fRepr := by
  intro W φ μ Hs M H σ xs vs Q S r P
  unfold fRepr at P
  split at P
  · obtain ⟨v, rfl, rx⟩ := rv1 r
    split at P
    · rename_i d h1
      split at P
      · rename_i hc
        exact ⟨v, d, rfl, pyV_ok S rx h1, hc.1, hc.2.1, hc.2.2.1, hc.2.2.2, P.here S (.str _)⟩
      · exact P.elim
    · exact P.elim
  · exact P.elim

/-! ### own __contains__, own __bool__ -/
section
variable {X : Cx} {W : WX} {k : Nat} {f : Addr} {fs : FS}
theorem run_fnG0 {A : Around} {pins : List (Addr × Obj)} {σ : L2.St} {H : Hp} {s : Shared} {Q : VK} {us : List Value} {vs : List V} (F : FnG X.prog X.w X.K X.mg X.base k f [] fs) (gd : A.guards = some []) (hr : Room k A) (e0 : Env0 X.prog X.w X.K X.mg X.base A X.stack s H)
    (I : Inv X pins σ H s) (r : Vals vs us) (h : spF X.K fs vs H Q E0) : wpAny (model X.prog X.w) A (call (.ref f) us) (EP X pins σ Q) X.xe s := by
  refine wpAny_call (codeAny_mono (F A X.stack s H us [] vs [] Q E0 gd hr e0 r .nil rfl (by rw [List.append_nil]; exact h)) fun r s' hq => ?_)
  cases r with
  | error e => exact False.elim (passL (X := X.nox) pins σ H s e s' (I.wish _) hq)
  | ok fl =>
    cases fl with
    | ret u => exact I.after hq
    | next => exact False.elim hq
    | brk => exact False.elim hq
    | cont => exact False.elim hq
def boolR (r : Res Vl) : Res Vl := match r with
  | .ok (.d (.bl b)) M => .ok (.d (.bl b)) M
  | _ => .bad
theorem spF_bool {φ : Hp} {μ : List Addr} {Hs : Hp} {M : List Mu} {H : Hp} {σ : L2.St} {xs : List Vl} {vs : List V} {Q : VK} (S : SRel X.K φ μ Hs M H) (r : RepVs X.K μ Hs xs vs) (P : Post X.K W (RepV X.K) φ μ Hs σ (boolR (fs xs M)) Q) : spF X.K fs vs H (fun z H' => ∃ b, z = .bl b ∧ Q (.bl b) H') E0 := by
  refine ⟨φ, μ, Hs, M, xs, S, r, ?_⟩
  unfold boolR at P
  cases e : fs xs M with
  | ok y M' =>
    rw [e] at P
    intro μ' Hs' H' v p ex S' rv
    cases y with
    | m j => exact P.elim
    | d y =>
      cases y with
      | bl b => exact ⟨b, bl_ok rv, P μ' Hs' H' _ p ex S' (.bl b)⟩
      | _ => exact P.elim
  | exc C fl M' => rw [e] at P; exact P.elim
  | bad => rw [e] at P; exact P.elim
/-- x in o, o of the class C -/
def rInOwn (K : PySem.W.Frag) (C : Str) (fs : FS) : R2 := fun v w H Q => ∃ a dx fvs, w = .ref a ∧ H a = some (.ins (He.ga K C) dx fvs) ∧ spF K fs [w, v] H (fun z H' => ∃ b, z = .bl b ∧ Q (.bl b) H') E0
theorem op_inOwn {C : Str} (hs : PySem.W.findIn X.K (.ref (He.ga X.K C)) "__contains__" = some (some (.ref f))) (hf : PySem.W.isFn X.K (.ref f) = true) (F : FnG X.prog X.w X.K X.mg X.base k f [] fs) (gd : X.A.guards = some []) (hr : Room k X.A) : OpR X (compareOp .In) (rInOwn X.K C fs) := by
  intro pins s σ H x y v u Q I rx ry h
  obtain ⟨a, dx, fvs, rfl, ea, q⟩ := h
  obtain rfl : u = Value.ref a := ry
  obtain ⟨mA, O, _, _, _, _⟩ := ins_get I.hok ea
  obtain ⟨od, J, _⟩ := O.look
  obtain ⟨m, hF⟩ := I.fr
  refine PySem.W.in_K hF I.ok.mod.kin J hs hf (wpAny_mono (run_fnG0 (us := [.ref a, v]) (vs := [.ref a, x]) F gd hr I.env0 I (.cons rfl (.cons rx .nil)) q) (fun z s' hz => ?_) fun _ _ e => e)
  obtain ⟨z', H', I', rz, b, eb, qz⟩ := hz
  subst eb
  obtain rfl : z = Value.bool b := rz
  exact wpAny_truthy_bool ⟨.bl b, H', I', rfl, qz⟩
def fInA (C : Str) (fs : FS) : F2 := fun x y M => match insV M y with
  | some (C', _) => if C' = C then boolR (fs [y, x] M) else .bad
  | none => fInG false x y M
theorem os_inA {C : Str} {X : Cx} : OpS X.K (fun v w H Q => rIn X.K false v w H Q ∨ rInOwn X.K C fs v w H Q) (fInA C fs) := by
  intro W φ μ Hs M H σ x y v w Q S rx ry P
  unfold fInA at P
  split at P
  · rename_i C' fl h1
    split at P
    · rename_i hC
      subst hC
      obtain ⟨a, dx, fvs, rfl, h2, _⟩ := insV_ok S ry h1
      exact .inr ⟨a, dx, fvs, rfl, h2, spF_bool S (.cons ry (.cons rx .nil)) P⟩
    · exact P.elim
  · exact .inl (os_in false W φ μ Hs M H σ x y v w Q S rx ry P)
/-- bool(o) -/
theorem bool_own {prog : Program} {w : World} {A : Around} {E : Value → Shared → Prop} {s : Shared} {x : Addr} {Q : Value → Shared → Prop} (h : wpAny (model prog w) A.in1.in1 (truthy (.ref x)) (fun b s1 => Q (.bool b) s1) E s) : wpAny (model prog w) A (call (.type "bool") [.ref x]) Q E s := by
  refine callType_codes (T := "bool") (Bi := Builtin.«object.__init__») (Q₁ := fun r s1 => ∃ b, r = Value.bool b ∧ Q r s1) PySem.F.called_bool (PySem.F.typeCall_bool_1 _) PySem.F.entry_object_init ?_ ?_
  · refine codeAny_of_tree ?_
    show wpAny _ A.in1.in1 (do checkBuiltinCall "bool.__new__" ⟨[.type "bool", .ref x], []⟩; again (.builtin "bool.__new__" ⟨[.type "bool", .ref x], []⟩)) _ _ s
    refine wpAny_bind (wpAny_of_eq (PySem.F.newCall_bool_1 _) (wpAny_pure ⟨plainId_quiet (by decide +kernel) _, codeAny_builtin PySem.F.entry_bool_new ?_⟩))
    rw [Around.under_plainId (by decide +kernel) _]
    have f1 := PySem.F.conv_sub_bool
    have h2 : wpAny (model prog w) A.in1.in1 (truthy (.ref x)) (fun b s1 => ∃ b', Value.bool b = Value.bool b' ∧ Q (.bool b) s1) E s := wpAny_mono h (fun b s1 q => ⟨b, rfl, q⟩) fun _ _ e => e
    obtain ⟨hp, g, d, tk, os⟩ := s
    unfold Builtin.«bool.__new__»
    repeat (any_goals (first | assumption | (with_reducible refine wpAny_bind (wpAny_mono h2 (fun b s1 q => ?_) fun _ _ e => e)) | wp_step))
    all_goals first | exact q | skip
  · rintro obj s1 ⟨b, rfl, hq⟩
    exact ⟨PySem.typeIs_bool _ _, PySem.F.args_object_init_2 _ _, object_init_meets PySem.F.called_bool.init.lookup PySem.F.called_bool.made (by decide) prog w A.in1 _ s1 ⟨PySem.typeIs_bool _ _, rfl, hq⟩⟩
end
end Wv

namespace Wv
open PySem PySem.Spec PyProof.Rows L2
/-! ### list(range(n)) -/
theorem reps_rng {K : PySem.W.Frag} {H : Hp} (a : Int) (n : Nat) : Reps K H (rngD a n) ((List.range n).map fun i => V.int (a + (i : Nat))) := by
  unfold rngD
  have h : ∀ l : List Nat, Reps K H (l.map fun (i : Nat) => D.int (a + i)) (l.map fun i => V.int (a + (i : Nat))) := by
    intro l
    induction l with
    | nil => exact .nil
    | cons i r ih => exact .cons (.int _) ih
  exact h _
def eListRg (m : Sm Vl) : Sm Vl := bnd m fun x _ M => match x with
  | .d (.int n) => if -(2 ^ 62) ≤ n ∧ n < 2 ^ 62 ∧ n.toNat ≤ 2 ^ 24 then .ok (.d (.lst (rngD 0 n.toNat))) M else .bad
  | _ => .bad
section
variable {X : Cx} {W : WX}
theorem j_listRg {p pos p2 pos2 : Pos} {e : Expr} {m : Sm Vl} (hc : X.calm = true) (hg : Gl X "list") (hm : X.mg "list" = none) (hg2 : Gl X "range") (hm2 : X.mg "range" = none) (he : PE X e (rd X.K W m))
    (na : starEach [e] X.env = (false, eval e X.env) :: starEach [] X.env := by rfl) (nb : starEach [.Call (.Name "range" p2) [e] [] pos2] X.env = (false, eval (.Call (.Name "range" p2) [e] [] pos2) X.env) :: starEach [] X.env := by rfl) :
    PE X (.Call (.Name "list" p) [.Call (.Name "range" p2) [e] [] pos2] [] pos) (rd X.K W (eListRg m)) := by
  refine pe_imp (pe_listRg hc hg hm (prg_1 hg2 hm2 he na) nb) fun σ H Q h => ?_
  refine rdR.then h fun x v H1 φ μ Hs M ρ S E r P => ?_
  split at P
  · rename_i n
    cases int_ok r
    split at P
    · rename_i hc
      refine ⟨n, rfl, ⟨by decide, by decide, hc.1, hc.2.1, by rw [Int.sub_zero]; exact hc.2.2⟩, fun q hq => ?_⟩
      unfold rgV
      rw [Int.sub_zero]
      exact P.newL S (reps_rng 0 n.toNat) hq
    · exact P.elim
  · exact P.elim
/-! ### globals -/
theorem j_globI {x : Str} {pos : Pos} {i : Int} (hg : Gl X x) (hm : ∃ t, X.mg x = some (.int i t)) (hd : (x == ("__debug__" : Str)) = false := by decide) : PE X (.Name x pos) (rd X.K W (eC (.int i))) := by
  obtain ⟨t, ht⟩ := hm
  exact j_c (v := .int i) (pe_glob hg ht ⟨t, rfl⟩ hd) fun _ => .int i
theorem j_globS {x : Str} {pos : Pos} {z : Str} (hg : Gl X x) (hm : ∃ t, X.mg x = some (.str z t)) (hd : (x == ("__debug__" : Str)) = false := by decide) : PE X (.Name x pos) (rd X.K W (eC (.str z))) := by
  obtain ⟨t, ht⟩ := hm
  exact j_c (v := .str z) (pe_glob hg ht ⟨t, rfl⟩ hd) fun _ => .str z
/-! ### bool(..) -/
def rBoolOwn (K : PySem.W.Frag) (C : Str) (fs : FS) : List V → Hp → VK → Prop := fun xs H Q => ∃ a dx fvs, xs = [.ref a] ∧ H a = some (.ins (He.ga K C) dx fvs) ∧ spF K fs [.ref a] H (fun z H' => ∃ b, z = .bl b ∧ Q (.bl b) H') E0
theorem call_boolOwn {k : Nat} {f : Addr} {fs : FS} {C : Str} (hs : PySem.W.findIn X.K (.ref (He.ga X.K C)) "__bool__" = some (some (.ref f))) (hf : PySem.W.isFn X.K (.ref f) = true) (F : FnG X.prog X.w X.K X.mg X.base k f [] fs) (gd : X.A.guards = some []) (hr : Room (k + 2) X.A) : CallR X (.type "bool") (rBoolOwn X.K C fs) := by
  intro pins s σ H xs us Q I r h
  obtain ⟨a, dx, fvs, rfl, ea, q⟩ := h
  obtain ⟨u, rfl, ru⟩ := vals1 r
  obtain rfl : u = Value.ref a := ru
  obtain ⟨mA, O, _, _, _, _⟩ := ins_get I.hok ea
  obtain ⟨od, J, _⟩ := O.look
  obtain ⟨m, hF⟩ := I.fr
  have hr2 : Room k X.A.in1.in1 := (show Room (k + 1) X.A.in1 from Room.in1 hr).in1
  refine bool_own (PySem.W.truthy_K hF I.ok.mod.kin J hs hf (wpAny_mono (run_fnG0 (A := X.A.in1.in1) (us := [.ref a]) (vs := [.ref a]) F gd hr2 I.env0.in1.in1 I (.cons rfl .nil) q) (fun z s' hz => ?_) fun _ _ e => e))
  obtain ⟨z', H', I', rz, b, eb, qz⟩ := hz
  subst eb
  obtain rfl : z = Value.bool b := rz
  exact ⟨.bl b, H', I', rfl, qz⟩
def fBoolA (C : Str) (fs : FS) : FS := fun xs M => match xs with
  | [.d (.int i)] => .ok (.d (.bl (i != 0))) M
  | [.d (.bl b)] => .ok (.d (.bl b)) M
  | [x] => (match insV M x with
    | some (C', _) => if C' = C then boolR (fs [x] M) else .bad
    | none => .bad)
  | _ => .bad
def rBoolA (K : PySem.W.Frag) (C : Str) (fs : FS) : List V → Hp → VK → Prop := fun xs H Q => ((∃ i, xs = [.int i] ∧ Q (.bl (i != 0)) H) ∨ ∃ k, xs = [.bl k] ∧ Q (.bl k) H) ∨ rBoolOwn K C fs xs H Q
theorem call_boolA {k : Nat} {f : Addr} {fs : FS} {C : Str} (hs : PySem.W.findIn X.K (.ref (He.ga X.K C)) "__bool__" = some (some (.ref f))) (hf : PySem.W.isFn X.K (.ref f) = true) (F : FnG X.prog X.w X.K X.mg X.base k f [] fs) (gd : X.A.guards = some []) (hr : Room (k + 2) X.A) : CallR X (.type "bool") (rBoolA X.K C fs) :=
  call_bool1.or (call_boolOwn hs hf F gd hr)
theorem cs_boolA {fs : FS} {C : Str} : CallS X.K (rBoolA X.K C fs) (fBoolA C fs) := by
  intro W φ μ Hs M H σ xs vs Q S r P
  unfold fBoolA at P
  split at P
  · obtain ⟨v, rfl, rx⟩ := rv1 r
    cases int_ok rx
    exact .inl (.inl ⟨_, rfl, P.here S (.bl _)⟩)
  · obtain ⟨v, rfl, rx⟩ := rv1 r
    cases bl_ok rx
    exact .inl (.inr ⟨_, rfl, P.here S (.bl _)⟩)
  · obtain ⟨v, rfl, rx⟩ := rv1 r
    split at P
    · rename_i C' fl h1
      split at P
      · rename_i hC
        subst hC
        obtain ⟨a, dx, fvs, rfl, h2, _⟩ := insV_ok S rx h1
        exact .inr ⟨a, dx, fvs, rfl, h2, spF_bool S (.cons rx .nil) P⟩
      · exact P.elim
    · exact P.elim
  · exact P.elim
end
end Wv

namespace Wv
open PySem PySem.Spec PyProof.Rows L2
/-! ### what the top has left: facts, each a truth value of the written part, and defs by their places -/
structure Dq where
  ad : PySem.W.Frag → Addr
  name : Str
  qual : Str
  st : Stmt
def fnQ (K : PySem.W.Frag) (a : Addr) : He.FnW := match K.lookup a with
  | some ⟨_, _, .func fd, _⟩ => some (fd.name, fd.qualname, fd.params, fd.body, fd.scope, fd.globals, fd.closure, fd.builtins)
  | _ => none
def Dq.val (d : Dq) : He.FnW := some (d.name, d.qual, defArgs d.st, .stmts (defBody d.st), defScope d.st, mainGlobals, [], builtinsNs)
def Dq.ok (K : PySem.W.Frag) (d : Dq) : Bool := PySem.W.keepIn K (.ref (d.ad K)) && (match K.lookup (d.ad K) with
  | some ⟨_, _, .func fd, _⟩ => PySem.W.codeIn K fd.code d.qual && He.dflB K fd.defaults []
  | _ => false)
/-- the def of the text stands at a -/
def DefAt (K : PySem.W.Frag) (a : Addr) (name qual : Str) (st : Stmt) : Prop := ∃ (oc : Value) (od : Option Addr) (kV doc pm : Value) (an : Option Addr) (cdv ct : Value) (osl : Array (Option Value)),
  K.lookup a = some ⟨oc, od, .func (PySem.W.fnOf name qual (defArgs st) (defBody st) (defScope st) .none kV doc pm an cdv ct), osl⟩ ∧ PySem.W.codeIn K cdv qual = true ∧ PySem.W.keepIn K (.ref a) = true
theorem Dq.at_ {K : PySem.W.Frag} {d : Dq} (e : fnQ K (d.ad K) = d.val) (c : d.ok K = true) : DefAt K (d.ad K) d.name d.qual d.st := by
  obtain ⟨kp, c2⟩ := Bool.and_eq_true_iff.mp c
  unfold fnQ at e
  cases q : K.lookup (d.ad K) with
  | none =>
    rw [q] at c2
    cases c2
  | some o =>
    obtain ⟨oc, od, dt, osl⟩ := o
    rw [q] at c2 e
    cases dt with
    | func fd =>
      obtain ⟨n1, n2, n3, n4, n5, n6, n7, n8, n9, n10, n11, n12, n13, n14, n15⟩ := fd
      have e2 : (some (n1, n2, n3, n4, n5, n6, n7, n15) : He.FnW) = some (d.name, d.qual, defArgs d.st, .stmts (defBody d.st), defScope d.st, mainGlobals, [], builtinsNs) := e
      simp only [Option.some.injEq, Prod.mk.injEq] at e2
      obtain ⟨h1, h2, h3, h4, h5, h6, h7, h8⟩ := e2
      subst h1 h2 h3 h4 h5 h6 h7 h8
      obtain ⟨k1, k2⟩ := Bool.and_eq_true_iff.mp (show (PySem.W.codeIn K n13 d.qual && He.dflB K n8 []) = true from c2)
      cases n8 with
      | none => exact ⟨oc, od, n9, n10, n11, n12, n13, n14, osl, q, k1, kp⟩
      | _ => cases k2
    | _ => cases c2
abbrev Fq := PySem.W.Frag → Bool
def obsQ (fa : List Fq) (ds : List Dq) (K : PySem.W.Frag) : Bool × List He.FnW := ((fa.all fun f => f K) && ds.all fun d => d.ok K, ds.map fun d => fnQ K (d.ad K))
def valQ (ds : List Dq) : Bool × List He.FnW := (true, ds.map Dq.val)
def SaysQ (fa : List Fq) (ds : List Dq) (K : PySem.W.Frag) : Prop := obsQ fa ds K = valQ ds
def obsQG (n : Nat) (fa : List Fq) (ds : List Dq) (g : Addr → Option Obj) : Bool × List He.FnW := obsQ fa ds (He.frG g (He.asD g n))
def hookQ (n : Nat) (fa : List Fq) (ds : List Dq) : PySem.W.Hook where
  α := Bool × List He.FnW
  obs := fun s => obsQG n fa ds s.heap.get?
  val := fun _ => valQ ds
  says := fun _ h => ∃ K : PySem.W.Frag, K.In h ∧ SaysQ fa ds K
  of := fun _ _ e => ⟨_, He.frG_in, e⟩
  keeps := fun _ _ _ ⟨K, hK, c⟩ k => ⟨K, PySem.W.Frag.In.keeps hK k, c⟩
theorem obsQG_eq {n : Nat} {fa : List Fq} {ds : List Dq} {g : Addr → Option Obj} {s : Shared} (h : ∀ a, g a = s.heap.get? a) : obsQG n fa ds g = (hookQ n fa ds).obs s := by
  have e : g = s.heap.get? := funext h
  rw [e] <;> rfl
section
variable {fa : List Fq} {ds : List Dq} {K : PySem.W.Frag}
theorem SaysQ.fact (c : SaysQ fa ds K) (i : Nat) {f : Fq} (h : fa[i]? = some f := by rfl) : f K = true := by
  have c1 := (Bool.and_eq_true_iff.mp (show ((fa.all fun f => f K) && ds.all fun d => d.ok K) = true from congrArg Prod.fst c)).1
  exact List.all_eq_true.mp c1 f (List.mem_of_getElem? h)
theorem SaysQ.def_ (c : SaysQ fa ds K) (i : Nat) {d : Dq} (h : ds[i]? = some d := by rfl) : DefAt K (d.ad K) d.name d.qual d.st := by
  have c2 := (Bool.and_eq_true_iff.mp (show ((fa.all fun f => f K) && ds.all fun d => d.ok K) = true from congrArg Prod.fst c)).2
  have e : ds.map (fun d => fnQ K (d.ad K)) = ds.map Dq.val := congrArg Prod.snd c
  have e2 : (ds.map fun d => fnQ K (d.ad K))[i]? = (ds.map Dq.val)[i]? := by rw [e]
  rw [List.getElem?_map, List.getElem?_map, h] at e2
  exact Dq.at_ (Option.some.inj e2) (List.all_eq_true.mp c2 d (List.mem_of_getElem? h))
end
/-! kinds of facts -/
def qA (f : He.Fa) : Fq := fun K => f.ok K
/-- the getter of the property n of the class C -/
def pgA (C n : Str) (K : PySem.W.Frag) : Addr := match PySem.W.recIn K (He.ma K (He.ga K C) n) "property" with
  | some (.ref g :: _) => g
  | _ => 0
def qProp (C n : Str) : Fq := fun K => He.eqO (PySem.W.findIn K (.ref (He.ga K C)) n) (some (some (.ref (He.ma K (He.ga K C) n)))) && (He.eqO (PySem.W.specialIn K (.ref (He.ma K (He.ga K C) n)) "__get__") (some (some (.builtin "property.__get__"))) &&
  (decide (PySem.W.takesIn K (.ref (He.ma K (He.ga K C) n)) = some true) && (match PySem.W.recIn K (He.ma K (He.ga K C) n) "property" with
    | some (.ref _ :: _) => true
    | _ => false)))
theorem qProp_ok {C n : Str} {K : PySem.W.Frag} (h : qProp C n K = true) : PropOf K (He.ga K C) n (He.ma K (He.ga K C) n) (pgA C n K) := by
  obtain ⟨h1, h⟩ := Bool.and_eq_true_iff.mp h
  obtain ⟨h2, h⟩ := Bool.and_eq_true_iff.mp h
  obtain ⟨h3, h4⟩ := Bool.and_eq_true_iff.mp h
  refine ⟨He.eqO_ok h1, He.eqO_ok h2, of_decide_eq_true h3, ?_⟩
  unfold pgA
  revert h4
  cases e : PySem.W.recIn K (He.ma K (He.ga K C) n) "property" with
  | none => intro h4; cases h4
  | some l =>
    cases l with
    | nil => intro h4; cases h4
    | cons v r =>
      cases v with
      | ref g => intro _; exact ⟨r, rfl⟩
      | _ => intro h4; cases h4
def qIns (C : Str) : Fq := fun K => (He.Fa.cls C).ok K && (He.eqO (PySem.W.findIn K (.ref (He.ga K C)) "__class__") (some (some (.builtin "object.__class__"))) && (He.eqO (PySem.W.specialIn K (.builtin "object.__class__") "__get__") (some (some (.builtin "getset_descriptor.__get__"))) &&
  (decide (PySem.W.takesIn K (.builtin "object.__class__") = some true) && decide (PySem.W.mroIn K (He.ga K C) (.type "object") = some true))))
theorem qIns_ok {C : Str} {K : PySem.W.Frag} (h : qIns C K = true) : InsT K (He.ga K C) := by
  obtain ⟨h1, h⟩ := Bool.and_eq_true_iff.mp h
  obtain ⟨h2, h⟩ := Bool.and_eq_true_iff.mp h
  obtain ⟨h3, h⟩ := Bool.and_eq_true_iff.mp h
  obtain ⟨h4, h5⟩ := Bool.and_eq_true_iff.mp h
  exact ⟨He.cls_ok h1, He.eqO_ok h2, He.eqO_ok h3, of_decide_eq_true h4, of_decide_eq_true h5⟩
/-- isinstance(a value of the built-in class t, the own class C) -/
def qKitB (t : String) (C : Str) (b : Bool) : Fq := fun K => decide (PySem.W.kitOne K (.type t) (.ref (He.ga K C)) = some b)
theorem qKitB_ok {t : String} {C : Str} {b : Bool} {K : PySem.W.Frag} (h : qKitB t C b K = true) : PySem.W.kitOne K (.type t) (.ref (He.ga K C)) = some b := of_decide_eq_true h
def qKitC (C C' : Str) (b : Bool) : Fq := fun K => decide (PySem.W.kitOne K (.ref (He.ga K C)) (.ref (He.ga K C')) = some b)
theorem qKitC_ok {C C' : Str} {b : Bool} {K : PySem.W.Frag} (h : qKitC C C' b K = true) : PySem.W.kitOne K (.ref (He.ga K C)) (.ref (He.ga K C')) = some b := of_decide_eq_true h
def qKitT (C : Str) (t : String) (b : Bool) : Fq := fun K => decide (PySem.W.kitOne K (.ref (He.ga K C)) (.type t) = some b)
theorem qKitT_ok {C : Str} {t : String} {b : Bool} {K : PySem.W.Frag} (h : qKitT C t b K = true) : PySem.W.kitOne K (.ref (He.ga K C)) (.type t) = some b := of_decide_eq_true h
end Wv

namespace Wv
open PySem PySem.Spec PyProof.Rows L2
theorem DefAt.kp {K : PySem.W.Frag} {a : Addr} {n q : Str} {st : Stmt} (d : DefAt K a n q st) : PySem.W.keepIn K (.ref a) = true := by
  obtain ⟨_, _, _, _, _, _, _, _, _, _, _, h⟩ := d
  exact h
theorem fl1 {K : PySem.W.Frag} {C n : Str} (c : Cls K (He.ga K C)) (a : NoAttr K (He.ga K C) n) : ∀ C' ∈ [C], Cls K (He.ga K C') ∧ NoAttr K (He.ga K C') n := fun C' h => by
  cases List.mem_singleton.mp h
  exact ⟨c, a⟩
theorem isiNil {α : Type} {P : α → Bool → Prop} : ∀ t r, (t, r) ∈ ([] : List (α × Bool)) → P t r := fun _ _ h => nomatch h
theorem isiCons {α : Type} {P : α → Bool → Prop} {t : α} {r : Bool} {l : List (α × Bool)} (h : P t r) (h' : ∀ t r, (t, r) ∈ l → P t r) : ∀ t' r', (t', r') ∈ (t, r) :: l → P t' r' := fun t' r' m => by
  rcases List.mem_cons.mp m with e | e
  · cases e
    exact h
  · exact h' t' r' e
theorem un100 {k : Nat} {A : Around} (r : Room k A) : A.units + 100 < cLine := by
  have := r.un
  omega
theorem bt_len : bootBuiltins "len" = some (.builtin "len") := by decide +kernel
theorem bt_abs : bootBuiltins "abs" = some (.builtin "abs") := by decide +kernel
theorem bt_max : bootBuiltins "max" = some (.builtin "max") := by decide +kernel
theorem bt_min : bootBuiltins "min" = some (.builtin "min") := by decide +kernel
theorem bt_divmod : bootBuiltins "divmod" = some (.builtin "divmod") := by decide +kernel
theorem bt_all : bootBuiltins "all" = some (.builtin "all") := by decide +kernel
theorem bt_any : bootBuiltins "any" = some (.builtin "any") := by decide +kernel
theorem bt_sum : bootBuiltins "sum" = some (.builtin "sum") := by decide +kernel
theorem bt_repr : bootBuiltins "repr" = some (.builtin "repr") := by decide +kernel
theorem bt_int : bootBuiltins "int" = some (.type "int") := by decide +kernel
theorem bt_bool : bootBuiltins "bool" = some (.type "bool") := by decide +kernel
theorem bt_str : bootBuiltins "str" = some (.type "str") := by decide +kernel
theorem bt_tuple : bootBuiltins "tuple" = some (.type "tuple") := by decide +kernel
theorem bt_list : bootBuiltins "list" = some (.type "list") := by decide +kernel
end Wv

namespace Wv
open PySem PySem.Spec PyProof.Rows L2
def noX (r : Res Vl) : Res Vl := match r with
  | .ok y M => .ok y M
  | _ => .bad
theorem cmpBack_of {X : Cx} {pins : List (Addr × Obj)} {σ : L2.St} {Q : VK} {u : Value} {s : Shared} (h : EP X pins σ Q u s) : PySem.W.CmpBack (EP X pins σ Q) u s := by
  obtain ⟨v, H', I, r, q⟩ := h
  cases v with
  | non => obtain rfl : u = Value.none := r; exact ⟨.non, H', I, rfl, q⟩
  | bl b => obtain rfl : u = Value.bool b := r; exact ⟨.bl b, H', I, rfl, q⟩
  | int i => obtain ⟨t, rfl⟩ : ∃ t, u = Value.int i t := r; exact ⟨.int i, H', I, ⟨t, rfl⟩, q⟩
  | str x => obtain ⟨t, rfl⟩ : ∃ t, u = Value.str x t := r; exact ⟨.str x, H', I, ⟨t, rfl⟩, q⟩
  | byt x => obtain ⟨t, rfl⟩ : ∃ t, u = Value.bytes x t := r; exact ⟨.byt x, H', I, ⟨t, rfl⟩, q⟩
  | flt x => obtain ⟨t, rfl⟩ : ∃ t, u = Value.float x t := r; exact ⟨.flt x, H', I, ⟨t, rfl⟩, q⟩
  | ref a => obtain rfl : u = Value.ref a := r; exact ⟨.ref a, H', I, rfl, q⟩
  | ty n => obtain rfl : u = Value.type n := r; exact ⟨.ty n, H', I, rfl, q⟩
section
variable {X : Cx} {W : WX} {k : Nat} {f : Addr} {fs : FS}
theorem spF_noX {φ : Hp} {μ : List Addr} {Hs : Hp} {M : List Mu} {H : Hp} {σ : L2.St} {xs : List Vl} {vs : List V} {Q : VK} (S : SRel X.K φ μ Hs M H) (r : RepVs X.K μ Hs xs vs) (P : Post X.K W (RepV X.K) φ μ Hs σ (noX (fs xs M)) Q) : spF X.K fs vs H Q E0 := by
  refine ⟨φ, μ, Hs, M, xs, S, r, ?_⟩
  unfold noX at P
  cases e : fs xs M with
  | ok y M' => rw [e] at P; exact P
  | exc C fl M' => rw [e] at P; exact P.elim
  | bad => rw [e] at P; exact P.elim
def rBinOwn (K : PySem.W.Frag) (C : Str) (fs : FS) : R2 := fun v w H Q => ∃ a dx fvs b dy gvs, v = .ref a ∧ w = .ref b ∧ H a = some (.ins (He.ga K C) dx fvs) ∧ H b = some (.ins (He.ga K C) dy gvs) ∧ spF K fs [v, w] H Q E0
theorem op_binOwn {op : Operator} {C : Str} (hc : PySem.W.selfFirst X.K (He.ga X.K C) = true) (hs : PySem.W.findIn X.K (.ref (He.ga X.K C)) (PySem.dunder op.info.2) = some (some (.ref f))) (hf : PySem.W.isFn X.K (.ref f) = true) (F : FnG X.prog X.w X.K X.mg X.base k f [] fs) (gd : X.A.guards = some []) (hr : Room k X.A) : OpR X (binaryOp op) (rBinOwn X.K C fs) := by
  intro pins s σ H x y v u Q I rx ry h
  obtain ⟨a, dx, fvs, b, dy, gvs, rfl, rfl, ea, eb, q⟩ := h
  obtain rfl : v = Value.ref a := rx
  obtain rfl : u = Value.ref b := ry
  obtain ⟨mA, O, _, _, _, _⟩ := ins_get I.hok ea
  obtain ⟨od, J, _⟩ := O.look
  obtain ⟨mA2, O2, _, _, _, _⟩ := ins_get I.hok eb
  obtain ⟨od2, J2, _⟩ := O2.look
  obtain ⟨m, hF⟩ := I.fr
  exact PySem.W.binop_K hF I.ok.mod.kin J J2.type hc hs hf (wpAny_mono (run_fnG0 (us := [.ref a, .ref b]) (vs := [.ref a, .ref b]) F gd hr I.env0 I (.cons rfl (.cons rfl .nil)) q) (fun z s' hz => cmpBack_of hz) fun _ _ e => e)
def fBinOwn (C : Str) (fs : FS) : F2 := fun x y M => match insV M x, insV M y with
  | some (C1, _), some (C2, _) => if C1 = C ∧ C2 = C then noX (fs [x, y] M) else .bad
  | _, _ => .bad
theorem os_binOwn {C : Str} : OpS X.K (rBinOwn X.K C fs) (fBinOwn C fs) := by
  intro W φ μ Hs M H σ x y v w Q S rx ry P
  unfold fBinOwn at P
  split at P
  · rename_i C1 f1 C2 f2 h1 h2
    split at P
    · rename_i hC
      obtain ⟨rfl, rfl⟩ := hC
      obtain ⟨a, dx, fvs, rfl, e1, _⟩ := insV_ok S rx h1
      obtain ⟨b, dy, gvs, rfl, e2, _⟩ := insV_ok S ry h2
      exact ⟨a, dx, fvs, b, dy, gvs, rfl, rfl, e1, e2, spF_noX S (.cons rx (.cons ry .nil)) P⟩
    · exact P.elim
  · exact P.elim
def rUnOwn (K : PySem.W.Frag) (C : Str) (fs : FS) : V → Hp → VK → Prop := fun v H Q => ∃ a dx fvs, v = .ref a ∧ H a = some (.ins (He.ga K C) dx fvs) ∧ spF K fs [v] H Q E0
theorem un_invOwn {C : Str} (hs : PySem.W.findIn X.K (.ref (He.ga X.K C)) "__invert__" = some (some (.ref f))) (hf : PySem.W.isFn X.K (.ref f) = true) (F : FnG X.prog X.w X.K X.mg X.base k f [] fs) (gd : X.A.guards = some []) (hr : Room k X.A) : UnR X (unaryOp .Invert) (rUnOwn X.K C fs) := by
  intro pins s σ H x v Q I rx h
  obtain ⟨a, dx, fvs, rfl, ea, q⟩ := h
  obtain rfl : v = Value.ref a := rx
  obtain ⟨mA, O, _, _, _, _⟩ := ins_get I.hok ea
  obtain ⟨od, J, _⟩ := O.look
  obtain ⟨m, hF⟩ := I.fr
  exact PySem.W.ksp_inv hF I.ok.mod.kin J hs hf (run_fnG0 (us := [.ref a]) (vs := [.ref a]) F gd hr I.env0 I (.cons rfl .nil) q)
def fUnOwn (C : Str) (fs : FS) : F1 := fun x M => match insV M x with
  | some (C1, _) => if C1 = C then noX (fs [x] M) else .bad
  | none => .bad
theorem us_unOwn {C : Str} : UnS X.K (rUnOwn X.K C fs) (fUnOwn C fs) := by
  intro W φ μ Hs M H σ x v Q S rx P
  unfold fUnOwn at P
  split at P
  · rename_i C1 f1 h1
    split at P
    · rename_i hC
      subst hC
      obtain ⟨a, dx, fvs, rfl, e1, _⟩ := insV_ok S rx h1
      exact ⟨a, dx, fvs, rfl, e1, spF_noX S (.cons rx .nil) P⟩
    · exact P.elim
  · exact P.elim
end
theorem dn_or : PySem.dunder (Operator.BitOr).info.2 = "__or__" := by decide +kernel
theorem op_orOwn {X : Cx} {k : Nat} {f : Addr} {fs : FS} {C : Str} (hc : PySem.W.selfFirst X.K (He.ga X.K C) = true) (hs : PySem.W.findIn X.K (.ref (He.ga X.K C)) "__or__" = some (some (.ref f))) (hf : PySem.W.isFn X.K (.ref f) = true) (F : FnG X.prog X.w X.K X.mg X.base k f [] fs) (gd : X.A.guards = some []) (hr : Room k X.A) : OpR X (binaryOp .BitOr) (rBinOwn X.K C fs) := op_binOwn hc (by rw [dn_or]; exact hs) hf F gd hr
theorem dn_and : PySem.dunder (Operator.BitAnd).info.2 = "__and__" := by decide +kernel
theorem op_andOwn {X : Cx} {k : Nat} {f : Addr} {fs : FS} {C : Str} (hc : PySem.W.selfFirst X.K (He.ga X.K C) = true) (hs : PySem.W.findIn X.K (.ref (He.ga X.K C)) "__and__" = some (some (.ref f))) (hf : PySem.W.isFn X.K (.ref f) = true) (F : FnG X.prog X.w X.K X.mg X.base k f [] fs) (gd : X.A.guards = some []) (hr : Room k X.A) : OpR X (binaryOp .BitAnd) (rBinOwn X.K C fs) := op_binOwn hc (by rw [dn_and]; exact hs) hf F gd hr
theorem dn_sub : PySem.dunder (Operator.Sub).info.2 = "__sub__" := by decide +kernel
theorem op_subOwn {X : Cx} {k : Nat} {f : Addr} {fs : FS} {C : Str} (hc : PySem.W.selfFirst X.K (He.ga X.K C) = true) (hs : PySem.W.findIn X.K (.ref (He.ga X.K C)) "__sub__" = some (some (.ref f))) (hf : PySem.W.isFn X.K (.ref f) = true) (F : FnG X.prog X.w X.K X.mg X.base k f [] fs) (gd : X.A.guards = some []) (hr : Room k X.A) : OpR X (binaryOp .Sub) (rBinOwn X.K C fs) := op_binOwn hc (by rw [dn_sub]; exact hs) hf F gd hr
theorem dn_xor : PySem.dunder (Operator.BitXor).info.2 = "__xor__" := by decide +kernel
theorem op_xorOwn {X : Cx} {k : Nat} {f : Addr} {fs : FS} {C : Str} (hc : PySem.W.selfFirst X.K (He.ga X.K C) = true) (hs : PySem.W.findIn X.K (.ref (He.ga X.K C)) "__xor__" = some (some (.ref f))) (hf : PySem.W.isFn X.K (.ref f) = true) (F : FnG X.prog X.w X.K X.mg X.base k f [] fs) (gd : X.A.guards = some []) (hr : Room k X.A) : OpR X (binaryOp .BitXor) (rBinOwn X.K C fs) := op_binOwn hc (by rw [dn_xor]; exact hs) hf F gd hr
theorem dn_add : PySem.dunder (Operator.Add).info.2 = "__add__" := by decide +kernel
theorem op_addOwn {X : Cx} {k : Nat} {f : Addr} {fs : FS} {C : Str} (hc : PySem.W.selfFirst X.K (He.ga X.K C) = true) (hs : PySem.W.findIn X.K (.ref (He.ga X.K C)) "__add__" = some (some (.ref f))) (hf : PySem.W.isFn X.K (.ref f) = true) (F : FnG X.prog X.w X.K X.mg X.base k f [] fs) (gd : X.A.guards = some []) (hr : Room k X.A) : OpR X (binaryOp .Add) (rBinOwn X.K C fs) := op_binOwn hc (by rw [dn_add]; exact hs) hf F gd hr
theorem dn_rshift : PySem.dunder (Operator.RShift).info.2 = "__rshift__" := by decide +kernel
theorem op_rshiftOwn {X : Cx} {k : Nat} {f : Addr} {fs : FS} {C : Str} (hc : PySem.W.selfFirst X.K (He.ga X.K C) = true) (hs : PySem.W.findIn X.K (.ref (He.ga X.K C)) "__rshift__" = some (some (.ref f))) (hf : PySem.W.isFn X.K (.ref f) = true) (F : FnG X.prog X.w X.K X.mg X.base k f [] fs) (gd : X.A.guards = some []) (hr : Room k X.A) : OpR X (binaryOp .RShift) (rBinOwn X.K C fs) := op_binOwn hc (by rw [dn_rshift]; exact hs) hf F gd hr
theorem fnG_bad {P : Program} {w : World} {K : PySem.W.Frag} {mg : Str → Option Value} {base : Heap} {k : Nat} {f : Addr} {ks : List Str} : FnG P w K mg base k f ks (fun _ _ => .bad) := fun A outer s H us ws vs zs Q E _ _ _ _ _ _ h => by
  obtain ⟨_, _, _, _, _, _, _, h⟩ := h
  exact h.elim
def qSelf (C : Str) : Fq := fun K => PySem.W.selfFirst K (He.ga K C)
theorem qSelf_ok {C : Str} {K : PySem.W.Frag} (h : qSelf C K = true) : PySem.W.selfFirst K (He.ga K C) = true := h
end Wv

namespace Wv
open PySem PySem.Spec PyProof.Rows L2
/-! ### own ==, and != by it -/
section
variable {prog : Program} {w : World} {A : Around} {E : Value → Shared → Prop} {s : Shared} {K : PySem.W.Frag} {x C L f : Addr} {h₀ : Heap} {m : Str → Option Value} {ox : Obj} {od : Option Obj} {b tb : Value}
theorem bind_ne (self : Value) : bindSpecial (.builtin "object.__ne__") self = pure (.builtin "object.__ne__", [self]) := PySem.F.slot_tuple_iterator_ne.bind self
theorem ifBoundNe {M : Model} {args : List Value} {Q : Option Value → Shared → Prop} (X : K.In s.heap) (I : PySem.W.InstAt s.heap x ox C od) (hs : PySem.W.findIn K (.ref C) "__ne__" = some (some (.builtin "object.__ne__")))
    (h : wpAny M A (call (.builtin "object.__ne__") (.ref x :: args)) (fun v => Q (some v)) E s) : wpAny M A (callSpecialIfBound? (.ref x) "__ne__" args) Q E s := by
  simp only [callSpecialIfBound?, bindSpecialIfBound?]
  refine wpAny_holding (wpAny_bind (wpAny_bind (wpAny_bind (I.type.here ((PySem.W.looks_findIn X hs).here ?_)))))
  refine wpAny_bind (wpAny_askSetting (wpAny_ite ?_))
  have fin : wpAny M A (call (.builtin "object.__ne__") ([.ref x] ++ args) >>= fun v => pure (some v)) Q E s := wpAny_bind (wpAny_mono h (fun v s' h' => wpAny_pure h') fun _ _ h' => h')
  split
  · rw [bind_ne]
    exact wpAny_bind (wpAny_pure (wpAny_pure fin))
  · rw [bind_ne]
    exact wpAny_tryCatch (wpAny_bind (wpAny_pure (wpAny_pure fin)))
theorem check_ne {M : Model} {Q : Unit → Shared → Prop} (X : K.In s.heap) (I : PySem.W.InstAt s.heap x ox C od) (hsub : PySem.W.subIn K (.ref C) (.type "object") = some true) (hq : Q () s) : wpAny M A (checkBuiltinCall "object.__ne__" ⟨[.ref x, b], []⟩) Q E s := by
  have ha := PySem.F.cmpArgs_ne (.ref x) b
  simp only [checkBuiltinCall, PySem.F.cmpKind_ne, PySem.F.cmpSplit_ne]
  refine wpAny_bind ?_
  unfold isInstance
  refine wpAny_bind (I.type.here ((PySem.W.looks_subIn X hsub).here ?_))
  cases hsig : Manifest.signature? "object.__ne__" with
  | none => exact wpAny_pure hq
  | some sig =>
    simp only [argsOk, hsig] at ha
    have h2 : Bind.checkArgs "object.__ne__" sig ⟨[.ref x, b], []⟩ = pure () := ha
    show wpAny M A (Bind.checkArgs "object.__ne__" sig ⟨[.ref x, b], []⟩) Q E _
    rw [h2]
    exact wpAny_pure hq
theorem call_ne {Q : Value → Shared → Prop} (hu : A.in1.units < cLine) (X : K.In s.heap) (I : PySem.W.InstAt s.heap x ox C od) (hsub : PySem.W.subIn K (.ref C) (.type "object") = some true) (hs : PySem.W.findIn K (.ref C) "__eq__" = some (some (.ref f))) (hf : PySem.W.isFn K (.ref f) = true)
    (h : wpAny (model prog w) A.in1 (call (.ref f) [.ref x, b]) (fun v s' => ∃ k, v = .bool k ∧ Q (.bool (!k)) s') E s) : wpAny (model prog w) A (call (.builtin "object.__ne__") [.ref x, b]) Q E s := by
  refine wpAny_call (codeAny_call_builtin PySem.F.slot_tuple_iterator_ne.plain PySem.F.cmpEntry_ne (check_ne X I hsub ?_))
  unfold Builtin.«object.__ne__»
  refine wpAny_bind (wpAny_pure ?_)
  refine wpAny_bind (wpAny_cRoomFor hu ?_)
  refine wpAny_bind (m := callSpecialIfBound? (.ref x) (Str.ofString "__eq__") [b]) (PySem.W.ifBound_K X I hs hf (wpAny_mono h (fun r s' hr => ?_) fun _ _ e => e))
  obtain ⟨k, rfl, hq⟩ := hr
  exact wpAny_bind (wpAny_truthy_bool (wpAny_pure hq))
end
section
variable {X : Cx} {W : WX} {k : Nat} {f : Addr} {fs : FS}
def rEqOwn (K : PySem.W.Frag) (C : Str) (fs : FS) (neg : Bool) : R2 := fun v w H Q => ∃ a dx fvs t, v = .ref a ∧ H a = some (.ins (He.ga K C) dx fvs) ∧ TyX K H w t ∧ PySem.W.notFirst K (He.ga K C) t = true ∧ spF K fs [v, w] H (fun z H' => ∃ b, z = .bl b ∧ Q (.bl (if neg then !b else b)) H') E0
theorem op_eqOwn {C : Str} (hs : PySem.W.findIn X.K (.ref (He.ga X.K C)) "__eq__" = some (some (.ref f))) (hf : PySem.W.isFn X.K (.ref f) = true) (F : FnG X.prog X.w X.K X.mg X.base k f [] fs) (gd : X.A.guards = some []) (hr : Room k X.A) : OpR X (compareOp .Eq) (rEqOwn X.K C fs false) := by
  intro pins s σ H x y v u Q I rx ry h
  obtain ⟨a, dx, fvs, t, rfl, ea, ty, hn, q⟩ := h
  obtain rfl : v = Value.ref a := rx
  obtain ⟨mA, O, _, _, _, _⟩ := ins_get I.hok ea
  obtain ⟨od, J, _⟩ := O.look
  obtain ⟨m, hF⟩ := I.fr
  obtain ⟨P, Z, hP, _⟩ := kit_of I ry ty
  have X₀ := I.ok.mod.kin
  refine PySem.W.cmp_K (op := .Eq) hr.units0 hF X₀ J (Z.ty _ _ (X₀.keeps hF.keep) hP) hn hs hf (wpAny_mono (run_fnG0 (us := [.ref a, u]) (vs := [.ref a, y]) F gd hr I.env0 I (.cons rfl (.cons ry .nil)) q) (fun z s' hz => ?_) fun _ _ e => e)
  obtain ⟨z', H', I', rz, b, eb, qz⟩ := hz
  subst eb
  obtain rfl : z = Value.bool b := rz
  exact ⟨.bl b, H', I', rfl, qz⟩
theorem op_neOwn {C : Str} (hsub : PySem.W.subIn X.K (.ref (He.ga X.K C)) (.type "object") = some true) (hne : PySem.W.findIn X.K (.ref (He.ga X.K C)) "__ne__" = some (some (.builtin "object.__ne__"))) (hs : PySem.W.findIn X.K (.ref (He.ga X.K C)) "__eq__" = some (some (.ref f))) (hf : PySem.W.isFn X.K (.ref f) = true) (F : FnG X.prog X.w X.K X.mg X.base k f [] fs) (gd : X.A.guards = some []) (hr : Room (k + 1) X.A) : OpR X (compareOp .NotEq) (rEqOwn X.K C fs true) := by
  intro pins s σ H x y v u Q I rx ry h
  obtain ⟨a, dx, fvs, t, rfl, ea, ty, hn, q⟩ := h
  obtain rfl : v = Value.ref a := rx
  obtain ⟨mA, O, _, _, _, _⟩ := ins_get I.hok ea
  obtain ⟨od, J, _⟩ := O.look
  obtain ⟨m, hF⟩ := I.fr
  obtain ⟨P, Z, hP, _⟩ := kit_of I ry ty
  have X₀ := I.ok.mod.kin
  have XX := X₀.keeps hF.keep
  have hb := Z.ty (model X.prog X.w) _ XX hP
  have hr2 : Room k X.A.in1 := Room.in1 hr
  have one : wpAny (model X.prog X.w) X.A (tryCompare (.ref a) "__ne__" u) (fun r s' => ∃ v, r = some v ∧ EP X pins σ Q v s') X.xe s := by
    unfold tryCompare
    refine wpAny_bind (ifBoundNe XX J hne (call_ne hr2.units0 XX J hsub hs hf (wpAny_mono (run_fnG0 (A := X.A.in1) (us := [.ref a, u]) (vs := [.ref a, y]) F gd hr2 I.env0.in1 I (.cons rfl (.cons ry .nil)) q) (fun z s' hz => ?_) fun _ _ e => e)))
    obtain ⟨z', H', I', rz, b, eb, qz⟩ := hz
    subst eb
    obtain rfl : z = Value.bool b := rz
    exact ⟨b, rfl, wpAny_pure ⟨_, rfl, .bl (!b), H', I', rfl, qz⟩⟩
  show wpAny _ _ (richCompare .NotEq (.ref a) u) _ _ _
  unfold richCompare
  simp only [oneThing_ref]
  refine wpAny_holding (wpAny_bind (wpAny_cRoomFor hr.units0 ?_))
  refine wpAny_bind (J.type.here (wpAny_bind (hb.here ?_)))
  split
  · rename_i q
    have e : PySem.W.subIn X.K t (.ref (He.ga X.K C)) = some false := by
      rcases Bool.or_eq_true_iff.mp hn with e | e
      · rw [beq_iff_eq.mp e] at q; simp at q
      · exact beq_iff_eq.mp e
    refine wpAny_bind ((PySem.W.looks_subIn XX e).here ?_)
    simp only [Bool.false_eq_true, if_false]
    refine wpAny_bind (wpAny_mono one (fun r s' z => ?_) fun _ _ e => e)
    obtain ⟨v, rfl, hq⟩ := z
    exact wpAny_pure hq
  · refine wpAny_bind (wpAny_pure ?_)
    simp only [Bool.false_eq_true, if_false]
    refine wpAny_bind (wpAny_mono one (fun r s' z => ?_) fun _ _ e => e)
    obtain ⟨v, rfl, hq⟩ := z
    exact wpAny_pure hq
def negR (neg : Bool) (r : Res Vl) : Res Vl := match r with
  | .ok (.d (.bl b)) M => .ok (.d (.bl (if neg then !b else b))) M
  | _ => .bad
/-- what may stand beside an own ==: kinds of the language, own classes -/
def besideV (M : List Mu) (tb : List String) (tc : List Str) (y : Vl) : Bool := match tyV' M y with
  | some (.inl a) => tb.contains a
  | some (.inr C) => tc.contains C
  | none => false
def fEqOwn (neg : Bool) (C : Str) (fs : FS) (tb : List String) (tc : List Str) : F2 := fun x y M => match insV M x with
  | some (C1, _) => if C1 = C ∧ besideV M tb tc y = true then negR neg (fs [x, y] M) else .bad
  | none => (match insV M y with
    | some _ => .bad
    | none => if neg then fNe x y M else fEq x y M)
theorem spF_neg {neg : Bool} {φ : Hp} {μ : List Addr} {Hs : Hp} {M : List Mu} {H : Hp} {σ : L2.St} {xs : List Vl} {vs : List V} {Q : VK} (S : SRel X.K φ μ Hs M H) (r : RepVs X.K μ Hs xs vs) (P : Post X.K W (RepV X.K) φ μ Hs σ (negR neg (fs xs M)) Q) : spF X.K fs vs H (fun z H' => ∃ b, z = .bl b ∧ Q (.bl (if neg then !b else b)) H') E0 := by
  refine ⟨φ, μ, Hs, M, xs, S, r, ?_⟩
  unfold negR at P
  cases e : fs xs M with
  | ok y M' =>
    rw [e] at P
    intro μ' Hs' H' v p ex S' rv
    cases y with
    | m j => exact P.elim
    | d y =>
      cases y with
      | bl b => exact ⟨b, bl_ok rv, P μ' Hs' H' _ p ex S' (.bl _)⟩
      | _ => exact P.elim
  | exc C fl M' => rw [e] at P; exact P.elim
  | bad => rw [e] at P; exact P.elim
theorem beside_ok {K : PySem.W.Frag} {C : Str} {tb : List String} {tc : List Str} (hb : ∀ a ∈ tb, PySem.W.subIn K (.type a) (.ref (He.ga K C)) = some false) (hc : ∀ D ∈ tc, InsT K (He.ga K D) ∧ PySem.W.notFirst K (He.ga K C) (.ref (He.ga K D)) = true) {φ : Hp} {μ : List Addr} {Hs H : Hp} {M : List Mu} {x : Vl} {v : V} (S : SRel K φ μ Hs M H) (r : RepV K μ Hs x v) (h : besideV M tb tc x = true) : ∃ t, TyX K H v t ∧ PySem.W.notFirst K (He.ga K C) t = true := by
  obtain ⟨t1, t2⟩ := tyV_ok S r
  unfold besideV at h
  cases e : tyV' M x with
  | none => rw [e] at h; cases h
  | some z =>
    rw [e] at h
    cases z with
    | inl a =>
      have hm : a ∈ tb := by simpa using h
      exact ⟨_, t1 a e, by unfold PySem.W.notFirst; rw [hb a hm]; simp⟩
    | inr D =>
      have hm : D ∈ tc := by simpa using h
      exact ⟨_, t2 D e (hc D hm).1, (hc D hm).2⟩
theorem os_eqOwn {C : Str} {tb : List String} {tc : List Str} (hb : ∀ a ∈ tb, PySem.W.subIn X.K (.type a) (.ref (He.ga X.K C)) = some false) (hc : ∀ D ∈ tc, InsT X.K (He.ga X.K D) ∧ PySem.W.notFirst X.K (He.ga X.K C) (.ref (He.ga X.K D)) = true) : OpS X.K (fun v w H Q => rEqA X.K v w H Q ∨ rEqOwn X.K C fs false v w H Q) (fEqOwn false C fs tb tc) := by
  intro W φ μ Hs M H σ x y v w Q S rx ry P
  unfold fEqOwn at P
  split at P
  · rename_i C1 f1 h1
    split at P
    · rename_i hC
      obtain ⟨rfl, h2⟩ := hC
      obtain ⟨a, dx, fvs, rfl, e1, _⟩ := insV_ok S rx h1
      obtain ⟨t, ty, hn⟩ := beside_ok hb hc S ry h2
      exact .inr ⟨a, dx, fvs, t, rfl, e1, ty, hn, spF_neg S (.cons rx (.cons ry .nil)) P⟩
    · exact P.elim
  · split at P
    · exact P.elim
    · exact .inl (os_eq W φ μ Hs M H σ x y v w Q S rx ry P)
theorem os_neOwn {C : Str} {tb : List String} {tc : List Str} (hb : ∀ a ∈ tb, PySem.W.subIn X.K (.type a) (.ref (He.ga X.K C)) = some false) (hc : ∀ D ∈ tc, InsT X.K (He.ga X.K D) ∧ PySem.W.notFirst X.K (He.ga X.K C) (.ref (He.ga X.K D)) = true) : OpS X.K (fun v w H Q => rNeA X.K v w H Q ∨ rEqOwn X.K C fs true v w H Q) (fEqOwn true C fs tb tc) := by
  intro W φ μ Hs M H σ x y v w Q S rx ry P
  unfold fEqOwn at P
  split at P
  · rename_i C1 f1 h1
    split at P
    · rename_i hC
      obtain ⟨rfl, h2⟩ := hC
      obtain ⟨a, dx, fvs, rfl, e1, _⟩ := insV_ok S rx h1
      obtain ⟨t, ty, hn⟩ := beside_ok hb hc S ry h2
      exact .inr ⟨a, dx, fvs, t, rfl, e1, ty, hn, spF_neg S (.cons rx (.cons ry .nil)) P⟩
    · exact P.elim
  · split at P
    · exact P.elim
    · exact .inl (os_ne W φ μ Hs M H σ x y v w Q S rx ry P)
/-! repr(o) by an own __repr__ -/
def rReprOwn (K : PySem.W.Frag) (C : Str) (fs : FS) : List V → Hp → VK → Prop := fun xs H Q => ∃ a dx fvs, xs = [.ref a] ∧ H a = some (.ins (He.ga K C) dx fvs) ∧ spF K fs [.ref a] H (fun z H' => ∃ t, z = .str t ∧ Q (.str t) H') E0
theorem call_reprOwn {C : Str} (hs : PySem.W.findIn X.K (.ref (He.ga X.K C)) "__repr__" = some (some (.ref f))) (hf : PySem.W.isFn X.K (.ref f) = true) (F : FnG X.prog X.w X.K X.mg X.base k f [] fs) (gd : X.A.guards = some []) (hr : Room (k + 1) X.A) : CallR X (.builtin "repr") (rReprOwn X.K C fs) := by
  intro pins s σ H xs us Q I r h
  obtain ⟨a, dx, fvs, rfl, ea, q⟩ := h
  obtain ⟨u, rfl, ru⟩ := vals1 r
  obtain rfl : u = Value.ref a := ru
  obtain ⟨mA, O, _, _, _, _⟩ := ins_get I.hok ea
  obtain ⟨od, J, _⟩ := O.look
  obtain ⟨m, hF⟩ := I.fr
  have hr2 : Room k X.A.in1 := Room.in1 hr
  refine PySem.W.repr_K hr2.units0 hF I.ok.mod.kin J hs hf (wpAny_mono (run_fnG0 (A := X.A.in1) (us := [.ref a]) (vs := [.ref a]) F gd hr2 I.env0.in1 I (.cons rfl .nil) q) (fun z s' hz => ?_) fun _ _ e => e)
  obtain ⟨z', H', I', rz, t, eb, qz⟩ := hz
  subst eb
  obtain ⟨tk, rfl⟩ : ∃ tk, z = Value.str t tk := rz
  exact ⟨.str t, H', I', ⟨tk, rfl⟩, qz⟩
def strR (r : Res Vl) : Res Vl := match r with
  | .ok (.d (.str t)) M => .ok (.d (.str t)) M
  | _ => .bad
theorem spF_str {φ : Hp} {μ : List Addr} {Hs : Hp} {M : List Mu} {H : Hp} {σ : L2.St} {xs : List Vl} {vs : List V} {Q : VK} (S : SRel X.K φ μ Hs M H) (r : RepVs X.K μ Hs xs vs) (P : Post X.K W (RepV X.K) φ μ Hs σ (strR (fs xs M)) Q) : spF X.K fs vs H (fun z H' => ∃ t, z = .str t ∧ Q (.str t) H') E0 := by
  refine ⟨φ, μ, Hs, M, xs, S, r, ?_⟩
  unfold strR at P
  cases e : fs xs M with
  | ok y M' =>
    rw [e] at P
    intro μ' Hs' H' v p ex S' rv
    cases y with
    | m j => exact P.elim
    | d y =>
      cases y with
      | str t => exact ⟨t, str_ok rv, P μ' Hs' H' _ p ex S' (.str _)⟩
      | _ => exact P.elim
  | exc C fl M' => rw [e] at P; exact P.elim
  | bad => rw [e] at P; exact P.elim
def fReprA (C : Str) (fs : FS) : FS := fun xs M => match xs with
  | [x] => (match insV M x with
    | some (C', _) => if C' = C then strR (fs [x] M) else .bad
    | none => fRepr [x] M)
  | _ => .bad
theorem cs_reprA {C : Str} : CallS X.K (fun xs H Q => rRepr X.K xs H Q ∨ rReprOwn X.K C fs xs H Q) (fReprA C fs) := by
  intro W φ μ Hs M H σ xs vs Q S r P
  unfold fReprA at P
  split at P
  · rename_i x
    split at P
    · rename_i C' fl h1
      split at P
      · rename_i hC
        subst hC
        obtain ⟨v, rfl, rx⟩ := rv1 r
        obtain ⟨a, dx, fvs, rfl, e1, _⟩ := insV_ok S rx h1
        exact .inr ⟨a, dx, fvs, rfl, e1, spF_str S (.cons rx .nil) P⟩
      · exact P.elim
    · exact .inl (cs_repr W φ μ Hs M H σ [x] vs Q S r P)
  · exact P.elim
end
def qSub (t : String) (C : Str) : Fq := fun K => decide (PySem.W.subIn K (.type t) (.ref (He.ga K C)) = some false)
theorem qSub_ok {t : String} {C : Str} {K : PySem.W.Frag} (h : qSub t C K = true) : PySem.W.subIn K (.type t) (.ref (He.ga K C)) = some false := of_decide_eq_true h
def qNF (C D : Str) : Fq := fun K => PySem.W.notFirst K (He.ga K C) (.ref (He.ga K D))
theorem qNF_ok {C D : Str} {K : PySem.W.Frag} (h : qNF C D K = true) : PySem.W.notFirst K (He.ga K C) (.ref (He.ga K D)) = true := h
def qObj (C : Str) : Fq := fun K => decide (PySem.W.subIn K (.ref (He.ga K C)) (.type "object") = some true)
theorem qObj_ok {C : Str} {K : PySem.W.Frag} (h : qObj C K = true) : PySem.W.subIn K (.ref (He.ga K C)) (.type "object") = some true := of_decide_eq_true h
def qNe (C : Str) : Fq := fun K => He.eqO (PySem.W.findIn K (.ref (He.ga K C)) "__ne__") (some (some (.builtin "object.__ne__")))
theorem qNe_ok {C : Str} {K : PySem.W.Frag} (h : qNe C K = true) : PySem.W.findIn K (.ref (He.ga K C)) "__ne__" = some (some (.builtin "object.__ne__")) := He.eqO_ok h
theorem memNil {α : Type} {P : α → Prop} : ∀ a ∈ ([] : List α), P a := fun _ h => nomatch h
theorem memCons {α : Type} {P : α → Prop} {a : α} {l : List α} (h : P a) (h' : ∀ a ∈ l, P a) : ∀ b ∈ a :: l, P b := fun b m => by
  rcases List.mem_cons.mp m with rfl | m
  · exact h
  · exact h' b m
end Wv

namespace Wv
open PySem PySem.Spec PyProof.Rows L2
/-! ### f-strings -/
def eFmt (m : Sm Vl) : Sm Vl := bnd m fun x _ M => match x with
  | .d (.str y) => if y.length ≤ sizeLine then .ok (.d (.str y)) M else .bad
  | .d (.int i) => if i.natAbs.log2 < 1920 then .ok (.d (.str (toString i))) M else .bad
  | _ => .bad
def eJs : List (Sm Vl) → Str → Sm Vl
  | [], acc => fun _ M => .ok (.d (.str acc)) M
  | t :: ts, acc => bnd t fun x => match x with
    | .d (.str y) => if (acc ++ y).length ≤ sizeLine then eJs ts (acc ++ y) else fun _ _ => .bad
    | _ => fun _ _ => .bad
section
variable {X : Cx} {W : WX}
theorem j_fmt {e : Expr} {m : Sm Vl} {pos : Pos} (he : PE X e (rd X.K W m)) : PE X (.FormattedValue e (-1) none pos) (rd X.K W (eFmt m)) := by
  refine pe_imp (pe_fmt he) fun σ H Q h => ?_
  refine rdR.then h fun x v H1 φ μ Hs M ρ S E r P => ?_
  split at P
  · rename_i y
    split at P
    · rename_i hy
      cases str_ok r
      exact .inl ⟨y, rfl, hy, P.here S (.str y)⟩
    · exact P.elim
  · rename_i i
    split at P
    · rename_i hi
      cases int_ok r
      exact .inr ⟨i, rfl, hi, P.here S (.str _)⟩
    · exact P.elim
  · exact P.elim
theorem js_tJs : ∀ (ts : List (Sm Vl)) (acc : Str) (σ : L2.St) (H : Hp) (Q : VK), rd X.K W (eJs ts acc) σ H Q → tJs (ts.map fun t => rd X.K W t) acc σ H (fun out H1 => Q (.str out) H1)
  | [], acc, σ, H, Q, h => by
    obtain ⟨φ, μ, Hs, M, ρ, S, E, P⟩ := h
    exact P.here S (.str acc)
  | t :: ts, acc, σ, H, Q, h => by
    refine rdR.then h fun x v H1 φ μ Hs M ρ S E r P => ?_
    split at P
    · rename_i y
      split at P
      · rename_i hy
        cases str_ok r
        exact ⟨y, rfl, hy, js_tJs ts (acc ++ y) σ H1 Q ⟨φ, μ, Hs, M, ρ, S, E, P⟩⟩
      · exact P.elim
    · exact P.elim
theorem j_js {v1 v2 : Expr} {rest : List Expr} {ts : List (Sm Vl)} {pos : Pos} (h : PJ X (v1 :: v2 :: rest) (ts.map fun t => rd X.K W t)) : PE X (.JoinedStr (v1 :: v2 :: rest) pos) (rd X.K W (eJs ts Str.empty)) :=
  pe_imp (pe_joined h) fun σ H Q q => js_tJs ts Str.empty σ H Q q
theorem j_js1 {e : Expr} {m : Sm Vl} {pos : Pos} (h : PE X e (rd X.K W m)) : PE X (.JoinedStr [e] pos) (rd X.K W m) := pe_joined1 h
/-! ### str(x) -/
variable {k : Nat} {f : Addr} {fs : FS}
def rStrOwn (K : PySem.W.Frag) (C : Str) (fs : FS) : List V → Hp → VK → Prop := fun xs H Q => ∃ a dx fvs, xs = [.ref a] ∧ H a = some (.ins (He.ga K C) dx fvs) ∧ spF K fs [.ref a] H (fun z H' => ∃ t, z = .str t ∧ Q (.str t) H') E0
theorem call_strOwn {C : Str} (hs : PySem.W.findIn X.K (.ref (He.ga X.K C)) "__str__" = some (some (.ref f))) (hf : PySem.W.isFn X.K (.ref f) = true) (F : FnG X.prog X.w X.K X.mg X.base k f [] fs) (gd : X.A.guards = some []) (hr : Room (k + 2) X.A) : CallR X (.type "str") (rStrOwn X.K C fs) := by
  intro pins s σ H xs us Q I r h
  obtain ⟨a, dx, fvs, rfl, ea, q⟩ := h
  obtain ⟨u, rfl, ru⟩ := vals1 r
  obtain rfl : u = Value.ref a := ru
  obtain ⟨mA, O, _, _, _, _⟩ := ins_get I.hok ea
  obtain ⟨od, J, _⟩ := O.look
  obtain ⟨m, hF⟩ := I.fr
  have hr2 : Room k X.A.in1.in1 := (show Room (k + 1) X.A.in1 from Room.in1 hr).in1
  refine PySem.W.kso_call hr2.units0 (I.ok.mod.kin.keeps hF.keep) J hs hf (wpAny_mono (run_fnG0 (A := X.A.in1.in1) (us := [.ref a]) (vs := [.ref a]) F gd hr2 I.env0.in1.in1 I (.cons rfl .nil) q) (fun z s' hz => ?_) fun _ _ e => e)
  obtain ⟨z', H', I', rz, t, eb, qz⟩ := hz
  subst eb
  obtain ⟨tk, rfl⟩ : ∃ tk, z = Value.str t tk := rz
  exact ⟨.str t, H', I', ⟨tk, rfl⟩, qz⟩
def fStr : FS := fun xs M => match xs with
  | [.d (.int i)] => if i.natAbs.log2 < 1920 then .ok (.d (.str (toString i))) M else .bad
  | [.d (.str a)] => .ok (.d (.str a)) M
  | _ => .bad
def rStr : List V → Hp → VK → Prop := fun xs H Q => (∃ i, xs = [.int i] ∧ i.natAbs.log2 < 1920 ∧ Q (.str (toString i)) H) ∨ ∃ a, xs = [.str a] ∧ Q (.str a) H
theorem call_str : CallR X (.type "str") rStr := call_str_int.or SkE.call_str_str
theorem cs_str {K : PySem.W.Frag} : CallS K rStr fStr := by
  intro W φ μ Hs M H σ xs vs Q S r P
  unfold fStr at P
  split at P
  · obtain ⟨v, rfl, rx⟩ := rv1 r
    cases int_ok rx
    split at P
    · exact .inl ⟨_, rfl, by assumption, P.here S (.str _)⟩
    · exact P.elim
  · obtain ⟨v, rfl, rx⟩ := rv1 r
    cases str_ok rx
    exact .inr ⟨_, rfl, P.here S (.str _)⟩
  · exact P.elim
def fStrA (C : Str) (fs : FS) : FS := fun xs M => match xs with
  | [x] => (match insV M x with
    | some (C', _) => if C' = C then strR (fs [x] M) else .bad
    | none => fStr [x] M)
  | _ => .bad
theorem cs_strA {C : Str} : CallS X.K (fun xs H Q => rStr xs H Q ∨ rStrOwn X.K C fs xs H Q) (fStrA C fs) := by
  intro W φ μ Hs M H σ xs vs Q S r P
  unfold fStrA at P
  split at P
  · rename_i x
    split at P
    · rename_i C' fl h1
      split at P
      · rename_i hC
        subst hC
        obtain ⟨v, rfl, rx⟩ := rv1 r
        obtain ⟨a, dx, fvs, rfl, e1, _⟩ := insV_ok S rx h1
        exact .inr ⟨a, dx, fvs, rfl, e1, spF_str S (.cons rx .nil) P⟩
      · exact P.elim
    · exact .inl (cs_str W φ μ Hs M H σ [x] vs Q S r P)
  · exact P.elim
theorem fEqOwn_ins {neg : Bool} {C : Str} {fs : FS} {tb : List String} {tc : List Str} {fl : List (Str × D)} {y : Vl} {M : List Mu} {b : Bool} (hb : besideV M tb tc y = true) (e : fs [.d (.ins C fl), y] M = .ok (.d (.bl b)) M) : fEqOwn neg C fs tb tc (.d (.ins C fl)) y M = .ok (.d (.bl (if neg then !b else b))) M := by
  have h : insV M (.d (.ins C fl)) = some (C, fl) := rfl
  unfold fEqOwn
  rw [h]
  dsimp only
  rw [if_pos ⟨rfl, hb⟩, e]
  rfl
theorem fReprA_ins {C : Str} {fs : FS} {fl : List (Str × D)} {M : List Mu} {t : Str} (e : fs [.d (.ins C fl)] M = .ok (.d (.str t)) M) : fReprA C fs [.d (.ins C fl)] M = .ok (.d (.str t)) M := by
  have h : insV M (.d (.ins C fl)) = some (C, fl) := rfl
  unfold fReprA
  dsimp only
  rw [h]
  dsimp only
  rw [if_pos rfl, e]
  rfl
theorem fStrA_ins {C : Str} {fs : FS} {fl : List (Str × D)} {M : List Mu} {t : Str} (e : fs [.d (.ins C fl)] M = .ok (.d (.str t)) M) : fStrA C fs [.d (.ins C fl)] M = .ok (.d (.str t)) M := by
  have h : insV M (.d (.ins C fl)) = some (C, fl) := rfl
  unfold fStrA
  dsimp only
  rw [h]
  dsimp only
  rw [if_pos rfl, e]
  rfl
/-! ### {} -/
theorem j_dnew {pos : Pos} : PE X (.Dict [] [] pos) (rd X.K W (eC (.dic []))) := by
  refine pe_imp pe_dnewK fun σ H Q h => ?_
  obtain ⟨φ, μ, Hs, M, ρ, S, E, P⟩ := h
  intro p hp
  have e : Ex Hs (upd Hs p (.dK [])) := Ex.new (S.free hp).2.2
  exact P.at List.prefix_rfl e (S.laid hp _) (show Rep X.K (upd Hs p (.dK [])) (.dic []) (.ref p) from .dic upd_same .nil)
end
end Wv

namespace Wv
open PySem PySem.Spec PyProof.Rows L2
/-! ### texts: repeated, a sign in a text, joined -/
def repS (z : Str) (n : Nat) : Str := ⟨(List.replicate n z.cps.toList).flatten.toArray⟩
theorem foldl_app (l : List (Array Nat)) : ∀ acc : Array Nat, (l.foldl (· ++ ·) acc).toList = acc.toList ++ (l.map Array.toList).flatten := by
  induction l with
  | nil => intro acc; simp
  | cons a l ih => intro acc; rw [List.foldl_cons, ih]; simp
theorem repS_fold (z : Str) (n : Nat) : (⟨(List.replicate n z.cps).foldl (· ++ ·) #[]⟩ : Str) = repS z n := by
  unfold repS
  congr 1
  apply Array.toList_inj.mp
  rw [foldl_app]
  simp
theorem repS_one (z : Str) : repS z 1 = z := by
  unfold repS
  simp
theorem repS_nil (z : Str) (n : Nat) (h : z.length = 0) : repS z n = z := by
  have e : z.cps = #[] := Array.eq_empty_of_size_eq_zero h
  have : z = ⟨#[]⟩ := by cases z; cases e; rfl
  subst this
  unfold repS
  simp
def rMulS : R2 := fun x y H Q => ∃ z k, x = .str z ∧ y = .int k ∧ 0 ≤ k ∧ k < 2 ^ 62 ∧ z.length * k.toNat ≤ sizeLine ∧ Q (.str (repS z k.toNat)) H
section
variable {X : Cx} {W : WX}
theorem op_mul_str : OpR X (binaryOp .Mult) rMulS := by
  intro pins s σ H x y v u Q I rx ry h
  obtain ⟨z, n, rfl, rfl, h0, h1, hl, q⟩ := h
  obtain ⟨t, rfl⟩ : ∃ t, v = Value.str z t := rx
  obtain ⟨t2, rfl⟩ : ∃ t, u = Value.int n t := ry
  refine PySem.P.mul_str (by rw [decide_eq_false (by omega), decide_eq_false (by omega)]; rfl) (fun hn _ => ?_) (fun hn _ => ?_) ?_
  · have hn : 1 ≤ n := by omega
    have : (z.length : Int) ≤ z.length * n := by
      have := Int.mul_le_mul_of_nonneg_left hn (show (0 : Int) ≤ z.length by omega)
      omega
    have hzn : (z.length : Int) * n ≤ sizeLine := by
      have e : ((z.length * n.toNat : Nat) : Int) = z.length * n := by rw [Int.natCast_mul, Int.toNat_of_nonneg h0]
      omega
    have hd : (z.length : Int) ≤ (2 ^ 63 - 1) / n := by
      rw [Int.le_ediv_iff_mul_le (by omega)]
      have : sizeLine = 16777216 := rfl
      omega
    omega
  · exact decide_eq_false (Nat.not_lt.mpr hl)
  · split
    · rename_i hn
      have : n = 0 := by omega
      subst this
      refine ⟨by decide, ?_⟩
      exact ⟨.str (repS z 0), H, I.tok _, ⟨_, rfl⟩, q⟩
    · split
      · rename_i hn h2
        have e : repS z n.toNat = z := by
          rcases Bool.or_eq_true_iff.mp h2 with h3 | h3
          · rw [beq_iff_eq.mp h3]
            exact repS_one z
          · exact repS_nil z _ (by simpa using h3)
        rw [e] at q
        exact ⟨.str z, H, I, ⟨_, rfl⟩, q⟩
      · rename_i hn h2
        rw [repS_fold]
        refine ⟨?_, .str (repS z n.toNat), H, I.tok _, ⟨_, rfl⟩, q⟩
        have : (repS z n.toNat).length = z.length * n.toNat := by
          show (List.replicate n.toNat z.cps.toList).flatten.toArray.size = z.cps.size * n.toNat
          simp [Nat.mul_comm]
        rw [this]
        exact hl
def fMulS : F2 := fun x y M => match x, y with
  | .d (.str z), .d (.int k) => if 0 ≤ k ∧ k < 2 ^ 62 ∧ z.length * k.toNat ≤ sizeLine then .ok (.d (.str (repS z k.toNat))) M else .bad
  | x, y => fMul x y M
theorem os_mulS {K : PySem.W.Frag} : OpS K (fun x y H Q => rMulA x y H Q ∨ rMulS x y H Q) fMulS := by
  intro W φ μ Hs M H σ x y v w Q S rx ry P
  unfold fMulS at P
  split at P
  · rename_i z k
    cases str_ok rx
    cases int_ok ry
    split at P
    · rename_i h
      exact .inr ⟨z, k, rfl, rfl, h.1, h.2.1, h.2.2, P.here S (.str _)⟩
    · exact P.elim
  · exact .inl (os_mul W φ μ Hs M H σ x y v w Q S rx ry P)
/-- one sign in a text -/
def rInSign (neg : Bool) : R2 := fun x y H Q => ∃ (c : Nat) (z : Str), x = .str ⟨#[c]⟩ ∧ y = .str z ∧ Q (.bl (if neg then !decide (c ∈ z.cps.toList) else decide (c ∈ z.cps.toList))) H
def fInS (neg : Bool) : F2 := fun x y M => match x, y with
  | .d (.str a), .d (.str z) => (match a.cps.toList with
    | [c] => .ok (.d (.bl (if neg then !decide (c ∈ z.cps.toList) else decide (c ∈ z.cps.toList)))) M
    | _ => .bad)
  | x, y => fInG neg x y M
theorem sign_of {a : Str} {c : Nat} (h : a.cps.toList = [c]) : a = ⟨#[c]⟩ := by
  cases a with
  | mk cps =>
    congr 1
    apply Array.toList_inj.mp
    exact h
theorem op_inS : OpR X (compareOp .In) (fun x y H Q => rIn X.K false x y H Q ∨ rInSign false x y H Q) := op_in_seq.or op_in_sign
theorem op_ninS : OpR X (compareOp .NotIn) (fun x y H Q => rIn X.K true x y H Q ∨ rInSign true x y H Q) := op_notIn_seq.or op_notIn_sign
theorem os_inS {K : PySem.W.Frag} (neg : Bool) : OpS K (fun x y H Q => rIn K neg x y H Q ∨ rInSign neg x y H Q) (fInS neg) := by
  intro W φ μ Hs M H σ x y v w Q S rx ry P
  unfold fInS at P
  split at P
  · rename_i a z
    cases str_ok rx
    cases str_ok ry
    split at P
    · rename_i c h
      exact .inr ⟨c, z, by rw [sign_of h], rfl, P.here S (.bl _)⟩
    · exact P.elim
  · exact .inl (os_in neg W φ μ Hs M H σ x y v w Q S rx ry P)
/-- sep.join(xs) -/
def eJoin (o e : Sm Vl) : Sm Vl := bnd o fun x => match x with
  | .d (.str a) => bnd e fun y _ M => (match seqA M y with
    | some ds => (match allStrs ds with
      | some ys => if (ys.map (·.length)).sum + ys.length * a.length ≤ 16777216 then .ok (.d (.str (Txt.join a ys))) M else .bad
      | none => .bad)
    | none => .bad)
  | _ => fun _ _ => .bad
theorem j_join {o e : Expr} {mo me : Sm Vl} {apos pos : Pos} (ho : PE X o (rd X.K W mo)) (he : PE X e (rd X.K W me)) (hs : starEach [e] X.env = [(false, eval e X.env)] := by rfl) (hbase : attributeBase o "join" X.env (eval o X.env) = eval o X.env := by rfl) (hline : (apos.endLine == pos.line) = true := by rfl) :
    PE X (.Call (.Attribute o "join" apos) [e] [] pos) (rd X.K W (eJoin mo me)) := by
  refine pe_imp (pe_join ho he hs hbase hline) fun σ H Q h => ?_
  refine rdR.then h fun x v H1 φ μ Hs M ρ S E r P => ?_
  split at P
  · rename_i a
    have hv := str_ok r
    refine ⟨⟨a, hv⟩, φ, μ, Hs, M, ρ, S, E, P.bnd fun y M2 μ2 Hs2 H2 w p e S2 r2 P2 => ?_⟩
    split at P2
    · rename_i ds h1
      split at P2
      · rename_i ys h2
        split at P2
        · rename_i h3
          obtain ⟨p, vs, rfl, h4, h5⟩ := seqA_ok S2 r2 h1
          have := allStrs_ok h2
          subst this
          have := reps_strsV h5
          subst this
          exact ⟨a, p, ys, hv, rfl, h4, h3, P2.here S2 (.str _)⟩
        · exact P2.elim
      · exact P2.elim
    · exact P2.elim
  · exact P.elim
/-! ### o[i] by an own __getitem__ -/
variable {k : Nat} {f : Addr} {fs : FS} {ks : List Str}
def rIxOwn (K : PySem.W.Frag) (C : Str) (fs : FS) : R2 := fun v w H Q => ∃ a dx fvs, v = .ref a ∧ H a = some (.ins (He.ga K C) dx fvs) ∧ spF K fs [v, w] H Q E0
def fIxOwn (C : Str) (fs : FS) : F2 := fun x y M => match insV M x with
  | some (C1, _) => if C1 = C then noX (fs [x, y] M) else .bad
  | none => .bad
theorem os_ixOwn {C : Str} : OpS X.K (rIxOwn X.K C fs) (fIxOwn C fs) := by
  intro W φ μ Hs M H σ x y v w Q S rx ry P
  unfold fIxOwn at P
  split at P
  · rename_i C1 f1 h1
    split at P
    · rename_i hC
      subst hC
      obtain ⟨a, dx, fvs, rfl, e1, _⟩ := insV_ok S rx h1
      exact ⟨a, dx, fvs, rfl, e1, spF_noX S (.cons rx (.cons ry .nil)) P⟩
    · exact P.elim
  · exact P.elim
theorem pe_ixOwn {C : Str} {a b : Expr} {ta tb : TE} {pos : Pos} (hs : PySem.W.findIn X.K (.ref (He.ga X.K C)) "__getitem__" = some (some (.ref f))) (hf : PySem.W.isFn X.K (.ref f) = true) (hfi : PySem.W.fnIn X.K f = true) (F : FnG X.prog X.w X.K X.mg X.base k f [] fs) (gd : X.A.guards = some []) (hr : Room (k + 1) X.A) (ha : PE X a ta) (hb : PE X b tb)
    (hsl : ∀ x i, subscripted b true (.ref x) i = runValue (.builtin "lifetime.subscript" ⟨[.ref x, i], []⟩)) : PE X (.Subscript a b pos) (tOp (rIxOwn X.K C fs) ta tb) := by
  refine ⟨fun pins s σ H Q I h => ?_⟩
  refine Subscript_ (binT ha hb I h fun v u s2 x y H2 I2 rx ry q => ?_)
  obtain ⟨ad, dx, fvs, rfl, ea, q⟩ := q
  obtain rfl : v = Value.ref ad := rx
  obtain ⟨mA, O, _, _, _, _⟩ := ins_get I2.hok ea
  obtain ⟨od, J, _⟩ := O.look
  obtain ⟨m, hF⟩ := I2.fr
  exact PySem.W.sub_K hF I2.ok.mod.kin J hs hfi hf (run_fnG0 (A := X.A.in1) (us := [.ref ad, u]) (vs := [.ref ad, y]) F gd (Room.in1 hr) I2.env0.in1 I2 (.cons rfl (.cons ry .nil)) q) (hsl ad u)
theorem j_ixOwn {C : Str} {a b : Expr} {ma mb : Sm Vl} {pos : Pos} (hs : PySem.W.findIn X.K (.ref (He.ga X.K C)) "__getitem__" = some (some (.ref f))) (hf : PySem.W.isFn X.K (.ref f) = true) (hfi : PySem.W.fnIn X.K f = true) (F : FnG X.prog X.w X.K X.mg X.base k f [] fs) (gd : X.A.guards = some []) (hr : Room (k + 1) X.A) (ha : PE X a (rd X.K W ma)) (hb : PE X b (rd X.K W mb))
    (hsl : ∀ x i, subscripted b true (.ref x) i = runValue (.builtin "lifetime.subscript" ⟨[.ref x, i], []⟩)) : PE X (.Subscript a b pos) (rd X.K W (eOp (fIxOwn C fs) ma mb)) := by
  refine pe_imp (pe_ixOwn (C := C) hs hf hfi F gd hr ha hb hsl) fun σ H Q h => ?_
  refine rdR.then h fun x v H1 φ μ Hs M ρ S E r P => ⟨φ, μ, Hs, M, ρ, S, E, P.bnd fun y M2 μ2 Hs2 H2 w p e S2 r2 P2 => ?_⟩
  exact os_ixOwn W φ μ2 Hs2 M2 H2 σ x y v w Q S2 (r.mono p e) r2 P2
theorem DefAt.fnIn {K : PySem.W.Frag} {a : Addr} {n q : Str} {st : Stmt} (d : DefAt K a n q st) : PySem.W.fnIn K a = true := by
  obtain ⟨oc, od, kV, doc, pm, an, cdv, ct, osl, lk, hcd, kp⟩ := d
  unfold PySem.W.fnIn
  rw [lk]
/-! ### keywords: a method's, a class's -/
theorem j_methK0 {C : Str} {o : Expr} {m : Str} {n : Nat} {kws : List Keyword} {apos pos : Pos} {pl : PySem.Sem Bool} {mo : Sm Vl} {as : Sm (List Vl)} (ho : PE X o (rd X.K W mo)) (c : Cls X.K (He.ga X.K C)) (hm : Meth X.K (He.ga X.K C) m f) (F : FnG X.prog X.w X.K X.mg X.base k f ks fs) (gd : X.A.guards = some []) (hr : Room k X.A) (tk : Takes X W)
    (hkw : PK X kws (rdA X.K W as)) (hn : n = ks.length)
    (hall : (backToKw pos (keywordEach kws X.env)).all (·.1.isSome) = true := by rfl) (hks : (backToKw pos (keywordEach kws X.env)).filterMap (·.1) = ks := by rfl)
    (hpl : ((backTo pos (starEach [] X.env)).any (·.1) || (backToKw pos (keywordEach kws X.env)).any (·.1.isNone)) = false := by rfl)
    (ht : eval (.Call (.Attribute o m apos) [] kws pos) X.env = (do
      let ov ← eval o X.env
      standAt apos.atName
      let (f, first) ← holding [ov] (getMethod ov m pl)
      callWith pos f first (backTo pos (starEach [] X.env)) (backToKw pos (keywordEach kws X.env))) := by rfl) :
    PE X (.Call (.Attribute o m apos) [] kws pos) (rd X.K W (eMeth C m (fun xs M => if xs.length = n + 1 then fs xs M else .bad) mo as)) := by
  refine ⟨fun pins s σ H Q I h => ?_⟩
  refine PySem.W.methodCall_KW (pl := pl) (thn (ho.run pins s σ H _ I (rdR.then h (Q1 := fun x H1 => ∃ a dx fvs, x = .ref a ∧ H1 a = some (.ins (He.ga X.K C) dx fvs) ∧ fvs.lookup m = none ∧ rdA X.K W as σ H1 fun vs H2 => vs.length = ks.length ∧ spF X.K fs (x :: vs) H2 Q (WE W σ)) fun x v H1 φ μ Hs M ρ S E r P => ?_)) fun u s1 ⟨x, H1, I1, rx, a, dx, fvs, ex, ea, l, q⟩ => ?_) ht
  · split at P
    · rename_i C' fl h1
      obtain ⟨a, dx, fvs, rfl, h2, h3⟩ := insV_ok S r h1
      split at P
      · rename_i hC
        obtain ⟨rfl, hl⟩ := hC
        refine ⟨a, dx, fvs, rfl, h2, h3.lookup_none hl, φ, μ, Hs, M, ρ, S, E, P.bnd fun xs M2 μ2 Hs2 H2 vs p e S2 r2 P2 => ?_⟩
        dsimp only at P2
        split at P2
        · rename_i hx
          exact ⟨by rw [← r2.length, ← hn]; simpa using hx, spF_of S2 (.cons (r.mono p e) r2) P2⟩
        · exact P2.elim
      · exact P.elim
    · exact P.elim
  · subst ex
    obtain rfl : u = Value.ref a := rx
    refine getmeth_ok I1 ea c hm l ?_
    refine PySem.W.callWith_KW0 (first := [.ref a]) (h₀ := X.base) I.ok.mod.kin hm.kp hall ?_ hpl
    refine thn (hkw.run pos pins s1 σ H1 _ I1 q) fun ws s2 ⟨zs, H2, I2, rz, hl, q2⟩ => ⟨I2.kIn, ?_⟩
    rw [hks]
    exact run_fnG (us := [.ref a]) (vs := [.ref a]) F gd hr tk I2 (.cons rfl .nil) rz (by rw [← rz.length]; exact hl) q2
theorem j_newK0 {x : Str} {n : Nat} {p pos : Pos} {kws : List Keyword} {as : Sm (List Vl)} (Mk_ : Mk X.K (He.ga X.K x) f) (F : FnG X.prog X.w X.K X.mg X.base k f ks fs) (gd : X.A.guards = some []) (hr : Room (k + 1) X.A) (tk : Takes X W) (hg : Gl X x) (hm : X.mg x = some (.ref (He.ga X.K x))) (hkw : PK X kws (rdA X.K W as)) (hn : n = ks.length)
    (hall : (backToKw pos (keywordEach kws X.env)).all (·.1.isSome) = true := by rfl) (hks : (backToKw pos (keywordEach kws X.env)).filterMap (·.1) = ks := by rfl) (hdb : (x == ("__debug__" : Str)) = false := by decide)
    (hpl : ((backTo pos (starEach [] X.env)).any (·.1) || (backToKw pos (keywordEach kws X.env)).any (·.1.isNone)) = false := by rfl) : PE X (.Call (.Name x p) [] kws pos) (rd X.K W (eAp (fun xs M => if xs.length = n then newS x fs xs M else .bad) as)) := by
  refine ⟨fun pins s σ H Q I h => ?_⟩
  refine wpAny_Call_Name_kw (ld_glob I hg hm ?_ hdb)
  refine PySem.W.callWith_KW0 (h₀ := X.base) I.ok.mod.kin Mk_.kp hall ?_ hpl
  refine thn (hkw.run pos pins s σ H _ I (rdR.then h (Q1 := fun vs H1 => vs.length = ks.length ∧ spF X.K (newS x fs) vs H1 Q (WE W σ)) fun xs vs H1 φ μ Hs M ρ S E r P => ?_)) fun ws s2 ⟨zs, H2, I2, rz, hl, q2⟩ => ⟨I2.kIn, ?_⟩
  · dsimp only at P
    split at P
    · rename_i hx
      exact ⟨by rw [← r.length, hx, hn], spF_of S r P⟩
    · exact P.elim
  · rw [hks]
    exact run_new (us := []) (vs := []) Mk_ F gd hr tk I2 .nil rz (by rw [← rz.length]; exact hl) q2
end
end Wv

namespace Wv
open PySem L2
/-! ### plain functions are evaluated -/
theorem fnS_rt {n : Nat} {b : Ss} {xs : List Vl} {M M' : List Mu} {d : D} (h : b (startE n xs) M = .rt (.d d) M') (hl : M'.length = M.length) : fnS exitR n b xs M = .ok (.d d) M' := by
  unfold fnS
  rw [h]
  show Res.ok (Vl.d d) (M'.take M.length) = _
  rw [← hl, List.take_length]
theorem fnS_nx {n : Nat} {b : Ss} {xs : List Vl} {M M' : List Mu} {ρ : Env} (h : b (startE n xs) M = .nx ρ M') (hl : M'.length = M.length) : fnS exitR n b xs M = .ok (.d .non) M' := by
  unfold fnS
  rw [h]
  show Res.ok (Vl.d .non) (M'.take M.length) = _
  rw [← hl, List.take_length]
theorem call1 {ex : Nat → RS → Res Vl} {n : Nat} {b : Ss} {x : Vl} {M : List Mu} : (if [x].length = 1 then fnS ex n b (pick [0] [x]) M else .bad) = fnS ex n b [x] M := rfl
theorem call2 {ex : Nat → RS → Res Vl} {n : Nat} {b : Ss} {x y : Vl} {M : List Mu} : (if [x, y].length = 2 then fnS ex n b (pick [0, 1] [x, y]) M else .bad) = fnS ex n b [x, y] M := rfl
theorem call2r {ex : Nat → RS → Res Vl} {n : Nat} {b : Ss} {x y : Vl} {M : List Mu} : (if [x, y].length = 2 then fnS ex n b (pick [1, 0] [x, y]) M else .bad) = fnS ex n b [y, x] M := rfl
theorem call3 {ex : Nat → RS → Res Vl} {n : Nat} {b : Ss} {x y z : Vl} {M : List Mu} : (if [x, y, z].length = 3 then fnS ex n b (pick [0, 1, 2] [x, y, z]) M else .bad) = fnS ex n b [x, y, z] M := rfl
theorem call4 {ex : Nat → RS → Res Vl} {n : Nat} {b : Ss} {x y z u : Vl} {M : List Mu} : (if [x, y, z, u].length = 4 then fnS ex n b (pick [0, 1, 2, 3] [x, y, z, u]) M else .bad) = fnS ex n b [x, y, z, u] M := rfl
theorem bnd_ok {α β : Type} {m : Sm α} {f : α → Sm β} {ρ : Env} {M M' : List Mu} {a : α} (h : m ρ M = .ok a M') : bnd m f ρ M = f a ρ M' := by
  unfold bnd
  rw [h]
theorem sBnd_ok {α : Type} {m : Sm α} {f : α → Ss} {ρ : Env} {M M' : List Mu} {a : α} (h : m ρ M = .ok a M') : sBnd m f ρ M = f a ρ M' := by
  unfold sBnd
  rw [h]
theorem sSeq_nx {s u : Ss} {ρ ρ' : Env} {M M' : List Mu} (h : s ρ M = .nx ρ' M') : sSeq s u ρ M = u ρ' M' := by
  unfold sSeq
  rw [h]
theorem sSeq_rt {s u : Ss} {ρ : Env} {M M' : List Mu} {x : Vl} (h : s ρ M = .rt x M') : sSeq s u ρ M = .rt x M' := by
  unfold sSeq
  rw [h]
theorem sAsg_ok {m : Sm Vl} {i : Nat} {ρ : Env} {M M' : List Mu} {x : Vl} (h : m ρ M = .ok x M') : sAsg m (gN i) ρ M = .nx (ρ.set i (some x)) M' := by
  unfold sAsg
  rw [sBnd_ok h]
  rfl
theorem sRet_ok {m : Sm Vl} {ρ : Env} {M M' : List Mu} {x : Vl} (h : m ρ M = .ok x M') : sRet m ρ M = .rt x M' := by
  unfold sRet
  rw [sBnd_ok h]
theorem sIf_t {c : Sm Bool} {a b : Ss} {ρ : Env} {M M' : List Mu} (h : c ρ M = .ok true M') : sIf c a b ρ M = a ρ M' := by
  unfold sIf
  rw [sBnd_ok h, if_pos rfl]
theorem sIf_f {c : Sm Bool} {a b : Ss} {ρ : Env} {M M' : List Mu} (h : c ρ M = .ok false M') : sIf c a b ρ M = b ρ M' := by
  unfold sIf
  rw [sBnd_ok h, if_neg Bool.false_ne_true]
theorem sExpr_ok {m : Sm Vl} {ρ : Env} {M M' : List Mu} {x : Vl} (h : m ρ M = .ok x M') : sExpr m ρ M = .nx ρ M' := by
  unfold sExpr
  rw [sBnd_ok h]
theorem eAp_ok {f : FS} {as : Sm (List Vl)} {ρ : Env} {M M' : List Mu} {xs : List Vl} (h : as ρ M = .ok xs M') : eAp f as ρ M = f xs M' := bnd_ok h
theorem eCons_ok {a : Sm Vl} {r : Sm (List Vl)} {ρ : Env} {M M1 M2 : List Mu} {x : Vl} {xs : List Vl} (h : a ρ M = .ok x M1) (h' : r ρ M1 = .ok xs M2) : eCons a r ρ M = .ok (x :: xs) M2 := by
  unfold eCons
  rw [bnd_ok h, bnd_ok h']
theorem eOp_ok {f : F2} {a b : Sm Vl} {ρ : Env} {M M1 M2 : List Mu} {x y : Vl} (h : a ρ M = .ok x M1) (h' : b ρ M1 = .ok y M2) : eOp f a b ρ M = f x y M2 := by
  unfold eOp
  rw [bnd_ok h, bnd_ok h']
theorem eUn_ok {f : F1} {a : Sm Vl} {ρ : Env} {M M1 : List Mu} {x : Vl} (h : a ρ M = .ok x M1) : eUn f a ρ M = f x M1 := bnd_ok h
theorem eBool_ok {m : Sm Vl} {ρ : Env} {M M' : List Mu} {b : Bool} (h : m ρ M = .ok (.d (.bl b)) M') : eBool m ρ M = .ok b M' := by
  unfold eBool
  rw [bnd_ok h]
theorem eTru_bl {m : Sm Vl} {ρ : Env} {M M' : List Mu} {b : Bool} (h : m ρ M = .ok (.d (.bl b)) M') : eTru m ρ M = .ok b M' := by
  unfold eTru
  rw [bnd_ok h]
  rfl
theorem eNotT_ok {m : Sm Bool} {ρ : Env} {M M' : List Mu} {b : Bool} (h : m ρ M = .ok b M') : eNotT m ρ M = .ok (!b) M' := by
  unfold eNotT
  rw [bnd_ok h]
theorem eAndT_ok {a b : Sm Bool} {ρ : Env} {M M1 M2 : List Mu} {x y : Bool} (h : a ρ M = .ok x M1) (h' : x = true → b ρ M1 = .ok y M2) (h2 : x = false → M2 = M1 ∧ y = false) : eAndT a b ρ M = .ok (x && y) M2 := by
  unfold eAndT
  rw [bnd_ok h]
  cases x with
  | true => exact h' rfl
  | false =>
    obtain ⟨rfl, rfl⟩ := h2 rfl
    rfl
theorem eChain_t {f g : F2} {a b c : Sm Vl} {ρ : Env} {M M1 M2 M3 M4 : List Mu} {x y w : Vl} (ha : a ρ M = .ok x M1) (hb : b ρ M1 = .ok y M2) (hf : f x y M2 = .ok (.d (.bl true)) M3) (hc : c ρ M3 = .ok w M4) : eChain f g a b c ρ M = g y w M4 := by
  unfold eChain
  rw [bnd_ok ha, bnd_ok hb, bnd_ok (m := fun _ M => f x y M) (a := .d (.bl true)) (M' := M3) hf]
  exact bnd_ok hc
theorem eOrT_f {a b : Sm Bool} {ρ : Env} {M M1 : List Mu} (h : a ρ M = .ok false M1) : eOrT a b ρ M = b ρ M1 := by
  unfold eOrT
  rw [bnd_ok h, if_neg Bool.false_ne_true]
theorem eAndT_t {a b : Sm Bool} {ρ : Env} {M M1 : List Mu} (h : a ρ M = .ok true M1) : eAndT a b ρ M = b ρ M1 := by
  unfold eAndT
  rw [bnd_ok h, if_pos rfl]
theorem eAndT_f {a b : Sm Bool} {ρ : Env} {M M1 : List Mu} (h : a ρ M = .ok false M1) : eAndT a b ρ M = .ok false M1 := by
  unfold eAndT
  rw [bnd_ok h, if_neg Bool.false_ne_true]
theorem eAnd_t {a b : Sm Vl} {ρ : Env} {M M1 : List Mu} (h : a ρ M = .ok (.d (.bl true)) M1) : eAnd a b ρ M = b ρ M1 := by
  unfold eAnd
  rw [bnd_ok h]
theorem eAnd_f {a b : Sm Vl} {ρ : Env} {M M1 : List Mu} (h : a ρ M = .ok (.d (.bl false)) M1) : eAnd a b ρ M = .ok (.d (.bl false)) M1 := by
  unfold eAnd
  rw [bnd_ok h]
theorem eOr_t {a b : Sm Vl} {ρ : Env} {M M1 : List Mu} (h : a ρ M = .ok (.d (.bl true)) M1) : eOr a b ρ M = .ok (.d (.bl true)) M1 := by
  unfold eOr
  rw [bnd_ok h]
theorem eOr_f {a b : Sm Vl} {ρ : Env} {M M1 : List Mu} (h : a ρ M = .ok (.d (.bl false)) M1) : eOr a b ρ M = b ρ M1 := by
  unfold eOr
  rw [bnd_ok h]
theorem eIf_t {c : Sm Bool} {a b : Sm Vl} {ρ : Env} {M M1 : List Mu} (h : c ρ M = .ok true M1) : eIf c a b ρ M = a ρ M1 := by
  unfold eIf
  rw [bnd_ok h, if_pos rfl]
theorem eIf_f {c : Sm Bool} {a b : Sm Vl} {ρ : Env} {M M1 : List Mu} (h : c ρ M = .ok false M1) : eIf c a b ρ M = b ρ M1 := by
  unfold eIf
  rw [bnd_ok h, if_neg Bool.false_ne_true]
theorem eSl_ok {a : Sm Vl} {l h : Sm (Option Int)} {ρ : Env} {M M1 M2 M3 : List Mu} {x : Vl} {i j : Option Int} (ha : a ρ M = .ok x M1) (hl : l ρ M1 = .ok i M2) (hh : h ρ M2 = .ok j M3) : eSl a l h ρ M = fSl x i j M3 := by
  unfold eSl
  rw [bnd_ok ha, bnd_ok hl, bnd_ok hh]
theorem ePart_ok {m : Sm Vl} {ρ : Env} {M M' : List Mu} {i : Int} (h : m ρ M = .ok (.d (.int i)) M') : ePart m ρ M = .ok (some i) M' := by
  unfold ePart
  rw [bnd_ok h]
theorem eLst_ok {as : Sm (List Vl)} {ρ : Env} {M M' : List Mu} {ds : List D} (h : as ρ M = .ok (ds.map Vl.d) M') (hl : ds.length ≤ sizeLine) : eLst as ρ M = .ok (.d (.lst ds)) M' := by
  have fz : ∀ ds : List D, frzs (ds.map Vl.d) M' = some (ds, M') := by
    intro ds
    induction ds with
    | nil => rfl
    | cons d r ih =>
      show (match frzs (r.map Vl.d) M' with | some (ds, M2) => some (d :: ds, M2) | none => none) = _
      rw [ih]
  unfold eLst
  rw [bnd_ok h, fz]
  dsimp only
  rw [if_pos hl]
theorem eTup_ok {as : Sm (List Vl)} {ρ : Env} {M M' : List Mu} {ds : List D} (h : as ρ M = .ok (ds.map Vl.d) M') (hl : ds.length ≤ sizeLine) : eTup as ρ M = .ok (.d (.tup ds)) M' := by
  have fz : ∀ ds : List D, frzs (ds.map Vl.d) M' = some (ds, M') := by
    intro ds
    induction ds with
    | nil => rfl
    | cons d r ih =>
      show (match frzs (r.map Vl.d) M' with | some (ds, M2) => some (d :: ds, M2) | none => none) = _
      rw [ih]
  unfold eTup
  rw [bnd_ok h, fz]
  dsimp only
  rw [if_pos hl]
theorem eRng1_ok {as : Sm (List Vl)} {ρ : Env} {M M' : List Mu} {j : Int} (h : as ρ M = .ok [.d (.int j)] M') (h1 : -(2 ^ 62) ≤ j) (h2 : j < 2 ^ 62) : eRng1 as ρ M = .ok (rngD 0 j.toNat) M' := by
  unfold eRng1
  rw [bnd_ok h]
  dsimp only
  rw [if_pos ⟨h1, h2⟩]
theorem eRng2_ok {as : Sm (List Vl)} {ρ : Env} {M M' : List Mu} {i j : Int} (h : as ρ M = .ok [.d (.int i), .d (.int j)] M') (h0 : (-(2 ^ 62) ≤ i ∧ i < 2 ^ 62)) (h1 : -(2 ^ 62) ≤ j) (h2 : j < 2 ^ 62) : eRng2 as ρ M = .ok (rngD i (j - i).toNat) M' := by
  unfold eRng2
  rw [bnd_ok h]
  dsimp only
  rw [if_pos ⟨h0, h1, h2⟩]
/-! comprehensions -/
theorem compL_pure {gs : D → Env → Option Env} {t : Sm Bool} {e : Sm Vl} {ρ : Env} {M : List Mu} (p : D → Bool) (g : D → D) : ∀ (ds acc : List D), (∀ d ∈ ds, ∃ ρ1, gs d ρ = some ρ1 ∧ t ρ1 M = .ok (p d) M ∧ (p d = true → e ρ1 M = .ok (.d (g d)) M)) → acc.length + ds.length ≤ sizeLine →
    compL M.length gs t e ρ ds M acc = .ok (acc ++ (ds.filter p).map g) M
  | [], acc, _, _ => by
    show Res.ok acc M = _
    simp
  | d :: ds, acc, h, hl => by
    obtain ⟨ρ1, h1, h2, h3⟩ := h d List.mem_cons_self
    have ih := fun acc' => compL_pure p g ds acc' fun x hx => h x (List.mem_cons_of_mem _ hx)
    rw [List.length_cons] at hl
    unfold compL
    simp only [h1, h2]
    cases hp : p d with
    | false =>
      simp only [List.take_length]
      rw [ih acc (by omega), List.filter_cons_of_neg (by rw [hp]; exact Bool.false_ne_true)]
    | true =>
      simp only [h3 hp]
      show (if acc.length < sizeLine then compL M.length gs t e ρ ds (M.take M.length) (acc ++ [g d]) else .bad) = _
      rw [if_pos (by omega), List.take_length, ih _ (by rw [List.length_append, List.length_singleton]; omega), List.filter_cons_of_pos hp, List.map_cons, List.append_assoc]
      rfl
theorem lc_pure {mi : Sm (List D)} {gs : D → Env → Option Env} {t : Sm Bool} {e : Sm Vl} {vs : List Nat} {ρ : Env} {M : List Mu} {ds : List D} (p : D → Bool) (g : D → D) (hm : mi ρ M = .ok ds M)
    (h : ∀ d ∈ ds, ∃ ρ1, gs d (wipeE ρ vs) = some ρ1 ∧ t ρ1 M = .ok (p d) M ∧ (p d = true → e ρ1 M = .ok (.d (g d)) M)) (hl : ds.length ≤ sizeLine) : eLc mi gs t e vs ρ M = .ok (.d (.lst ((ds.filter p).map g))) M := by
  unfold eLc
  rw [bnd_ok (a := (ds.filter p).map g) (M' := M)]
  unfold eLcR
  rw [bnd_ok hm]
  have := compL_pure (ρ := wipeE ρ vs) (M := M) p g ds [] h (by simpa using hl)
  simpa using this
theorem lc_map {mi : Sm (List D)} {gs : D → Env → Option Env} {e : Sm Vl} {vs : List Nat} {ρ : Env} {M : List Mu} {ds : List D} (g : D → D) (hm : mi ρ M = .ok ds M)
    (h : ∀ d ∈ ds, ∃ ρ1, gs d (wipeE ρ vs) = some ρ1 ∧ e ρ1 M = .ok (.d (g d)) M) (hl : ds.length ≤ sizeLine) : eLc mi gs eTrue e vs ρ M = .ok (.d (.lst (ds.map g))) M := by
  have := lc_pure (t := eTrue) (e := e) (vs := vs) (fun _ => true) g hm (fun d hd => by
    obtain ⟨ρ1, h1, h2⟩ := h d hd
    exact ⟨ρ1, h1, rfl, fun _ => h2⟩) hl
  rw [List.filter_eq_self.mpr (fun _ _ => rfl)] at this
  exact this
/-- with a store that changes: I holds throughout -/
theorem compL_inv {gs : D → Env → Option Env} {e : Sm Vl} {ρ : Env} {n : Nat} (I : List Mu → Prop) (R : D → Prop) (hI : ∀ M, I M → M.length = n) : ∀ (ds acc : List D) (M : List Mu), I M → (∀ d ∈ ds, ∀ M, I M → ∃ ρ1 y M', gs d ρ = some ρ1 ∧ e ρ1 M = .ok (.d y) M' ∧ I M' ∧ R y) → acc.length + ds.length ≤ sizeLine →
    ∃ ys M', compL n gs eTrue e ρ ds M acc = .ok (acc ++ ys) M' ∧ I M' ∧ ys.length = ds.length ∧ ∀ y ∈ ys, R y
  | [], acc, M, hM, _, _ => ⟨[], M, by show Res.ok acc M = _; rw [List.append_nil], hM, rfl, fun _ h => nomatch h⟩
  | d :: ds, acc, M, hM, h, hl => by
    obtain ⟨ρ1, y, M', h1, h2, h3, h4⟩ := h d List.mem_cons_self M hM
    rw [List.length_cons] at hl
    obtain ⟨ys, M2, q1, q2, q3, q4⟩ := compL_inv I R hI ds (acc ++ [y]) M' h3 (fun x hx => h x (List.mem_cons_of_mem _ hx)) (by rw [List.length_append, List.length_singleton]; omega)
    refine ⟨y :: ys, M2, ?_, q2, by rw [List.length_cons, List.length_cons, q3], fun z hz => ?_⟩
    · unfold compL
      simp only [h1, eTrue, h2]
      show (if acc.length < sizeLine then compL n gs eTrue e ρ ds (M'.take n) (acc ++ [y]) else .bad) = _
      rw [if_pos (by omega), ← hI M' h3, List.take_length, hI M' h3, q1, List.append_assoc]
      rfl
    · rcases List.mem_cons.mp hz with rfl | h
      · exact h4
      · exact q4 z h
theorem lc_inv {mi : Sm (List D)} {gs : D → Env → Option Env} {e : Sm Vl} {vs : List Nat} {ρ : Env} {M M1 : List Mu} {ds : List D} (I : List Mu → Prop) (R : D → Prop) (hI : ∀ M, I M → M.length = M1.length) (hm : mi ρ M = .ok ds M1) (h0 : I M1)
    (h : ∀ d ∈ ds, ∀ M, I M → ∃ ρ1 y M', gs d (wipeE ρ vs) = some ρ1 ∧ e ρ1 M = .ok (.d y) M' ∧ I M' ∧ R y) (hl : ds.length ≤ sizeLine) :
    ∃ ys M', eLc mi gs eTrue e vs ρ M = .ok (.d (.lst ys)) M' ∧ I M' ∧ ys.length = ds.length ∧ ∀ y ∈ ys, R y := by
  obtain ⟨ys, M', q1, q2⟩ := compL_inv (ρ := wipeE ρ vs) (n := M1.length) I R hI ds [] M1 h0 h (by simpa using hl)
  refine ⟨ys, M', ?_, q2⟩
  unfold eLc
  rw [bnd_ok (a := ys) (M' := M')]
  unfold eLcR
  rw [bnd_ok hm]
  simpa using q1
/-! for -/
/-- a loop that goes to its end: I i ρ M before the i-th turn -/
theorem forL_inv {n : Nat} {g : Tg} {b : Ss} (I : Nat → Env → List Mu → Prop) : ∀ (ds : List D) (i : Nat) (ρ : Env) (M : List Mu), I i ρ M → (∀ (j : Nat) (d : D), ds[j]? = some d → ∀ ρ M, I (i + j) ρ M → ∃ p ρ2 M2, g (.d d) ρ M = some p ∧ b p.1 p.2 = .nx ρ2 M2 ∧ I (i + j + 1) (cutE n ρ2) (M2.take n)) →
    ∃ ρ' M', forL n g b ds ρ M = .nx ρ' M' ∧ I (i + ds.length) ρ' M'
  | [], i, ρ, M, h, _ => ⟨ρ, M, rfl, h⟩
  | d :: ds, i, ρ, M, h, hs => by
    obtain ⟨p, ρ2, M2, h1, h2, h3⟩ := hs 0 d rfl ρ M h
    obtain ⟨ρ', M', q1, q2⟩ := forL_inv I ds (i + 1) _ _ h3 (fun j x hx ρ M hI => by
      have := hs (j + 1) x (by simpa using hx) ρ M (by rw [show i + (j + 1) = i + 1 + j by omega]; exact hI)
      rw [show i + (j + 1) = i + 1 + j by omega] at this
      exact this)
    refine ⟨ρ', M', ?_, by rw [List.length_cons, show i + (ds.length + 1) = i + 1 + ds.length by omega]; exact q2⟩
    unfold forL
    simp only [h1, h2]
    exact q1
theorem sFor_ok {mi : Sm (List D)} {g : Tg} {b : Ss} {ρ : Env} {M M' : List Mu} {ds : List D} (h : mi ρ M = .ok ds M') : sFor mi g b ρ M = forL M'.length g b ds ρ M' := by
  unfold sFor
  rw [sBnd_ok h]
theorem forL_cons {n : Nat} {g : Tg} {b : Ss} {d : D} {ds : List D} {ρ : Env} {M : List Mu} {p : Env × List Mu} (h : g (.d d) ρ M = some p) : forL n g b (d :: ds) ρ M = (match b p.1 p.2 with
      | .nx ρ2 M2 => forL n g b ds (cutE n ρ2) (M2.take n)
      | .ct ρ2 M2 => forL n g b ds (cutE n ρ2) (M2.take n)
      | .bk ρ2 M2 => .nx ρ2 M2
      | r => r) := by
  rw [forL]
  simp only [h]
  all_goals (cases b p.1 p.2 <;> rfl)
/-! while, new things -/
theorem whileL_f {n k : Nat} {c : Sm Bool} {b : Ss} {ρ : Env} {M M1 : List Mu} (h : c ρ M = .ok false M1) : whileL n c b (k + 1) ρ M = .nx ρ M1 := by
  rw [whileL, h]
theorem whileL_t {n k : Nat} {c : Sm Bool} {b : Ss} {ρ ρ2 : Env} {M M1 M2 : List Mu} (h : c ρ M = .ok true M1) (hb : b ρ M1 = .nx ρ2 M2) : whileL n c b (k + 1) ρ M = whileL n c b k (cutE n ρ2) (M2.take n) := by
  rw [whileL, h]
  simp only [hb]
theorem newS_ok {C : Str} {fs : FS} {xs : List Vl} {M : List Mu} {fl : List (Str × D)} (h : fs (.m M.length :: xs) (M ++ [.ins C []]) = .ok (.d .non) (M ++ [.ins C fl])) : newS C fs xs M = .ok (.d (.ins C fl)) M := by
  unfold newS
  rw [h]
  dsimp only
  rw [show (M ++ [Mu.ins C fl])[M.length]? = some (Mu.ins C fl) by simp]
  dsimp only
  rw [List.take_left]
theorem gT2_ok {g g' : Tg} {d d' : D} {ρ ρ1 ρ2 : Env} {M M1 M2 : List Mu} (h : g (.d d) ρ M = some (ρ1, M1)) (h' : g' (.d d') ρ1 M1 = some (ρ2, M2)) : gT 2 (gAnd g (gAnd g' gEnd)) (.d (.tup [d, d'])) ρ M = some (ρ2, M2) := by
  show gAnd g (gAnd g' gEnd) [d, d'] ρ M = _
  show (match g (.d d) ρ M with | some p => gAnd g' gEnd [d'] p.1 p.2 | none => none) = _
  rw [h]
  show (match g' (.d d') ρ1 M1 with | some p => gEnd [] p.1 p.2 | none => none) = _
  rw [h']
  rfl
/-! ranges -/
theorem rngD_mem {lo : Int} {n : Nat} {d : D} (h : d ∈ rngD lo n) : ∃ i : Nat, i < n ∧ d = .int (lo + i) := by
  unfold rngD at h
  obtain ⟨i, h1, h2⟩ := List.mem_map.mp h
  exact ⟨i, List.mem_range.mp h1, h2.symm⟩
theorem rngD_len (lo : Int) (n : Nat) : (rngD lo n).length = n := by
  unfold rngD
  simp
end Wv

namespace Wv
/-! ### marks with a wheel behind them: plain lists of truth values -/
def rotOk (c : List Bool) (k : Nat) : Bool := decide (c.length % k = 0) && decide (c.drop k ++ c.take k = c)
def perOk (c : List Bool) (k : Nat) : Bool := decide (c.length % k = 0) && decide ((List.replicate (c.length / k) (c.take k)).flatten = c)
theorem flat_comm {α : Type} (t : List α) : ∀ q : Nat, t ++ (List.replicate q t).flatten = (List.replicate q t).flatten ++ t
  | 0 => by simp
  | q + 1 => by
    rw [List.replicate_succ, List.flatten_cons, List.append_assoc, ← flat_comm t q]
theorem flat_of_shift {α : Type} (k : Nat) (t : List α) : ∀ (q : Nat) (l : List α), l.length = k * q → (0 < q → l.take k = t) → (∀ i, i + k < l.length → l[i + k]? = l[i]?) → l = (List.replicate q t).flatten
  | 0, l, h, _, _ => by
    have : l = [] := List.eq_nil_of_length_eq_zero (by simpa using h)
    subst this
    rfl
  | q + 1, l, h, ht, hs => by
    have e := ht (Nat.succ_pos q)
    have hl : l.length = k * q + k := by rw [h, Nat.mul_succ]
    have ih := flat_of_shift k t q (l.drop k) (by rw [List.length_drop, hl]; omega) (fun hq => by
      rw [← e]
      apply List.ext_getElem?
      intro i
      have hkq : k ≤ k * q := by
        obtain ⟨r, rfl⟩ : ∃ r, q = r + 1 := ⟨q - 1, by omega⟩
        rw [Nat.mul_succ]
        omega
      by_cases hi : i < k
      · rw [List.getElem?_take_of_lt hi, List.getElem?_take_of_lt hi, List.getElem?_drop, Nat.add_comm k i]
        exact hs i (by omega)
      · rw [List.getElem?_eq_none (by rw [List.length_take]; omega), List.getElem?_eq_none (by rw [List.length_take]; omega)]) (fun i hi => by
      rw [List.length_drop] at hi
      rw [List.getElem?_drop, List.getElem?_drop]
      have := hs (k + i) (by omega)
      rw [show k + (i + k) = k + i + k by omega]
      exact this)
    rw [List.replicate_succ, List.flatten_cons, ← ih, ← e, List.take_append_drop]
theorem rot_shift {c : List Bool} {k : Nat} (h : c.drop k ++ c.take k = c) : ∀ i, i + k < c.length → c[i + k]? = c[i]? := fun i hi => by
  have e : (c.drop k ++ c.take k)[i]? = c[i]? := by rw [h]
  rw [List.getElem?_append_left (by rw [List.length_drop]; omega), List.getElem?_drop, Nat.add_comm k i] at e
  exact e
theorem per_rot (c : List Bool) (k : Nat) (hk : 1 ≤ k) (hk' : k ≤ c.length) : perOk c k = rotOk c k := by
  unfold perOk rotOk
  by_cases hd : c.length % k = 0
  · have hq : c.length = k * (c.length / k) := by
      have := Nat.div_add_mod c.length k
      omega
    have hqp : 0 < c.length / k := Nat.div_pos hk' (by omega)
    obtain ⟨q, hq1⟩ : ∃ q, c.length / k = q + 1 := ⟨c.length / k - 1, by omega⟩
    simp only [hd, decide_true, Bool.true_and]
    rw [Bool.eq_iff_iff, decide_eq_true_eq, decide_eq_true_eq, hq1]
    constructor
    · intro h
      have hlen : (c.take k).length = k := by rw [List.length_take]; omega
      have h2 : c = c.take k ++ (List.replicate q (c.take k)).flatten := by
        rw [List.replicate_succ, List.flatten_cons] at h
        exact h.symm
      have h3 : c.drop k = (List.replicate q (c.take k)).flatten := by
        conv => lhs; rw [h2]
        rw [List.drop_append_of_le_length (by omega), List.drop_eq_nil_of_le (by omega), List.nil_append]
      rw [h3, ← flat_comm, ← h2]
    · intro h
      exact (flat_of_shift k (c.take k) (q + 1) c (by rw [← hq1]; exact hq) (fun _ => rfl) (rot_shift h)).symm
  · simp [hd]
/-- 1, .., n -/
def ups (n : Nat) : List Nat := (List.range n).map (· + 1)
def pace (c : List Bool) : Nat := ((ups c.length).find? (rotOk c)).getD c.length
theorem pace_find (c : List Bool) (h : c ≠ []) : (ups c.length).find? (rotOk c) = some (pace c) ∧ 1 ≤ pace c ∧ pace c ≤ c.length ∧ rotOk c (pace c) = true := by
  have hn : 0 < c.length := List.length_pos_iff.mpr h
  have last : rotOk c c.length = true := by
    unfold rotOk
    simp
  have mem : c.length ∈ ups c.length := List.mem_map.mpr ⟨c.length - 1, List.mem_range.mpr (by omega), by omega⟩
  cases e : (ups c.length).find? (rotOk c) with
  | none =>
    have := List.find?_eq_none.mp e _ mem
    exact absurd last this
  | some k =>
    have hp : pace c = k := by unfold pace; rw [e]; rfl
    have hk := List.mem_of_find?_eq_some e
    obtain ⟨i, hi, rfl⟩ := List.mem_map.mp hk
    have := List.mem_range.mp hi
    rw [hp]
    exact ⟨rfl, by omega, by omega, List.find?_some e⟩
theorem pace_per (c : List Bool) : (ups c.length).find? (perOk c) = (ups c.length).find? (rotOk c) := by
  have aux : ∀ l : List Nat, (∀ k ∈ l, 1 ≤ k ∧ k ≤ c.length) → l.find? (perOk c) = l.find? (rotOk c) := by
    intro l
    induction l with
    | nil => intro _; rfl
    | cons k r ih =>
      intro h
      rw [List.find?_cons, List.find?_cons, per_rot c k (h k List.mem_cons_self).1 (h k List.mem_cons_self).2, ih fun x hx => h x (List.mem_cons_of_mem _ hx)]
  refine aux _ fun k hk => ?_
  obtain ⟨i, hi, rfl⟩ := List.mem_map.mp hk
  have := List.mem_range.mp hi
  omega
theorem pace_dvd {c : List Bool} (h : c ≠ []) : c.length % pace c = 0 := by
  have := (pace_find c h).2.2.2
  unfold rotOk at this
  exact of_decide_eq_true (Bool.and_eq_true_iff.mp this).1
theorem pace_shift {c : List Bool} (h : c ≠ []) : ∀ i, i + pace c < c.length → c[i + pace c]? = c[i]? := by
  have := (pace_find c h).2.2.2
  unfold rotOk at this
  exact rot_shift (of_decide_eq_true (Bool.and_eq_true_iff.mp this).2)
/-- the marks fall back while the wheel says the same -/
def startOf (W : List Bool) (p : Nat) : Nat → Nat
  | 0 => 0
  | s + 1 => if W[s]? = W[s + p]? then startOf W p s else s + 1
theorem startOf_le (W : List Bool) (p : Nat) : ∀ s, startOf W p s ≤ s
  | 0 => Nat.le_refl 0
  | s + 1 => by
    unfold startOf
    split
    · exact Nat.le_succ_of_le (startOf_le W p s)
    · exact Nat.le_refl _
theorem startOf_shift (W : List Bool) (p : Nat) : ∀ s i, startOf W p s ≤ i → i < s → W[i + p]? = W[i]?
  | 0, i, _, h => absurd h (Nat.not_lt_zero i)
  | s + 1, i, h, hi => by
    unfold startOf at h
    by_cases e : W[s]? = W[s + p]?
    · rw [if_pos e] at h
      by_cases his : i = s
      · subst his
        exact e.symm
      · exact startOf_shift W p s i h (by omega)
    · rw [if_neg e] at h
      omega
/-- the whole: m marks, then the wheel c once -/
structure Wh (W : List Bool) (b p s : Nat) : Prop where
  hp : 1 ≤ p
  hb : b + p ≤ W.length
  hs : s = startOf W p b
  dv : (W.length - b) % p = 0
  sh : ∀ i, s ≤ i → i + p < W.length → W[i + p]? = W[i]?
theorem wh_of (m c : List Bool) (h : c ≠ []) : Wh (m ++ c) m.length (pace c) (startOf (m ++ c) (pace c) m.length) := by
  obtain ⟨_, h1, h2, _⟩ := pace_find c h
  refine ⟨h1, by rw [List.length_append]; omega, rfl, by rw [List.length_append, Nat.add_sub_cancel_left]; exact pace_dvd h, fun i hi hl => ?_⟩
  by_cases hm : i < m.length
  · exact startOf_shift _ _ _ i hi hm
  · rw [List.length_append] at hl
    rw [List.getElem?_append_right (by omega), List.getElem?_append_right (by omega), show i + pace c - m.length = i - m.length + pace c by omega]
    exact pace_shift h _ (by omega)
section
variable {W : List Bool} {b p s : Nat}
theorem Wh.le (w : Wh W b p s) : s ≤ b := by rw [w.hs]; exact startOf_le W p b
/-- every place past the start is one of the first turn -/
theorem Wh.back (w : Wh W b p s) : ∀ i, s ≤ i → i < W.length → W[i]? = W[s + (i - s) % p]? := by
  intro i
  induction i using Nat.strongRecOn with
  | ind i ih =>
    intro h1 h2
    have hp := w.hp
    by_cases h : i - s < p
    · rw [Nat.mod_eq_of_lt h, show s + (i - s) = i by omega]
    · have e := w.sh (i - p) (by omega) (by omega)
      rw [show i - p + p = i by omega] at e
      rw [e, ih (i - p) (by omega) (by omega) (by omega)]
      have : (i - s) % p = (i - p - s) % p := by
        rw [show i - s = i - p - s + p by omega, Nat.add_mod_right]
      rw [this]
theorem Wh.len (w : Wh W b p s) : s + p ≤ W.length := by
  have := w.hb
  have := w.le
  omega
/-- the mark at any place: by the short form, and by the law -/
theorem Wh.mark (w : Wh W b p s) (n : Nat) : (if n < s then W[n]? else W[s + (n - s) % p]?) = (if n < W.length then W[n]? else W[b + (n - b) % (W.length - b)]?) := by
  have hp := w.hp
  have hb := w.hb
  have hle := w.le
  have hlen := w.len
  by_cases h1 : n < s
  · rw [if_pos h1, if_pos (by omega)]
  · rw [if_neg h1]
    by_cases h2 : n < W.length
    · rw [if_pos h2, w.back n (by omega) h2]
    · rw [if_neg h2]
      have hm : (n - b) % (W.length - b) < W.length - b := Nat.mod_lt _ (by omega)
      rw [w.back (b + (n - b) % (W.length - b)) (by omega) (by omega)]
      have e : (b + (n - b) % (W.length - b) - s) % p = (n - s) % p := by
        have dv := w.dv
        obtain ⟨q, hq⟩ := Nat.dvd_of_mod_eq_zero dv
        have e1 : n - b = (W.length - b) * ((n - b) / (W.length - b)) + (n - b) % (W.length - b) := (Nat.div_add_mod _ _).symm
        have e2 : n - s = (b + (n - b) % (W.length - b) - s) + p * (q * ((n - b) / (W.length - b))) := by
          rw [← Nat.mul_assoc, ← hq]
          omega
        rw [e2, Nat.add_mul_mod_self_left]
      rw [e]
/-- a true place is in the first turn as well -/
theorem Wh.first (w : Wh W b p s) {i : Nat} (h : W[i]? = some true) : ∃ j, j ≤ i ∧ j < s + p ∧ W[j]? = some true := by
  have hi : i < W.length := (List.getElem?_eq_some_iff.mp h).1
  have hp := w.hp
  by_cases h1 : i < s
  · exact ⟨i, Nat.le_refl _, by omega, h⟩
  · have hm := Nat.mod_lt (i - s) (show p > 0 by omega)
    have hm2 := Nat.mod_le (i - s) p
    exact ⟨s + (i - s) % p, by omega, by omega, by rw [← w.back i (by omega) hi]; exact h⟩
theorem Wh.wheel (w : Wh W b p s) : (true ∈ (W.drop s).take p) ↔ true ∈ W.drop b := by
  have hp := w.hp
  have hb := w.hb
  have hle := w.le
  have hlen := w.len
  constructor
  · intro h
    obtain ⟨j, hj⟩ := List.mem_iff_getElem?.mp h
    have hjp : j < p := by
      have := (List.getElem?_eq_some_iff.mp hj).1
      rw [List.length_take] at this
      omega
    rw [List.getElem?_take_of_lt hjp, List.getElem?_drop] at hj
    refine List.mem_iff_getElem?.mpr ?_
    -- a place of the wheel with the same rest
    let i := b + (s + j + p * b - b) % p
    have hm := Nat.mod_lt (s + j + p * b - b) (show p > 0 by omega)
    have hpb : b ≤ p * b := Nat.le_mul_of_pos_left b (by omega)
    refine ⟨(s + j + p * b - b) % p, ?_⟩
    rw [List.getElem?_drop, w.back (b + (s + j + p * b - b) % p) (by omega) (by omega)]
    have e : (b + (s + j + p * b - b) % p - s) % p = j := by
      have e1 : b + (s + j + p * b - b) % p - s = (b - s) + (s + j + p * b - b) % p := by omega
      rw [e1, Nat.add_mod_mod, show b - s + (s + j + p * b - b) = j + p * b by omega, Nat.add_mul_mod_self_left, Nat.mod_eq_of_lt hjp]
    rw [e]
    exact hj
  · intro h
    obtain ⟨j, hj⟩ := List.mem_iff_getElem?.mp h
    rw [List.getElem?_drop] at hj
    have hi := (List.getElem?_eq_some_iff.mp hj).1
    rw [w.back (b + j) (by omega) hi] at hj
    have hm := Nat.mod_lt (b + j - s) (show p > 0 by omega)
    refine List.mem_iff_getElem?.mpr ⟨(b + j - s) % p, ?_⟩
    rw [List.getElem?_take_of_lt hm, List.getElem?_drop]
    exact hj
end
end Wv

namespace Wv
open PySem L2
def bls (l : List Bool) : List D := l.map D.bl
theorem bls_len (l : List Bool) : (bls l).length = l.length := List.length_map ..
theorem pys_bls : ∀ l : List Bool, D.pys (bls l) = some (l.map PyData.bool)
  | [] => rfl
  | b :: l => by
    show (match D.py (.bl b), D.pys (bls l) with | some p, some ps => some (p :: ps) | _, _ => none) = _
    rw [pys_bls l]
    rfl
theorem can_bls : ∀ l : List Bool, PyData.canLayAll0 (l.map PyData.bool) = true
  | [] => by rw [List.map_nil, PyData.canLayAll0]
  | b :: l => by rw [List.map_cons, PyData.canLayAll0, PyData.canLay0, can_bls l]; rfl
theorem dep_bls : ∀ l : List Bool, PyData.depthAll (l.map PyData.bool) = 0
  | [] => by rw [List.map_nil, PyData.depthAll]
  | b :: l => by rw [List.map_cons, PyData.depthAll, PyData.depth, dep_bls l]; rfl
theorem shaped_bls (l : List Bool) : SeqAt.shaped (.list (l.map PyData.bool)) = true := by
  unfold SeqAt.shaped
  rw [PyData.canLay0, can_bls, PyData.depth, dep_bls]
  rfl
theorem eqv_bls : ∀ a b : List Bool, PyData.eqvAll (a.map PyData.bool) (b.map PyData.bool) = decide (a = b)
  | [], [] => by rw [List.map_nil, PyData.eqvAll]; rfl
  | [], b :: l => by rw [List.map_nil, List.map_cons, PyData.eqvAll]; rfl
  | a :: k, [] => by rw [List.map_nil, List.map_cons, PyData.eqvAll]; rfl
  | a :: k, b :: l => by
    rw [List.map_cons, List.map_cons, PyData.eqvAll, PyData.eqv, eqv_bls k l, Bool.eq_iff_iff]
    simp
theorem fEq_bls (a b : List Bool) (M : List Mu) : fEq (.d (.lst (bls a))) (.d (.lst (bls b))) M = .ok (.d (.bl (decide (a = b)))) M := by
  show (match D.py (.lst (bls a)), D.py (.lst (bls b)) with | some p, some q => if SeqAt.shaped p && SeqAt.shaped q then Res.ok (Vl.d (.bl (PyData.eqv p q))) M else .bad | _, _ => .bad) = _
  rw [D.py, D.py, pys_bls, pys_bls]
  show (if SeqAt.shaped (.list (a.map PyData.bool)) && SeqAt.shaped (.list (b.map PyData.bool)) then Res.ok (Vl.d (.bl (PyData.eqv (.list (a.map PyData.bool)) (.list (b.map PyData.bool))))) M else .bad) = _
  rw [shaped_bls, shaped_bls, Bool.and_self, if_pos rfl, PyData.eqv, eqv_bls]
theorem fNe_bls (a b : List Bool) (M : List Mu) : fNe (.d (.lst (bls a))) (.d (.lst (bls b))) M = .ok (.d (.bl (!decide (a = b)))) M := by
  show (match D.py (.lst (bls a)), D.py (.lst (bls b)) with | some p, some q => if SeqAt.shaped p && SeqAt.shaped q then Res.ok (Vl.d (.bl (!PyData.eqv p q))) M else .bad | _, _ => .bad) = _
  rw [D.py, D.py, pys_bls, pys_bls]
  show (if SeqAt.shaped (.list (a.map PyData.bool)) && SeqAt.shaped (.list (b.map PyData.bool)) then Res.ok (Vl.d (.bl (!PyData.eqv (.list (a.map PyData.bool)) (.list (b.map PyData.bool))))) M else .bad) = _
  rw [shaped_bls, shaped_bls, Bool.and_self, if_pos rfl, PyData.eqv, eqv_bls]
theorem atI_nat {α : Type} (xs : List α) (n : Nat) : atI xs (n : Int) = xs[n]? := by
  unfold atI ixN
  rw [if_pos (by omega)]
  by_cases h : n < xs.length
  · rw [if_pos (by omega)]
    simp
  · rw [if_neg (by omega), List.getElem?_eq_none (by omega)]
    rfl
theorem atI_last {α : Type} (xs : List α) : atI xs (-1) = xs.getLast? := by
  unfold atI ixN
  rw [if_neg (by omega)]
  cases xs with
  | nil => rfl
  | cons x r =>
    rw [if_pos (by rw [List.length_cons]; omega), List.getLast?_eq_getElem?]
    show (x :: r)[(-1 + ((x :: r).length : Int)).toNat]? = _
    congr 1
    omega
theorem fIx_lst {ds : List D} {n : Nat} {d : D} (h : ds[n]? = some d) (M : List Mu) : fIx (.d (.lst ds)) (.d (.int (n : Nat))) M = .ok (.d d) M := by
  show (match atI ds (n : Nat) with | some d => Res.ok (Vl.d d) M | none => .bad) = _
  rw [atI_nat, h]
theorem fIx_int {ds : List D} {i : Int} {d : D} (h0 : 0 ≤ i) (h : ds[i.toNat]? = some d) (M : List Mu) : fIx (.d (.lst ds)) (.d (.int i)) M = .ok (.d d) M := by
  have := fIx_lst h M
  rw [Int.toNat_of_nonneg h0] at this
  exact this
theorem fIx_last {ds : List D} {d : D} (h : ds.getLast? = some d) (M : List Mu) : fIx (.d (.lst ds)) (.d (.int (-1))) M = .ok (.d d) M := by
  show (match atI ds (-1) with | some d => Res.ok (Vl.d d) M | none => .bad) = _
  rw [atI_last, h]
theorem bls_get {l : List Bool} {n : Nat} {x : Bool} (h : l[n]? = some x) : (bls l)[n]? = some (.bl x) := by
  unfold bls
  rw [List.getElem?_map, h]
  rfl
theorem fSl_drop (xs : List D) (n : Nat) (M : List Mu) : fSl (.d (.lst xs)) (some (n : Nat)) none M = .ok (.d (.lst (xs.drop n))) M := by
  show Res.ok (Vl.d (.lst (cutD xs (some (n : Nat)) none))) M = _
  have : cutD xs (some (n : Nat)) none = xs.drop n := by
    unfold cutD
    rw [HT.sIx_nat, HT.sIx_none]
    by_cases h : n ≤ xs.length
    · rw [Nat.min_eq_left h, List.take_of_length_le (by rw [List.length_drop]; omega)]
    · rw [Nat.min_eq_right (by omega), List.drop_length, List.drop_eq_nil_of_le (by omega), List.take_nil]
  rw [this]
theorem fSl_take (xs : List D) (n : Nat) (M : List Mu) : fSl (.d (.lst xs)) none (some (n : Nat)) M = .ok (.d (.lst (xs.take n))) M := by
  show Res.ok (Vl.d (.lst (cutD xs none (some (n : Nat))))) M = _
  have : cutD xs none (some (n : Nat)) = xs.take n := by
    unfold cutD
    rw [HT.sIx_nat, HT.sIx_none, Nat.sub_zero, List.drop_zero, ← List.take_eq_take_min]
  rw [this]
theorem fSl_init (xs : List D) (M : List Mu) : fSl (.d (.lst xs)) none (some (-1)) M = .ok (.d (.lst (xs.take (xs.length - 1)))) M := by
  show Res.ok (Vl.d (.lst (cutD xs none (some (-1))))) M = _
  have : cutD xs none (some (-1)) = xs.take (xs.length - 1) := by
    unfold cutD
    have e : HT.sIx xs.length xs.length (some (-1)) = xs.length - 1 := by
      show (if (-1 : Int) < 0 then (-1 + (xs.length : Int)).toNat else min (-1 : Int).toNat xs.length) = _
      rw [if_pos (by decide)]
      omega
    rw [e, HT.sIx_none, Nat.sub_zero, List.drop_zero]
  rw [this]
theorem fSl_last (xs : List D) (M : List Mu) : fSl (.d (.lst xs)) (some (-1)) none M = .ok (.d (.lst (xs.drop (xs.length - 1)))) M := by
  show Res.ok (Vl.d (.lst (cutD xs (some (-1)) none))) M = _
  have : cutD xs (some (-1)) none = xs.drop (xs.length - 1) := by
    unfold cutD
    have e : HT.sIx xs.length 0 (some (-1)) = xs.length - 1 := by
      show (if (-1 : Int) < 0 then (-1 + (xs.length : Int)).toNat else min (-1 : Int).toNat xs.length) = _
      rw [if_pos (by decide)]
      omega
    rw [e, HT.sIx_none, List.take_of_length_le (by rw [List.length_drop]; omega)]
  rw [this]
theorem flat_bls : ∀ l : List Bool, (bls l).all flatD = true
  | [] => rfl
  | b :: l => by
    show (flatD (.bl b) && (bls l).all flatD) = true
    rw [flat_bls l]
    rfl
theorem mem_bls : ∀ l : List Bool, memD (.bl true) (bls l) = decide (true ∈ l)
  | [] => rfl
  | b :: l => by
    show (eqF (.bl b) (.bl true) || memD (.bl true) (bls l)) = _
    rw [mem_bls l, Bool.eq_iff_iff]
    cases b <;> simp [eqF]
theorem fIn_bls (neg : Bool) (l : List Bool) (M : List Mu) : fInG neg (.d (.bl true)) (.d (.lst (bls l))) M = .ok (.d (.bl (if neg then !decide (true ∈ l) else decide (true ∈ l)))) M := by
  show (if flatD (.bl true) && (bls l).all flatD then Res.ok (Vl.d (.bl (if neg then !memD (.bl true) (bls l) else memD (.bl true) (bls l)))) M else .bad) = _
  rw [flat_bls, mem_bls]
  rfl
theorem bls_take (l : List Bool) (n : Nat) : (bls l).take n = bls (l.take n) := by unfold bls; rw [List.map_take]
theorem bls_drop (l : List Bool) (n : Nat) : (bls l).drop n = bls (l.drop n) := by unfold bls; rw [List.map_drop]
theorem bls_app (a b : List Bool) : bls a ++ bls b = bls (a ++ b) := by unfold bls; rw [List.map_append]
theorem fAdd_lst (a b : List D) (M : List Mu) (h : a.length + b.length ≤ sizeLine) : fAdd (.d (.lst a)) (.d (.lst b)) M = .ok (.d (.lst (a ++ b))) M := by
  show (if a.length + b.length ≤ sizeLine then Res.ok (Vl.d (.lst (a ++ b))) M else .bad) = _
  rw [if_pos h]
theorem fMul_lst (a : List D) (n : Nat) (M : List Mu) (h : a.length * n ≤ sizeLine) (hn : n < 2 ^ 62) : fMul (.d (.lst a)) (.d (.int (n : Nat))) M = .ok (.d (.lst (List.replicate n a).flatten)) M := by
  have c : -(2 ^ 63) ≤ (n : Int) ∧ (n : Int) < 2 ^ 63 ∧ a.length * (n : Int).toNat ≤ sizeLine := ⟨by omega, by omega, by rw [Int.toNat_natCast]; exact h⟩
  have e : fMul (.d (.lst a)) (.d (.int (n : Nat))) M = (if -(2 ^ 63) ≤ (n : Int) ∧ (n : Int) < 2 ^ 63 ∧ a.length * (n : Int).toNat ≤ sizeLine then Res.ok (Vl.d (.lst (List.replicate (n : Int).toNat a).flatten)) M else .bad) := by
    unfold fMul
    rfl
  rw [e, if_pos c, Int.toNat_natCast]
theorem bls_flat (n : Nat) (l : List Bool) : (List.replicate n (bls l)).flatten = bls (List.replicate n l).flatten := by
  induction n with
  | zero => rfl
  | succ n ih => rw [List.replicate_succ, List.replicate_succ, List.flatten_cons, List.flatten_cons, ih, bls_app]
theorem fLen_lst (ds : List D) (M : List Mu) : fLen [.d (.lst ds)] M = .ok (.d (.int (ds.length : Nat))) M := rfl
theorem fMod_ok {i j : Int} (h : 0 < j) (M : List Mu) : fMod (.d (.int i)) (.d (.int j)) M = .ok (.d (.int (i % j))) M := by
  show (if 0 < j then Res.ok (Vl.d (.int (i % j))) M else .bad) = _
  rw [if_pos h]
theorem fDiv_ok {i j : Int} (h : 0 < j) (h' : j < 1073741824) (M : List Mu) : fDiv (.d (.int i)) (.d (.int j)) M = .ok (.d (.int (i / j))) M := by
  show (if 0 < j ∧ j < 1073741824 then Res.ok (Vl.d (.int (i / j))) M else .bad) = _
  rw [if_pos ⟨h, h'⟩]
theorem fMul_int {i j : Int} (h : smallI i = true ∨ smallI j = true) (M : List Mu) : fMul (.d (.int i)) (.d (.int j)) M = .ok (.d (.int (i * j))) M := by
  show (if (smallI i || smallI j) = true then Res.ok (Vl.d (.int (i * j))) M else .bad) = _
  rw [if_pos (by simpa using h)]
/-! environments without the store -/
def plainE (ρ : Env) : Bool := ρ.all fun o => match o with
  | some (.m _) => false
  | _ => true
theorem cut_plain (n : Nat) (ρ : Env) (h : plainE ρ = true) : cutE n ρ = ρ := by
  unfold cutE
  conv => rhs; rw [← List.map_id ρ]
  refine List.map_congr_left fun o ho => ?_
  have := List.all_eq_true.mp h o ho
  cases o with
  | none => rfl
  | some x =>
    cases x with
    | d x => rfl
    | m k => cases this
/-- a loop that looks for a first d with p -/
theorem for_find {n i : Nat} {b : Ss} {ρ0 : Env} {M : List Mu} (p : D → Bool) (r : D → D) (hn : n = M.length) (hc : ∀ d, cutE n (ρ0.set i (some (.d d))) = ρ0.set i (some (.d d))) : ∀ (ds : List D) (o : Option Vl), (∀ d ∈ ds, b (ρ0.set i (some (.d d))) M = if p d = true then .rt (.d (r d)) M else .nx (ρ0.set i (some (.d d))) M) →
    (∀ d, ds.find? p = some d → forL n (gN i) b ds (ρ0.set i o) M = .rt (.d (r d)) M) ∧ (ds.find? p = none → ∃ o', forL n (gN i) b ds (ρ0.set i o) M = .nx (ρ0.set i o') M)
  | [], o, _ => And.intro (fun d h => by cases h) (fun _ => ⟨o, rfl⟩)
  | d :: ds, o, h => by
    have hb := h d List.mem_cons_self
    obtain ⟨i1, i2⟩ := for_find p r hn hc ds (some (.d d)) fun x hx => h x (List.mem_cons_of_mem _ hx)
    have e : forL n (gN i) b (d :: ds) (ρ0.set i o) M = (match b (ρ0.set i (some (.d d))) M with
      | .nx ρ2 M2 => forL n (gN i) b ds (cutE n ρ2) (M2.take n)
      | .ct ρ2 M2 => forL n (gN i) b ds (cutE n ρ2) (M2.take n)
      | .bk ρ2 M2 => .nx ρ2 M2
      | r => r) := by
      rw [forL_cons (p := (ρ0.set i (some (.d d)), M)) (by show some ((ρ0.set i o).set i (some (.d d)), M) = _; rw [List.set_set])]
      all_goals (cases b (ρ0.set i (some (.d d))) M <;> rfl)
    rw [e, hb, List.find?_cons]
    cases hp : p d with
    | true =>
      rw [if_pos rfl]
      exact ⟨fun d' h' => by cases h'; rfl, fun h' => by cases h'⟩
    | false =>
      rw [if_neg Bool.false_ne_true]
      dsimp only
      rw [hc, hn, List.take_length, ← hn]
      exact ⟨i1, i2⟩
end Wv

namespace Wv
open PySem L2
theorem t_var0 {x : Vl} {r : Env} {M : List Mu} : eVar 0 (some x :: r) M = .ok x M := rfl
theorem t_varS {n : Nat} {o : Option Vl} {r : Env} {M : List Mu} : eVar (n + 1) (o :: r) M = eVar n r M := rfl
theorem t_addI {i j : Int} {M : List Mu} : fAdd (.d (.int i)) (.d (.int j)) M = .ok (.d (.int (i + j))) M := rfl
theorem t_subI {i j : Int} {M : List Mu} : fSub (.d (.int i)) (.d (.int j)) M = .ok (.d (.int (i - j))) M := rfl
theorem t_mulL {i j : Int} {M : List Mu} (h : smallI i = true) : fMul (.d (.int i)) (.d (.int j)) M = .ok (.d (.int (i * j))) M := fMul_int (.inl h) M
theorem t_mulR {i j : Int} {M : List Mu} (h : smallI j = true) : fMul (.d (.int i)) (.d (.int j)) M = .ok (.d (.int (i * j))) M := fMul_int (.inr h) M
theorem t_mod {i j : Int} {M : List Mu} (h : 0 < j) : fMod (.d (.int i)) (.d (.int j)) M = .ok (.d (.int (i % j))) M := fMod_ok h M
theorem t_div {i j : Int} {M : List Mu} (h : 0 < j) (h' : j < 1073741824) : fDiv (.d (.int i)) (.d (.int j)) M = .ok (.d (.int (i / j))) M := fDiv_ok h h' M
theorem t_neg {i : Int} {M : List Mu} : fNeg (.d (.int i)) M = .ok (.d (.int (-i))) M := rfl
theorem t_lt {i j : Int} {M : List Mu} : fLt (.d (.int i)) (.d (.int j)) M = .ok (.d (.bl (decide (i < j)))) M := rfl
theorem t_le {i j : Int} {M : List Mu} : fLe (.d (.int i)) (.d (.int j)) M = .ok (.d (.bl (decide (i ≤ j)))) M := rfl
theorem t_gt {i j : Int} {M : List Mu} : fGt (.d (.int i)) (.d (.int j)) M = .ok (.d (.bl (decide (j < i)))) M := rfl
theorem t_ge {i j : Int} {M : List Mu} : fGe (.d (.int i)) (.d (.int j)) M = .ok (.d (.bl (decide (j ≤ i)))) M := rfl
theorem t_eqI {i j : Int} {M : List Mu} : fEq (.d (.int i)) (.d (.int j)) M = .ok (.d (.bl (decide (i = j)))) M := rfl
theorem t_neI {i j : Int} {M : List Mu} : fNe (.d (.int i)) (.d (.int j)) M = .ok (.d (.bl (!decide (i = j)))) M := rfl
theorem t_eqS {i j : Str} {M : List Mu} : fEq (.d (.str i)) (.d (.str j)) M = .ok (.d (.bl (decide (i = j)))) M := rfl
theorem t_neS {i j : Str} {M : List Mu} : fNe (.d (.str i)) (.d (.str j)) M = .ok (.d (.bl (!decide (i = j)))) M := rfl
theorem t_eqB {i j : Bool} {M : List Mu} : fEq (.d (.bl i)) (.d (.bl j)) M = .ok (.d (.bl (decide (i = j)))) M := rfl
theorem t_neB {i j : Bool} {M : List Mu} : fNe (.d (.bl i)) (.d (.bl j)) M = .ok (.d (.bl (!decide (i = j)))) M := rfl
theorem t_int {i : Int} {M : List Mu} : fInt [.d (.int i)] M = .ok (.d (.int i)) M := rfl
theorem t_intB {b : Bool} {M : List Mu} : fInt [.d (.bl b)] M = .ok (.d (.int (if b then 1 else 0))) M := rfl
theorem t_abs {i : Int} {M : List Mu} : fAbs [.d (.int i)] M = .ok (.d (.int (if i < 0 then -i else i))) M := rfl
theorem t_divmod {i j : Int} {M : List Mu} (h : 0 < j) (h' : j < 1073741824) : fDivmod [.d (.int i), .d (.int j)] M = .ok (.d (.tup [.int (i / j), .int (i % j)])) M := if_pos ⟨h, h'⟩
theorem t_max2 {i j : Int} {M : List Mu} : fMax2 [.d (.int i), .d (.int j)] M = .ok (.d (.int (if j > i then j else i))) M := rfl
theorem t_min2 {i j : Int} {M : List Mu} : fMin2 [.d (.int i), .d (.int j)] M = .ok (.d (.int (if j < i then j else i))) M := rfl
theorem t_lenL {ds : List D} {M : List Mu} : fLen [.d (.lst ds)] M = .ok (.d (.int (ds.length : Nat))) M := rfl
theorem t_lenT {ds : List D} {M : List Mu} : fLen [.d (.tup ds)] M = .ok (.d (.int (ds.length : Nat))) M := rfl
theorem t_lenC {ns : List Int} {M : List Mu} : fLen [.d (.scr ns)] M = .ok (.d (.int (ns.length : Nat))) M := by
  show Res.ok (Vl.d (.int ((ns.map D.int).length : Nat))) M = _
  rw [List.length_map]
theorem t_exitD {n : Nat} {y : D} {M : List Mu} : exitR n (.rt (.d y) M) = .ok (.d y) (M.take n) := rfl
theorem t_exitN {n : Nat} {ρ : Env} {M : List Mu} : exitR n (.nx ρ M) = .ok (.d .non) (M.take n) := rfl
theorem t_exitX {n : Nat} {ρ : Env} {C : Str} {fs : List (Str × D)} {M : List Mu} : exitR n (.exc ρ C fs M) = .exc C fs (M.take n) := rfl
theorem t_truB {b : Bool} {M : List Mu} : truthV M (.d (.bl b)) = some b := rfl
theorem t_truL {ds : List D} {M : List Mu} : truthV M (.d (.lst ds)) = some (!ds.isEmpty) := rfl
theorem t_truI {i : Int} {M : List Mu} : truthV M (.d (.int i)) = some (i != 0) := rfl
theorem t_ixT0 {a : D} {r : List D} {M : List Mu} : fIx (.d (.tup (a :: r))) (.d (.int 0)) M = .ok (.d a) M := by
  show (match atI (a :: r) ((0 : Nat) : Int) with | some d => Res.ok (Vl.d d) M | none => .bad) = _
  rw [Wv.atI_nat]
  rfl
theorem t_ixT1 {a b : D} {r : List D} {M : List Mu} : fIx (.d (.tup (a :: b :: r))) (.d (.int 1)) M = .ok (.d b) M := by
  show (match atI (a :: b :: r) ((1 : Nat) : Int) with | some d => Res.ok (Vl.d d) M | none => .bad) = _
  rw [Wv.atI_nat]
  rfl
theorem t_ixT2 {a b c : D} {r : List D} {M : List Mu} : fIx (.d (.tup (a :: b :: c :: r))) (.d (.int 2)) M = .ok (.d c) M := by
  show (match atI (a :: b :: c :: r) ((2 : Nat) : Int) with | some d => Res.ok (Vl.d d) M | none => .bad) = _
  rw [Wv.atI_nat]
  rfl
theorem t_ixL0 {a : D} {r : List D} {M : List Mu} : fIx (.d (.lst (a :: r))) (.d (.int 0)) M = .ok (.d a) M := by
  show (match atI (a :: r) ((0 : Nat) : Int) with | some d => Res.ok (Vl.d d) M | none => .bad) = _
  rw [Wv.atI_nat]
  rfl
theorem t_ixL1 {a b : D} {r : List D} {M : List Mu} : fIx (.d (.lst (a :: b :: r))) (.d (.int 1)) M = .ok (.d b) M := by
  show (match atI (a :: b :: r) ((1 : Nat) : Int) with | some d => Res.ok (Vl.d d) M | none => .bad) = _
  rw [Wv.atI_nat]
  rfl
theorem t_ixL2 {a b c : D} {r : List D} {M : List Mu} : fIx (.d (.lst (a :: b :: c :: r))) (.d (.int 2)) M = .ok (.d c) M := by
  show (match atI (a :: b :: c :: r) ((2 : Nat) : Int) with | some d => Res.ok (Vl.d d) M | none => .bad) = _
  rw [Wv.atI_nat]
  rfl
theorem t_ixN {ds : List D} {n : Nat} {d : D} {M : List Mu} (h : ds[n]? = some d) : fIx (.d (.lst ds)) (.d (.int (n : Nat))) M = .ok (.d d) M := fIx_lst h M
theorem t_isiC {tb : List (String × Bool)} {tc : List (Str × Bool)} {C : Str} {fl : List (Str × D)} {b : Bool} {M : List Mu} (h : tc.lookup C = some b) : fIsi tb tc (.d (.ins C fl)) M = .ok (.d (.bl b)) M := by
  show (match tc.lookup C with | some b => Res.ok (Vl.d (.bl b)) M | none => .bad) = _
  rw [h]
theorem t_isiB {tb : List (String × Bool)} {tc : List (Str × Bool)} {x : D} {a : String} {b : Bool} {M : List Mu} (h : tyN x = some a) (h' : tb.lookup a = some b) : fIsi tb tc (.d x) M = .ok (.d (.bl b)) M := by
  have e : tyV' M (.d x) = some (.inl a) := by
    cases x <;> first | (cases h; rfl) | cases h
  unfold fIsi
  rw [e]
  dsimp only
  rw [h']
theorem t_takeN (xs : List D) (n : Nat) (M : List Mu) : fSl (.d (.lst xs)) none (some (n : Nat)) M = .ok (.d (.lst (xs.take n))) M := fSl_take xs n M
theorem t_dropN (xs : List D) (n : Nat) (M : List Mu) : fSl (.d (.lst xs)) (some (n : Nat)) none M = .ok (.d (.lst (xs.drop n))) M := fSl_drop xs n M
end Wv

namespace Wv
open PySem L2
/-! rules for evaluation, the goal's right side found on the way -/
def seqK (r : RS) (u : Ss) : RS := match r with
  | .nx ρ M => u ρ M
  | r => r
section
variable {ρ ρ1 : Env} {M M1 M2 M3 : List Mu} {x y z : Vl} {r : Res Vl}
theorem y_seq {s u : Ss} {r1 R : RS} (h : s ρ M = r1) (h' : seqK r1 u = R) : sSeq s u ρ M = R := by
  rw [← h', ← h]
  unfold sSeq seqK
  cases s ρ M <;> rfl
theorem y_seqN {u : Ss} {R : RS} (h : u ρ M = R) : seqK (.nx ρ M) u = R := h
theorem y_seqR {u : Ss} : seqK (.rt x M) u = .rt x M := rfl
theorem y_seqB {u : Ss} : seqK (.bk ρ M) u = .bk ρ M := rfl
theorem y_seqC {u : Ss} : seqK (.ct ρ M) u = .ct ρ M := rfl
theorem y_seqX {u : Ss} {C : Str} {fs : List (Str × D)} : seqK (.exc ρ C fs M) u = .exc ρ C fs M := rfl
theorem y_if {c : Sm Bool} {a b : Ss} {x x' : Bool} {R : RS} (h : c ρ M = .ok x M1) (hx : x = x') (h' : (if x' = true then a else b) ρ M1 = R) : sIf c a b ρ M = R := by
  subst hx
  rw [← h']
  exact sBnd_ok h
theorem y_ifT {a b : Ss} {R : RS} (h : a ρ M = R) : (if true = true then a else b) ρ M = R := h
theorem y_ifF {a b : Ss} {R : RS} (h : b ρ M = R) : (if false = true then a else b) ρ M = R := h
theorem y_ret {m : Sm Vl} (h : m ρ M = .ok x M1) : sRet m ρ M = .rt x M1 := sRet_ok h
theorem y_asg {m : Sm Vl} {i : Nat} (h : m ρ M = .ok x M1) : sAsg m (gN i) ρ M = .nx (ρ.set i (some x)) M1 := sAsg_ok h
theorem y_asgG {m : Sm Vl} {g : Tg} (h : m ρ M = .ok x M1) (h' : g x ρ M1 = some (ρ1, M2)) : sAsg m g ρ M = .nx ρ1 M2 := by
  unfold sAsg
  rw [sBnd_ok h, h']
  rfl
theorem y_asgN {m : Sm Vl} {i : Nat} (h : m ρ M = .ok x M1) (h' : ρ.set i (some x) = ρ1) : sAsg m (gN i) ρ M = .nx ρ1 M1 := by
  rw [← h']
  exact sAsg_ok h
theorem y_parN {i j : Nat} {as : Sm (List Vl)} (h : as ρ M = .ok [x, y] M1) (h' : (ρ.set i (some x)).set j (some y) = ρ1) : sPar i j as ρ M = .nx ρ1 M1 := by
  unfold sPar
  rw [sBnd_ok h, ← h']
theorem y_rng1 {a : Sm Vl} {j : Int} (h : a ρ M = .ok (.d (.int j)) M1) (h' : -(2 ^ 62) ≤ j ∧ j < 2 ^ 62) : eRng1 (eCons a eNil) ρ M = .ok (rngD 0 j.toNat) M1 := eRng1_ok (eCons_ok h rfl) h'.1 h'.2
theorem y_next : sNext ρ M = .nx ρ M := rfl
theorem y_brk : sBreak ρ M = .bk ρ M := rfl
theorem y_retN : sRetN ρ M = .rt (.d .non) M := rfl
theorem y_asgT2 {m : Sm Vl} {i j : Nat} {d d' : D} (h : m ρ M = .ok (.d (.tup [d, d'])) M1) (h' : (ρ.set i (some (.d d))).set j (some (.d d')) = ρ1) : sAsg m (gT 2 (gAnd (gN i) (gAnd (gN j) gEnd))) ρ M = .nx ρ1 M1 := by
  unfold sAsg
  rw [sBnd_ok h, ← h']
  rfl
theorem y_asgT3 {m : Sm Vl} {i j k : Nat} {d d' d'' : D} (h : m ρ M = .ok (.d (.tup [d, d', d''])) M1) (h' : ((ρ.set i (some (.d d))).set j (some (.d d'))).set k (some (.d d'')) = ρ1) : sAsg m (gT 3 (gAnd (gN i) (gAnd (gN j) (gAnd (gN k) gEnd)))) ρ M = .nx ρ1 M1 := by
  unfold sAsg
  rw [sBnd_ok h, ← h']
  rfl
theorem y_exit {n : Nat} {b : Ss} {xs : List Vl} {d : D} (h : b (startE n xs) M = .rt (.d d) M1) (hl : M1.length = M.length) : fnS exitR n b xs M = .ok (.d d) M1 := fnS_rt h hl
theorem y_fnR {b : Ss} {d : D} (h : b ρ M = .rt (.d d) M1) (hl : M1.length = M.length) : exitR M.length (b ρ M) = .ok (.d d) M1 := by
  rw [h]
  show Res.ok (Vl.d d) (M1.take M.length) = _
  rw [← hl, List.take_length]
theorem y_fnN {b : Ss} {ρ' : Env} (h : b ρ M = .nx ρ' M1) (hl : M1.length = M.length) : exitR M.length (b ρ M) = .ok (.d .non) M1 := by
  rw [h]
  show Res.ok (Vl.d .non) (M1.take M.length) = _
  rw [← hl, List.take_length]
theorem y_set0 {o a : Option Vl} {r : Env} : (a :: r).set 0 o = o :: r := rfl
theorem y_setS {o a : Option Vl} {r r' : Env} {n : Nat} (h : r.set n o = r') : (a :: r).set (n + 1) o = a :: r' := by rw [← h]; rfl
theorem y_set2 {ρ' ρ2 : Env} {i j : Nat} {o o' : Option Vl} (h : ρ.set i o = ρ') (h' : ρ'.set j o' = ρ2) : (ρ.set i o).set j o' = ρ2 := by rw [h, h']
theorem y_expr {m : Sm Vl} (h : m ρ M = .ok x M1) : sExpr m ρ M = .nx ρ M1 := sExpr_ok h
theorem y_par {i j : Nat} {as : Sm (List Vl)} (h : as ρ M = .ok [x, y] M1) : sPar i j as ρ M = .nx ((ρ.set i (some x)).set j (some y)) M1 := by
  unfold sPar
  rw [sBnd_ok h]
theorem y_var {i : Nat} (h : ρ[i]? = some (some x)) : eVar i ρ M = .ok x M := by
  unfold eVar
  rw [h]
theorem y_op {f : F2} {a b : Sm Vl} (h : a ρ M = .ok x M1) (h' : b ρ M1 = .ok y M2) (hf : f x y M2 = r) : eOp f a b ρ M = r := (eOp_ok h h').trans hf
theorem y_un {f : F1} {a : Sm Vl} (h : a ρ M = .ok x M1) (hf : f x M1 = r) : eUn f a ρ M = r := (eUn_ok h).trans hf
theorem y_ap {f : FS} {as : Sm (List Vl)} {xs : List Vl} (h : as ρ M = .ok xs M1) (hf : f xs M1 = r) : eAp f as ρ M = r := (eAp_ok h).trans hf
theorem y_nil : eNil ρ M = .ok [] M := rfl
theorem y_cons {a : Sm Vl} {as : Sm (List Vl)} {xs : List Vl} (h : a ρ M = .ok x M1) (h' : as ρ M1 = .ok xs M2) : eCons a as ρ M = .ok (x :: xs) M2 := eCons_ok h h'
theorem y_c {d : D} : eC d ρ M = .ok (.d d) M := rfl
theorem y_bool {m : Sm Vl} {b : Bool} (h : m ρ M = .ok (.d (.bl b)) M1) : eBool m ρ M = .ok b M1 := eBool_ok h
theorem y_tru {m : Sm Vl} {b : Bool} (h : m ρ M = .ok x M1) (h' : truthV M1 x = some b) : eTru m ρ M = .ok b M1 := by
  unfold eTru
  rw [bnd_ok h, h']
theorem y_notT {m : Sm Bool} {b : Bool} (h : m ρ M = .ok b M1) : eNotT m ρ M = .ok (!b) M1 := eNotT_ok h
theorem y_not {m : Sm Vl} {b : Bool} (h : m ρ M = .ok (.d (.bl b)) M1) : eNot m ρ M = .ok (.d (.bl (!b))) M1 := by
  unfold eNot
  rw [bnd_ok h]
theorem y_andT {a b : Sm Bool} {x x' : Bool} {r : Res Bool} (h : a ρ M = .ok x M1) (hx : x = x') (h' : (if x' = true then b else fun _ M => .ok false M) ρ M1 = r) : eAndT a b ρ M = r := by
  subst hx
  rw [← h']
  exact bnd_ok h
theorem y_orT {a b : Sm Bool} {x x' : Bool} {r : Res Bool} (h : a ρ M = .ok x M1) (hx : x = x') (h' : (if x' = true then fun _ M => .ok true M else b) ρ M1 = r) : eOrT a b ρ M = r := by
  subst hx
  rw [← h']
  exact bnd_ok h
theorem y_bT {a b : Sm Bool} {r : Res Bool} (h : a ρ M = r) : (if true = true then a else b) ρ M = r := h
theorem y_bF {a b : Sm Bool} {r : Res Bool} (h : b ρ M = r) : (if false = true then a else b) ρ M = r := h
theorem y_bK {b : Bool} : (fun (_ : Env) (M : List Mu) => Res.ok b M) ρ M = .ok b M := rfl
theorem y_ifE {c : Sm Bool} {a b : Sm Vl} {x x' : Bool} (h : c ρ M = .ok x M1) (hx : x = x') (h' : (if x' = true then a else b) ρ M1 = r) : eIf c a b ρ M = r := by
  subst hx
  rw [← h']
  exact bnd_ok h
theorem y_eT {a b : Sm Vl} (h : a ρ M = r) : (if true = true then a else b) ρ M = r := h
theorem y_eF {a b : Sm Vl} (h : b ρ M = r) : (if false = true then a else b) ρ M = r := h
def andK (x : Bool) (b : Sm Vl) : Sm Vl := if x = true then b else fun _ M => .ok (.d (.bl false)) M
def orK (x : Bool) (b : Sm Vl) : Sm Vl := if x = true then fun _ M => .ok (.d (.bl true)) M else b
theorem y_and {a b : Sm Vl} {x x' : Bool} (h : a ρ M = .ok (.d (.bl x)) M1) (hx : x = x') (h' : andK x' b ρ M1 = r) : eAnd a b ρ M = r := by
  subst hx
  rw [← h']
  unfold eAnd
  rw [bnd_ok h]
  cases x <;> rfl
theorem y_or {a b : Sm Vl} {x x' : Bool} (h : a ρ M = .ok (.d (.bl x)) M1) (hx : x = x') (h' : orK x' b ρ M1 = r) : eOr a b ρ M = r := by
  subst hx
  rw [← h']
  unfold eOr
  rw [bnd_ok h]
  cases x <;> rfl
theorem y_andKT {b : Sm Vl} (h : b ρ M = r) : andK true b ρ M = r := h
theorem y_andKF {b : Sm Vl} : andK false b ρ M = .ok (.d (.bl false)) M := rfl
theorem y_orKF {b : Sm Vl} (h : b ρ M = r) : orK false b ρ M = r := h
theorem y_orKT {b : Sm Vl} : orK true b ρ M = .ok (.d (.bl true)) M := rfl
theorem y_sl {a : Sm Vl} {l h : Sm (Option Int)} {i j : Option Int} (ha : a ρ M = .ok x M1) (hl : l ρ M1 = .ok i M2) (hh : h ρ M2 = .ok j M3) (hf : fSl x i j M3 = r) : eSl a l h ρ M = r := (eSl_ok ha hl hh).trans hf
theorem y_noPart : eNoPart ρ M = .ok none M := rfl
theorem y_part {m : Sm Vl} {i : Int} (h : m ρ M = .ok (.d (.int i)) M1) : ePart m ρ M = .ok (some i) M1 := ePart_ok h
def dsOf : List Vl → Option (List D)
  | [] => some []
  | .d x :: r => (match dsOf r with
    | some ds => some (x :: ds)
    | none => none)
  | _ => none
theorem dsOf_ok : ∀ {xs : List Vl} {ds : List D}, dsOf xs = some ds → xs = ds.map Vl.d
  | [], _, h => by cases h; rfl
  | .d x :: r, ds, h => by
    unfold dsOf at h
    cases e : dsOf r with
    | none => rw [e] at h; cases h
    | some es => rw [e] at h; cases h; rw [dsOf_ok e]; rfl
  | .m _ :: _, _, h => by cases h
theorem y_lst {as : Sm (List Vl)} {xs : List Vl} {ds : List D} (h : as ρ M = .ok xs M1) (h1 : dsOf xs = some ds) (h2 : ds.length ≤ sizeLine) : eLst as ρ M = .ok (.d (.lst ds)) M1 := by
  have := dsOf_ok h1
  subst this
  exact eLst_ok h h2
theorem y_tup {as : Sm (List Vl)} {xs : List Vl} {ds : List D} (h : as ρ M = .ok xs M1) (h1 : dsOf xs = some ds) (h2 : ds.length ≤ sizeLine) : eTup as ρ M = .ok (.d (.tup ds)) M1 := by
  have := dsOf_ok h1
  subst this
  exact eTup_ok h h2
theorem y_chain {f g : F2} {a b c : Sm Vl} {k k' : Bool} (ha : a ρ M = .ok x M1) (hb : b ρ M1 = .ok y M2) (hf : f x y M2 = .ok (.d (.bl k)) M3) (hk : k = k') (h : andK k' (bnd c fun w _ M => g y w M) ρ M3 = r) : eChain f g a b c ρ M = r := by
  subst hk
  rw [← h]
  unfold eChain
  rw [bnd_ok ha, bnd_ok hb, bnd_ok (m := fun _ M => f x y M) (a := .d (.bl k)) (M' := M3) hf]
  cases k <;> rfl
theorem y_last {c : Sm Vl} {g : F2} (h : c ρ M = .ok z M1) (h' : g y z M1 = r) : (bnd c fun w _ M => g y w M) ρ M = r := (bnd_ok h).trans h'
theorem y_for {mi : Sm (List D)} {g : Tg} {b : Ss} {ds : List D} {R : RS} (h : mi ρ M = .ok ds M1) (h' : forL M1.length g b ds ρ M1 = R) : sFor mi g b ρ M = R := (sFor_ok h).trans h'
theorem y_iter {m : Sm Vl} {ds : List D} (h : m ρ M = .ok x M1) (h' : iterV x = some ds) : eIter m ρ M = .ok ds M1 := by
  unfold eIter
  rw [bnd_ok h, h']
theorem y_fn {n : Nat} {b : Ss} {xs : List Vl} {d : D} (h : b (startE n xs) M = .rt (.d d) M1) (hl : M1.length = M.length) : fnS exitR n b xs M = .ok (.d d) M1 := fnS_rt h hl
end
theorem bd_nF {x : Bool} (h : x = false) : (!x) = true := by rw [h]; rfl
theorem bd_nT {x : Bool} (h : x = true) : (!x) = false := by rw [h]; rfl
theorem bd_aT {x y : Bool} (h : x = true) (h' : y = true) : (x && y) = true := by rw [h, h']; rfl
theorem bd_aL {x y : Bool} (h : x = false) : (x && y) = false := by rw [h]; rfl
theorem bd_aR {x y : Bool} (h : y = false) : (x && y) = false := by rw [h]; cases x <;> rfl
theorem bd_oF {x y : Bool} (h : x = false) (h' : y = false) : (x || y) = false := by rw [h, h']; rfl
theorem bd_oL {x y : Bool} (h : x = true) : (x || y) = true := by rw [h]; rfl
theorem bd_oR {x y : Bool} (h : y = true) : (x || y) = true := by rw [h]; cases x <;> rfl
theorem bd_idT {x : Bool} (h : x = true) : x = true := h
theorem bd_idF {x : Bool} (h : x = false) : x = false := h
theorem bd_TT : true = true := rfl
theorem bd_FF : false = false := rfl
theorem bd_t {p : Prop} [Decidable p] (h : p) : decide p = true := decide_eq_true h
theorem bd_f {p : Prop} [Decidable p] (h : ¬ p) : decide p = false := decide_eq_false h
end Wv

namespace Wv
/-! ### the row of truth values that marks and a wheel stand for; its least form -/
def sq (m c : List Bool) (n : Nat) : Bool := if n < m.length then m.getD n false else c.getD ((n - m.length) % c.length) false
def Per (f : Nat → Bool) (s p : Nat) : Prop := ∀ n, s ≤ n → f (n + p) = f n
theorem Per.mul {f : Nat → Bool} {s p : Nat} (h : Per f s p) : ∀ k, Per f s (p * k)
  | 0 => fun n _ => by rw [Nat.mul_zero, Nat.add_zero]
  | k + 1 => fun n hn => by
    rw [Nat.mul_succ, ← Nat.add_assoc, h _ (by omega), Per.mul h k n hn]
theorem Per.sub {f : Nat → Bool} {s p q : Nat} (h : Per f s p) (h' : Per f s q) (hl : q ≤ p) : Per f s (p - q) := fun n hn => by
  rw [← h' (n + (p - q)) (by omega), show n + (p - q) + q = n + p by omega, h n hn]
theorem Per.mod {f : Nat → Bool} {s p q : Nat} (h : Per f s p) (h' : Per f s q) : Per f s (p % q) := by
  have e : p % q = p - q * (p / q) := by
    have := Nat.div_add_mod p q
    omega
  have hl : q * (p / q) ≤ p := by
    have := Nat.div_add_mod p q
    omega
  rw [e]
  exact h.sub (h'.mul _) hl
theorem Per.up {f : Nat → Bool} {s s' p : Nat} (h : Per f s p) (hs : s ≤ s') : Per f s' p := fun n hn => h n (by omega)
/-- a period from far on is one from s on, where there is any from s on -/
theorem Per.down {f : Nat → Bool} {s s' p q : Nat} (h : Per f s p) (hp : 1 ≤ p) (h' : Per f s' q) : Per f s q := fun n hn => by
  have e1 := h.mul s' n hn
  have e2 := h.mul s' (n + q) (by omega)
  have hk : s' ≤ p * s' := Nat.le_mul_of_pos_left s' (by omega)
  rw [← e1, ← e2, show n + q + p * s' = n + p * s' + q by omega]
  exact h' _ (by omega)
theorem Per.at {f : Nat → Bool} {s p : Nat} (h : Per f s p) (hp : 1 ≤ p) (n : Nat) (hn : s ≤ n) : f n = f (s + (n - s) % p) := by
  have e : n = s + (n - s) % p + p * ((n - s) / p) := by
    have := Nat.div_add_mod (n - s) p
    omega
  conv => lhs; rw [e]
  exact h.mul _ _ (by omega)
theorem sq_per (m c : List Bool) (h : c ≠ []) : Per (sq m c) m.length c.length := fun n hn => by
  unfold sq
  rw [if_neg (by omega), if_neg (by omega), show n + c.length - m.length = n - m.length + c.length by omega, Nat.add_mod_right]
theorem sq_lt {m c : List Bool} {n : Nat} (h : n < (m ++ c).length) : (m ++ c)[n]? = some (sq m c n) := by
  unfold sq
  rw [List.length_append] at h
  by_cases hn : n < m.length
  · rw [if_pos hn, List.getElem?_append_left hn, List.getElem?_eq_getElem hn, List.getD_eq_getElem?_getD, List.getElem?_eq_getElem hn]
    rfl
  · rw [if_neg hn, List.getElem?_append_right (by omega), Nat.mod_eq_of_lt (by omega), List.getD_eq_getElem?_getD, List.getElem?_eq_getElem (by omega)]
    rfl
theorem sq_wh (m c : List Bool) (h : c ≠ []) (n : Nat) : (if n < (m ++ c).length then (m ++ c)[n]? else (m ++ c)[m.length + (n - m.length) % ((m ++ c).length - m.length)]?) = some (sq m c n) := by
  have hc : 0 < c.length := List.length_pos_iff.mpr h
  by_cases hn : n < (m ++ c).length
  · rw [if_pos hn, sq_lt hn]
  · rw [if_neg hn, List.length_append, Nat.add_sub_cancel_left]
    have hm := Nat.mod_lt (n - m.length) hc
    rw [List.length_append] at hn
    rw [sq_lt (by rw [List.length_append]; omega), (sq_per m c h).at hc n (by omega)]
/-- the least form says the same -/
theorem sq_red (m c : List Bool) (h : c ≠ []) (n : Nat) : (if n < startOf (m ++ c) (pace c) m.length then (m ++ c)[n]? else (m ++ c)[startOf (m ++ c) (pace c) m.length + (n - startOf (m ++ c) (pace c) m.length) % pace c]?) = some (sq m c n) := by
  rw [(wh_of m c h).mark n]
  exact sq_wh m c h n
theorem pace_min {c : List Bool} {k : Nat} (h : c ≠ []) (h1 : 1 ≤ k) (h2 : k ≤ c.length) (hk : rotOk c k = true) : pace c ≤ k := by
  have hf := (pace_find c h).1
  unfold ups at hf
  rw [List.find?_map] at hf
  cases e : (List.range c.length).find? (rotOk c ∘ fun x => x + 1) with
  | none => rw [e] at hf; cases hf
  | some i =>
    rw [e] at hf
    have hi : i + 1 = pace c := by simpa using hf
    by_cases hle : pace c ≤ k
    · exact hle
    · have := List.find?_eq_some_iff_append.mp e
      obtain ⟨_, as, bs, hab, hn⟩ := this
      have hai : as.length = i := by
        have h3 : (List.range c.length)[as.length]? = some i := by rw [hab]; simp
        have h4 : as.length < c.length := by
          have := congrArg List.length hab
          simp at this
          omega
        rw [List.getElem?_range h4] at h3
        exact Option.some.inj h3
      have hmem : k - 1 ∈ as := by
        have h3 : (List.range c.length)[k - 1]? = some (k - 1) := List.getElem?_range (by omega)
        rw [hab, List.getElem?_append_left (by omega)] at h3
        exact List.mem_of_getElem? h3
      have := hn _ hmem
      simp only [Function.comp] at this
      rw [show k - 1 + 1 = k by omega, hk] at this
      cases this
theorem rot_of {m c : List Bool} (h : c ≠ []) {q : Nat} (hq : 1 ≤ q) (hd : c.length % q = 0) (hP : Per (sq m c) m.length q) : rotOk c q = true := by
  have hc : 0 < c.length := List.length_pos_iff.mpr h
  have hql : q ≤ c.length := Nat.le_of_dvd hc (Nat.dvd_of_mod_eq_zero hd)
  have hg : ∀ i, i < c.length → c[i]? = some (sq m c (m.length + i)) := fun i hi => by
    have := sq_lt (m := m) (c := c) (n := m.length + i) (by rw [List.length_append]; omega)
    rw [List.getElem?_append_right (by omega), Nat.add_sub_cancel_left] at this
    exact this
  unfold rotOk
  rw [decide_eq_true hd, Bool.true_and, decide_eq_true_eq]
  apply List.ext_getElem?
  intro i
  by_cases hi : i < c.length
  · rw [hg i hi]
    by_cases hiq : i < c.length - q
    · rw [List.getElem?_append_left (by rw [List.length_drop]; omega), List.getElem?_drop, hg _ (by omega), Nat.add_comm q i, ← Nat.add_assoc, hP _ (by omega)]
    · rw [List.getElem?_append_right (by rw [List.length_drop]; omega), List.length_drop, List.getElem?_take_of_lt (by omega), hg _ (by omega)]
      have e1 := sq_per m c h (m.length + (i - (c.length - q))) (by omega)
      have e2 := hP (m.length + i) (by omega)
      rw [show m.length + (i - (c.length - q)) + c.length = m.length + i + q by omega] at e1
      rw [← e1, e2]
  · rw [List.getElem?_eq_none (by rw [List.length_append, List.length_drop, List.length_take]; omega), List.getElem?_eq_none (by omega)]
theorem pace_le {m c : List Bool} (h : c ≠ []) : ∀ (q : Nat), 1 ≤ q → ∀ s', Per (sq m c) s' q → pace c ≤ q := fun q => by
  induction q using Nat.strongRecOn with
  | _ q ih =>
    intro hq s' hP
    have hc : 0 < c.length := List.length_pos_iff.mpr h
    have hP' := (sq_per m c h).down hc hP
    by_cases hd : c.length % q = 0
    · exact pace_min h hq (Nat.le_of_dvd hc (Nat.dvd_of_mod_eq_zero hd)) (rot_of h hq hd hP')
    · have hlt := Nat.mod_lt c.length (show q > 0 by omega)
      have := ih (c.length % q) hlt (by omega) _ ((sq_per m c h).mod hP')
      omega
theorem sq_min {m c : List Bool} (h : c ≠ []) : Per (sq m c) (startOf (m ++ c) (pace c) m.length) (pace c) := fun n hn => by
  have w := wh_of m c h
  have a := sq_red m c h n
  have b := sq_red m c h (n + pace c)
  rw [if_neg (by omega)] at a
  rw [if_neg (by omega), show n + pace c - startOf (m ++ c) (pace c) m.length = n - startOf (m ++ c) (pace c) m.length + pace c by omega, Nat.add_mod_right] at b
  exact Option.some.inj (b.symm.trans a)
theorem startOf_ne (W : List Bool) (p : Nat) : ∀ b, 0 < startOf W p b → W[startOf W p b - 1]? ≠ W[startOf W p b - 1 + p]?
  | 0, h => absurd h (by unfold startOf; omega)
  | b + 1, h => by
    unfold startOf at h ⊢
    by_cases e : W[b]? = W[b + p]?
    · rw [if_pos e] at h ⊢
      exact startOf_ne W p b h
    · rw [if_neg e]
      exact e
theorem start_le {m c : List Bool} (h : c ≠ []) {s' : Nat} (hP : Per (sq m c) s' (pace c)) : startOf (m ++ c) (pace c) m.length ≤ s' := by
  by_cases hle : startOf (m ++ c) (pace c) m.length ≤ s'
  · exact hle
  · have w := wh_of m c h
    have hl := w.len
    have h1 := w.hp
    have hne := startOf_ne (m ++ c) (pace c) m.length (by omega)
    rw [sq_lt (by omega), sq_lt (by omega)] at hne
    exact absurd (congrArg some (hP _ (by omega)).symm) hne
/-- two that stand for the same row have the same least form -/
theorem red_eq {m c m2 c2 : List Bool} (h : c ≠ []) (h2 : c2 ≠ []) (he : ∀ n, sq m c n = sq m2 c2 n) : pace c = pace c2 ∧ startOf (m ++ c) (pace c) m.length = startOf (m2 ++ c2) (pace c2) m2.length := by
  have he' : sq m c = sq m2 c2 := funext he
  have p1 := sq_min (m := m) h
  have p2 := sq_min (m := m2) h2
  have hp : pace c = pace c2 := by
    have a := pace_le (m := m) h _ (pace_find c2 h2).2.1 _ (by rw [he']; exact p2)
    have b := pace_le (m := m2) h2 _ (pace_find c h).2.1 _ (by rw [← he']; exact p1)
    omega
  refine ⟨hp, ?_⟩
  have a := start_le (m := m) h (s' := startOf (m2 ++ c2) (pace c2) m2.length) (by rw [hp, he']; exact p2)
  have b := start_le (m := m2) h2 (s' := startOf (m ++ c) (pace c) m.length) (by rw [← hp, ← he']; exact p1)
  omega
theorem take_sq {m c : List Bool} {s : Nat} (hs : s ≤ (m ++ c).length) : (m ++ c).take s = (List.range s).map (sq m c) := by
  apply List.ext_getElem?
  intro i
  by_cases hi : i < s
  · rw [List.getElem?_take_of_lt hi, sq_lt (by omega), List.getElem?_map, List.getElem?_range hi]
    rfl
  · rw [List.getElem?_eq_none (by rw [List.length_take]; omega), List.getElem?_eq_none (by rw [List.length_map, List.length_range]; omega)]
theorem cyc_sq {m c : List Bool} {s p : Nat} (hs : s + p ≤ (m ++ c).length) : ((m ++ c).drop s).take p = (List.range p).map fun k => sq m c (s + k) := by
  apply List.ext_getElem?
  intro i
  by_cases hi : i < p
  · rw [List.getElem?_take_of_lt hi, List.getElem?_drop, sq_lt (by omega), List.getElem?_map, List.getElem?_range hi]
    rfl
  · rw [List.getElem?_eq_none (by rw [List.length_take]; omega), List.getElem?_eq_none (by rw [List.length_map, List.length_range]; omega)]
/-- marks and wheel of a row -/
def mF (f : Nat → Bool) (b : Nat) : List Bool := (List.range b).map f
def cF (f : Nat → Bool) (b s : Nat) : List Bool := (List.range s).map fun k => f (b + k)
theorem mF_len (f : Nat → Bool) (b : Nat) : (mF f b).length = b := by unfold mF; simp
theorem cF_len (f : Nat → Bool) (b s : Nat) : (cF f b s).length = s := by unfold cF; simp
theorem cF_ne {f : Nat → Bool} {b s : Nat} (h : 1 ≤ s) : cF f b s ≠ [] := fun e => by
  have := congrArg List.length e
  rw [cF_len] at this
  simp at this
  omega
theorem mcF (f : Nat → Bool) (b s : Nat) : mF f b ++ cF f b s = (List.range (b + s)).map f := by
  unfold mF cF
  rw [List.range_add, List.map_append, List.map_map]
  rfl
theorem sq_F {f : Nat → Bool} {b s : Nat} (hs : 1 ≤ s) (hP : Per f b s) (n : Nat) : sq (mF f b) (cF f b s) n = f n := by
  unfold sq
  rw [mF_len, cF_len]
  by_cases h : n < b
  · rw [if_pos h]
    unfold mF
    rw [List.getD_eq_getElem?_getD, List.getElem?_map, List.getElem?_range h]
    rfl
  · rw [if_neg h]
    unfold cF
    have hm := Nat.mod_lt (n - b) (show s > 0 by omega)
    rw [List.getD_eq_getElem?_getD, List.getElem?_map, List.getElem?_range hm, hP.at hs n (by omega)]
    rfl
end Wv

namespace Wv
open PySem L2
section
variable {ρ : Env} {M M1 M2 : List Mu} {x y : Vl} {r : Res Vl}
theorem y_jsN {acc : Str} : eJs [] acc ρ M = .ok (.d (.str acc)) M := rfl
theorem y_js {t : Sm Vl} {ts : List (Sm Vl)} {acc y : Str} (h : t ρ M = .ok (.d (.str y)) M1) (hl : (acc ++ y).length ≤ sizeLine) (h' : eJs ts (acc ++ y) ρ M1 = r) : eJs (t :: ts) acc ρ M = r := by
  unfold eJs
  rw [bnd_ok h]
  dsimp only
  rw [if_pos hl]
  exact h'
theorem y_fmtI {m : Sm Vl} {i : Int} (h : m ρ M = .ok (.d (.int i)) M1) (hl : i.natAbs.log2 < 1920) : eFmt m ρ M = .ok (.d (.str (toString i))) M1 := by
  unfold eFmt
  rw [bnd_ok h]
  dsimp only
  rw [if_pos hl]
theorem y_fmtS {m : Sm Vl} {z : Str} (h : m ρ M = .ok (.d (.str z)) M1) (hl : z.length ≤ sizeLine) : eFmt m ρ M = .ok (.d (.str z)) M1 := by
  unfold eFmt
  rw [bnd_ok h]
  dsimp only
  rw [if_pos hl]
end
theorem t_strI {i : Int} {M : List Mu} (h : i.natAbs.log2 < 1920) : fStr [.d (.int i)] M = .ok (.d (.str (toString i))) M := if_pos h
theorem t_addS {a b : Str} {M : List Mu} (h : a.length + b.length ≤ sizeLine) : fAdd (.d (.str a)) (.d (.str b)) M = .ok (.d (.str (a ++ b))) M := if_pos h
theorem str_app_len (a b : Str) : (a ++ b).length = a.length + b.length := by
  show (a.cps ++ b.cps).size = a.cps.size + b.cps.size
  exact Array.size_append
theorem strOk_app {a b : Str} (ha : PyData.strOk a = true) (hb : PyData.strOk b = true) : PyData.strOk (a ++ b) = true := by
  unfold PyData.strOk at ha hb ⊢
  show (a.cps ++ b.cps).all _ = true
  rw [Array.all_append, ha, hb]
  rfl
theorem strOk_of (t : String) : PyData.strOk (Str.ofString t) = true := by
  rw [Str.ofString_eq_toList]
  unfold PyData.strOk
  rw [Array.all_eq_true_iff_forall_mem]
  intro x hx
  have : x ∈ (t.toList.map Char.toNat) := by simpa using hx
  rw [List.mem_map] at this
  obtain ⟨c, _, rfl⟩ := this
  rw [decide_eq_true_eq]
  have := c.valid
  rcases this with h | ⟨_, h⟩
  · have h : c.toNat < 0xd800 := h
    omega
  · exact h
end Wv

namespace Wn
/-! ### marks with a wheel behind them: plain lists of truth values -/
def rotOk (c : List Nat) (k : Nat) : Bool := decide (c.length % k = 0) && decide (c.drop k ++ c.take k = c)
def perOk (c : List Nat) (k : Nat) : Bool := decide (c.length % k = 0) && decide ((List.replicate (c.length / k) (c.take k)).flatten = c)
theorem flat_comm {α : Type} (t : List α) : ∀ q : Nat, t ++ (List.replicate q t).flatten = (List.replicate q t).flatten ++ t
  | 0 => by simp
  | q + 1 => by
    rw [List.replicate_succ, List.flatten_cons, List.append_assoc, ← flat_comm t q]
theorem flat_of_shift {α : Type} (k : Nat) (t : List α) : ∀ (q : Nat) (l : List α), l.length = k * q → (0 < q → l.take k = t) → (∀ i, i + k < l.length → l[i + k]? = l[i]?) → l = (List.replicate q t).flatten
  | 0, l, h, _, _ => by
    have : l = [] := List.eq_nil_of_length_eq_zero (by simpa using h)
    subst this
    rfl
  | q + 1, l, h, ht, hs => by
    have e := ht (Nat.succ_pos q)
    have hl : l.length = k * q + k := by rw [h, Nat.mul_succ]
    have ih := flat_of_shift k t q (l.drop k) (by rw [List.length_drop, hl]; omega) (fun hq => by
      rw [← e]
      apply List.ext_getElem?
      intro i
      have hkq : k ≤ k * q := by
        obtain ⟨r, rfl⟩ : ∃ r, q = r + 1 := ⟨q - 1, by omega⟩
        rw [Nat.mul_succ]
        omega
      by_cases hi : i < k
      · rw [List.getElem?_take_of_lt hi, List.getElem?_take_of_lt hi, List.getElem?_drop, Nat.add_comm k i]
        exact hs i (by omega)
      · rw [List.getElem?_eq_none (by rw [List.length_take]; omega), List.getElem?_eq_none (by rw [List.length_take]; omega)]) (fun i hi => by
      rw [List.length_drop] at hi
      rw [List.getElem?_drop, List.getElem?_drop]
      have := hs (k + i) (by omega)
      rw [show k + (i + k) = k + i + k by omega]
      exact this)
    rw [List.replicate_succ, List.flatten_cons, ← ih, ← e, List.take_append_drop]
theorem rot_shift {c : List Nat} {k : Nat} (h : c.drop k ++ c.take k = c) : ∀ i, i + k < c.length → c[i + k]? = c[i]? := fun i hi => by
  have e : (c.drop k ++ c.take k)[i]? = c[i]? := by rw [h]
  rw [List.getElem?_append_left (by rw [List.length_drop]; omega), List.getElem?_drop, Nat.add_comm k i] at e
  exact e
theorem per_rot (c : List Nat) (k : Nat) (hk : 1 ≤ k) (hk' : k ≤ c.length) : perOk c k = rotOk c k := by
  unfold perOk rotOk
  by_cases hd : c.length % k = 0
  · have hq : c.length = k * (c.length / k) := by
      have := Nat.div_add_mod c.length k
      omega
    have hqp : 0 < c.length / k := Nat.div_pos hk' (by omega)
    obtain ⟨q, hq1⟩ : ∃ q, c.length / k = q + 1 := ⟨c.length / k - 1, by omega⟩
    simp only [hd, decide_true, Bool.true_and]
    rw [Bool.eq_iff_iff, decide_eq_true_eq, decide_eq_true_eq, hq1]
    constructor
    · intro h
      have hlen : (c.take k).length = k := by rw [List.length_take]; omega
      have h2 : c = c.take k ++ (List.replicate q (c.take k)).flatten := by
        rw [List.replicate_succ, List.flatten_cons] at h
        exact h.symm
      have h3 : c.drop k = (List.replicate q (c.take k)).flatten := by
        conv => lhs; rw [h2]
        rw [List.drop_append_of_le_length (by omega), List.drop_eq_nil_of_le (by omega), List.nil_append]
      rw [h3, ← flat_comm, ← h2]
    · intro h
      exact (flat_of_shift k (c.take k) (q + 1) c (by rw [← hq1]; exact hq) (fun _ => rfl) (rot_shift h)).symm
  · simp [hd]
/-- 1, .., n -/
def ups (n : Nat) : List Nat := (List.range n).map (· + 1)
def pace (c : List Nat) : Nat := ((ups c.length).find? (rotOk c)).getD c.length
theorem pace_find (c : List Nat) (h : c ≠ []) : (ups c.length).find? (rotOk c) = some (pace c) ∧ 1 ≤ pace c ∧ pace c ≤ c.length ∧ rotOk c (pace c) = true := by
  have hn : 0 < c.length := List.length_pos_iff.mpr h
  have last : rotOk c c.length = true := by
    unfold rotOk
    simp
  have mem : c.length ∈ ups c.length := List.mem_map.mpr ⟨c.length - 1, List.mem_range.mpr (by omega), by omega⟩
  cases e : (ups c.length).find? (rotOk c) with
  | none =>
    have := List.find?_eq_none.mp e _ mem
    exact absurd last this
  | some k =>
    have hp : pace c = k := by unfold pace; rw [e]; rfl
    have hk := List.mem_of_find?_eq_some e
    obtain ⟨i, hi, rfl⟩ := List.mem_map.mp hk
    have := List.mem_range.mp hi
    rw [hp]
    exact ⟨rfl, by omega, by omega, List.find?_some e⟩
theorem pace_per (c : List Nat) : (ups c.length).find? (perOk c) = (ups c.length).find? (rotOk c) := by
  have aux : ∀ l : List Nat, (∀ k ∈ l, 1 ≤ k ∧ k ≤ c.length) → l.find? (perOk c) = l.find? (rotOk c) := by
    intro l
    induction l with
    | nil => intro _; rfl
    | cons k r ih =>
      intro h
      rw [List.find?_cons, List.find?_cons, per_rot c k (h k List.mem_cons_self).1 (h k List.mem_cons_self).2, ih fun x hx => h x (List.mem_cons_of_mem _ hx)]
  refine aux _ fun k hk => ?_
  obtain ⟨i, hi, rfl⟩ := List.mem_map.mp hk
  have := List.mem_range.mp hi
  omega
theorem pace_dvd {c : List Nat} (h : c ≠ []) : c.length % pace c = 0 := by
  have := (pace_find c h).2.2.2
  unfold rotOk at this
  exact of_decide_eq_true (Bool.and_eq_true_iff.mp this).1
theorem pace_shift {c : List Nat} (h : c ≠ []) : ∀ i, i + pace c < c.length → c[i + pace c]? = c[i]? := by
  have := (pace_find c h).2.2.2
  unfold rotOk at this
  exact rot_shift (of_decide_eq_true (Bool.and_eq_true_iff.mp this).2)
/-- the marks fall back while the wheel says the same -/
def startOf (W : List Nat) (p : Nat) : Nat → Nat
  | 0 => 0
  | s + 1 => if W[s]? = W[s + p]? then startOf W p s else s + 1
theorem startOf_le (W : List Nat) (p : Nat) : ∀ s, startOf W p s ≤ s
  | 0 => Nat.le_refl 0
  | s + 1 => by
    unfold startOf
    split
    · exact Nat.le_succ_of_le (startOf_le W p s)
    · exact Nat.le_refl _
theorem startOf_shift (W : List Nat) (p : Nat) : ∀ s i, startOf W p s ≤ i → i < s → W[i + p]? = W[i]?
  | 0, i, _, h => absurd h (Nat.not_lt_zero i)
  | s + 1, i, h, hi => by
    unfold startOf at h
    by_cases e : W[s]? = W[s + p]?
    · rw [if_pos e] at h
      by_cases his : i = s
      · subst his
        exact e.symm
      · exact startOf_shift W p s i h (by omega)
    · rw [if_neg e] at h
      omega
/-- the whole: m marks, then the wheel c once -/
structure Wh (W : List Nat) (b p s : Nat) : Prop where
  hp : 1 ≤ p
  hb : b + p ≤ W.length
  hs : s = startOf W p b
  dv : (W.length - b) % p = 0
  sh : ∀ i, s ≤ i → i + p < W.length → W[i + p]? = W[i]?
theorem wh_of (m c : List Nat) (h : c ≠ []) : Wh (m ++ c) m.length (pace c) (startOf (m ++ c) (pace c) m.length) := by
  obtain ⟨_, h1, h2, _⟩ := pace_find c h
  refine ⟨h1, by rw [List.length_append]; omega, rfl, by rw [List.length_append, Nat.add_sub_cancel_left]; exact pace_dvd h, fun i hi hl => ?_⟩
  by_cases hm : i < m.length
  · exact startOf_shift _ _ _ i hi hm
  · rw [List.length_append] at hl
    rw [List.getElem?_append_right (by omega), List.getElem?_append_right (by omega), show i + pace c - m.length = i - m.length + pace c by omega]
    exact pace_shift h _ (by omega)
section
variable {W : List Nat} {b p s : Nat}
theorem Wh.le (w : Wh W b p s) : s ≤ b := by rw [w.hs]; exact startOf_le W p b
/-- every place past the start is one of the first turn -/
theorem Wh.back (w : Wh W b p s) : ∀ i, s ≤ i → i < W.length → W[i]? = W[s + (i - s) % p]? := by
  intro i
  induction i using Nat.strongRecOn with
  | ind i ih =>
    intro h1 h2
    have hp := w.hp
    by_cases h : i - s < p
    · rw [Nat.mod_eq_of_lt h, show s + (i - s) = i by omega]
    · have e := w.sh (i - p) (by omega) (by omega)
      rw [show i - p + p = i by omega] at e
      rw [e, ih (i - p) (by omega) (by omega) (by omega)]
      have : (i - s) % p = (i - p - s) % p := by
        rw [show i - s = i - p - s + p by omega, Nat.add_mod_right]
      rw [this]
theorem Wh.len (w : Wh W b p s) : s + p ≤ W.length := by
  have := w.hb
  have := w.le
  omega
/-- the mark at any place: by the short form, and by the law -/
theorem Wh.mark (w : Wh W b p s) (n : Nat) : (if n < s then W[n]? else W[s + (n - s) % p]?) = (if n < W.length then W[n]? else W[b + (n - b) % (W.length - b)]?) := by
  have hp := w.hp
  have hb := w.hb
  have hle := w.le
  have hlen := w.len
  by_cases h1 : n < s
  · rw [if_pos h1, if_pos (by omega)]
  · rw [if_neg h1]
    by_cases h2 : n < W.length
    · rw [if_pos h2, w.back n (by omega) h2]
    · rw [if_neg h2]
      have hm : (n - b) % (W.length - b) < W.length - b := Nat.mod_lt _ (by omega)
      rw [w.back (b + (n - b) % (W.length - b)) (by omega) (by omega)]
      have e : (b + (n - b) % (W.length - b) - s) % p = (n - s) % p := by
        have dv := w.dv
        obtain ⟨q, hq⟩ := Nat.dvd_of_mod_eq_zero dv
        have e1 : n - b = (W.length - b) * ((n - b) / (W.length - b)) + (n - b) % (W.length - b) := (Nat.div_add_mod _ _).symm
        have e2 : n - s = (b + (n - b) % (W.length - b) - s) + p * (q * ((n - b) / (W.length - b))) := by
          rw [← Nat.mul_assoc, ← hq]
          omega
        rw [e2, Nat.add_mul_mod_self_left]
      rw [e]
end
/-! ### the row of truth values that marks and a wheel stand for; its least form -/
def sq (m c : List Nat) (n : Nat) : Nat := if n < m.length then m.getD n 0 else c.getD ((n - m.length) % c.length) 0
def Per (f : Nat → Nat) (s p : Nat) : Prop := ∀ n, s ≤ n → f (n + p) = f n
theorem Per.mul {f : Nat → Nat} {s p : Nat} (h : Per f s p) : ∀ k, Per f s (p * k)
  | 0 => fun n _ => by rw [Nat.mul_zero, Nat.add_zero]
  | k + 1 => fun n hn => by
    rw [Nat.mul_succ, ← Nat.add_assoc, h _ (by omega), Per.mul h k n hn]
theorem Per.sub {f : Nat → Nat} {s p q : Nat} (h : Per f s p) (h' : Per f s q) (hl : q ≤ p) : Per f s (p - q) := fun n hn => by
  rw [← h' (n + (p - q)) (by omega), show n + (p - q) + q = n + p by omega, h n hn]
theorem Per.mod {f : Nat → Nat} {s p q : Nat} (h : Per f s p) (h' : Per f s q) : Per f s (p % q) := by
  have e : p % q = p - q * (p / q) := by
    have := Nat.div_add_mod p q
    omega
  have hl : q * (p / q) ≤ p := by
    have := Nat.div_add_mod p q
    omega
  rw [e]
  exact h.sub (h'.mul _) hl
theorem Per.up {f : Nat → Nat} {s s' p : Nat} (h : Per f s p) (hs : s ≤ s') : Per f s' p := fun n hn => h n (by omega)
/-- a period from far on is one from s on, where there is any from s on -/
theorem Per.down {f : Nat → Nat} {s s' p q : Nat} (h : Per f s p) (hp : 1 ≤ p) (h' : Per f s' q) : Per f s q := fun n hn => by
  have e1 := h.mul s' n hn
  have e2 := h.mul s' (n + q) (by omega)
  have hk : s' ≤ p * s' := Nat.le_mul_of_pos_left s' (by omega)
  rw [← e1, ← e2, show n + q + p * s' = n + p * s' + q by omega]
  exact h' _ (by omega)
theorem Per.at {f : Nat → Nat} {s p : Nat} (h : Per f s p) (hp : 1 ≤ p) (n : Nat) (hn : s ≤ n) : f n = f (s + (n - s) % p) := by
  have e : n = s + (n - s) % p + p * ((n - s) / p) := by
    have := Nat.div_add_mod (n - s) p
    omega
  conv => lhs; rw [e]
  exact h.mul _ _ (by omega)
theorem sq_per (m c : List Nat) (h : c ≠ []) : Per (sq m c) m.length c.length := fun n hn => by
  unfold sq
  rw [if_neg (by omega), if_neg (by omega), show n + c.length - m.length = n - m.length + c.length by omega, Nat.add_mod_right]
theorem sq_lt {m c : List Nat} {n : Nat} (h : n < (m ++ c).length) : (m ++ c)[n]? = some (sq m c n) := by
  unfold sq
  rw [List.length_append] at h
  by_cases hn : n < m.length
  · rw [if_pos hn, List.getElem?_append_left hn, List.getElem?_eq_getElem hn, List.getD_eq_getElem?_getD, List.getElem?_eq_getElem hn]
    rfl
  · rw [if_neg hn, List.getElem?_append_right (by omega), Nat.mod_eq_of_lt (by omega), List.getD_eq_getElem?_getD, List.getElem?_eq_getElem (by omega)]
    rfl
theorem sq_wh (m c : List Nat) (h : c ≠ []) (n : Nat) : (if n < (m ++ c).length then (m ++ c)[n]? else (m ++ c)[m.length + (n - m.length) % ((m ++ c).length - m.length)]?) = some (sq m c n) := by
  have hc : 0 < c.length := List.length_pos_iff.mpr h
  by_cases hn : n < (m ++ c).length
  · rw [if_pos hn, sq_lt hn]
  · rw [if_neg hn, List.length_append, Nat.add_sub_cancel_left]
    have hm := Nat.mod_lt (n - m.length) hc
    rw [List.length_append] at hn
    rw [sq_lt (by rw [List.length_append]; omega), (sq_per m c h).at hc n (by omega)]
/-- the least form says the same -/
theorem sq_red (m c : List Nat) (h : c ≠ []) (n : Nat) : (if n < startOf (m ++ c) (pace c) m.length then (m ++ c)[n]? else (m ++ c)[startOf (m ++ c) (pace c) m.length + (n - startOf (m ++ c) (pace c) m.length) % pace c]?) = some (sq m c n) := by
  rw [(wh_of m c h).mark n]
  exact sq_wh m c h n
theorem pace_min {c : List Nat} {k : Nat} (h : c ≠ []) (h1 : 1 ≤ k) (h2 : k ≤ c.length) (hk : rotOk c k = true) : pace c ≤ k := by
  have hf := (pace_find c h).1
  unfold ups at hf
  rw [List.find?_map] at hf
  cases e : (List.range c.length).find? (rotOk c ∘ fun x => x + 1) with
  | none => rw [e] at hf; cases hf
  | some i =>
    rw [e] at hf
    have hi : i + 1 = pace c := by simpa using hf
    by_cases hle : pace c ≤ k
    · exact hle
    · have := List.find?_eq_some_iff_append.mp e
      obtain ⟨_, as, bs, hab, hn⟩ := this
      have hai : as.length = i := by
        have h3 : (List.range c.length)[as.length]? = some i := by rw [hab]; simp
        have h4 : as.length < c.length := by
          have := congrArg List.length hab
          simp at this
          omega
        rw [List.getElem?_range h4] at h3
        exact Option.some.inj h3
      have hmem : k - 1 ∈ as := by
        have h3 : (List.range c.length)[k - 1]? = some (k - 1) := List.getElem?_range (by omega)
        rw [hab, List.getElem?_append_left (by omega)] at h3
        exact List.mem_of_getElem? h3
      have := hn _ hmem
      simp only [Function.comp] at this
      rw [show k - 1 + 1 = k by omega, hk] at this
      cases this
theorem rot_of {m c : List Nat} (h : c ≠ []) {q : Nat} (hq : 1 ≤ q) (hd : c.length % q = 0) (hP : Per (sq m c) m.length q) : rotOk c q = true := by
  have hc : 0 < c.length := List.length_pos_iff.mpr h
  have hql : q ≤ c.length := Nat.le_of_dvd hc (Nat.dvd_of_mod_eq_zero hd)
  have hg : ∀ i, i < c.length → c[i]? = some (sq m c (m.length + i)) := fun i hi => by
    have := sq_lt (m := m) (c := c) (n := m.length + i) (by rw [List.length_append]; omega)
    rw [List.getElem?_append_right (by omega), Nat.add_sub_cancel_left] at this
    exact this
  unfold rotOk
  rw [decide_eq_true hd, Bool.true_and, decide_eq_true_eq]
  apply List.ext_getElem?
  intro i
  by_cases hi : i < c.length
  · rw [hg i hi]
    by_cases hiq : i < c.length - q
    · rw [List.getElem?_append_left (by rw [List.length_drop]; omega), List.getElem?_drop, hg _ (by omega), Nat.add_comm q i, ← Nat.add_assoc, hP _ (by omega)]
    · rw [List.getElem?_append_right (by rw [List.length_drop]; omega), List.length_drop, List.getElem?_take_of_lt (by omega), hg _ (by omega)]
      have e1 := sq_per m c h (m.length + (i - (c.length - q))) (by omega)
      have e2 := hP (m.length + i) (by omega)
      rw [show m.length + (i - (c.length - q)) + c.length = m.length + i + q by omega] at e1
      rw [← e1, e2]
  · rw [List.getElem?_eq_none (by rw [List.length_append, List.length_drop, List.length_take]; omega), List.getElem?_eq_none (by omega)]
theorem pace_le {m c : List Nat} (h : c ≠ []) : ∀ (q : Nat), 1 ≤ q → ∀ s', Per (sq m c) s' q → pace c ≤ q := fun q => by
  induction q using Nat.strongRecOn with
  | _ q ih =>
    intro hq s' hP
    have hc : 0 < c.length := List.length_pos_iff.mpr h
    have hP' := (sq_per m c h).down hc hP
    by_cases hd : c.length % q = 0
    · exact pace_min h hq (Nat.le_of_dvd hc (Nat.dvd_of_mod_eq_zero hd)) (rot_of h hq hd hP')
    · have hlt := Nat.mod_lt c.length (show q > 0 by omega)
      have := ih (c.length % q) hlt (by omega) _ ((sq_per m c h).mod hP')
      omega
theorem sq_min {m c : List Nat} (h : c ≠ []) : Per (sq m c) (startOf (m ++ c) (pace c) m.length) (pace c) := fun n hn => by
  have w := wh_of m c h
  have a := sq_red m c h n
  have b := sq_red m c h (n + pace c)
  rw [if_neg (by omega)] at a
  rw [if_neg (by omega), show n + pace c - startOf (m ++ c) (pace c) m.length = n - startOf (m ++ c) (pace c) m.length + pace c by omega, Nat.add_mod_right] at b
  exact Option.some.inj (b.symm.trans a)
theorem startOf_ne (W : List Nat) (p : Nat) : ∀ b, 0 < startOf W p b → W[startOf W p b - 1]? ≠ W[startOf W p b - 1 + p]?
  | 0, h => absurd h (by unfold startOf; omega)
  | b + 1, h => by
    unfold startOf at h ⊢
    by_cases e : W[b]? = W[b + p]?
    · rw [if_pos e] at h ⊢
      exact startOf_ne W p b h
    · rw [if_neg e]
      exact e
theorem start_le {m c : List Nat} (h : c ≠ []) {s' : Nat} (hP : Per (sq m c) s' (pace c)) : startOf (m ++ c) (pace c) m.length ≤ s' := by
  by_cases hle : startOf (m ++ c) (pace c) m.length ≤ s'
  · exact hle
  · have w := wh_of m c h
    have hl := w.len
    have h1 := w.hp
    have hne := startOf_ne (m ++ c) (pace c) m.length (by omega)
    rw [sq_lt (by omega), sq_lt (by omega)] at hne
    exact absurd (congrArg some (hP _ (by omega)).symm) hne
/-- two that stand for the same row have the same least form -/
theorem red_eq {m c m2 c2 : List Nat} (h : c ≠ []) (h2 : c2 ≠ []) (he : ∀ n, sq m c n = sq m2 c2 n) : pace c = pace c2 ∧ startOf (m ++ c) (pace c) m.length = startOf (m2 ++ c2) (pace c2) m2.length := by
  have he' : sq m c = sq m2 c2 := funext he
  have p1 := sq_min (m := m) h
  have p2 := sq_min (m := m2) h2
  have hp : pace c = pace c2 := by
    have a := pace_le (m := m) h _ (pace_find c2 h2).2.1 _ (by rw [he']; exact p2)
    have b := pace_le (m := m2) h2 _ (pace_find c h).2.1 _ (by rw [← he']; exact p1)
    omega
  refine ⟨hp, ?_⟩
  have a := start_le (m := m) h (s' := startOf (m2 ++ c2) (pace c2) m2.length) (by rw [hp, he']; exact p2)
  have b := start_le (m := m2) h2 (s' := startOf (m ++ c) (pace c) m.length) (by rw [← hp, ← he']; exact p1)
  omega
theorem take_sq {m c : List Nat} {s : Nat} (hs : s ≤ (m ++ c).length) : (m ++ c).take s = (List.range s).map (sq m c) := by
  apply List.ext_getElem?
  intro i
  by_cases hi : i < s
  · rw [List.getElem?_take_of_lt hi, sq_lt (by omega), List.getElem?_map, List.getElem?_range hi]
    rfl
  · rw [List.getElem?_eq_none (by rw [List.length_take]; omega), List.getElem?_eq_none (by rw [List.length_map, List.length_range]; omega)]
theorem cyc_sq {m c : List Nat} {s p : Nat} (hs : s + p ≤ (m ++ c).length) : ((m ++ c).drop s).take p = (List.range p).map fun k => sq m c (s + k) := by
  apply List.ext_getElem?
  intro i
  by_cases hi : i < p
  · rw [List.getElem?_take_of_lt hi, List.getElem?_drop, sq_lt (by omega), List.getElem?_map, List.getElem?_range hi]
    rfl
  · rw [List.getElem?_eq_none (by rw [List.length_take]; omega), List.getElem?_eq_none (by rw [List.length_map, List.length_range]; omega)]
/-- marks and wheel of a row -/
def mF (f : Nat → Nat) (b : Nat) : List Nat := (List.range b).map f
def cF (f : Nat → Nat) (b s : Nat) : List Nat := (List.range s).map fun k => f (b + k)
theorem mF_len (f : Nat → Nat) (b : Nat) : (mF f b).length = b := by unfold mF; simp
theorem cF_len (f : Nat → Nat) (b s : Nat) : (cF f b s).length = s := by unfold cF; simp
theorem cF_ne {f : Nat → Nat} {b s : Nat} (h : 1 ≤ s) : cF f b s ≠ [] := fun e => by
  have := congrArg List.length e
  rw [cF_len] at this
  simp at this
  omega
theorem mcF (f : Nat → Nat) (b s : Nat) : mF f b ++ cF f b s = (List.range (b + s)).map f := by
  unfold mF cF
  rw [List.range_add, List.map_append, List.map_map]
  rfl
theorem sq_F {f : Nat → Nat} {b s : Nat} (hs : 1 ≤ s) (hP : Per f b s) (n : Nat) : sq (mF f b) (cF f b s) n = f n := by
  unfold sq
  rw [mF_len, cF_len]
  by_cases h : n < b
  · rw [if_pos h]
    unfold mF
    rw [List.getD_eq_getElem?_getD, List.getElem?_map, List.getElem?_range h]
    rfl
  · rw [if_neg h]
    unfold cF
    have hm := Nat.mod_lt (n - b) (show s > 0 by omega)
    rw [List.getD_eq_getElem?_getD, List.getElem?_map, List.getElem?_range hm, hP.at hs n (by omega)]
    rfl
end Wn

namespace Wv
open PySem L2
/-! ### texts by their codes -/
def sT (l : List Nat) : Str := ⟨l.toArray⟩
theorem sT_len (l : List Nat) : (sT l).length = l.length := by
  show l.toArray.size = _
  simp
theorem sT_inj {a b : List Nat} (h : sT a = sT b) : a = b := by
  have : (sT a).cps.toList = (sT b).cps.toList := by rw [h]
  simpa [sT] using this
theorem sT_dec (a b : List Nat) : decide (sT a = sT b) = decide (a = b) := by
  rw [decide_eq_decide]
  exact ⟨sT_inj, fun e => by rw [e]⟩
theorem sT_app (a b : List Nat) : sT a ++ sT b = sT (a ++ b) := by
  show (⟨a.toArray ++ b.toArray⟩ : Str) = ⟨(a ++ b).toArray⟩
  simp
section
variable {M : List Mu}
theorem t_lenS {l : List Nat} (h : l.length ≤ 1000000) : fLen [.d (.str (sT l))] M = .ok (.d (.int (l.length : Nat))) M := by
  show (if (sT l).length ≤ sizeLine then Res.ok (Vl.d (.int (sT l).length)) M else .bad) = _
  rw [sT_len, if_pos (by unfold sizeLine; omega)]
theorem t_ixS {l : List Nat} {n c : Nat} (h : l.length ≤ 1000000) (hc : l[n]? = some c) : fIx (.d (.str (sT l))) (.d (.int (n : Nat))) M = .ok (.d (.str (sT [c]))) M := by
  show (if (sT l).length ≤ sizeLine then (match atI (sT l).cps.toList (n : Nat) with | some c => Res.ok (Vl.d (.str ⟨#[c]⟩)) M | none => .bad) else .bad) = _
  rw [sT_len, if_pos (by unfold sizeLine; omega), Wv.atI_nat]
  show (match l[n]? with | some c => Res.ok (Vl.d (.str ⟨#[c]⟩)) M | none => .bad) = _
  rw [hc]
  rfl
theorem t_ixSL {l : List Nat} {c : Nat} (h : l.length ≤ 1000000) (hc : l.getLast? = some c) : fIx (.d (.str (sT l))) (.d (.int (-1))) M = .ok (.d (.str (sT [c]))) M := by
  show (if (sT l).length ≤ sizeLine then (match atI (sT l).cps.toList (-1) with | some c => Res.ok (Vl.d (.str ⟨#[c]⟩)) M | none => .bad) else .bad) = _
  rw [sT_len, if_pos (by unfold sizeLine; omega), Wv.atI_last]
  show (match l.getLast? with | some c => Res.ok (Vl.d (.str ⟨#[c]⟩)) M | none => .bad) = _
  rw [hc]
  rfl
theorem cutS_sT (l : List Nat) (lo hi : Option Int) : cutS (sT l) lo hi = sT ((l.drop (HT.sIx l.length 0 lo)).take (HT.sIx l.length l.length hi - HT.sIx l.length 0 lo)) := by
  unfold cutS
  rw [sT_len]
  rfl
theorem fSl_sT {l : List Nat} (h : l.length ≤ 1000000) (lo hi : Option Int) : fSl (.d (.str (sT l))) lo hi M = .ok (.d (.str (sT ((l.drop (HT.sIx l.length 0 lo)).take (HT.sIx l.length l.length hi - HT.sIx l.length 0 lo))))) M := by
  show (if (sT l).length ≤ sizeLine then Res.ok (Vl.d (.str (cutS (sT l) lo hi))) M else .bad) = _
  rw [sT_len, if_pos (by unfold sizeLine; omega), cutS_sT]
theorem t_takeS {l : List Nat} (h : l.length ≤ 1000000) (n : Nat) : fSl (.d (.str (sT l))) none (some (n : Nat)) M = .ok (.d (.str (sT (l.take n)))) M := by
  rw [fSl_sT h, HT.sIx_nat, HT.sIx_none, Nat.sub_zero, List.drop_zero, ← List.take_eq_take_min]
theorem t_initS {l : List Nat} (h : l.length ≤ 1000000) : fSl (.d (.str (sT l))) none (some (-1)) M = .ok (.d (.str (sT (l.take (l.length - 1))))) M := by
  have e : HT.sIx l.length l.length (some (-1)) = l.length - 1 := by
    show (if (-1 : Int) < 0 then (-1 + (l.length : Int)).toNat else min (-1 : Int).toNat l.length) = _
    rw [if_pos (by decide)]
    omega
  rw [fSl_sT h, e, HT.sIx_none, Nat.sub_zero, List.drop_zero]
theorem t_last8 {l : List Nat} (h : l.length ≤ 1000000) : fSl (.d (.str (sT l))) (some (-8)) none M = .ok (.d (.str (sT (l.drop (l.length - 8))))) M := by
  have e : HT.sIx l.length 0 (some (-8)) = l.length - 8 := by
    show (if (-8 : Int) < 0 then (-8 + (l.length : Int)).toNat else min (-8 : Int).toNat l.length) = _
    rw [if_pos (by decide)]
    omega
  rw [fSl_sT h, e, HT.sIx_none, List.take_of_length_le (by rw [List.length_drop]; omega)]
theorem t_addT {a b : List Nat} (ha : a.length ≤ 1000000) (hb : b.length ≤ 1000000) : fAdd (.d (.str (sT a))) (.d (.str (sT b))) M = .ok (.d (.str (sT (a ++ b)))) M := by
  show (if (sT a).length + (sT b).length ≤ sizeLine then Res.ok (Vl.d (.str (sT a ++ sT b))) M else .bad) = _
  rw [sT_len, sT_len, if_pos (by unfold sizeLine; omega), sT_app]
theorem t_eqT {a b : List Nat} : fEq (.d (.str (sT a))) (.d (.str (sT b))) M = .ok (.d (.bl (decide (a = b)))) M := by
  rw [t_eqS, sT_dec]
theorem t_neT {a b : List Nat} : fNe (.d (.str (sT a))) (.d (.str (sT b))) M = .ok (.d (.bl (!decide (a = b)))) M := by
  rw [t_neS, sT_dec]
theorem repS_sT (l : List Nat) (n : Nat) : repS (sT l) n = sT (List.replicate n l).flatten := by
  unfold repS
  rfl
theorem t_mulT {l : List Nat} {n : Nat} (hn : n ≤ 100000000) (h : l.length * n ≤ 1000000) : fMulS (.d (.str (sT l))) (.d (.int (n : Nat))) M = .ok (.d (.str (sT (List.replicate n l).flatten))) M := by
  have e : fMulS (.d (.str (sT l))) (.d (.int (n : Nat))) M = (if 0 ≤ (n : Int) ∧ (n : Int) < 2 ^ 62 ∧ (sT l).length * (n : Int).toNat ≤ sizeLine then Res.ok (Vl.d (.str (repS (sT l) (n : Int).toNat))) M else .bad) := by
    unfold fMulS
    rfl
  rw [e, sT_len, Int.toNat_natCast, if_pos ⟨by omega, by omega, by unfold sizeLine; omega⟩, repS_sT]
theorem fMulS_int {i j : Int} (h : smallI i = true ∨ smallI j = true) (M : List Mu) : fMulS (.d (.int i)) (.d (.int j)) M = .ok (.d (.int (i * j))) M := fMul_int h M
theorem t_mulLS {i j : Int} {M : List Mu} (h : smallI i = true) : fMulS (.d (.int i)) (.d (.int j)) M = .ok (.d (.int (i * j))) M := fMul_int (.inl h) M
theorem t_mulRS {i j : Int} {M : List Mu} (h : smallI j = true) : fMulS (.d (.int i)) (.d (.int j)) M = .ok (.d (.int (i * j))) M := fMul_int (.inr h) M
theorem strD_sT (l : List Nat) : strD (sT l) = l.map fun c => D.str (sT [c]) := by
  unfold strD
  rfl
theorem t_inT {c : Nat} {z : Str} : fInS false (.d (.str (sT [c]))) (.d (.str z)) M = .ok (.d (.bl (decide (c ∈ z.cps.toList)))) M := rfl
theorem join_sT (ls : List (List Nat)) : Txt.join (sT []) (ls.map sT) = sT ls.flatten := by
  have h : ∀ ls : List (List Nat), Str.join (sT []) (ls.map sT) = sT ls.flatten := fun ls => by
    induction ls with
    | nil => rfl
    | cons a r ih =>
      cases r with
      | nil =>
        show sT a = sT [a].flatten
        simp
      | cons b r =>
        show sT a ++ sT [] ++ Str.join (sT []) ((b :: r).map sT) = _
        rw [ih, sT_app, sT_app, List.append_nil]
        rfl
  exact (PySem.StrLaws.glued_eq_join _ _).trans (h ls)
end
end Wv

namespace K25
open PySem PySem.Spec PyProof.Rows L2 Wv

def top (i : Nat) : Stmt := PySem.Challenge.pw_wovenplaces_k25_rows_that_come_round.main.body.getD i (.Pass ⟨0, 0, 0, 0⟩)
def inC (i j : Nat) : Stmt := match top i with
  | .ClassDef _ _ _ b _ _ _ _ _ _ _ => b.getD j (.Pass ⟨0, 0, 0, 0⟩)
  | _ => .Pass ⟨0, 0, 0, 0⟩
abbrev s__law_card : Stmt := top 16
abbrev N__law_card : List Str := ["_law_deck_here", "_law_top", "_law_figure"]
theorem sc__law_card : FnScope N__law_card ["_law_deck_here", "_law_top"] (defScope s__law_card) := ⟨rfl, rfl, rfl, by decide +kernel, rfl, by decide +kernel, by decide +kernel⟩
abbrev s__law_of : Stmt := top 17
abbrev N__law_of : List Str := ["_law_deck_here", "_law_menu"]
theorem sc__law_of : FnScope N__law_of ["_law_deck_here", "_law_menu"] (defScope s__law_of) := ⟨rfl, rfl, rfl, by decide +kernel, rfl, by decide +kernel, by decide +kernel⟩
abbrev s__law_string : Stmt := top 19
abbrev N__law_string : List Str := ["_law_deck_here", "_law_letters", "_law_size", "_law_k"]
theorem sc__law_string : FnScope N__law_string ["_law_deck_here", "_law_letters", "_law_size"] (defScope s__law_string) := ⟨rfl, rfl, rfl, by decide +kernel, rfl, by decide +kernel, by decide +kernel⟩
abbrev s__law_drawn : Stmt := top 22
abbrev N__law_drawn : List Str := ["_law_deck_here", "_law_letters", "_law_start", "_law_cycle"]
theorem sc__law_drawn : FnScope N__law_drawn ["_law_deck_here", "_law_letters"] (defScope s__law_drawn) := ⟨rfl, rfl, rfl, by decide +kernel, rfl, by decide +kernel, by decide +kernel⟩
abbrev s_are_letters : Stmt := top 9
abbrev N_are_letters : List Str := ["value", "letter"]
theorem sc_are_letters : FnScope N_are_letters ["value"] (defScope s_are_letters) := ⟨rfl, rfl, rfl, by decide +kernel, rfl, by decide +kernel, by decide +kernel⟩
abbrev s_shortest_head : Stmt := top 12
abbrev N_shortest_head : List Str := ["head", "loop"]
theorem sc_shortest_head : FnScope N_shortest_head ["head", "loop"] (defScope s_shortest_head) := ⟨rfl, rfl, rfl, by decide +kernel, rfl, by decide +kernel, by decide +kernel⟩
abbrev s_shortest_loop : Stmt := top 11
abbrev N_shortest_loop : List Str := ["loop", "size"]
theorem sc_shortest_loop : FnScope N_shortest_loop ["loop"] (defScope s_shortest_loop) := ⟨rfl, rfl, rfl, by decide +kernel, rfl, by decide +kernel, by decide +kernel⟩
abbrev s_Round___init__ : Stmt := inC 13 0
abbrev N_Round___init__ : List Str := ["self", "head", "loop"]
theorem sc_Round___init__ : FnScope N_Round___init__ ["self", "head", "loop"] (defScope s_Round___init__) := ⟨rfl, rfl, rfl, by decide +kernel, rfl, by decide +kernel, by decide +kernel⟩
abbrev s__law_sign : Stmt := top 20
abbrev N__law_sign : List Str := ["_law_start", "_law_cycle", "_law_spot"]
theorem sc__law_sign : FnScope N__law_sign ["_law_start", "_law_cycle", "_law_spot"] (defScope s__law_sign) := ⟨rfl, rfl, rfl, by decide +kernel, rfl, by decide +kernel, by decide +kernel⟩
abbrev s__law_least : Stmt := top 21
abbrev N__law_least : List Str := ["_law_start", "_law_cycle", "_law_line", "_law_size", "_law_length", "_law_spot", "_law_k"]
theorem sc__law_least : FnScope N__law_least ["_law_start", "_law_cycle"] (defScope s__law_least) := ⟨rfl, rfl, rfl, by decide +kernel, rfl, by decide +kernel, by decide +kernel⟩
abbrev s_Round_head : Stmt := inC 13 1
abbrev N_Round_head : List Str := ["self"]
theorem sc_Round_head : FnScope N_Round_head ["self"] (defScope s_Round_head) := ⟨rfl, rfl, rfl, by decide +kernel, rfl, by decide +kernel, by decide +kernel⟩
abbrev s_Round_loop : Stmt := inC 13 2
abbrev N_Round_loop : List Str := ["self"]
theorem sc_Round_loop : FnScope N_Round_loop ["self"] (defScope s_Round_loop) := ⟨rfl, rfl, rfl, by decide +kernel, rfl, by decide +kernel, by decide +kernel⟩
abbrev s_Round___str__ : Stmt := inC 13 7
abbrev N_Round___str__ : List Str := ["self"]
theorem sc_Round___str__ : FnScope N_Round___str__ ["self"] (defScope s_Round___str__) := ⟨rfl, rfl, rfl, by decide +kernel, rfl, by decide +kernel, by decide +kernel⟩
abbrev s_Round___repr__ : Stmt := inC 13 8
abbrev N_Round___repr__ : List Str := ["self"]
theorem sc_Round___repr__ : FnScope N_Round___repr__ ["self"] (defScope s_Round___repr__) := ⟨rfl, rfl, rfl, by decide +kernel, rfl, by decide +kernel, by decide +kernel⟩
abbrev s_is_integer : Stmt := top 6
abbrev N_is_integer : List Str := ["value"]
theorem sc_is_integer : FnScope N_is_integer ["value"] (defScope s_is_integer) := ⟨rfl, rfl, rfl, by decide +kernel, rfl, by decide +kernel, by decide +kernel⟩
abbrev s_is_number : Stmt := top 7
abbrev N_is_number : List Str := ["value"]
theorem sc_is_number : FnScope N_is_number ["value"] (defScope s_is_number) := ⟨rfl, rfl, rfl, by decide +kernel, rfl, by decide +kernel, by decide +kernel⟩
abbrev s_check_number : Stmt := top 8
abbrev N_check_number : List Str := ["value"]
theorem sc_check_number : FnScope N_check_number ["value"] (defScope s_check_number) := ⟨rfl, rfl, rfl, by decide +kernel, rfl, by decide +kernel, by decide +kernel⟩
abbrev s_Round_first : Stmt := inC 13 3
abbrev N_Round_first : List Str := ["self", "many", "rounds"]
theorem sc_Round_first : FnScope N_Round_first ["self", "many"] (defScope s_Round_first) := ⟨rfl, rfl, rfl, by decide +kernel, rfl, by decide +kernel, by decide +kernel⟩
abbrev s__law_far : Stmt := top 18
abbrev N__law_far : List Str := ["_law_deck_here", "_law_groups", "_law_found", "_law_k"]
theorem sc__law_far : FnScope N__law_far ["_law_deck_here", "_law_groups"] (defScope s__law_far) := ⟨rfl, rfl, rfl, by decide +kernel, rfl, by decide +kernel, by decide +kernel⟩
abbrev s_Round___getitem__ : Stmt := inC 13 4
abbrev N_Round___getitem__ : List Str := ["self", "at"]
theorem sc_Round___getitem__ : FnScope N_Round___getitem__ ["self", "at"] (defScope s_Round___getitem__) := ⟨rfl, rfl, rfl, by decide +kernel, rfl, by decide +kernel, by decide +kernel⟩
abbrev s_Round___eq__ : Stmt := inC 13 6
abbrev N_Round___eq__ : List Str := ["self", "other"]
theorem sc_Round___eq__ : FnScope N_Round___eq__ ["self", "other"] (defScope s_Round___eq__) := ⟨rfl, rfl, rfl, by decide +kernel, rfl, by decide +kernel, by decide +kernel⟩
abbrev s__law_right : Stmt := top 23
abbrev N__law_right : List Str := ["_law_deck_here", "_law_letters", "_law_start", "_law_cycle", "_law_mine", "_law_least_here", "_law_line", "_law_brief", "_law_size", "_law_spot", "_law_begin", "_law_again", "_law_mate", "_law_is_same"]
theorem sc__law_right : FnScope N__law_right ["_law_deck_here"] (defScope s__law_right) := ⟨rfl, rfl, rfl, by decide +kernel, rfl, by decide +kernel, by decide +kernel⟩
abbrev s__law_deck : Stmt := top 15
abbrev N__law_deck : List Str := ["_law_cells", "_law_turn", "_law_cell", "_law_mixed", "_law_each"]
theorem sc__law_deck : FnScope N__law_deck ["_law_cells", "_law_turn"] (defScope s__law_deck) := ⟨rfl, rfl, rfl, by decide +kernel, rfl, by decide +kernel, by decide +kernel⟩
abbrev s_law : Stmt := top 24
abbrev N_law : List Str := ["_law_cells", "_law_turn"]
theorem sc_law : FnScope N_law ["_law_cells"] (defScope s_law) := ⟨rfl, rfl, rfl, by decide +kernel, rfl, by decide +kernel, by decide +kernel⟩
end K25

namespace K25
open PySem PySem.Spec PyProof.Rows L2 Wv
/-! the text -/
structure Txt (K : PySem.W.Frag) (mg : Str → Option Value) : Prop where
  d_law : DefAt K (He.ga K "law") "law" "law" s_law
  n_len : mg "len" = none
  n_min : mg "min" = none
  n_max : mg "max" = none
  n_range : mg "range" = none
  m__law_right : mg "_law_right" = some (.ref (He.ga K "_law_right"))
  d__law_right : DefAt K (He.ga K "_law_right") "_law_right" "_law_right" s__law_right
  m__law_card : mg "_law_card" = some (.ref (He.ga K "_law_card"))
  d__law_card : DefAt K (He.ga K "_law_card") "_law_card" "_law_card" s__law_card
  n_divmod : mg "divmod" = none
  n_int : mg "int" = none
  m__law_drawn : mg "_law_drawn" = some (.ref (He.ga K "_law_drawn"))
  d__law_drawn : DefAt K (He.ga K "_law_drawn") "_law_drawn" "_law_drawn" s__law_drawn
  m__law_string : mg "_law_string" = some (.ref (He.ga K "_law_string"))
  d__law_string : DefAt K (He.ga K "_law_string") "_law_string" "_law_string" s__law_string
  m__law_of : mg "_law_of" = some (.ref (He.ga K "_law_of"))
  d__law_of : DefAt K (He.ga K "_law_of") "_law_of" "_law_of" s__law_of
  d_Round___init__ : DefAt K (He.ma K (He.ga K "Round") "__init__") "__init__" "Round.__init__" s_Round___init__
  m_are_letters : mg "are_letters" = some (.ref (He.ga K "are_letters"))
  d_are_letters : DefAt K (He.ga K "are_letters") "are_letters" "are_letters" s_are_letters
  n_isinstance : mg "isinstance" = none
  n_str : mg "str" = none
  i_LETTERS : ∃ t, mg "LETTERS" = some (.str "abcdefghijklmnopqrstuvwxyz" t)
  n_all : mg "all" = none
  m_shortest_head : mg "shortest_head" = some (.ref (He.ga K "shortest_head"))
  d_shortest_head : DefAt K (He.ga K "shortest_head") "shortest_head" "shortest_head" s_shortest_head
  m_shortest_loop : mg "shortest_loop" = some (.ref (He.ga K "shortest_loop"))
  d_shortest_loop : DefAt K (He.ga K "shortest_loop") "shortest_loop" "shortest_loop" s_shortest_loop
  cls_Round : Cls K (He.ga K "Round")
  na_Round_cycle : NoAttr K (He.ga K "Round") "cycle"
  na_Round_begin : NoAttr K (He.ga K "Round") "begin"
  mk_Round : Mk K (He.ga K "Round") (He.ma K (He.ga K "Round") "__init__")
  m_Round : mg "Round" = some (.ref (He.ga K "Round"))
  m__law_least : mg "_law_least" = some (.ref (He.ga K "_law_least"))
  d__law_least : DefAt K (He.ga K "_law_least") "_law_least" "_law_least" s__law_least
  m__law_sign : mg "_law_sign" = some (.ref (He.ga K "_law_sign"))
  d__law_sign : DefAt K (He.ga K "_law_sign") "_law_sign" "_law_sign" s__law_sign
  d_Round_head : DefAt K (pgA "Round" "head" K) "head" "Round.head" s_Round_head
  pr_Round_head : PropOf K (He.ga K "Round") "head" (He.ma K (He.ga K "Round") "head") (pgA "Round" "head" K)
  d_Round_loop : DefAt K (pgA "Round" "loop" K) "loop" "Round.loop" s_Round_loop
  pr_Round_loop : PropOf K (He.ga K "Round") "loop" (He.ma K (He.ga K "Round") "loop") (pgA "Round" "loop" K)
  d_Round___str__ : DefAt K (He.ma K (He.ga K "Round") "__str__") "__str__" "Round.__str__" s_Round___str__
  me_Round___str__ : Meth K (He.ga K "Round") "__str__" (He.ma K (He.ga K "Round") "__str__")
  d_Round___repr__ : DefAt K (He.ma K (He.ga K "Round") "__repr__") "__repr__" "Round.__repr__" s_Round___repr__
  me_Round___repr__ : Meth K (He.ga K "Round") "__repr__" (He.ma K (He.ga K "Round") "__repr__")
  n_repr : mg "repr" = none
  d_Round_first : DefAt K (He.ma K (He.ga K "Round") "first") "first" "Round.first" s_Round_first
  m_check_number : mg "check_number" = some (.ref (He.ga K "check_number"))
  d_check_number : DefAt K (He.ga K "check_number") "check_number" "check_number" s_check_number
  m_is_number : mg "is_number" = some (.ref (He.ga K "is_number"))
  d_is_number : DefAt K (He.ga K "is_number") "is_number" "is_number" s_is_number
  m_is_integer : mg "is_integer" = some (.ref (He.ga K "is_integer"))
  d_is_integer : DefAt K (He.ga K "is_integer") "is_integer" "is_integer" s_is_integer
  n_bool : mg "bool" = none
  me_Round_first : Meth K (He.ga K "Round") "first" (He.ma K (He.ga K "Round") "first")
  n_list : mg "list" = none
  m__law_far : mg "_law_far" = some (.ref (He.ga K "_law_far"))
  d__law_far : DefAt K (He.ga K "_law_far") "_law_far" "_law_far" s__law_far
  d_Round___getitem__ : DefAt K (He.ma K (He.ga K "Round") "__getitem__") "__getitem__" "Round.__getitem__" s_Round___getitem__
  me_Round___getitem__ : Meth K (He.ga K "Round") "__getitem__" (He.ma K (He.ga K "Round") "__getitem__")
  d_Round___eq__ : DefAt K (He.ma K (He.ga K "Round") "__eq__") "__eq__" "Round.__eq__" s_Round___eq__
  kb_tuple_Round : PySem.W.kitOne K (.type "tuple") (.ref (He.ga K "Round")) = some false
  kb_str_Round : PySem.W.kitOne K (.type "str") (.ref (He.ga K "Round")) = some false
  it_Round : InsT K (He.ga K "Round")
  kc_Round_Round : PySem.W.kitOne K (.ref (He.ga K "Round")) (.ref (He.ga K "Round")) = some true
  sb_tuple_Round : PySem.W.subIn K (.type "tuple") (.ref (He.ga K "Round")) = some false
  sb_str_Round : PySem.W.subIn K (.type "str") (.ref (He.ga K "Round")) = some false
  nf_Round_Round : PySem.W.notFirst K (He.ga K "Round") (.ref (He.ga K "Round")) = true
  me_Round___eq__ : Meth K (He.ga K "Round") "__eq__" (He.ma K (He.ga K "Round") "__eq__")
  ob_Round : PySem.W.subIn K (.ref (He.ga K "Round")) (.type "object") = some true
  ne_Round : PySem.W.findIn K (.ref (He.ga K "Round")) "__ne__" = some (some (.builtin "object.__ne__"))
  m__law_deck : mg "_law_deck" = some (.ref (He.ga K "_law_deck"))
  d__law_deck : DefAt K (He.ga K "_law_deck") "_law_deck" "_law_deck" s__law_deck
  n_abs : mg "abs" = none
  m_law : mg "law" = some (.ref (He.ga K "law"))
/-! what the defs do, and the walks -/
section
variable {P : Program} {w : World} {K : PySem.W.Frag} {mg : Str → Option Value} {base : Heap}
def b__law_card : Ss := (sSeq (sAsg (eOp fAdd (eOp fIx (eVar 0) (eC (.int 2))) (eC (.int 1))) (gS (eVar 0) (eC (.int 2))))
  (sSeq (sIf (eBool (eOp fGt (eOp fIx (eVar 0) (eC (.int 0))) (eC (.int 0)))) (sSeq (sAsg (eAp fDivmod (eCons (eOp fIx (eVar 0) (eC (.int 0))) (eCons (eVar 1) eNil))) (gT 2 (gAnd (gS (eVar 0) (eC (.int 0))) (gAnd (gN 2) gEnd))))
  (sRet (eVar 2))) sNext)
  (sSeq (sAsg (eOp fMod (eAp fInt (eCons (eOp fAdd (eOp fMulS (eOp fIx (eVar 0) (eC (.int 1))) (eC (.int 39373))) (eOp fMulS (eC (.int 4801)) (eOp fIx (eVar 0) (eC (.int 2))))) eNil)) (eC (.int 2147483629))) (gS (eVar 0) (eC (.int 1))))
  (sRet (eOp fMod (eAp fInt (eCons (eOp fDiv (eOp fIx (eVar 0) (eC (.int 1))) (eC (.int 1024))) eNil)) (eVar 1))))))
def m__law_card : FS := fun xs M => if xs.length = 2 then fnS exitR 3 b__law_card (pick [0, 1] xs) M else .bad
theorem u__law_card {x0 x1 : Vl} {M : List Mu} : m__law_card [x0, x1] M = exitR M.length (b__law_card [some x0, some x1, none] M) := rfl
theorem g__law_card (T : Txt K mg) : FnG P w K mg base 1 (He.ga K "_law_card") [] m__law_card := by
  obtain ⟨oc, od, kV, doc, pm, an, cdv, ct, osl, lk, hcd, kp⟩ := T.d__law_card
  have hb : ∀ us ws : List Value, us.length + ws.length = 2 → ws.length = ([] : List Str).length → bindArgs (PySem.W.fnOf "_law_card" "_law_card" (defArgs s__law_card) (defBody s__law_card) (defScope s__law_card) .none kV doc pm an cdv ct) ⟨us, ([] : List Str).zip ws⟩ = pure ((["_law_deck_here", "_law_top"] : List Str).zip (pick [0, 1] (us ++ ws))) := by
    intro us ws h1 h2
    cases List.eq_nil_of_length_eq_zero (show ws.length = 0 from h2)
    exact match us, (show us.length = 2 from h1) with | [_, _], _ => rfl
  have hp : ∀ vs : List V, vs.length = 2 → (pick [0, 1] vs).length = (["_law_deck_here", "_law_top"] : List Str).length := fun vs h => match vs, h with | [_, _], _ => rfl
  have hd := fnG_def (P := P) (w := w) (mg := mg) (base := base) (k := 0) (b := b__law_card) ([] : List Str) [0, 1] 2 exitR_ok lk hcd sc__law_card hb hp
  refine hd fun A outer s H E gd hr => ?_
  exact (js_cons (js_asg (j_op op_addA os_add (j_ix (j_var 0) j_int (fun _ _ => rfl)) j_int) (jg_sub (W := W0) (j_var 0) j_int))
  (js_cons (js_if (jt_cmp op_gt os_gt (j_ix (j_var 0) j_int (fun _ _ => rfl)) j_int (nomark _)) (js_cons (js_asg (j_callB call_divmod cs_divmod rfl T.n_divmod bt_divmod (ja_cons (j_ix (j_var 0) j_int (fun _ _ => rfl)) (ja_cons (j_var 1) ja_nil))) (jg_tup rfl (jgs_cons (jg_sub (W := W0) (j_var 0) j_int) (jgs_cons (jg_name (i := 2) sc__law_card.nd rfl (Or.inl rfl)) jgs_nil))))
  (js_one (js_ret (j_var 2)))) js_nil)
  (js_cons (js_asg (j_op op_mod os_mod (j_callTy call_int1 cs_int rfl T.n_int bt_int (ja_cons (j_op op_addA os_add (j_op (op_mulA.or op_mul_str) os_mulS (j_ix (j_var 0) j_int (fun _ _ => rfl)) j_int) (j_op (op_mulA.or op_mul_str) os_mulS j_int (j_ix (j_var 0) j_int (fun _ _ => rfl)))) ja_nil)) j_int) (jg_sub (W := W0) (j_var 0) j_int))
  (js_one (js_ret (j_op op_mod os_mod (j_callTy call_int1 cs_int rfl T.n_int bt_int (ja_cons (j_op op_fdiv os_div (j_ix (j_var 0) j_int (fun _ _ => rfl)) j_int) ja_nil)) (j_var 1)))))))
def b__law_of : Ss := (sRet (eOp fIx (eVar 1) (eAp m__law_card (eCons (eVar 0) (eCons (eAp fLen (eCons (eVar 1) eNil)) eNil)))))
def m__law_of : FS := fun xs M => if xs.length = 2 then fnS exitR 2 b__law_of (pick [0, 1] xs) M else .bad
theorem u__law_of {x0 x1 : Vl} {M : List Mu} : m__law_of [x0, x1] M = exitR M.length (b__law_of [some x0, some x1] M) := rfl
theorem g__law_of (T : Txt K mg) : FnG P w K mg base 2 (He.ga K "_law_of") [] m__law_of := by
  obtain ⟨oc, od, kV, doc, pm, an, cdv, ct, osl, lk, hcd, kp⟩ := T.d__law_of
  have hb : ∀ us ws : List Value, us.length + ws.length = 2 → ws.length = ([] : List Str).length → bindArgs (PySem.W.fnOf "_law_of" "_law_of" (defArgs s__law_of) (defBody s__law_of) (defScope s__law_of) .none kV doc pm an cdv ct) ⟨us, ([] : List Str).zip ws⟩ = pure ((["_law_deck_here", "_law_menu"] : List Str).zip (pick [0, 1] (us ++ ws))) := by
    intro us ws h1 h2
    cases List.eq_nil_of_length_eq_zero (show ws.length = 0 from h2)
    exact match us, (show us.length = 2 from h1) with | [_, _], _ => rfl
  have hp : ∀ vs : List V, vs.length = 2 → (pick [0, 1] vs).length = (["_law_deck_here", "_law_menu"] : List Str).length := fun vs h => match vs, h with | [_, _], _ => rfl
  have hd := fnG_def (P := P) (w := w) (mg := mg) (base := base) (k := 1) (b := b__law_of) ([] : List Str) [0, 1] 2 exitR_ok lk hcd sc__law_of hb hp
  refine hd fun A outer s H E gd hr => ?_
  exact (js_one (js_ret (j_ix (j_var 1) (j_call ((g__law_card T).mono (by decide)) gd hr (takes_of rfl rfl rfl rfl) rfl T.m__law_card T.d__law_card.kp (ja_cons (j_var 0) (ja_cons (j_callB call_len cs_len rfl T.n_len bt_len (ja_cons (j_var 1) ja_nil)) ja_nil))) (fun _ _ => rfl))))
def b__law_string : Ss := (sRet (eJoin (eC (.str "")) (eLc (eRng1 (eCons (eVar 2) eNil)) (cName 3) eTrue (eAp m__law_of (eCons (eVar 0) (eCons (eVar 1) eNil))) [3])))
def m__law_string : FS := fun xs M => if xs.length = 3 then fnS exitR 4 b__law_string (pick [0, 1, 2] xs) M else .bad
theorem u__law_string {x0 x1 x2 : Vl} {M : List Mu} : m__law_string [x0, x1, x2] M = exitR M.length (b__law_string [some x0, some x1, some x2, none] M) := rfl
theorem g__law_string (T : Txt K mg) : FnG P w K mg base 3 (He.ga K "_law_string") [] m__law_string := by
  obtain ⟨oc, od, kV, doc, pm, an, cdv, ct, osl, lk, hcd, kp⟩ := T.d__law_string
  have hb : ∀ us ws : List Value, us.length + ws.length = 3 → ws.length = ([] : List Str).length → bindArgs (PySem.W.fnOf "_law_string" "_law_string" (defArgs s__law_string) (defBody s__law_string) (defScope s__law_string) .none kV doc pm an cdv ct) ⟨us, ([] : List Str).zip ws⟩ = pure ((["_law_deck_here", "_law_letters", "_law_size"] : List Str).zip (pick [0, 1, 2] (us ++ ws))) := by
    intro us ws h1 h2
    cases List.eq_nil_of_length_eq_zero (show ws.length = 0 from h2)
    exact match us, (show us.length = 3 from h1) with | [_, _, _], _ => rfl
  have hp : ∀ vs : List V, vs.length = 3 → (pick [0, 1, 2] vs).length = (["_law_deck_here", "_law_letters", "_law_size"] : List Str).length := fun vs h => match vs, h with | [_, _, _], _ => rfl
  have hd := fnG_def (P := P) (w := w) (mg := mg) (base := base) (k := 2) (b := b__law_string) ([] : List Str) [0, 1, 2] 3 exitR_ok lk hcd sc__law_string hb hp
  refine hd fun A outer s H E gd hr => ?_
  exact (js_one (js_ret (j_join j_str (j_lc (own := [("_law_k", 3)]) rfl sc__law_string.nd (ji_range1 rfl T.n_range (ja_cons (j_var 2) ja_nil)) (blkOk_by (N := N__law_string) (sc := defScope s__law_string) (own := [("_law_k", 3)]) (by decide +kernel)) (ct_name (by decide)) (fun s H C cl fp => (pg_name (i := 3) sc__law_string.nd rfl (Or.inl rfl))) (fun s H C cl fp => jts_nil) (fun s H C cl fp => (j_call ((g__law_of T).mono (by decide)) gd hr takes0 rfl T.m__law_of T.d__law_of.kp (ja_cons (j_var 0) (ja_cons (j_var 1) ja_nil))))))))
def b__law_drawn : Ss := (sSeq (sAsg (eAp m__law_string (eCons (eVar 0) (eCons (eVar 1) (eCons (eAp m__law_card (eCons (eVar 0) (eCons (eC (.int 9)) eNil))) eNil)))) (gN 2))
  (sSeq (sAsg (eAp m__law_string (eCons (eVar 0) (eCons (eVar 1) (eCons (eOp fAdd (eC (.int 1)) (eAp m__law_card (eCons (eVar 0) (eCons (eC (.int 4)) eNil)))) eNil)))) (gN 3))
  (sSeq (sIf (eBool (eOp fEq (eAp m__law_card (eCons (eVar 0) (eCons (eC (.int 2)) eNil))) (eC (.int 0)))) (sAsg (eOp fAdd (eVar 3) (eVar 3)) (gN 3)) sNext)
  (sSeq (sIf (eBool (eOp fEq (eAp m__law_card (eCons (eVar 0) (eCons (eC (.int 2)) eNil))) (eC (.int 0)))) (sAsg (eSl (eOp fAdd (eSl (eVar 2) eNoPart (ePart (eC (.int 4)))) (eVar 3)) (ePart (eUn fNeg (eC (.int 8)))) eNoPart) (gN 2)) sNext)
  (sRet (eTup (eCons (eVar 2) (eCons (eVar 3) eNil))))))))
def m__law_drawn : FS := fun xs M => if xs.length = 2 then fnS exitR 4 b__law_drawn (pick [0, 1] xs) M else .bad
theorem u__law_drawn {x0 x1 : Vl} {M : List Mu} : m__law_drawn [x0, x1] M = exitR M.length (b__law_drawn [some x0, some x1, none, none] M) := rfl
theorem g__law_drawn (T : Txt K mg) : FnG P w K mg base 4 (He.ga K "_law_drawn") [] m__law_drawn := by
  obtain ⟨oc, od, kV, doc, pm, an, cdv, ct, osl, lk, hcd, kp⟩ := T.d__law_drawn
  have hb : ∀ us ws : List Value, us.length + ws.length = 2 → ws.length = ([] : List Str).length → bindArgs (PySem.W.fnOf "_law_drawn" "_law_drawn" (defArgs s__law_drawn) (defBody s__law_drawn) (defScope s__law_drawn) .none kV doc pm an cdv ct) ⟨us, ([] : List Str).zip ws⟩ = pure ((["_law_deck_here", "_law_letters"] : List Str).zip (pick [0, 1] (us ++ ws))) := by
    intro us ws h1 h2
    cases List.eq_nil_of_length_eq_zero (show ws.length = 0 from h2)
    exact match us, (show us.length = 2 from h1) with | [_, _], _ => rfl
  have hp : ∀ vs : List V, vs.length = 2 → (pick [0, 1] vs).length = (["_law_deck_here", "_law_letters"] : List Str).length := fun vs h => match vs, h with | [_, _], _ => rfl
  have hd := fnG_def (P := P) (w := w) (mg := mg) (base := base) (k := 3) (b := b__law_drawn) ([] : List Str) [0, 1] 2 exitR_ok lk hcd sc__law_drawn hb hp
  refine hd fun A outer s H E gd hr => ?_
  exact (js_cons (js_set (i := 2) sc__law_drawn.nd rfl (Or.inl rfl) (j_call ((g__law_string T).mono (by decide)) gd hr (takes_of rfl rfl rfl rfl) rfl T.m__law_string T.d__law_string.kp (ja_cons (j_var 0) (ja_cons (j_var 1) (ja_cons (j_call ((g__law_card T).mono (by decide)) gd hr (takes_of rfl rfl rfl rfl) rfl T.m__law_card T.d__law_card.kp (ja_cons (j_var 0) (ja_cons j_int ja_nil))) ja_nil)))))
  (js_cons (js_set (i := 3) sc__law_drawn.nd rfl (Or.inl rfl) (j_call ((g__law_string T).mono (by decide)) gd hr (takes_of rfl rfl rfl rfl) rfl T.m__law_string T.d__law_string.kp (ja_cons (j_var 0) (ja_cons (j_var 1) (ja_cons (j_op op_addA os_add j_int (j_call ((g__law_card T).mono (by decide)) gd hr (takes_of rfl rfl rfl rfl) rfl T.m__law_card T.d__law_card.kp (ja_cons (j_var 0) (ja_cons j_int ja_nil)))) ja_nil)))))
  (js_cons (js_if (jt_cmp (op_eqA hr.units) os_eq (j_call ((g__law_card T).mono (by decide)) gd hr (takes_of rfl rfl rfl rfl) rfl T.m__law_card T.d__law_card.kp (ja_cons (j_var 0) (ja_cons j_int ja_nil))) j_int (nomark _)) (js_one (js_set (i := 3) sc__law_drawn.nd rfl (Or.inl rfl) (j_op op_addA os_add (j_var 3) (j_var 3)))) js_nil)
  (js_cons (js_if (jt_cmp (op_eqA hr.units) os_eq (j_call ((g__law_card T).mono (by decide)) gd hr (takes_of rfl rfl rfl rfl) rfl T.m__law_card T.d__law_card.kp (ja_cons (j_var 0) (ja_cons j_int ja_nil))) j_int (nomark _)) (js_one (js_set (i := 2) sc__law_drawn.nd rfl (Or.inl rfl) (j_slice (j_op op_addA os_add (j_slice (j_var 2) jo_none (jo_some j_int)) (j_var 3)) (jo_some (j_un un_neg us_neg j_int)) jo_none))) js_nil)
  (js_one (js_ret (j_tup (ja_cons (j_var 2) (ja_cons (j_var 3) ja_nil)))))))))
def b_are_letters : Ss := (sRet (eAnd (eUn (fIsi [("str", true)] []) (eVar 0)) (eAp fAll (eCons (eLc (eIter (eVar 0)) (cName 1) eTrue (eOp (fInS false) (eVar 1) (eC (.str "abcdefghijklmnopqrstuvwxyz"))) [1]) eNil))))
def m_are_letters : FS := fun xs M => if xs.length = 1 then fnS exitR 2 b_are_letters (pick [0] xs) M else .bad
theorem u_are_letters {x0 : Vl} {M : List Mu} : m_are_letters [x0] M = exitR M.length (b_are_letters [some x0, none] M) := rfl
theorem g_are_letters (T : Txt K mg) : FnG P w K mg base 1 (He.ga K "are_letters") [] m_are_letters := by
  obtain ⟨oc, od, kV, doc, pm, an, cdv, ct, osl, lk, hcd, kp⟩ := T.d_are_letters
  have hb : ∀ us ws : List Value, us.length + ws.length = 1 → ws.length = ([] : List Str).length → bindArgs (PySem.W.fnOf "are_letters" "are_letters" (defArgs s_are_letters) (defBody s_are_letters) (defScope s_are_letters) .none kV doc pm an cdv ct) ⟨us, ([] : List Str).zip ws⟩ = pure ((["value"] : List Str).zip (pick [0] (us ++ ws))) := by
    intro us ws h1 h2
    cases List.eq_nil_of_length_eq_zero (show ws.length = 0 from h2)
    exact match us, (show us.length = 1 from h1) with | [_], _ => rfl
  have hp : ∀ vs : List V, vs.length = 1 → (pick [0] vs).length = (["value"] : List Str).length := fun vs h => match vs, h with | [_], _ => rfl
  have hd := fnG_def (P := P) (w := w) (mg := mg) (base := base) (k := 0) (b := b_are_letters) ([] : List Str) [0] 1 exitR_ok lk hcd sc_are_letters hb hp
  refine hd fun A outer s H E gd hr => ?_
  exact (js_one (js_ret (j_and (j_isi [("str", true)] [] rfl T.n_isinstance (j_var 0) (pe_bltn (v := .ty "str") rfl T.n_str bt_str rfl) (.ty _) (isiCons (by rfl) isiNil) isiNil) (j_one (j_callB (cr_all rfl) cs_all rfl T.n_all bt_all (ja_cons (j_lc (own := [("letter", 1)]) rfl sc_are_letters.nd (ji_any (j_var 0)) (blkOk_by (N := N_are_letters) (sc := defScope s_are_letters) (own := [("letter", 1)]) (by decide +kernel)) (ct_name (by decide)) (fun s H C cl fp => (pg_name (i := 1) sc_are_letters.nd rfl (Or.inl rfl))) (fun s H C cl fp => jts_nil) (fun s H C cl fp => (j_cmp op_inS (os_inS false) (j_var 1) (j_globS rfl T.i_LETTERS) rfl))) ja_nil))))))
def b_shortest_head : Ss := (sSeq (sWhile (eAndT (eBool (eOp fNe (eVar 0) (eC (.str "")))) (eBool (eOp fEq (eOp fIx (eVar 0) (eUn fNeg (eC (.int 1)))) (eOp fIx (eVar 1) (eUn fNeg (eC (.int 1))))))) (sPar 0 1 (eCons (eSl (eVar 0) eNoPart (ePart (eUn fNeg (eC (.int 1))))) (eCons (eOp fAdd (eOp fIx (eVar 1) (eUn fNeg (eC (.int 1)))) (eSl (eVar 1) eNoPart (ePart (eUn fNeg (eC (.int 1)))))) eNil))))
  (sRet (eTup (eCons (eVar 0) (eCons (eVar 1) eNil)))))
def m_shortest_head : FS := fun xs M => if xs.length = 2 then fnS exitR 2 b_shortest_head (pick [0, 1] xs) M else .bad
theorem u_shortest_head {x0 x1 : Vl} {M : List Mu} : m_shortest_head [x0, x1] M = exitR M.length (b_shortest_head [some x0, some x1] M) := rfl
theorem g_shortest_head (T : Txt K mg) : FnG P w K mg base 1 (He.ga K "shortest_head") [] m_shortest_head := by
  obtain ⟨oc, od, kV, doc, pm, an, cdv, ct, osl, lk, hcd, kp⟩ := T.d_shortest_head
  have hb : ∀ us ws : List Value, us.length + ws.length = 2 → ws.length = ([] : List Str).length → bindArgs (PySem.W.fnOf "shortest_head" "shortest_head" (defArgs s_shortest_head) (defBody s_shortest_head) (defScope s_shortest_head) .none kV doc pm an cdv ct) ⟨us, ([] : List Str).zip ws⟩ = pure ((["head", "loop"] : List Str).zip (pick [0, 1] (us ++ ws))) := by
    intro us ws h1 h2
    cases List.eq_nil_of_length_eq_zero (show ws.length = 0 from h2)
    exact match us, (show us.length = 2 from h1) with | [_, _], _ => rfl
  have hp : ∀ vs : List V, vs.length = 2 → (pick [0, 1] vs).length = (["head", "loop"] : List Str).length := fun vs h => match vs, h with | [_, _], _ => rfl
  have hd := fnG_def (P := P) (w := w) (mg := mg) (base := base) (k := 0) (b := b_shortest_head) ([] : List Str) [0, 1] 2 exitR_ok lk hcd sc_shortest_head hb hp
  refine hd fun A outer s H E gd hr => ?_
  exact (js_cons (js_while (passes_of rfl) (PW.pt (jw_and (jt_cmp (op_neA hr.units) os_ne (j_var 0) j_str (nomark _)) (jw_and1 (jt_cmp (op_eqA hr.units) os_eq (j_ix (j_var 0) (j_un un_neg us_neg j_int) (fun _ _ => rfl)) (j_ix (j_var 1) (j_un un_neg us_neg j_int) (fun _ _ => rfl)) (nomark _))))) (js_one (js_par (i := 0) (j := 1) rfl sc_shortest_head.nd rfl rfl (by decide) rfl rfl (ja_cons (j_slice (j_var 0) jo_none (jo_some (j_un un_neg us_neg j_int))) (ja_cons (j_op op_addA os_add (j_ix (j_var 1) (j_un un_neg us_neg j_int) (fun _ _ => rfl)) (j_slice (j_var 1) jo_none (jo_some (j_un un_neg us_neg j_int)))) ja_nil)) rfl)))
  (js_one (js_ret (j_tup (ja_cons (j_var 0) (ja_cons (j_var 1) ja_nil))))))
def b_shortest_loop : Ss := (sSeq (sFor (eRng2 (eCons (eC (.int 1)) (eCons (eOp fAdd (eAp fLen (eCons (eVar 0) eNil)) (eC (.int 1))) eNil))) (gN 1) (sIf (eAndT (eBool (eOp fEq (eOp fMod (eAp fLen (eCons (eVar 0) eNil)) (eVar 1)) (eC (.int 0)))) (eBool (eOp fEq (eOp fMulS (eSl (eVar 0) eNoPart (ePart (eVar 1))) (eOp fDiv (eAp fLen (eCons (eVar 0) eNil)) (eVar 1))) (eVar 0)))) (sRet (eSl (eVar 0) eNoPart (ePart (eVar 1)))) sNext))
  (sRet (eVar 0)))
def m_shortest_loop : FS := fun xs M => if xs.length = 1 then fnS exitR 2 b_shortest_loop (pick [0] xs) M else .bad
theorem u_shortest_loop {x0 : Vl} {M : List Mu} : m_shortest_loop [x0] M = exitR M.length (b_shortest_loop [some x0, none] M) := rfl
theorem g_shortest_loop (T : Txt K mg) : FnG P w K mg base 1 (He.ga K "shortest_loop") [] m_shortest_loop := by
  obtain ⟨oc, od, kV, doc, pm, an, cdv, ct, osl, lk, hcd, kp⟩ := T.d_shortest_loop
  have hb : ∀ us ws : List Value, us.length + ws.length = 1 → ws.length = ([] : List Str).length → bindArgs (PySem.W.fnOf "shortest_loop" "shortest_loop" (defArgs s_shortest_loop) (defBody s_shortest_loop) (defScope s_shortest_loop) .none kV doc pm an cdv ct) ⟨us, ([] : List Str).zip ws⟩ = pure ((["loop"] : List Str).zip (pick [0] (us ++ ws))) := by
    intro us ws h1 h2
    cases List.eq_nil_of_length_eq_zero (show ws.length = 0 from h2)
    exact match us, (show us.length = 1 from h1) with | [_], _ => rfl
  have hp : ∀ vs : List V, vs.length = 1 → (pick [0] vs).length = (["loop"] : List Str).length := fun vs h => match vs, h with | [_], _ => rfl
  have hd := fnG_def (P := P) (w := w) (mg := mg) (base := base) (k := 0) (b := b_shortest_loop) ([] : List Str) [0] 1 exitR_ok lk hcd sc_shortest_loop hb hp
  refine hd fun A outer s H E gd hr => ?_
  exact (js_cons (js_for (passes_of rfl) rfl (ji_range2 rfl T.n_range (ja_cons j_int (ja_cons (j_op op_addA os_add (j_callB call_len cs_len rfl T.n_len bt_len (ja_cons (j_var 0) ja_nil)) j_int) ja_nil))) (jg_name (i := 1) sc_shortest_loop.nd rfl (Or.inl rfl)) (js_one (js_if (PW.pt (jw_and (jt_cmp (op_eqA hr.units) os_eq (j_op op_mod os_mod (j_callB call_len cs_len rfl T.n_len bt_len (ja_cons (j_var 0) ja_nil)) (j_var 1)) j_int (nomark _)) (jw_and1 (jt_cmp (op_eqA hr.units) os_eq (j_op (op_mulA.or op_mul_str) os_mulS (j_slice (j_var 0) jo_none (jo_some (j_var 1))) (j_op op_fdiv os_div (j_callB call_len cs_len rfl T.n_len bt_len (ja_cons (j_var 0) ja_nil)) (j_var 1))) (j_var 0) (nomark _))))) (js_one (js_ret (j_slice (j_var 0) jo_none (jo_some (j_var 1))))) js_nil)))
  (js_one (js_ret (j_var 0))))
def b_Round___init__ : Ss := (sSeq (sIf (eNotT (eTru (eAp m_are_letters (eCons (eVar 1) eNil)))) sBad sNext)
  (sSeq (sIf (eOrT (eNotT (eTru (eAp m_are_letters (eCons (eVar 2) eNil)))) (eBool (eOp fEq (eVar 2) (eC (.str ""))))) sBad sNext)
  (sAsg (eAp m_shortest_head (eCons (eVar 1) (eCons (eAp m_shortest_loop (eCons (eVar 2) eNil)) eNil))) (gT 2 (gAnd (gF ["Round"] (eVar 0) "begin") (gAnd (gF ["Round"] (eVar 0) "cycle") gEnd))))))
def m_Round___init__ : FS := fun xs M => if xs.length = 3 then fnS exitR 3 b_Round___init__ (pick [0, 1, 2] xs) M else .bad
theorem u_Round___init__ {x0 x1 x2 : Vl} {M : List Mu} : m_Round___init__ [x0, x1, x2] M = exitR M.length (b_Round___init__ [some x0, some x1, some x2] M) := rfl
theorem g_Round___init__ (T : Txt K mg) : FnG P w K mg base 2 (He.ma K (He.ga K "Round") "__init__") [] m_Round___init__ := by
  obtain ⟨oc, od, kV, doc, pm, an, cdv, ct, osl, lk, hcd, kp⟩ := T.d_Round___init__
  have hb : ∀ us ws : List Value, us.length + ws.length = 3 → ws.length = ([] : List Str).length → bindArgs (PySem.W.fnOf "__init__" "Round.__init__" (defArgs s_Round___init__) (defBody s_Round___init__) (defScope s_Round___init__) .none kV doc pm an cdv ct) ⟨us, ([] : List Str).zip ws⟩ = pure ((["self", "head", "loop"] : List Str).zip (pick [0, 1, 2] (us ++ ws))) := by
    intro us ws h1 h2
    cases List.eq_nil_of_length_eq_zero (show ws.length = 0 from h2)
    exact match us, (show us.length = 3 from h1) with | [_, _, _], _ => rfl
  have hp : ∀ vs : List V, vs.length = 3 → (pick [0, 1, 2] vs).length = (["self", "head", "loop"] : List Str).length := fun vs h => match vs, h with | [_, _, _], _ => rfl
  have hd := fnG_def (P := P) (w := w) (mg := mg) (base := base) (k := 1) (b := b_Round___init__) ([] : List Str) [0, 1, 2] 3 exitR_ok lk hcd sc_Round___init__ hb hp
  refine hd fun A outer s H E gd hr => ?_
  exact (js_cons (js_if (jt_not (jt_tru (j_call ((g_are_letters T).mono (by decide)) gd hr (takes_of rfl rfl rfl rfl) rfl T.m_are_letters T.d_are_letters.kp (ja_cons (j_var 1) ja_nil)))) (js_one js_never) js_nil)
  (js_cons (js_if (PW.pt (jw_or (jt_not (jt_tru (j_call ((g_are_letters T).mono (by decide)) gd hr (takes_of rfl rfl rfl rfl) rfl T.m_are_letters T.d_are_letters.kp (ja_cons (j_var 2) ja_nil)))) (jw_or1 (jt_cmp (op_eqA hr.units) os_eq (j_var 2) j_str (nomark _))))) (js_one js_never) js_nil)
  (js_one (js_asg (j_call ((g_shortest_head T).mono (by decide)) gd hr (takes_of rfl rfl rfl rfl) rfl T.m_shortest_head T.d_shortest_head.kp (ja_cons (j_var 1) (ja_cons (j_call ((g_shortest_loop T).mono (by decide)) gd hr (takes_of rfl rfl rfl rfl) rfl T.m_shortest_loop T.d_shortest_loop.kp (ja_cons (j_var 2) ja_nil)) ja_nil))) (jg_tup rfl (jgs_cons (jg_fld (W := W0) (cs := ["Round"]) (j_var 0) (fl1 T.cls_Round T.na_Round_begin)) (jgs_cons (jg_fld (W := W0) (cs := ["Round"]) (j_var 0) (fl1 T.cls_Round T.na_Round_cycle)) jgs_nil)))))))
def b__law_sign : Ss := (sRet (eIf (eBool (eOp fLt (eVar 2) (eAp fLen (eCons (eVar 0) eNil)))) (eOp fIx (eVar 0) (eVar 2)) (eOp fIx (eVar 1) (eOp fMod (eAp fInt (eCons (eOp fSub (eVar 2) (eAp fLen (eCons (eVar 0) eNil))) eNil)) (eAp fLen (eCons (eVar 1) eNil))))))
def m__law_sign : FS := fun xs M => if xs.length = 3 then fnS exitR 3 b__law_sign (pick [0, 1, 2] xs) M else .bad
theorem u__law_sign {x0 x1 x2 : Vl} {M : List Mu} : m__law_sign [x0, x1, x2] M = exitR M.length (b__law_sign [some x0, some x1, some x2] M) := rfl
theorem g__law_sign (T : Txt K mg) : FnG P w K mg base 1 (He.ga K "_law_sign") [] m__law_sign := by
  obtain ⟨oc, od, kV, doc, pm, an, cdv, ct, osl, lk, hcd, kp⟩ := T.d__law_sign
  have hb : ∀ us ws : List Value, us.length + ws.length = 3 → ws.length = ([] : List Str).length → bindArgs (PySem.W.fnOf "_law_sign" "_law_sign" (defArgs s__law_sign) (defBody s__law_sign) (defScope s__law_sign) .none kV doc pm an cdv ct) ⟨us, ([] : List Str).zip ws⟩ = pure ((["_law_start", "_law_cycle", "_law_spot"] : List Str).zip (pick [0, 1, 2] (us ++ ws))) := by
    intro us ws h1 h2
    cases List.eq_nil_of_length_eq_zero (show ws.length = 0 from h2)
    exact match us, (show us.length = 3 from h1) with | [_, _, _], _ => rfl
  have hp : ∀ vs : List V, vs.length = 3 → (pick [0, 1, 2] vs).length = (["_law_start", "_law_cycle", "_law_spot"] : List Str).length := fun vs h => match vs, h with | [_, _, _], _ => rfl
  have hd := fnG_def (P := P) (w := w) (mg := mg) (base := base) (k := 0) (b := b__law_sign) ([] : List Str) [0, 1, 2] 3 exitR_ok lk hcd sc__law_sign hb hp
  refine hd fun A outer s H E gd hr => ?_
  exact (js_one (js_ret (j_if (jt_cmp op_lt os_lt (j_var 2) (j_callB call_len cs_len rfl T.n_len bt_len (ja_cons (j_var 0) ja_nil)) (nomark _)) (j_ix (j_var 0) (j_var 2) (fun _ _ => rfl)) (j_ix (j_var 1) (j_op op_mod os_mod (j_callTy call_int1 cs_int rfl T.n_int bt_int (ja_cons (j_op op_sub os_sub (j_var 2) (j_callB call_len cs_len rfl T.n_len bt_len (ja_cons (j_var 0) ja_nil))) ja_nil)) (j_callB call_len cs_len rfl T.n_len bt_len (ja_cons (j_var 1) ja_nil))) (fun _ _ => rfl)))))
def b__law_least : Ss := (sSeq (sAsg (eLc (eRng1 (eCons (eC (.int 40)) eNil)) (cName 5) eTrue (eAp m__law_sign (eCons (eVar 0) (eCons (eVar 1) (eCons (eVar 5) eNil)))) [5]) (gN 2))
  (sSeq (sFor (eRng1 (eCons (eC (.int 9)) eNil)) (gN 3) (sFor (eRng2 (eCons (eC (.int 1)) (eCons (eC (.int 9)) eNil))) (gN 4) (sIf (eTru (eAp fAll (eCons (eLc (eRng2 (eCons (eVar 3) (eCons (eOp fSub (eC (.int 40)) (eVar 4)) eNil))) (cName 6) eTrue (eOp fEq (eOp fIx (eVar 2) (eVar 6)) (eOp fIx (eVar 2) (eOp fAdd (eVar 6) (eVar 4)))) [6]) eNil))) (sRet (eTup (eCons (eJoin (eC (.str "")) (eSl (eVar 2) eNoPart (ePart (eVar 3)))) (eCons (eJoin (eC (.str "")) (eSl (eVar 2) (ePart (eVar 3)) (ePart (eOp fAdd (eVar 3) (eVar 4))))) eNil)))) sNext)))
  (sRet (eTup (eCons (eC (.str "")) (eCons (eC (.str "")) eNil))))))
def m__law_least : FS := fun xs M => if xs.length = 2 then fnS exitR 7 b__law_least (pick [0, 1] xs) M else .bad
theorem u__law_least {x0 x1 : Vl} {M : List Mu} : m__law_least [x0, x1] M = exitR M.length (b__law_least [some x0, some x1, none, none, none, none, none] M) := rfl
theorem g__law_least (T : Txt K mg) : FnG P w K mg base 2 (He.ga K "_law_least") [] m__law_least := by
  obtain ⟨oc, od, kV, doc, pm, an, cdv, ct, osl, lk, hcd, kp⟩ := T.d__law_least
  have hb : ∀ us ws : List Value, us.length + ws.length = 2 → ws.length = ([] : List Str).length → bindArgs (PySem.W.fnOf "_law_least" "_law_least" (defArgs s__law_least) (defBody s__law_least) (defScope s__law_least) .none kV doc pm an cdv ct) ⟨us, ([] : List Str).zip ws⟩ = pure ((["_law_start", "_law_cycle"] : List Str).zip (pick [0, 1] (us ++ ws))) := by
    intro us ws h1 h2
    cases List.eq_nil_of_length_eq_zero (show ws.length = 0 from h2)
    exact match us, (show us.length = 2 from h1) with | [_, _], _ => rfl
  have hp : ∀ vs : List V, vs.length = 2 → (pick [0, 1] vs).length = (["_law_start", "_law_cycle"] : List Str).length := fun vs h => match vs, h with | [_, _], _ => rfl
  have hd := fnG_def (P := P) (w := w) (mg := mg) (base := base) (k := 1) (b := b__law_least) ([] : List Str) [0, 1] 2 exitR_ok lk hcd sc__law_least hb hp
  refine hd fun A outer s H E gd hr => ?_
  exact (js_cons (js_set (i := 2) sc__law_least.nd rfl (Or.inr rfl) (j_lc (own := [("_law_spot", 5)]) rfl sc__law_least.nd (ji_range1 rfl T.n_range (ja_cons j_int ja_nil)) (blkOk_by (N := N__law_least) (sc := defScope s__law_least) (own := [("_law_spot", 5)]) (by decide +kernel)) (ct_name (by decide)) (fun s H C cl fp => (pg_name (i := 5) sc__law_least.nd rfl (Or.inl rfl))) (fun s H C cl fp => jts_nil) (fun s H C cl fp => (j_call ((g__law_sign T).mono (by decide)) gd hr takes0 rfl T.m__law_sign T.d__law_sign.kp (ja_cons (j_var 0) (ja_cons (j_var 1) (ja_cons (j_var 5) ja_nil)))))))
  (js_cons (js_for (passes_of rfl) rfl (ji_range1 rfl T.n_range (ja_cons j_int ja_nil)) (jg_name (i := 3) sc__law_least.nd rfl (Or.inl rfl)) (js_one (js_for (passes_of rfl) rfl (ji_range2 rfl T.n_range (ja_cons j_int (ja_cons j_int ja_nil))) (jg_name (i := 4) sc__law_least.nd rfl (Or.inr rfl)) (js_one (js_if (jt_tru (j_callB (cr_all rfl) cs_all rfl T.n_all bt_all (ja_cons (j_lc (own := [("_law_k", 6)]) rfl sc__law_least.nd (ji_range2 rfl T.n_range (ja_cons (j_var 3) (ja_cons (j_op op_sub os_sub j_int (j_var 4)) ja_nil))) (blkOk_by (N := N__law_least) (sc := defScope s__law_least) (own := [("_law_k", 6)]) (by decide +kernel)) (ct_name (by decide)) (fun s H C cl fp => (pg_name (i := 6) sc__law_least.nd rfl (Or.inl rfl))) (fun s H C cl fp => jts_nil) (fun s H C cl fp => (j_cmp (op_eqA hr.units) os_eq (j_ix (j_var 2) (j_var 6) (fun _ _ => rfl)) (j_ix (j_var 2) (j_op op_addA os_add (j_var 6) (j_var 4)) (fun _ _ => rfl)) (nomark _)))) ja_nil))) (js_one (js_ret (j_tup (ja_cons (j_join j_str (j_slice (j_var 2) jo_none (jo_some (j_var 3)))) (ja_cons (j_join j_str (j_slice (j_var 2) (jo_some (j_var 3)) (jo_some (j_op op_addA os_add (j_var 3) (j_var 4))))) ja_nil))))) js_nil)))))
  (js_one (js_ret (j_tup (ja_cons j_str (ja_cons j_str ja_nil)))))))
def b_Round_head : Ss := (sRet (eUn (fFld ["Round"] "begin") (eVar 0)))
def m_Round_head : FS := fun xs M => if xs.length = 1 then fnS exitR 1 b_Round_head (pick [0] xs) M else .bad
theorem u_Round_head {x0 : Vl} {M : List Mu} : m_Round_head [x0] M = exitR M.length (b_Round_head [some x0] M) := rfl
theorem g_Round_head (T : Txt K mg) : FnG P w K mg base 1 (pgA "Round" "head" K) [] m_Round_head := by
  obtain ⟨oc, od, kV, doc, pm, an, cdv, ct, osl, lk, hcd, kp⟩ := T.d_Round_head
  have hb : ∀ us ws : List Value, us.length + ws.length = 1 → ws.length = ([] : List Str).length → bindArgs (PySem.W.fnOf "head" "Round.head" (defArgs s_Round_head) (defBody s_Round_head) (defScope s_Round_head) .none kV doc pm an cdv ct) ⟨us, ([] : List Str).zip ws⟩ = pure ((["self"] : List Str).zip (pick [0] (us ++ ws))) := by
    intro us ws h1 h2
    cases List.eq_nil_of_length_eq_zero (show ws.length = 0 from h2)
    exact match us, (show us.length = 1 from h1) with | [_], _ => rfl
  have hp : ∀ vs : List V, vs.length = 1 → (pick [0] vs).length = (["self"] : List Str).length := fun vs h => match vs, h with | [_], _ => rfl
  have hd := fnG_def (P := P) (w := w) (mg := mg) (base := base) (k := 0) (b := b_Round_head) ([] : List Str) [0] 1 exitR_ok lk hcd sc_Round_head hb hp
  refine hd fun A outer s H E gd hr => ?_
  exact (js_one (js_ret (j_fld (cs := ["Round"]) (j_var 0) (fl1 T.cls_Round T.na_Round_begin))))
def b_Round_loop : Ss := (sRet (eUn (fFld ["Round"] "cycle") (eVar 0)))
def m_Round_loop : FS := fun xs M => if xs.length = 1 then fnS exitR 1 b_Round_loop (pick [0] xs) M else .bad
theorem u_Round_loop {x0 : Vl} {M : List Mu} : m_Round_loop [x0] M = exitR M.length (b_Round_loop [some x0] M) := rfl
theorem g_Round_loop (T : Txt K mg) : FnG P w K mg base 1 (pgA "Round" "loop" K) [] m_Round_loop := by
  obtain ⟨oc, od, kV, doc, pm, an, cdv, ct, osl, lk, hcd, kp⟩ := T.d_Round_loop
  have hb : ∀ us ws : List Value, us.length + ws.length = 1 → ws.length = ([] : List Str).length → bindArgs (PySem.W.fnOf "loop" "Round.loop" (defArgs s_Round_loop) (defBody s_Round_loop) (defScope s_Round_loop) .none kV doc pm an cdv ct) ⟨us, ([] : List Str).zip ws⟩ = pure ((["self"] : List Str).zip (pick [0] (us ++ ws))) := by
    intro us ws h1 h2
    cases List.eq_nil_of_length_eq_zero (show ws.length = 0 from h2)
    exact match us, (show us.length = 1 from h1) with | [_], _ => rfl
  have hp : ∀ vs : List V, vs.length = 1 → (pick [0] vs).length = (["self"] : List Str).length := fun vs h => match vs, h with | [_], _ => rfl
  have hd := fnG_def (P := P) (w := w) (mg := mg) (base := base) (k := 0) (b := b_Round_loop) ([] : List Str) [0] 1 exitR_ok lk hcd sc_Round_loop hb hp
  refine hd fun A outer s H E gd hr => ?_
  exact (js_one (js_ret (j_fld (cs := ["Round"]) (j_var 0) (fl1 T.cls_Round T.na_Round_cycle))))
def b_Round___str__ : Ss := (sRet (eJs [(eFmt (eUn (fFld ["Round"] "begin") (eVar 0))), (eC (.str "(")), (eFmt (eUn (fFld ["Round"] "cycle") (eVar 0))), (eC (.str ")"))] Str.empty))
def m_Round___str__ : FS := fun xs M => if xs.length = 1 then fnS exitR 1 b_Round___str__ (pick [0] xs) M else .bad
theorem u_Round___str__ {x0 : Vl} {M : List Mu} : m_Round___str__ [x0] M = exitR M.length (b_Round___str__ [some x0] M) := rfl
theorem g_Round___str__ (T : Txt K mg) : FnG P w K mg base 1 (He.ma K (He.ga K "Round") "__str__") [] m_Round___str__ := by
  obtain ⟨oc, od, kV, doc, pm, an, cdv, ct, osl, lk, hcd, kp⟩ := T.d_Round___str__
  have hb : ∀ us ws : List Value, us.length + ws.length = 1 → ws.length = ([] : List Str).length → bindArgs (PySem.W.fnOf "__str__" "Round.__str__" (defArgs s_Round___str__) (defBody s_Round___str__) (defScope s_Round___str__) .none kV doc pm an cdv ct) ⟨us, ([] : List Str).zip ws⟩ = pure ((["self"] : List Str).zip (pick [0] (us ++ ws))) := by
    intro us ws h1 h2
    cases List.eq_nil_of_length_eq_zero (show ws.length = 0 from h2)
    exact match us, (show us.length = 1 from h1) with | [_], _ => rfl
  have hp : ∀ vs : List V, vs.length = 1 → (pick [0] vs).length = (["self"] : List Str).length := fun vs h => match vs, h with | [_], _ => rfl
  have hd := fnG_def (P := P) (w := w) (mg := mg) (base := base) (k := 0) (b := b_Round___str__) ([] : List Str) [0] 1 exitR_ok lk hcd sc_Round___str__ hb hp
  refine hd fun A outer s H E gd hr => ?_
  exact (js_one (js_ret (j_js (ts := [(eFmt (eUn (fFld ["Round"] "begin") (eVar 0))), (eC (.str "(")), (eFmt (eUn (fFld ["Round"] "cycle") (eVar 0))), (eC (.str ")"))]) (.cons (j_fmt (j_fld (cs := ["Round"]) (j_var 0) (fl1 T.cls_Round T.na_Round_begin))) (.cons j_str (.cons (j_fmt (j_fld (cs := ["Round"]) (j_var 0) (fl1 T.cls_Round T.na_Round_cycle))) (.cons j_str .nil)))))))
def b_Round___repr__ : Ss := (sRet (eJs [(eC (.str "Round(")), (eFmt (eUn (fFld ["Round"] "begin") (eVar 0))), (eC (.str "(")), (eFmt (eUn (fFld ["Round"] "cycle") (eVar 0))), (eC (.str "))"))] Str.empty))
def m_Round___repr__ : FS := fun xs M => if xs.length = 1 then fnS exitR 1 b_Round___repr__ (pick [0] xs) M else .bad
theorem u_Round___repr__ {x0 : Vl} {M : List Mu} : m_Round___repr__ [x0] M = exitR M.length (b_Round___repr__ [some x0] M) := rfl
theorem g_Round___repr__ (T : Txt K mg) : FnG P w K mg base 1 (He.ma K (He.ga K "Round") "__repr__") [] m_Round___repr__ := by
  obtain ⟨oc, od, kV, doc, pm, an, cdv, ct, osl, lk, hcd, kp⟩ := T.d_Round___repr__
  have hb : ∀ us ws : List Value, us.length + ws.length = 1 → ws.length = ([] : List Str).length → bindArgs (PySem.W.fnOf "__repr__" "Round.__repr__" (defArgs s_Round___repr__) (defBody s_Round___repr__) (defScope s_Round___repr__) .none kV doc pm an cdv ct) ⟨us, ([] : List Str).zip ws⟩ = pure ((["self"] : List Str).zip (pick [0] (us ++ ws))) := by
    intro us ws h1 h2
    cases List.eq_nil_of_length_eq_zero (show ws.length = 0 from h2)
    exact match us, (show us.length = 1 from h1) with | [_], _ => rfl
  have hp : ∀ vs : List V, vs.length = 1 → (pick [0] vs).length = (["self"] : List Str).length := fun vs h => match vs, h with | [_], _ => rfl
  have hd := fnG_def (P := P) (w := w) (mg := mg) (base := base) (k := 0) (b := b_Round___repr__) ([] : List Str) [0] 1 exitR_ok lk hcd sc_Round___repr__ hb hp
  refine hd fun A outer s H E gd hr => ?_
  exact (js_one (js_ret (j_js (ts := [(eC (.str "Round(")), (eFmt (eUn (fFld ["Round"] "begin") (eVar 0))), (eC (.str "(")), (eFmt (eUn (fFld ["Round"] "cycle") (eVar 0))), (eC (.str "))"))]) (.cons j_str (.cons (j_fmt (j_fld (cs := ["Round"]) (j_var 0) (fl1 T.cls_Round T.na_Round_begin))) (.cons j_str (.cons (j_fmt (j_fld (cs := ["Round"]) (j_var 0) (fl1 T.cls_Round T.na_Round_cycle))) (.cons j_str .nil))))))))
def b_is_integer : Ss := (sRet (eAnd (eUn (fIsi [("int", true), ("bool", true)] []) (eVar 0)) (eNot (eUn (fIsi [("int", false), ("bool", true)] []) (eVar 0)))))
def m_is_integer : FS := fun xs M => if xs.length = 1 then fnS exitR 1 b_is_integer (pick [0] xs) M else .bad
theorem u_is_integer {x0 : Vl} {M : List Mu} : m_is_integer [x0] M = exitR M.length (b_is_integer [some x0] M) := rfl
theorem g_is_integer (T : Txt K mg) : FnG P w K mg base 1 (He.ga K "is_integer") [] m_is_integer := by
  obtain ⟨oc, od, kV, doc, pm, an, cdv, ct, osl, lk, hcd, kp⟩ := T.d_is_integer
  have hb : ∀ us ws : List Value, us.length + ws.length = 1 → ws.length = ([] : List Str).length → bindArgs (PySem.W.fnOf "is_integer" "is_integer" (defArgs s_is_integer) (defBody s_is_integer) (defScope s_is_integer) .none kV doc pm an cdv ct) ⟨us, ([] : List Str).zip ws⟩ = pure ((["value"] : List Str).zip (pick [0] (us ++ ws))) := by
    intro us ws h1 h2
    cases List.eq_nil_of_length_eq_zero (show ws.length = 0 from h2)
    exact match us, (show us.length = 1 from h1) with | [_], _ => rfl
  have hp : ∀ vs : List V, vs.length = 1 → (pick [0] vs).length = (["value"] : List Str).length := fun vs h => match vs, h with | [_], _ => rfl
  have hd := fnG_def (P := P) (w := w) (mg := mg) (base := base) (k := 0) (b := b_is_integer) ([] : List Str) [0] 1 exitR_ok lk hcd sc_is_integer hb hp
  refine hd fun A outer s H E gd hr => ?_
  exact (js_one (js_ret (j_and (j_isi [("int", true), ("bool", true)] [] rfl T.n_isinstance (j_var 0) (pe_bltn (v := .ty "int") rfl T.n_int bt_int rfl) (.ty _) (isiCons (by rfl) (isiCons (by rfl) isiNil)) isiNil) (j_one (j_not (j_isi [("int", false), ("bool", true)] [] rfl T.n_isinstance (j_var 0) (pe_bltn (v := .ty "bool") rfl T.n_bool bt_bool rfl) (.ty _) (isiCons (by rfl) (isiCons (by rfl) isiNil)) isiNil))))))
def b_is_number : Ss := (sRet (eAnd (eAp m_is_integer (eCons (eVar 0) eNil)) (eOp fGe (eVar 0) (eC (.int 0)))))
def m_is_number : FS := fun xs M => if xs.length = 1 then fnS exitR 1 b_is_number (pick [0] xs) M else .bad
theorem u_is_number {x0 : Vl} {M : List Mu} : m_is_number [x0] M = exitR M.length (b_is_number [some x0] M) := rfl
theorem g_is_number (T : Txt K mg) : FnG P w K mg base 2 (He.ga K "is_number") [] m_is_number := by
  obtain ⟨oc, od, kV, doc, pm, an, cdv, ct, osl, lk, hcd, kp⟩ := T.d_is_number
  have hb : ∀ us ws : List Value, us.length + ws.length = 1 → ws.length = ([] : List Str).length → bindArgs (PySem.W.fnOf "is_number" "is_number" (defArgs s_is_number) (defBody s_is_number) (defScope s_is_number) .none kV doc pm an cdv ct) ⟨us, ([] : List Str).zip ws⟩ = pure ((["value"] : List Str).zip (pick [0] (us ++ ws))) := by
    intro us ws h1 h2
    cases List.eq_nil_of_length_eq_zero (show ws.length = 0 from h2)
    exact match us, (show us.length = 1 from h1) with | [_], _ => rfl
  have hp : ∀ vs : List V, vs.length = 1 → (pick [0] vs).length = (["value"] : List Str).length := fun vs h => match vs, h with | [_], _ => rfl
  have hd := fnG_def (P := P) (w := w) (mg := mg) (base := base) (k := 1) (b := b_is_number) ([] : List Str) [0] 1 exitR_ok lk hcd sc_is_number hb hp
  refine hd fun A outer s H E gd hr => ?_
  exact (js_one (js_ret (j_and (j_call ((g_is_integer T).mono (by decide)) gd hr (takes_of rfl rfl rfl rfl) rfl T.m_is_integer T.d_is_integer.kp (ja_cons (j_var 0) ja_nil)) (j_one (j_cmp op_ge os_ge (j_var 0) j_int (nomark _))))))
def b_check_number : Ss := (sIf (eNotT (eTru (eAp m_is_number (eCons (eVar 0) eNil)))) sBad sNext)
def m_check_number : FS := fun xs M => if xs.length = 1 then fnS exitR 1 b_check_number (pick [0] xs) M else .bad
theorem u_check_number {x0 : Vl} {M : List Mu} : m_check_number [x0] M = exitR M.length (b_check_number [some x0] M) := rfl
theorem g_check_number (T : Txt K mg) : FnG P w K mg base 3 (He.ga K "check_number") [] m_check_number := by
  obtain ⟨oc, od, kV, doc, pm, an, cdv, ct, osl, lk, hcd, kp⟩ := T.d_check_number
  have hb : ∀ us ws : List Value, us.length + ws.length = 1 → ws.length = ([] : List Str).length → bindArgs (PySem.W.fnOf "check_number" "check_number" (defArgs s_check_number) (defBody s_check_number) (defScope s_check_number) .none kV doc pm an cdv ct) ⟨us, ([] : List Str).zip ws⟩ = pure ((["value"] : List Str).zip (pick [0] (us ++ ws))) := by
    intro us ws h1 h2
    cases List.eq_nil_of_length_eq_zero (show ws.length = 0 from h2)
    exact match us, (show us.length = 1 from h1) with | [_], _ => rfl
  have hp : ∀ vs : List V, vs.length = 1 → (pick [0] vs).length = (["value"] : List Str).length := fun vs h => match vs, h with | [_], _ => rfl
  have hd := fnG_def (P := P) (w := w) (mg := mg) (base := base) (k := 2) (b := b_check_number) ([] : List Str) [0] 1 exitR_ok lk hcd sc_check_number hb hp
  refine hd fun A outer s H E gd hr => ?_
  exact (js_one (js_if (jt_not (jt_tru (j_call ((g_is_number T).mono (by decide)) gd hr (takes_of rfl rfl rfl rfl) rfl T.m_is_number T.d_is_number.kp (ja_cons (j_var 0) ja_nil)))) (js_one js_never) js_nil))
def b_Round_first : Ss := (sSeq (sExpr (eAp m_check_number (eCons (eVar 1) eNil)))
  (sSeq (sAsg (eOp fAdd (eOp fDiv (eVar 1) (eAp fLen (eCons (eUn (fFld ["Round"] "cycle") (eVar 0)) eNil))) (eC (.int 1))) (gN 2))
  (sRet (eSl (eOp fAdd (eUn (fFld ["Round"] "begin") (eVar 0)) (eOp fMulS (eUn (fFld ["Round"] "cycle") (eVar 0)) (eVar 2))) eNoPart (ePart (eVar 1))))))
def m_Round_first : FS := fun xs M => if xs.length = 2 then fnS exitR 3 b_Round_first (pick [0, 1] xs) M else .bad
theorem u_Round_first {x0 x1 : Vl} {M : List Mu} : m_Round_first [x0, x1] M = exitR M.length (b_Round_first [some x0, some x1, none] M) := rfl
theorem g_Round_first (T : Txt K mg) : FnG P w K mg base 4 (He.ma K (He.ga K "Round") "first") [] m_Round_first := by
  obtain ⟨oc, od, kV, doc, pm, an, cdv, ct, osl, lk, hcd, kp⟩ := T.d_Round_first
  have hb : ∀ us ws : List Value, us.length + ws.length = 2 → ws.length = ([] : List Str).length → bindArgs (PySem.W.fnOf "first" "Round.first" (defArgs s_Round_first) (defBody s_Round_first) (defScope s_Round_first) .none kV doc pm an cdv ct) ⟨us, ([] : List Str).zip ws⟩ = pure ((["self", "many"] : List Str).zip (pick [0, 1] (us ++ ws))) := by
    intro us ws h1 h2
    cases List.eq_nil_of_length_eq_zero (show ws.length = 0 from h2)
    exact match us, (show us.length = 2 from h1) with | [_, _], _ => rfl
  have hp : ∀ vs : List V, vs.length = 2 → (pick [0, 1] vs).length = (["self", "many"] : List Str).length := fun vs h => match vs, h with | [_, _], _ => rfl
  have hd := fnG_def (P := P) (w := w) (mg := mg) (base := base) (k := 3) (b := b_Round_first) ([] : List Str) [0, 1] 2 exitR_ok lk hcd sc_Round_first hb hp
  refine hd fun A outer s H E gd hr => ?_
  exact (js_cons (js_expr (j_call ((g_check_number T).mono (by decide)) gd hr (takes_of rfl rfl rfl rfl) rfl T.m_check_number T.d_check_number.kp (ja_cons (j_var 1) ja_nil)))
  (js_cons (js_set (i := 2) sc_Round_first.nd rfl (Or.inl rfl) (j_op op_addA os_add (j_op op_fdiv os_div (j_var 1) (j_callB call_len cs_len rfl T.n_len bt_len (ja_cons (j_fld (cs := ["Round"]) (j_var 0) (fl1 T.cls_Round T.na_Round_cycle)) ja_nil))) j_int))
  (js_one (js_ret (j_slice (j_op op_addA os_add (j_fld (cs := ["Round"]) (j_var 0) (fl1 T.cls_Round T.na_Round_begin)) (j_op (op_mulA.or op_mul_str) os_mulS (j_fld (cs := ["Round"]) (j_var 0) (fl1 T.cls_Round T.na_Round_cycle)) (j_var 2))) jo_none (jo_some (j_var 1)))))))
def m_Round_first_many : FS := fun xs M => if xs.length = 2 then fnS exitR 3 b_Round_first (pick [0, 1] xs) M else .bad
theorem u_Round_first_many {x0 x1 : Vl} {M : List Mu} : m_Round_first_many [x0, x1] M = exitR M.length (b_Round_first [some x0, some x1, none] M) := rfl
theorem g_Round_first_many (T : Txt K mg) : FnG P w K mg base 4 (He.ma K (He.ga K "Round") "first") ["many"] m_Round_first_many := by
  obtain ⟨oc, od, kV, doc, pm, an, cdv, ct, osl, lk, hcd, kp⟩ := T.d_Round_first
  have hb : ∀ us ws : List Value, us.length + ws.length = 2 → ws.length = (["many"] : List Str).length → bindArgs (PySem.W.fnOf "first" "Round.first" (defArgs s_Round_first) (defBody s_Round_first) (defScope s_Round_first) .none kV doc pm an cdv ct) ⟨us, (["many"] : List Str).zip ws⟩ = pure ((["self", "many"] : List Str).zip (pick [0, 1] (us ++ ws))) := by
    intro us ws h1 h2
    have h3 : ws.length = 1 := h2
    have h4 : us.length = 1 := by omega
    exact match us, h4, ws, h3 with | [_], _, [_], _ => rfl
  have hp : ∀ vs : List V, vs.length = 2 → (pick [0, 1] vs).length = (["self", "many"] : List Str).length := fun vs h => match vs, h with | [_, _], _ => rfl
  have hd := fnG_def (P := P) (w := w) (mg := mg) (base := base) (k := 3) (b := b_Round_first) (["many"] : List Str) [0, 1] 2 exitR_ok lk hcd sc_Round_first hb hp
  refine hd fun A outer s H E gd hr => ?_
  exact (js_cons (js_expr (j_call ((g_check_number T).mono (by decide)) gd hr (takes_of rfl rfl rfl rfl) rfl T.m_check_number T.d_check_number.kp (ja_cons (j_var 1) ja_nil)))
  (js_cons (js_set (i := 2) sc_Round_first.nd rfl (Or.inl rfl) (j_op op_addA os_add (j_op op_fdiv os_div (j_var 1) (j_callB call_len cs_len rfl T.n_len bt_len (ja_cons (j_fld (cs := ["Round"]) (j_var 0) (fl1 T.cls_Round T.na_Round_cycle)) ja_nil))) j_int))
  (js_one (js_ret (j_slice (j_op op_addA os_add (j_fld (cs := ["Round"]) (j_var 0) (fl1 T.cls_Round T.na_Round_begin)) (j_op (op_mulA.or op_mul_str) os_mulS (j_fld (cs := ["Round"]) (j_var 0) (fl1 T.cls_Round T.na_Round_cycle)) (j_var 2))) jo_none (jo_some (j_var 1)))))))
def b__law_far : Ss := (sSeq (sAsg (eC (.int 0)) (gN 2))
  (sSeq (sFor (eRng1 (eCons (eVar 1) eNil)) (gN 3) (sAsg (eOp fAdd (eOp fMulS (eVar 2) (eC (.int 1000))) (eAp m__law_card (eCons (eVar 0) (eCons (eC (.int 1000)) eNil)))) (gN 2)))
  (sRet (eVar 2))))
def m__law_far : FS := fun xs M => if xs.length = 2 then fnS exitR 4 b__law_far (pick [0, 1] xs) M else .bad
theorem u__law_far {x0 x1 : Vl} {M : List Mu} : m__law_far [x0, x1] M = exitR M.length (b__law_far [some x0, some x1, none, none] M) := rfl
theorem g__law_far (T : Txt K mg) : FnG P w K mg base 2 (He.ga K "_law_far") [] m__law_far := by
  obtain ⟨oc, od, kV, doc, pm, an, cdv, ct, osl, lk, hcd, kp⟩ := T.d__law_far
  have hb : ∀ us ws : List Value, us.length + ws.length = 2 → ws.length = ([] : List Str).length → bindArgs (PySem.W.fnOf "_law_far" "_law_far" (defArgs s__law_far) (defBody s__law_far) (defScope s__law_far) .none kV doc pm an cdv ct) ⟨us, ([] : List Str).zip ws⟩ = pure ((["_law_deck_here", "_law_groups"] : List Str).zip (pick [0, 1] (us ++ ws))) := by
    intro us ws h1 h2
    cases List.eq_nil_of_length_eq_zero (show ws.length = 0 from h2)
    exact match us, (show us.length = 2 from h1) with | [_, _], _ => rfl
  have hp : ∀ vs : List V, vs.length = 2 → (pick [0, 1] vs).length = (["_law_deck_here", "_law_groups"] : List Str).length := fun vs h => match vs, h with | [_, _], _ => rfl
  have hd := fnG_def (P := P) (w := w) (mg := mg) (base := base) (k := 1) (b := b__law_far) ([] : List Str) [0, 1] 2 exitR_ok lk hcd sc__law_far hb hp
  refine hd fun A outer s H E gd hr => ?_
  exact (js_cons (js_set (i := 2) sc__law_far.nd rfl (Or.inl rfl) j_int)
  (js_cons (js_for (passes_of rfl) rfl (ji_range1 rfl T.n_range (ja_cons (j_var 1) ja_nil)) (jg_name (i := 3) sc__law_far.nd rfl (Or.inl rfl)) (js_one (js_set (i := 2) sc__law_far.nd rfl (Or.inl rfl) (j_op op_addA os_add (j_op (op_mulA.or op_mul_str) os_mulS (j_var 2) j_int) (j_call ((g__law_card T).mono (by decide)) gd hr (takes_of rfl rfl rfl rfl) rfl T.m__law_card T.d__law_card.kp (ja_cons (j_var 0) (ja_cons j_int ja_nil)))))))
  (js_one (js_ret (j_var 2)))))
def b_Round___getitem__ : Ss := (sSeq (sExpr (eAp m_check_number (eCons (eVar 1) eNil)))
  (sSeq (sIf (eBool (eOp fLt (eVar 1) (eAp fLen (eCons (eUn (fFld ["Round"] "begin") (eVar 0)) eNil)))) (sRet (eOp fIx (eUn (fFld ["Round"] "begin") (eVar 0)) (eVar 1))) sNext)
  (sRet (eOp fIx (eUn (fFld ["Round"] "cycle") (eVar 0)) (eOp fMod (eOp fSub (eVar 1) (eAp fLen (eCons (eUn (fFld ["Round"] "begin") (eVar 0)) eNil))) (eAp fLen (eCons (eUn (fFld ["Round"] "cycle") (eVar 0)) eNil)))))))
def m_Round___getitem__ : FS := fun xs M => if xs.length = 2 then fnS exitR 2 b_Round___getitem__ (pick [0, 1] xs) M else .bad
theorem u_Round___getitem__ {x0 x1 : Vl} {M : List Mu} : m_Round___getitem__ [x0, x1] M = exitR M.length (b_Round___getitem__ [some x0, some x1] M) := rfl
theorem g_Round___getitem__ (T : Txt K mg) : FnG P w K mg base 4 (He.ma K (He.ga K "Round") "__getitem__") [] m_Round___getitem__ := by
  obtain ⟨oc, od, kV, doc, pm, an, cdv, ct, osl, lk, hcd, kp⟩ := T.d_Round___getitem__
  have hb : ∀ us ws : List Value, us.length + ws.length = 2 → ws.length = ([] : List Str).length → bindArgs (PySem.W.fnOf "__getitem__" "Round.__getitem__" (defArgs s_Round___getitem__) (defBody s_Round___getitem__) (defScope s_Round___getitem__) .none kV doc pm an cdv ct) ⟨us, ([] : List Str).zip ws⟩ = pure ((["self", "at"] : List Str).zip (pick [0, 1] (us ++ ws))) := by
    intro us ws h1 h2
    cases List.eq_nil_of_length_eq_zero (show ws.length = 0 from h2)
    exact match us, (show us.length = 2 from h1) with | [_, _], _ => rfl
  have hp : ∀ vs : List V, vs.length = 2 → (pick [0, 1] vs).length = (["self", "at"] : List Str).length := fun vs h => match vs, h with | [_, _], _ => rfl
  have hd := fnG_def (P := P) (w := w) (mg := mg) (base := base) (k := 3) (b := b_Round___getitem__) ([] : List Str) [0, 1] 2 exitR_ok lk hcd sc_Round___getitem__ hb hp
  refine hd fun A outer s H E gd hr => ?_
  exact (js_cons (js_expr (j_call ((g_check_number T).mono (by decide)) gd hr (takes_of rfl rfl rfl rfl) rfl T.m_check_number T.d_check_number.kp (ja_cons (j_var 1) ja_nil)))
  (js_cons (js_if (jt_cmp op_lt os_lt (j_var 1) (j_callB call_len cs_len rfl T.n_len bt_len (ja_cons (j_fld (cs := ["Round"]) (j_var 0) (fl1 T.cls_Round T.na_Round_begin)) ja_nil)) (nomark _)) (js_one (js_ret (j_ix (j_fld (cs := ["Round"]) (j_var 0) (fl1 T.cls_Round T.na_Round_begin)) (j_var 1) (fun _ _ => rfl)))) js_nil)
  (js_one (js_ret (j_ix (j_fld (cs := ["Round"]) (j_var 0) (fl1 T.cls_Round T.na_Round_cycle)) (j_op op_mod os_mod (j_op op_sub os_sub (j_var 1) (j_callB call_len cs_len rfl T.n_len bt_len (ja_cons (j_fld (cs := ["Round"]) (j_var 0) (fl1 T.cls_Round T.na_Round_begin)) ja_nil))) (j_callB call_len cs_len rfl T.n_len bt_len (ja_cons (j_fld (cs := ["Round"]) (j_var 0) (fl1 T.cls_Round T.na_Round_cycle)) ja_nil))) (fun _ _ => rfl))))))
def m_Round___init___loop_head : FS := fun xs M => if xs.length = 3 then fnS exitR 3 b_Round___init__ (pick [0, 2, 1] xs) M else .bad
theorem u_Round___init___loop_head {x0 x1 x2 : Vl} {M : List Mu} : m_Round___init___loop_head [x0, x1, x2] M = exitR M.length (b_Round___init__ [some x0, some x2, some x1] M) := rfl
theorem g_Round___init___loop_head (T : Txt K mg) : FnG P w K mg base 2 (He.ma K (He.ga K "Round") "__init__") ["loop", "head"] m_Round___init___loop_head := by
  obtain ⟨oc, od, kV, doc, pm, an, cdv, ct, osl, lk, hcd, kp⟩ := T.d_Round___init__
  have hb : ∀ us ws : List Value, us.length + ws.length = 3 → ws.length = (["loop", "head"] : List Str).length → bindArgs (PySem.W.fnOf "__init__" "Round.__init__" (defArgs s_Round___init__) (defBody s_Round___init__) (defScope s_Round___init__) .none kV doc pm an cdv ct) ⟨us, (["loop", "head"] : List Str).zip ws⟩ = pure ((["self", "head", "loop"] : List Str).zip (pick [0, 2, 1] (us ++ ws))) := by
    intro us ws h1 h2
    have h3 : ws.length = 2 := h2
    have h4 : us.length = 1 := by omega
    exact match us, h4, ws, h3 with | [_], _, [_, _], _ => rfl
  have hp : ∀ vs : List V, vs.length = 3 → (pick [0, 2, 1] vs).length = (["self", "head", "loop"] : List Str).length := fun vs h => match vs, h with | [_, _, _], _ => rfl
  have hd := fnG_def (P := P) (w := w) (mg := mg) (base := base) (k := 1) (b := b_Round___init__) (["loop", "head"] : List Str) [0, 2, 1] 3 exitR_ok lk hcd sc_Round___init__ hb hp
  refine hd fun A outer s H E gd hr => ?_
  exact (js_cons (js_if (jt_not (jt_tru (j_call ((g_are_letters T).mono (by decide)) gd hr (takes_of rfl rfl rfl rfl) rfl T.m_are_letters T.d_are_letters.kp (ja_cons (j_var 1) ja_nil)))) (js_one js_never) js_nil)
  (js_cons (js_if (PW.pt (jw_or (jt_not (jt_tru (j_call ((g_are_letters T).mono (by decide)) gd hr (takes_of rfl rfl rfl rfl) rfl T.m_are_letters T.d_are_letters.kp (ja_cons (j_var 2) ja_nil)))) (jw_or1 (jt_cmp (op_eqA hr.units) os_eq (j_var 2) j_str (nomark _))))) (js_one js_never) js_nil)
  (js_one (js_asg (j_call ((g_shortest_head T).mono (by decide)) gd hr (takes_of rfl rfl rfl rfl) rfl T.m_shortest_head T.d_shortest_head.kp (ja_cons (j_var 1) (ja_cons (j_call ((g_shortest_loop T).mono (by decide)) gd hr (takes_of rfl rfl rfl rfl) rfl T.m_shortest_loop T.d_shortest_loop.kp (ja_cons (j_var 2) ja_nil)) ja_nil))) (jg_tup rfl (jgs_cons (jg_fld (W := W0) (cs := ["Round"]) (j_var 0) (fl1 T.cls_Round T.na_Round_begin)) (jgs_cons (jg_fld (W := W0) (cs := ["Round"]) (j_var 0) (fl1 T.cls_Round T.na_Round_cycle)) jgs_nil)))))))
def b_Round___eq__ : Ss := (sRet (eAnd (eUn (fIsi [("str", false), ("tuple", false)] [("Round", true)]) (eVar 1)) (eAnd (eOp fEq (eUn (fFld ["Round"] "begin") (eVar 0)) (eUn (fFld ["Round"] "begin") (eVar 1))) (eOp fEq (eUn (fFld ["Round"] "cycle") (eVar 0)) (eUn (fFld ["Round"] "cycle") (eVar 1))))))
def m_Round___eq__ : FS := fun xs M => if xs.length = 2 then fnS exitR 2 b_Round___eq__ (pick [0, 1] xs) M else .bad
theorem u_Round___eq__ {x0 x1 : Vl} {M : List Mu} : m_Round___eq__ [x0, x1] M = exitR M.length (b_Round___eq__ [some x0, some x1] M) := rfl
theorem g_Round___eq__ (T : Txt K mg) : FnG P w K mg base 1 (He.ma K (He.ga K "Round") "__eq__") [] m_Round___eq__ := by
  obtain ⟨oc, od, kV, doc, pm, an, cdv, ct, osl, lk, hcd, kp⟩ := T.d_Round___eq__
  have hb : ∀ us ws : List Value, us.length + ws.length = 2 → ws.length = ([] : List Str).length → bindArgs (PySem.W.fnOf "__eq__" "Round.__eq__" (defArgs s_Round___eq__) (defBody s_Round___eq__) (defScope s_Round___eq__) .none kV doc pm an cdv ct) ⟨us, ([] : List Str).zip ws⟩ = pure ((["self", "other"] : List Str).zip (pick [0, 1] (us ++ ws))) := by
    intro us ws h1 h2
    cases List.eq_nil_of_length_eq_zero (show ws.length = 0 from h2)
    exact match us, (show us.length = 2 from h1) with | [_, _], _ => rfl
  have hp : ∀ vs : List V, vs.length = 2 → (pick [0, 1] vs).length = (["self", "other"] : List Str).length := fun vs h => match vs, h with | [_, _], _ => rfl
  have hd := fnG_def (P := P) (w := w) (mg := mg) (base := base) (k := 0) (b := b_Round___eq__) ([] : List Str) [0, 1] 2 exitR_ok lk hcd sc_Round___eq__ hb hp
  refine hd fun A outer s H E gd hr => ?_
  exact (js_one (js_ret (j_and (j_isi [("str", false), ("tuple", false)] [("Round", true)] rfl T.n_isinstance (j_var 1) (pe_glob (v := .ref (He.ga K "Round")) rfl T.m_Round rfl) (.own _) (isiCons T.kb_str_Round (isiCons T.kb_tuple_Round isiNil)) (isiCons ⟨T.it_Round, T.kc_Round_Round⟩ isiNil)) (j_and (j_cmp (op_eqA hr.units) os_eq (j_fld (cs := ["Round"]) (j_var 0) (fl1 T.cls_Round T.na_Round_begin)) (j_fld (cs := ["Round"]) (j_var 1) (fl1 T.cls_Round T.na_Round_begin)) (nomark _)) (j_one (j_cmp (op_eqA hr.units) os_eq (j_fld (cs := ["Round"]) (j_var 0) (fl1 T.cls_Round T.na_Round_cycle)) (j_fld (cs := ["Round"]) (j_var 1) (fl1 T.cls_Round T.na_Round_cycle)) (nomark _)))))))
def b__law_right : Ss := (sSeq (sAsg (eOp fIx (eLst (eCons (eC (.str "a")) (eCons (eC (.str "ab")) (eCons (eC (.str "xyz")) eNil)))) (eAp m__law_card (eCons (eVar 0) (eCons (eC (.int 3)) eNil)))) (gN 1))
  (sSeq (sAsg (eAp m__law_drawn (eCons (eVar 0) (eCons (eVar 1) eNil))) (gT 2 (gAnd (gN 2) (gAnd (gN 3) gEnd))))
  (sSeq (sPar 4 5 (eCons (eAp (newS "Round" m_Round___init__) (eCons (eVar 2) (eCons (eVar 3) eNil))) (eCons (eAp m__law_least (eCons (eVar 2) (eCons (eVar 3) eNil))) eNil)))
  (sSeq (sAsg (eJoin (eC (.str "")) (eLc (eRng1 (eCons (eC (.int 30)) eNil)) (cName 9) eTrue (eAp m__law_sign (eCons (eVar 2) (eCons (eVar 3) (eCons (eVar 9) eNil)))) [9])) (gN 6))
  (sSeq (sAsg (eOp fAdd (eOp fAdd (eOp fAdd (eOp fIx (eVar 5) (eC (.int 0))) (eC (.str "("))) (eOp fIx (eVar 5) (eC (.int 1)))) (eC (.str ")"))) (gN 7))
  (sSeq (sIf (eBool (eOp fNe (eLst (eCons (eUn (fProp "Round" m_Round_head) (eVar 4)) (eCons (eUn (fProp "Round" m_Round_loop) (eVar 4)) (eCons (eAp (fStrA "Round" m_Round___str__) (eCons (eVar 4) eNil)) (eCons (eAp (fReprA "Round" m_Round___repr__) (eCons (eVar 4) eNil)) eNil))))) (eLst (eCons (eOp fIx (eVar 5) (eC (.int 0))) (eCons (eOp fIx (eVar 5) (eC (.int 1))) (eCons (eVar 7) (eCons (eOp fAdd (eOp fAdd (eC (.str "Round(")) (eVar 7)) (eC (.str ")"))) eNil))))))) (sRet (eC (.bl false))) sNext)
  (sSeq (sAsg (eAp m__law_card (eCons (eVar 0) (eCons (eC (.int 31)) eNil))) (gN 8))
  (sSeq (sIf (eBool (eOp fNe (eLst (eCons (eMeth "Round" "first" m_Round_first (eVar 4) (eCons (eVar 8) eNil)) (eCons (eMeth "Round" "first" (fun xs M => if xs.length = 1 + 1 then m_Round_first_many xs M else .bad) (eVar 4) (eCons (eC (.int 30)) eNil)) (eCons (eMeth "Round" "first" m_Round_first (eVar 4) (eCons (eC (.int 0)) eNil)) eNil)))) (eLst (eCons (eSl (eVar 6) eNoPart (ePart (eVar 8))) (eCons (eVar 6) (eCons (eC (.str "")) eNil)))))) (sRet (eC (.bl false))) sNext)
  (sSeq (sFor (eIter (eOp fAdd (eListRg (eC (.int 30))) (eLst (eCons (eAp m__law_far (eCons (eVar 0) (eCons (eC (.int 13)) eNil))) (eCons (eAp m__law_far (eCons (eVar 0) (eCons (eC (.int 5)) eNil))) eNil))))) (gN 9) (sIf (eBool (eOp fNe (eOp (fIxOwn "Round" m_Round___getitem__) (eVar 4) (eVar 9)) (eAp m__law_sign (eCons (eVar 2) (eCons (eVar 3) (eCons (eVar 9) eNil)))))) (sRet (eC (.bl false))) sNext))
  (sSeq (sPar 10 11 (eCons (eOp fAdd (eVar 2) (eVar 3)) (eCons (eOp fMulS (eVar 3) (eC (.int 2))) eNil)))
  (sSeq (sIf (eBool (eOp fEq (eAp m__law_card (eCons (eVar 0) (eCons (eC (.int 2)) eNil))) (eC (.int 0)))) (sAsg (eAp m__law_drawn (eCons (eVar 0) (eCons (eVar 1) eNil))) (gT 2 (gAnd (gN 10) (gAnd (gN 11) gEnd)))) sNext)
  (sSeq (sAsg (eAp (fun xs M => if xs.length = 2 then newS "Round" m_Round___init___loop_head xs M else .bad) (eCons (eVar 11) (eCons (eVar 10) eNil))) (gN 12))
  (sSeq (sAsg (eOp fEq (eAp m__law_least (eCons (eVar 10) (eCons (eVar 11) eNil))) (eVar 5)) (gN 13))
  (sSeq (sIf (eBool (eOp fNe (eLst (eCons (eOp (fEqOwn false "Round" m_Round___eq__ ["str", "tuple"] ["Round"]) (eVar 4) (eVar 12)) (eCons (eOp (fEqOwn false "Round" m_Round___eq__ ["str", "tuple"] ["Round"]) (eVar 12) (eVar 4)) (eCons (eOp (fEqOwn true "Round" m_Round___eq__ ["str", "tuple"] ["Round"]) (eVar 4) (eVar 12)) eNil)))) (eLst (eCons (eVar 13) (eCons (eVar 13) (eCons (eNot (eVar 13)) eNil)))))) (sRet (eC (.bl false))) sNext)
  (sRet (eAnd (eOp (fEqOwn true "Round" m_Round___eq__ ["str", "tuple"] ["Round"]) (eVar 4) (eAp (fStrA "Round" m_Round___str__) (eCons (eVar 4) eNil))) (eAnd (eOp (fEqOwn true "Round" m_Round___eq__ ["str", "tuple"] ["Round"]) (eVar 4) (eTup (eCons (eVar 2) (eCons (eVar 3) eNil)))) (eOp (fEqOwn false "Round" m_Round___eq__ ["str", "tuple"] ["Round"]) (eVar 4) (eAp (newS "Round" m_Round___init__) (eCons (eUn (fProp "Round" m_Round_head) (eVar 4)) (eCons (eUn (fProp "Round" m_Round_loop) (eVar 4)) eNil)))))))))))))))))))))
def m__law_right : FS := fun xs M => if xs.length = 1 then fnS exitR 14 b__law_right (pick [0] xs) M else .bad
theorem u__law_right {x0 : Vl} {M : List Mu} : m__law_right [x0] M = exitR M.length (b__law_right [some x0, none, none, none, none, none, none, none, none, none, none, none, none, none] M) := rfl
theorem g__law_right (T : Txt K mg) : FnG P w K mg base 6 (He.ga K "_law_right") [] m__law_right := by
  obtain ⟨oc, od, kV, doc, pm, an, cdv, ct, osl, lk, hcd, kp⟩ := T.d__law_right
  have hb : ∀ us ws : List Value, us.length + ws.length = 1 → ws.length = ([] : List Str).length → bindArgs (PySem.W.fnOf "_law_right" "_law_right" (defArgs s__law_right) (defBody s__law_right) (defScope s__law_right) .none kV doc pm an cdv ct) ⟨us, ([] : List Str).zip ws⟩ = pure ((["_law_deck_here"] : List Str).zip (pick [0] (us ++ ws))) := by
    intro us ws h1 h2
    cases List.eq_nil_of_length_eq_zero (show ws.length = 0 from h2)
    exact match us, (show us.length = 1 from h1) with | [_], _ => rfl
  have hp : ∀ vs : List V, vs.length = 1 → (pick [0] vs).length = (["_law_deck_here"] : List Str).length := fun vs h => match vs, h with | [_], _ => rfl
  have hd := fnG_def (P := P) (w := w) (mg := mg) (base := base) (k := 5) (b := b__law_right) ([] : List Str) [0] 1 exitR_ok lk hcd sc__law_right hb hp
  refine hd fun A outer s H E gd hr => ?_
  exact (js_cons (js_set (i := 1) sc__law_right.nd rfl (Or.inl rfl) (j_ix (j_lst (ja_cons j_str (ja_cons j_str (ja_cons j_str ja_nil)))) (j_call ((g__law_card T).mono (by decide)) gd hr (takes_of rfl rfl rfl rfl) rfl T.m__law_card T.d__law_card.kp (ja_cons (j_var 0) (ja_cons j_int ja_nil))) (fun _ _ => rfl)))
  (js_cons (js_asg (j_call ((g__law_drawn T).mono (by decide)) gd hr (takes_of rfl rfl rfl rfl) rfl T.m__law_drawn T.d__law_drawn.kp (ja_cons (j_var 0) (ja_cons (j_var 1) ja_nil))) (jg_tup rfl (jgs_cons (jg_name (i := 2) sc__law_right.nd rfl (Or.inr rfl)) (jgs_cons (jg_name (i := 3) sc__law_right.nd rfl (Or.inr rfl)) jgs_nil))))
  (js_cons (js_par (i := 4) (j := 5) rfl sc__law_right.nd rfl rfl (by decide) rfl rfl (ja_cons (j_new (x := "Round") T.mk_Round ((g_Round___init__ T).mono (by decide)) gd hr (takes_of rfl rfl rfl rfl) rfl T.m_Round (ja_cons (j_var 2) (ja_cons (j_var 3) ja_nil))) (ja_cons (j_call ((g__law_least T).mono (by decide)) gd hr (takes_of rfl rfl rfl rfl) rfl T.m__law_least T.d__law_least.kp (ja_cons (j_var 2) (ja_cons (j_var 3) ja_nil))) ja_nil)) rfl)
  (js_cons (js_set (i := 6) sc__law_right.nd rfl (Or.inl rfl) (j_join j_str (j_lc (own := [("_law_spot", 9)]) rfl sc__law_right.nd (ji_range1 rfl T.n_range (ja_cons j_int ja_nil)) (blkOk_by (N := N__law_right) (sc := defScope s__law_right) (own := [("_law_spot", 9)]) (by decide +kernel)) (ct_name (by decide)) (fun s H C cl fp => (pg_name (i := 9) sc__law_right.nd rfl (Or.inl rfl))) (fun s H C cl fp => jts_nil) (fun s H C cl fp => (j_call ((g__law_sign T).mono (by decide)) gd hr takes0 rfl T.m__law_sign T.d__law_sign.kp (ja_cons (j_var 2) (ja_cons (j_var 3) (ja_cons (j_var 9) ja_nil))))))))
  (js_cons (js_set (i := 7) sc__law_right.nd rfl (Or.inl rfl) (j_op op_addA os_add (j_op op_addA os_add (j_op op_addA os_add (j_ix (j_var 5) j_int (fun _ _ => rfl)) j_str) (j_ix (j_var 5) j_int (fun _ _ => rfl))) j_str))
  (js_cons (js_if (jt_cmp (op_neA hr.units) os_ne (j_lst (ja_cons (j_prop (C := "Round") (j_var 4) T.cls_Round T.pr_Round_head ((g_Round_head T).mono (by decide)) gd hr) (ja_cons (j_prop (C := "Round") (j_var 4) T.cls_Round T.pr_Round_loop ((g_Round_loop T).mono (by decide)) gd hr) (ja_cons (j_callTy (call_str.or (call_strOwn (C := "Round") T.me_Round___str__.at_ T.me_Round___str__.fn ((g_Round___str__ T).mono (by decide)) gd hr)) cs_strA rfl T.n_str bt_str (ja_cons (j_var 4) ja_nil)) (ja_cons (j_callB ((call_repr gd (un100 hr)).or (call_reprOwn (C := "Round") T.me_Round___repr__.at_ T.me_Round___repr__.fn ((g_Round___repr__ T).mono (by decide)) gd hr)) cs_reprA rfl T.n_repr bt_repr (ja_cons (j_var 4) ja_nil)) ja_nil))))) (j_lst (ja_cons (j_ix (j_var 5) j_int (fun _ _ => rfl)) (ja_cons (j_ix (j_var 5) j_int (fun _ _ => rfl)) (ja_cons (j_var 7) (ja_cons (j_op op_addA os_add (j_op op_addA os_add j_str (j_var 7)) j_str) ja_nil))))) (nomark _)) (js_one (js_ret j_bl)) js_nil)
  (js_cons (js_set (i := 8) sc__law_right.nd rfl (Or.inl rfl) (j_call ((g__law_card T).mono (by decide)) gd hr (takes_of rfl rfl rfl rfl) rfl T.m__law_card T.d__law_card.kp (ja_cons (j_var 0) (ja_cons j_int ja_nil))))
  (js_cons (js_if (jt_cmp (op_neA hr.units) os_ne (j_lst (ja_cons (j_meth (C := "Round") (j_var 4) T.cls_Round T.me_Round_first ((g_Round_first T).mono (by decide)) gd hr (takes_of rfl rfl rfl rfl) (ja_cons (j_var 8) ja_nil)) (ja_cons (j_methK0 (C := "Round") (fs := m_Round_first_many) (ks := ["many"]) (j_var 4) T.cls_Round T.me_Round_first ((g_Round_first_many T).mono (by decide)) gd hr (takes_of rfl rfl rfl rfl) (jk_cons j_int jk_nil) rfl) (ja_cons (j_meth (C := "Round") (j_var 4) T.cls_Round T.me_Round_first ((g_Round_first T).mono (by decide)) gd hr (takes_of rfl rfl rfl rfl) (ja_cons j_int ja_nil)) ja_nil)))) (j_lst (ja_cons (j_slice (j_var 6) jo_none (jo_some (j_var 8))) (ja_cons (j_var 6) (ja_cons j_str ja_nil)))) (nomark _)) (js_one (js_ret j_bl)) js_nil)
  (js_cons (js_for (passes_of rfl) rfl (ji_any (j_op op_addA os_add (j_listRg rfl rfl T.n_list rfl T.n_range j_int) (j_lst (ja_cons (j_call ((g__law_far T).mono (by decide)) gd hr (takes_of rfl rfl rfl rfl) rfl T.m__law_far T.d__law_far.kp (ja_cons (j_var 0) (ja_cons j_int ja_nil))) (ja_cons (j_call ((g__law_far T).mono (by decide)) gd hr (takes_of rfl rfl rfl rfl) rfl T.m__law_far T.d__law_far.kp (ja_cons (j_var 0) (ja_cons j_int ja_nil))) ja_nil))))) (jg_name (i := 9) sc__law_right.nd rfl (Or.inl rfl)) (js_one (js_if (jt_cmp (op_neA hr.units) os_ne (j_ixOwn (C := "Round") T.me_Round___getitem__.at_ T.me_Round___getitem__.fn T.d_Round___getitem__.fnIn ((g_Round___getitem__ T).mono (by decide)) gd hr (j_var 4) (j_var 9) (fun _ _ => by with_unfolding_all rfl)) (j_call ((g__law_sign T).mono (by decide)) gd hr (takes_of rfl rfl rfl rfl) rfl T.m__law_sign T.d__law_sign.kp (ja_cons (j_var 2) (ja_cons (j_var 3) (ja_cons (j_var 9) ja_nil)))) (nomark _)) (js_one (js_ret j_bl)) js_nil)))
  (js_cons (js_par (i := 10) (j := 11) rfl sc__law_right.nd rfl rfl (by decide) rfl rfl (ja_cons (j_op op_addA os_add (j_var 2) (j_var 3)) (ja_cons (j_op (op_mulA.or op_mul_str) os_mulS (j_var 3) j_int) ja_nil)) rfl)
  (js_cons (js_if (jt_cmp (op_eqA hr.units) os_eq (j_call ((g__law_card T).mono (by decide)) gd hr (takes_of rfl rfl rfl rfl) rfl T.m__law_card T.d__law_card.kp (ja_cons (j_var 0) (ja_cons j_int ja_nil))) j_int (nomark _)) (js_one (js_asg (j_call ((g__law_drawn T).mono (by decide)) gd hr (takes_of rfl rfl rfl rfl) rfl T.m__law_drawn T.d__law_drawn.kp (ja_cons (j_var 0) (ja_cons (j_var 1) ja_nil))) (jg_tup rfl (jgs_cons (jg_name (i := 10) sc__law_right.nd rfl (Or.inl rfl)) (jgs_cons (jg_name (i := 11) sc__law_right.nd rfl (Or.inl rfl)) jgs_nil))))) js_nil)
  (js_cons (js_set (i := 12) sc__law_right.nd rfl (Or.inl rfl) (j_newK0 (x := "Round") (fs := m_Round___init___loop_head) (ks := ["loop", "head"]) T.mk_Round ((g_Round___init___loop_head T).mono (by decide)) gd hr (takes_of rfl rfl rfl rfl) rfl T.m_Round (jk_cons (j_var 11) (jk_cons (j_var 10) jk_nil)) rfl))
  (js_cons (js_set (i := 13) sc__law_right.nd rfl (Or.inl rfl) (j_cmp (op_eqA hr.units) os_eq (j_call ((g__law_least T).mono (by decide)) gd hr (takes_of rfl rfl rfl rfl) rfl T.m__law_least T.d__law_least.kp (ja_cons (j_var 10) (ja_cons (j_var 11) ja_nil))) (j_var 5) (nomark _)))
  (js_cons (js_if (jt_cmp (op_neA hr.units) os_ne (j_lst (ja_cons (j_cmp ((op_eqA hr.units).or (op_eqOwn T.me_Round___eq__.at_ T.me_Round___eq__.fn ((g_Round___eq__ T).mono (by decide)) gd hr)) (os_eqOwn (memCons T.sb_str_Round (memCons T.sb_tuple_Round memNil)) (memCons ⟨T.it_Round, T.nf_Round_Round⟩ memNil)) (j_var 4) (j_var 12) (nomark _)) (ja_cons (j_cmp ((op_eqA hr.units).or (op_eqOwn T.me_Round___eq__.at_ T.me_Round___eq__.fn ((g_Round___eq__ T).mono (by decide)) gd hr)) (os_eqOwn (memCons T.sb_str_Round (memCons T.sb_tuple_Round memNil)) (memCons ⟨T.it_Round, T.nf_Round_Round⟩ memNil)) (j_var 12) (j_var 4) (nomark _)) (ja_cons (j_cmp ((op_neA hr.units).or (op_neOwn T.ob_Round T.ne_Round T.me_Round___eq__.at_ T.me_Round___eq__.fn ((g_Round___eq__ T).mono (by decide)) gd hr)) (os_neOwn (memCons T.sb_str_Round (memCons T.sb_tuple_Round memNil)) (memCons ⟨T.it_Round, T.nf_Round_Round⟩ memNil)) (j_var 4) (j_var 12) (nomark _)) ja_nil)))) (j_lst (ja_cons (j_var 13) (ja_cons (j_var 13) (ja_cons (j_not (j_var 13)) ja_nil)))) (nomark _)) (js_one (js_ret j_bl)) js_nil)
  (js_one (js_ret (j_and (j_cmp ((op_neA hr.units).or (op_neOwn T.ob_Round T.ne_Round T.me_Round___eq__.at_ T.me_Round___eq__.fn ((g_Round___eq__ T).mono (by decide)) gd hr)) (os_neOwn (memCons T.sb_str_Round (memCons T.sb_tuple_Round memNil)) (memCons ⟨T.it_Round, T.nf_Round_Round⟩ memNil)) (j_var 4) (j_callTy (call_str.or (call_strOwn (C := "Round") T.me_Round___str__.at_ T.me_Round___str__.fn ((g_Round___str__ T).mono (by decide)) gd hr)) cs_strA rfl T.n_str bt_str (ja_cons (j_var 4) ja_nil)) (nomark _)) (j_and (j_cmp ((op_neA hr.units).or (op_neOwn T.ob_Round T.ne_Round T.me_Round___eq__.at_ T.me_Round___eq__.fn ((g_Round___eq__ T).mono (by decide)) gd hr)) (os_neOwn (memCons T.sb_str_Round (memCons T.sb_tuple_Round memNil)) (memCons ⟨T.it_Round, T.nf_Round_Round⟩ memNil)) (j_var 4) (j_tup (ja_cons (j_var 2) (ja_cons (j_var 3) ja_nil))) (nomark _)) (j_one (j_cmp ((op_eqA hr.units).or (op_eqOwn T.me_Round___eq__.at_ T.me_Round___eq__.fn ((g_Round___eq__ T).mono (by decide)) gd hr)) (os_eqOwn (memCons T.sb_str_Round (memCons T.sb_tuple_Round memNil)) (memCons ⟨T.it_Round, T.nf_Round_Round⟩ memNil)) (j_var 4) (j_new (x := "Round") T.mk_Round ((g_Round___init__ T).mono (by decide)) gd hr (takes_of rfl rfl rfl rfl) rfl T.m_Round (ja_cons (j_prop (C := "Round") (j_var 4) T.cls_Round T.pr_Round_head ((g_Round_head T).mono (by decide)) gd hr) (ja_cons (j_prop (C := "Round") (j_var 4) T.cls_Round T.pr_Round_loop ((g_Round_loop T).mono (by decide)) gd hr) ja_nil))) (nomark _)))))))))))))))))))))
def b__law_deck : Ss := (sSeq (sAsg (eIf (eBool (eOp fLt (eVar 1) (eAp fLen (eCons (eVar 0) eNil)))) (eOp fIx (eVar 0) (eVar 1)) (eOp fAdd (eOp fMulS (eC (.int 5)) (eVar 1)) (eC (.int 2)))) (gN 2))
  (sSeq (sAsg (eOp fAdd (eC (.int 50021)) (eOp fMulS (eC (.int 8117)) (eVar 1))) (gN 3))
  (sSeq (sFor (eIter (eOp fAdd (eSl (eVar 0) eNoPart (ePart (eC (.int 4)))) (eLst (eCons (eVar 2) eNil)))) (gN 4) (sAsg (eOp fMod (eAp fInt (eCons (eOp fAdd (eOp fMulS (eVar 3) (eC (.int 27947))) (eVar 4)) eNil)) (eC (.int 2147483629))) (gN 3)))
  (sRet (eLstM (eCons (eIf (eOrT (eBool (eOp fLt (eVar 2) (eC (.int 0)))) (eBool (eOp fGe (eVar 2) (eOp fPow (eC (.int 10)) (eC (.int 18)))))) (eAp fAbs (eCons (eVar 2) eNil)) (eC (.int 0))) (eCons (eVar 3) (eCons (eC (.int 0)) eNil))))))))
def m__law_deck : FS := fun xs M => if xs.length = 2 then fnS exitM 5 b__law_deck (pick [0, 1] xs) M else .bad
theorem u__law_deck {x0 x1 : Vl} {M : List Mu} : m__law_deck [x0, x1] M = exitM M.length (b__law_deck [some x0, some x1, none, none, none] M) := rfl
theorem g__law_deck (T : Txt K mg) : FnG P w K mg base 1 (He.ga K "_law_deck") [] m__law_deck := by
  obtain ⟨oc, od, kV, doc, pm, an, cdv, ct, osl, lk, hcd, kp⟩ := T.d__law_deck
  have hb : ∀ us ws : List Value, us.length + ws.length = 2 → ws.length = ([] : List Str).length → bindArgs (PySem.W.fnOf "_law_deck" "_law_deck" (defArgs s__law_deck) (defBody s__law_deck) (defScope s__law_deck) .none kV doc pm an cdv ct) ⟨us, ([] : List Str).zip ws⟩ = pure ((["_law_cells", "_law_turn"] : List Str).zip (pick [0, 1] (us ++ ws))) := by
    intro us ws h1 h2
    cases List.eq_nil_of_length_eq_zero (show ws.length = 0 from h2)
    exact match us, (show us.length = 2 from h1) with | [_, _], _ => rfl
  have hp : ∀ vs : List V, vs.length = 2 → (pick [0, 1] vs).length = (["_law_cells", "_law_turn"] : List Str).length := fun vs h => match vs, h with | [_, _], _ => rfl
  have hd := fnG_def (P := P) (w := w) (mg := mg) (base := base) (k := 0) (b := b__law_deck) ([] : List Str) [0, 1] 2 exitM_ok lk hcd sc__law_deck hb hp
  refine hd fun A outer s H E gd hr => ?_
  exact (js_cons (js_set (i := 2) sc__law_deck.nd rfl (Or.inl rfl) (j_if (jt_cmp op_lt os_lt (j_var 1) (j_callB call_len cs_len rfl T.n_len bt_len (ja_cons (j_var 0) ja_nil)) (nomark _)) (j_ix (j_var 0) (j_var 1) (fun _ _ => rfl)) (j_op op_addA os_add (j_op (op_mulA.or op_mul_str) os_mulS j_int (j_var 1)) j_int)))
  (js_cons (js_set (i := 3) sc__law_deck.nd rfl (Or.inl rfl) (j_op op_addA os_add j_int (j_op (op_mulA.or op_mul_str) os_mulS j_int (j_var 1))))
  (js_cons (js_for (passes_of rfl) rfl (ji_any (j_op op_addA os_add (j_slice (j_var 0) jo_none (jo_some j_int)) (j_lst (ja_cons (j_var 2) ja_nil)))) (jg_name (i := 4) sc__law_deck.nd rfl (Or.inl rfl)) (js_one (js_set (i := 3) sc__law_deck.nd rfl (Or.inl rfl) (j_op op_mod os_mod (j_callTy call_int1 cs_int rfl T.n_int bt_int (ja_cons (j_op op_addA os_add (j_op (op_mulA.or op_mul_str) os_mulS (j_var 3) j_int) (j_var 4)) ja_nil)) j_int))))
  (js_one (js_ret (j_lstM (ja_cons (j_if (PW.pt (jw_or (jt_cmp op_lt os_lt (j_var 2) j_int (nomark _)) (jw_or1 (jt_cmp op_ge os_ge (j_var 2) (j_op op_pow os_pow j_int j_int) (nomark _))))) (j_callB call_abs cs_abs rfl T.n_abs bt_abs (ja_cons (j_var 2) ja_nil)) j_int) (ja_cons (j_var 3) (ja_cons j_int ja_nil)))))))))
def b_law : Ss := (sRet (eAp fAll (eCons (eLc (eRng1 (eCons (eAp fMax2 (eCons (eC (.int 2)) (eCons (eAp fMin2 (eCons (eAp fLen (eCons (eVar 0) eNil)) (eCons (eC (.int 10)) eNil))) eNil))) eNil)) (cName 1) eTrue (eAp m__law_right (eCons (eAp m__law_deck (eCons (eVar 0) (eCons (eVar 1) eNil))) eNil)) [1]) eNil)))
def m_law : FS := fun xs M => if xs.length = 1 then fnS exitR 2 b_law (pick [0] xs) M else .bad
theorem u_law {x0 : Vl} {M : List Mu} : m_law [x0] M = exitR M.length (b_law [some x0, none] M) := rfl
theorem g_law (T : Txt K mg) : FnG P w K mg base 7 (He.ga K "law") [] m_law := by
  obtain ⟨oc, od, kV, doc, pm, an, cdv, ct, osl, lk, hcd, kp⟩ := T.d_law
  have hb : ∀ us ws : List Value, us.length + ws.length = 1 → ws.length = ([] : List Str).length → bindArgs (PySem.W.fnOf "law" "law" (defArgs s_law) (defBody s_law) (defScope s_law) .none kV doc pm an cdv ct) ⟨us, ([] : List Str).zip ws⟩ = pure ((["_law_cells"] : List Str).zip (pick [0] (us ++ ws))) := by
    intro us ws h1 h2
    cases List.eq_nil_of_length_eq_zero (show ws.length = 0 from h2)
    exact match us, (show us.length = 1 from h1) with | [_], _ => rfl
  have hp : ∀ vs : List V, vs.length = 1 → (pick [0] vs).length = (["_law_cells"] : List Str).length := fun vs h => match vs, h with | [_], _ => rfl
  have hd := fnG_def (P := P) (w := w) (mg := mg) (base := base) (k := 6) (b := b_law) ([] : List Str) [0] 1 exitR_ok lk hcd sc_law hb hp
  refine hd fun A outer s H E gd hr => ?_
  exact (js_one (js_ret (j_callB (cr_all rfl) cs_all rfl T.n_all bt_all (ja_cons (j_lc (own := [("_law_turn", 1)]) rfl sc_law.nd (ji_range1 rfl T.n_range (ja_cons (j_callB (call_max2 rfl) cs_max2 rfl T.n_max bt_max (ja_cons j_int (ja_cons (j_callB (call_min2 rfl) cs_min2 rfl T.n_min bt_min (ja_cons (j_callB call_len cs_len rfl T.n_len bt_len (ja_cons (j_var 0) ja_nil)) (ja_cons j_int ja_nil))) ja_nil))) ja_nil)) (blkOk_by (N := N_law) (sc := defScope s_law) (own := [("_law_turn", 1)]) (by decide +kernel)) (ct_name (by decide)) (fun s H C cl fp => (pg_name (i := 1) sc_law.nd rfl (Or.inl rfl))) (fun s H C cl fp => jts_nil) (fun s H C cl fp => (j_call ((g__law_right T).mono (by decide)) gd hr takes0 rfl T.m__law_right T.d__law_right.kp (ja_cons (j_call ((g__law_deck T).mono (by decide)) gd hr takes0 rfl T.m__law_deck T.d__law_deck.kp (ja_cons (j_var 0) (ja_cons (j_var 1) ja_nil))) ja_nil)))) ja_nil))))
end
end K25

namespace K25
open PySem L2 Wv
local macro_rules
  | `(tactic| walk_at "bd") => `(tactic| first
    | with_reducible exact bd_TT
    | with_reducible exact bd_FF
    | with_reducible assumption
    | ((with_reducible apply bd_nF); walk_at "bd")
    | ((with_reducible apply bd_nT); walk_at "bd")
    | ((with_reducible apply bd_t); first | assumption | with_reducible rfl | omega | decide)
    | ((with_reducible apply bd_f); first | assumption | omega | decide)
    | ((with_reducible apply bd_aT); walk_at "bd"; walk_at "bd")
    | ((with_reducible apply bd_aL); walk_at "bd")
    | ((with_reducible apply bd_aR); walk_at "bd")
    | ((with_reducible apply bd_oF); walk_at "bd"; walk_at "bd")
    | ((with_reducible apply bd_oL); walk_at "bd")
    | ((with_reducible apply bd_oR); walk_at "bd")
    | exact bd_idT (by decide)
    | exact bd_idF (by decide))
  | `(tactic| walk_at "st") => `(tactic| first | with_reducible exact y_set0 | ((with_reducible apply y_setS); walk_at "st"))
  | `(tactic| wp_walk using $ts,*) => `(tactic| first
    $[| with_reducible exact $ts:term]*
    | with_reducible assumption
    | ((with_reducible apply y_var); exact rfl)
    | with_reducible exact y_c
    | with_reducible exact y_nil
    | with_reducible exact y_noPart
    | ((with_reducible apply y_cons); wp_walk using $ts,*; wp_walk using $ts,*)
    | ((with_reducible apply y_op); wp_walk using $ts,*; wp_walk using $ts,*; wp_walk using $ts,*)
    | ((with_reducible apply y_un); wp_walk using $ts,*; wp_walk using $ts,*)
    | ((with_reducible apply y_ap); wp_walk using $ts,*; wp_walk using $ts,*)
    | ((with_reducible apply y_bool); wp_walk using $ts,*)
    | ((with_reducible apply y_tru); wp_walk using $ts,*; wp_walk using $ts,*)
    | ((with_reducible apply y_notT); wp_walk using $ts,*)
    | ((with_reducible apply y_not); wp_walk using $ts,*)
    | ((with_reducible apply y_andT); wp_walk using $ts,*; walk_at "bd"; wp_walk using $ts,*)
    | ((with_reducible apply y_orT); wp_walk using $ts,*; walk_at "bd"; wp_walk using $ts,*)
    | with_reducible exact y_bK
    | ((with_reducible apply y_bT); wp_walk using $ts,*)
    | ((with_reducible apply y_bF); wp_walk using $ts,*)
    | ((with_reducible apply y_ifE); wp_walk using $ts,*; walk_at "bd"; wp_walk using $ts,*)
    | ((with_reducible apply y_eT); wp_walk using $ts,*)
    | ((with_reducible apply y_eF); wp_walk using $ts,*)
    | ((with_reducible apply y_and); wp_walk using $ts,*; walk_at "bd"; wp_walk using $ts,*)
    | ((with_reducible apply y_or); wp_walk using $ts,*; walk_at "bd"; wp_walk using $ts,*)
    | with_reducible exact y_andKF
    | with_reducible exact y_orKT
    | ((with_reducible apply y_andKT); wp_walk using $ts,*)
    | ((with_reducible apply y_orKF); wp_walk using $ts,*)
    | ((with_reducible apply y_chain); wp_walk using $ts,*; wp_walk using $ts,*; wp_walk using $ts,*; walk_at "bd"; wp_walk using $ts,*)
    | ((with_reducible apply y_last); wp_walk using $ts,*; wp_walk using $ts,*)
    | ((with_reducible apply y_sl); wp_walk using $ts,*; wp_walk using $ts,*; wp_walk using $ts,*; wp_walk using $ts,*)
    | ((with_reducible apply y_part); wp_walk using $ts,*)
    | ((with_reducible apply y_lst); wp_walk using $ts,*; exact rfl; first | exact Nat.le_of_ble_eq_true rfl | omega)
    | ((with_reducible apply y_tup); wp_walk using $ts,*; exact rfl; first | exact Nat.le_of_ble_eq_true rfl | omega)
    | with_reducible first | exact t_addI | exact t_subI | exact t_mulL (by first | assumption | omega | decide) | exact t_mulR (by first | assumption | omega | decide) | exact t_mulLS (by first | assumption | omega | decide) | exact t_mulRS (by first | assumption | omega | decide) | exact t_mod (by first | assumption | omega | decide) | exact t_div (by first | assumption | omega | decide) (by first | assumption | omega | decide) | exact t_neg | exact t_lt | exact t_le | exact t_gt | exact t_ge | exact t_eqI | exact t_neI | exact t_eqS | exact t_neS | exact t_eqB | exact t_neB | exact t_int | exact t_intB | exact t_abs | exact t_divmod (by first | assumption | omega | decide) (by first | assumption | omega | decide) | exact t_max2 | exact t_min2 | exact t_lenL | exact t_lenT | exact t_lenC | exact t_truB | exact t_truL | exact t_truI | exact t_ixT0 | exact t_ixT1 | exact t_ixT2 | exact t_ixL0 | exact t_ixL1 | exact t_ixL2
    | ((with_reducible apply y_seq); wp_walk using $ts,*; wp_walk using $ts,*)
    | ((with_reducible apply y_seqN); wp_walk using $ts,*)
    | with_reducible exact y_seqR
    | with_reducible exact y_seqB
    | with_reducible exact y_seqC
    | with_reducible exact y_seqX
    | ((with_reducible apply y_if); wp_walk using $ts,*; walk_at "bd"; wp_walk using $ts,*)
    | ((with_reducible apply y_ifT); wp_walk using $ts,*)
    | ((with_reducible apply y_ifF); wp_walk using $ts,*)
    | ((with_reducible apply y_ret); wp_walk using $ts,*)
    | ((with_reducible apply y_asgN); wp_walk using $ts,*; walk_at "st")
    | ((with_reducible apply y_asgT2); wp_walk using $ts,*; with_reducible apply y_set2; walk_at "st"; walk_at "st")
    | with_reducible exact y_next
    | with_reducible exact y_brk
    | with_reducible exact y_retN
    | with_reducible exact t_takeN _ _ _
    | with_reducible exact t_dropN _ _ _
    | with_reducible exact t_isiC (by rfl)
    | with_reducible exact t_isiB (by rfl) (by rfl)
    | ((with_reducible apply y_expr); wp_walk using $ts,*)
    | ((with_reducible apply y_parN); wp_walk using $ts,*; with_reducible apply y_set2; walk_at "st"; walk_at "st")
    | ((with_reducible apply y_for); wp_walk using $ts,*; wp_walk using $ts,*)
    | ((with_reducible apply y_rng1); wp_walk using $ts,*; first | assumption | omega | decide)
    | (focus (trace_state; fail "stuck")))

theorem v_is_integer (i : Int) (M : List Mu) : m_is_integer [.d (.int i)] M = .ok (.d (.bl true)) M := by
  show fnS exitR 1 b_is_integer [.d (.int i)] M = _
  exact fnS_rt rfl rfl
theorem v_is_number (i : Int) (h : 0 ≤ i) (M : List Mu) : m_is_number [.d (.int i)] M = .ok (.d (.bl true)) M := by
  show fnS exitR 1 b_is_number [.d (.int i)] M = _
  refine fnS_rt (sRet_ok ?_) rfl
  unfold eAnd
  rw [bnd_ok ((eAp_ok (eCons_ok rfl rfl)).trans (v_is_integer i M))]
  show Res.ok (Vl.d (.bl (decide (0 ≤ i)))) M = _
  rw [decide_eq_true h]
def dk (a b c : Int) : List Mu := [.lst [.int a, .int b, .int c]]
theorem v_card (a b c t : Int) (ha : 0 ≤ a) (ht : 0 < t) (ht' : t < 1073741824) : ∃ r a' b' c', 0 ≤ r ∧ r < t ∧ 0 ≤ a' ∧ m__law_card [.m 0, .d (.int t)] (dk a b c) = .ok (.d (.int r)) (dk a' b' c') := by
  have e : m__law_card [.m 0, .d (.int t)] (dk a b c) = fnS exitR 3 b__law_card [.m 0, .d (.int t)] (dk a b c) := rfl
  rw [e]
  by_cases h : 0 < a
  · refine ⟨a % t, a / t, b, c + 1, Int.emod_nonneg _ (by omega), Int.emod_lt_of_pos _ ht, Int.ediv_nonneg ha (by omega), ?_⟩
    refine fnS_rt (M' := dk (a / t) b (c + 1)) ?_ rfl
    unfold b__law_card
    rw [sSeq_nx (ρ' := [some (.m 0), some (.d (.int t)), none]) (M' := dk a b (c + 1)) (by rfl)]
    refine sSeq_rt ((sIf_t (M' := dk a b (c + 1)) (eBool_ok ?_)).trans ?_)
    · show Res.ok (Vl.d (.bl (decide (0 < a)))) _ = _
      rw [decide_eq_true h]
    · rw [sSeq_nx (ρ' := [some (.m 0), some (.d (.int t)), some (.d (.int (a % t)))]) (M' := dk (a / t) b (c + 1))]
      · rfl
      · unfold sAsg
        rw [sBnd_ok (a := .d (.tup [.int (a / t), .int (a % t)])) (M' := dk a b (c + 1))]
        · rfl
        · show (if 0 < t ∧ t < 1073741824 then Res.ok (Vl.d (.tup [.int (a / t), .int (a % t)])) (dk a b (c + 1)) else .bad) = _
          rw [if_pos ⟨ht, ht'⟩]
  · let b2 := (b * 39373 + 4801 * (c + 1)) % 2147483629
    refine ⟨b2 / 1024 % t, a, b2, c + 1, Int.emod_nonneg _ (by omega), Int.emod_lt_of_pos _ ht, ha, ?_⟩
    refine fnS_rt (M' := dk a b2 (c + 1)) ?_ rfl
    unfold b__law_card
    rw [sSeq_nx (ρ' := [some (.m 0), some (.d (.int t)), none]) (M' := dk a b (c + 1)) (by rfl)]
    rw [sSeq_nx (ρ' := [some (.m 0), some (.d (.int t)), none]) (M' := dk a b (c + 1))]
    · rw [sSeq_nx (ρ' := [some (.m 0), some (.d (.int t)), none]) (M' := dk a b2 (c + 1))]
      · refine sRet_ok ((eOp_ok (M2 := dk a b2 (c + 1)) (x := .d (.int (b2 / 1024))) (y := .d (.int t)) rfl rfl).trans (fMod_ok ht _))
      · unfold sAsg
        rw [sBnd_ok (a := .d (.int b2)) (M' := dk a b (c + 1))]
        · rfl
        · refine (eOp_ok (M2 := dk a b (c + 1)) (x := .d (.int (b * 39373 + 4801 * (c + 1)))) (y := .d (.int 2147483629)) ?_ rfl).trans (fMod_ok (by decide) _)
          refine (eAp_ok (M' := dk a b (c + 1)) (xs := [.d (.int (b * 39373 + 4801 * (c + 1)))]) (eCons_ok (M1 := dk a b (c + 1)) ?_ rfl)).trans rfl
          refine (eOp_ok (M1 := dk a b (c + 1)) (M2 := dk a b (c + 1)) (x := .d (.int (b * 39373))) (y := .d (.int (4801 * (c + 1)))) ?_ ?_).trans rfl
          · exact (eOp_ok (M2 := dk a b (c + 1)) (x := .d (.int b)) (y := .d (.int 39373)) rfl rfl).trans (fMulS_int (.inr (by decide)) _)
          · exact (eOp_ok (M2 := dk a b (c + 1)) (x := .d (.int 4801)) (y := .d (.int (c + 1))) rfl rfl).trans (fMulS_int (.inl (by decide)) _)
    · refine (sIf_f (M' := dk a b (c + 1)) (eBool_ok ?_)).trans rfl
      show Res.ok (Vl.d (.bl (decide (0 < a)))) _ = _
      rw [decide_eq_false h]
theorem rng1_eq (n : Nat) : rngD 1 n = (ups n).map fun k : Nat => D.int k := by
  unfold rngD ups
  rw [List.map_map]
  refine List.map_congr_left fun i _ => ?_
  show D.int (1 + (i : Int)) = D.int ((i + 1 : Nat) : Int)
  congr 1
  omega
theorem rng0_eq (n : Nat) : rngD 0 n = (List.range n).map fun k : Nat => D.int k := by
  unfold rngD
  refine List.map_congr_left fun i _ => ?_
  show D.int (0 + (i : Int)) = D.int (i : Int)
  congr 1
  omega
theorem ups_mem {n k : Nat} (h : k ∈ ups n) : 1 ≤ k ∧ k ≤ n := by
  obtain ⟨i, hi, rfl⟩ := List.mem_map.mp h
  have := List.mem_range.mp hi
  omega
theorem lc_bls {mi : Sm (List D)} {gs : D → Wv.Env → Option Wv.Env} {e : Sm Vl} {vs : List Nat} {ρ : Wv.Env} {M : List Mu} {n : Nat} (B : Nat → Bool) (hm : mi ρ M = .ok (rngD 0 n) M)
    (h : ∀ k : Nat, k < n → ∃ ρ1, gs (.int (k : Nat)) (wipeE ρ vs) = some ρ1 ∧ e ρ1 M = .ok (.d (.bl (B k))) M) (hl : n ≤ sizeLine) : eLc mi gs eTrue e vs ρ M = .ok (.d (.lst (bls ((List.range n).map B)))) M := by
  have := lc_map (e := e) (vs := vs) (gs := gs) (fun d => match d with | .int i => D.bl (B i.toNat) | _ => .non) hm (fun d hd => by
    rw [rng0_eq] at hd
    obtain ⟨k, hk, rfl⟩ := List.mem_map.mp hd
    obtain ⟨ρ1, h1, h2⟩ := h k (List.mem_range.mp hk)
    refine ⟨ρ1, h1, ?_⟩
    rw [h2]
    show Res.ok (Vl.d (.bl (B k))) M = Res.ok (Vl.d (.bl (B (k : Int).toNat))) M
    rw [Int.toNat_natCast]) (by rw [rngD_len]; exact hl)
  rw [this]
  congr 3
  rw [rng0_eq, List.map_map]
  unfold bls
  rw [List.map_map]
  refine List.map_congr_left fun k _ => ?_
  show D.bl (B (k : Int).toNat) = D.bl (B k)
  rw [Int.toNat_natCast]
def nts (ks : List Nat) : List D := ks.map fun k : Nat => D.int k
theorem frz_map (M : List Mu) : ∀ ds : List D, frzs (ds.map Vl.d) M = some (ds, M)
  | [] => rfl
  | d :: r => by
    show (match frzs (r.map Vl.d) M with | some (ds, M2) => some (d :: ds, M2) | none => none) = _
    rw [frz_map M r]
theorem v_far (a b c : Int) (ha : 0 ≤ a) (g : Nat) (hg : g ≤ 100) : ∃ (n : Nat) (a' b' c' : Int), 0 ≤ a' ∧ m__law_far [.m 0, .d (.int (g : Nat))] (dk a b c) = .ok (.d (.int (n : Nat))) (dk a' b' c') := by
  unfold m__law_far
  rw [call2]
  obtain ⟨ρ', M', q1, n, o, a', b', c', rfl, rfl, ha'⟩ := forL_inv (n := 1) (g := gN 3) (b := sAsg (eOp fAdd (eOp fMulS (eVar 2) (eC (.int 1000))) (eAp m__law_card (eCons (eVar 0) (eCons (eC (.int 1000)) eNil)))) (gN 2))
    (fun _ ρ M => ∃ (n : Nat) (o : Option Vl) (a b c : Int), ρ = [some (.m 0), some (.d (.int (g : Nat))), some (.d (.int (n : Nat))), o] ∧ M = dk a b c ∧ 0 ≤ a) (rngD 0 g) 0 [some (.m 0), some (.d (.int (g : Nat))), some (.d (.int (0 : Nat))), none] (dk a b c) ⟨0, none, a, b, c, rfl, rfl, ha⟩ (fun j d hd ρ M hI => by
      obtain ⟨n, o, a, b, c, rfl, rfl, ha⟩ := hI
      obtain ⟨r, a', b', c', r1, r2, r3, r4⟩ := v_card a b c 1000 ha (by decide) (by decide)
      have hdd : ∃ i : Int, d = .int i := by
        obtain ⟨i, _, e⟩ := rngD_mem (List.mem_of_getElem? hd)
        exact ⟨_, e⟩
      obtain ⟨i, rfl⟩ := hdd
      refine ⟨([some (.m 0), some (.d (.int (g : Nat))), some (.d (.int (n : Nat))), some (.d (.int i))], dk a b c), [some (.m 0), some (.d (.int (g : Nat))), some (.d (.int ((n * 1000 + r.toNat : Nat) : Nat))), some (.d (.int i))], dk a' b' c', rfl, ?_, n * 1000 + r.toNat, some (.d (.int i)), a', b', c', rfl, rfl, r3⟩
      refine (sAsg_ok (x := .d (.int ((n * 1000 + r.toNat : Nat) : Nat))) (M' := dk a' b' c') ?_).trans (by rfl)
      refine (eOp_ok (x := .d (.int ((n : Int) * 1000))) (y := .d (.int r)) (M1 := dk a b c) (M2 := dk a' b' c') ?_ ?_).trans ?_
      · exact (eOp_ok (x := .d (.int (n : Nat))) (y := .d (.int 1000)) (M1 := dk a b c) (M2 := dk a b c) (by rfl) (by rfl)).trans (fMulS_int (.inr (by decide)) _)
      · exact (eAp_ok (xs := [.m 0, .d (.int 1000)]) (M' := dk a b c) (by rfl)).trans r4
      · show Res.ok (Vl.d (.int ((n : Int) * 1000 + r))) _ = _
        congr 3
        omega)
  refine ⟨n, a', b', c', ha', ?_⟩
  refine fnS_rt (M' := dk a' b' c') ?_ rfl
  unfold b__law_far
  refine (sSeq_nx (ρ' := [some (.m 0), some (.d (.int (g : Nat))), some (.d (.int (0 : Nat))), none]) (M' := dk a b c) (by rfl)).trans ?_
  refine (sSeq_nx ((sFor_ok (ds := rngD 0 g) (M' := dk a b c) (eRng1_ok (j := (g : Nat)) (by rfl) (by omega) (by omega))).trans q1)).trans (by rfl)
theorem compL_cut {gs : D → Wv.Env → Option Wv.Env} {e : Sm Vl} {ρ : Wv.Env} {M : List Mu} (g : D → D) : ∀ (ds acc : List D), (∀ d ∈ ds, ∃ ρ1 M', gs d ρ = some ρ1 ∧ e ρ1 M = .ok (.d (g d)) M' ∧ M'.take M.length = M) → acc.length + ds.length ≤ sizeLine →
    compL M.length gs eTrue e ρ ds M acc = .ok (acc ++ ds.map g) M
  | [], acc, _, _ => by
    show Res.ok acc M = _
    simp
  | d :: ds, acc, h, hl => by
    obtain ⟨ρ1, M', h1, h2, h3⟩ := h d List.mem_cons_self
    rw [List.length_cons] at hl
    unfold compL
    simp only [h1, eTrue, h2]
    show (if acc.length < sizeLine then compL M.length gs eTrue e ρ ds (M'.take M.length) (acc ++ [g d]) else .bad) = _
    rw [if_pos (by omega), h3, compL_cut g ds _ (fun x hx => h x (List.mem_cons_of_mem _ hx)) (by rw [List.length_append, List.length_singleton]; omega), List.map_cons, List.append_assoc]
    rfl
theorem lc_cut {mi : Sm (List D)} {gs : D → Wv.Env → Option Wv.Env} {e : Sm Vl} {vs : List Nat} {ρ : Wv.Env} {M : List Mu} {ds : List D} (g : D → D) (hm : mi ρ M = .ok ds M)
    (h : ∀ d ∈ ds, ∃ ρ1 M', gs d (wipeE ρ vs) = some ρ1 ∧ e ρ1 M = .ok (.d (g d)) M' ∧ M'.take M.length = M) (hl : ds.length ≤ sizeLine) : eLc mi gs eTrue e vs ρ M = .ok (.d (.lst (ds.map g))) M := by
  unfold eLc
  rw [bnd_ok (a := ds.map g) (M' := M)]
  unfold eLcR
  rw [bnd_ok hm]
  have := compL_cut (ρ := wipeE ρ vs) (M := M) g ds [] h (by simpa using hl)
  simpa using this
theorem deck_for (x0 x1 x2 : Vl) (hp : plainE [some x0, some x1, some x2] = true) : ∀ (ds : List D) (v : Int) (o : Option D), (∀ d ∈ ds, ∃ i : Int, d = .int i) → ∃ (v' : Int) (o' : Option D), forL 0 (gN 4) (sAsg (eOp fMod (eAp fInt (eCons (eOp fAdd (eOp fMulS (eVar 3) (eC (.int 27947))) (eVar 4)) eNil)) (eC (.int 2147483629))) (gN 3)) ds [some x0, some x1, some x2, some (.d (.int v)), o.map Vl.d] [] =
    .nx [some x0, some x1, some x2, some (.d (.int v')), o'.map Vl.d] []
  | [], v, o, _ => ⟨v, o, rfl⟩
  | d :: ds, v, o, h => by
    obtain ⟨i, rfl⟩ := h d List.mem_cons_self
    obtain ⟨v', o', ih⟩ := deck_for x0 x1 x2 hp ds ((v * 27947 + i) % 2147483629) (some (.int i)) fun d hd => h d (List.mem_cons_of_mem _ hd)
    refine ⟨v', o', ?_⟩
    rw [forL_cons (p := ([some x0, some x1, some x2, some (.d (.int v)), some (.d (.int i))], [])) (by rfl)]
    dsimp only
    rw [sAsg_ok (x := .d (.int ((v * 27947 + i) % 2147483629))) (M' := [])]
    · dsimp only
      rw [cut_plain]
      · exact ih
      · cases x0 <;> cases x1 <;> cases x2 <;> first | rfl | exact hp
    · refine (eOp_ok (M1 := []) (M2 := []) (x := .d (.int (v * 27947 + i))) (y := .d (.int 2147483629)) ?_ rfl).trans (fMod_ok (by decide) _)
      refine (eAp_ok (M' := []) (xs := [.d (.int (v * 27947 + i))]) (eCons_ok (M1 := []) ?_ rfl)).trans rfl
      refine (eOp_ok (M1 := []) (M2 := []) (x := .d (.int (v * 27947))) (y := .d (.int i)) ?_ rfl).trans rfl
      exact (eOp_ok (M1 := []) (M2 := []) (x := .d (.int v)) (y := .d (.int 27947)) rfl rfl).trans (fMulS_int (.inr (by decide)) _)
theorem v_deck (ns : List Int) (hn : ns.length ≤ 63) (t : Nat) (ht : t ≤ 100) : ∃ (a b : Int), 0 ≤ a ∧ m__law_deck [.d (.scr ns), .d (.int (t : Nat))] [] = .ok (.m 0) (dk a b 0) := by
  unfold m__law_deck
  rw [call2]
  have h1 : ∃ c : Int, eIf (eBool (eOp fLt (eVar 1) (eAp fLen (eCons (eVar 0) eNil)))) (eOp fIx (eVar 0) (eVar 1)) (eOp fAdd (eOp fMulS (eC (.int 5)) (eVar 1)) (eC (.int 2))) (startE 5 [.d (.scr ns), .d (.int (t : Nat))]) [] = .ok (.d (.int c)) [] := by
    by_cases h : t < ns.length
    · refine ⟨ns[t], (eIf_t (M1 := []) (eBool_ok ((eOp_ok (x := .d (.int (t : Nat))) (y := .d (.int (ns.length : Nat))) (M1 := []) (M2 := []) (by rfl) ?_).trans ?_))).trans ?_⟩
      · show Res.ok (Vl.d (.int ((ns.map D.int).length : Nat))) [] = _
        rw [List.length_map]
      · show Res.ok (Vl.d (.bl (decide ((t : Int) < (ns.length : Int))))) [] = _
        rw [decide_eq_true (by omega)]
      · refine (eOp_ok (x := .d (.scr ns)) (y := .d (.int (t : Nat))) (M1 := []) (M2 := []) (by rfl) (by rfl)).trans ?_
        show (match atI (ns.map D.int) (t : Nat) with | some d => Res.ok (Vl.d d) [] | none => .bad) = _
        rw [Wv.atI_nat, List.getElem?_map, List.getElem?_eq_getElem h]
        rfl
    · refine ⟨5 * (t : Int) + 2, (eIf_f (M1 := []) (eBool_ok ((eOp_ok (x := .d (.int (t : Nat))) (y := .d (.int (ns.length : Nat))) (M1 := []) (M2 := []) (by rfl) ?_).trans ?_))).trans ?_⟩
      · show Res.ok (Vl.d (.int ((ns.map D.int).length : Nat))) [] = _
        rw [List.length_map]
      · show Res.ok (Vl.d (.bl (decide ((t : Int) < (ns.length : Int))))) [] = _
        rw [decide_eq_false (by omega)]
      · refine (eOp_ok (x := .d (.int (5 * (t : Int)))) (y := .d (.int 2)) (M1 := []) (M2 := []) ?_ (by rfl)).trans (by rfl)
        exact (eOp_ok (x := .d (.int 5)) (y := .d (.int (t : Nat))) (M1 := []) (M2 := []) (by rfl) (by rfl)).trans (fMulS_int (.inl (by decide)) _)
  obtain ⟨c, hc⟩ := h1
  let ρ1 : Wv.Env := [some (.d (.scr ns)), some (.d (.int (t : Nat))), some (.d (.int c)), some (.d (.int (50021 + 8117 * (t : Int)))), none]
  have hds : eIter (eOp fAdd (eSl (eVar 0) eNoPart (ePart (eC (.int 4)))) (eLst (eCons (eVar 2) eNil))) ρ1 [] = .ok ((ns.map D.int).take 4 ++ [.int c]) [] := by
    unfold eIter
    rw [bnd_ok (a := .d (.lst ((ns.map D.int).take 4 ++ [.int c]))) (M' := [])]
    · rfl
    · refine (eOp_ok (x := .d (.lst ((ns.map D.int).take 4))) (y := .d (.lst [.int c])) (M1 := []) (M2 := []) ?_ ?_).trans ?_
      · refine (eSl_ok (x := .d (.scr ns)) (i := none) (j := some (4 : Nat)) (M1 := []) (M2 := []) (M3 := []) (by rfl) (by rfl) (by rfl)).trans ?_
        exact fSl_take (ns.map D.int) 4 []
      · exact eLst_ok (ds := [.int c]) (by rfl) (by show 1 ≤ 2 ^ 24; decide)
      · refine fAdd_lst _ _ _ ?_
        rw [List.length_take, List.length_map, List.length_singleton]
        unfold sizeLine
        omega
  obtain ⟨v', o', hf⟩ := deck_for (.d (.scr ns)) (.d (.int (t : Nat))) (.d (.int c)) rfl ((ns.map D.int).take 4 ++ [.int c]) (50021 + 8117 * (t : Int)) none fun d hd => by
    rcases List.mem_append.mp hd with h | h
    · obtain ⟨i, _, rfl⟩ := List.mem_map.mp (List.mem_of_mem_take h)
      exact ⟨i, rfl⟩
    · exact ⟨c, List.mem_singleton.mp h⟩
  have h3 : ∃ a : Int, 0 ≤ a ∧ ∀ v o4, eIf (eOrT (eBool (eOp fLt (eVar 2) (eC (.int 0)))) (eBool (eOp fGe (eVar 2) (eOp fPow (eC (.int 10)) (eC (.int 18)))))) (eAp fAbs (eCons (eVar 2) eNil)) (eC (.int 0)) [some (.d (.scr ns)), some (.d (.int (t : Nat))), some (.d (.int c)), v, o4] [] = .ok (.d (.int a)) [] := by
    have hab : 0 ≤ (if c < 0 then -c else c) := by split <;> omega
    by_cases h : c < 0
    · refine ⟨_, hab, fun v o4 => (eIf_t (M1 := []) ?_).trans (by rfl)⟩
      unfold eOrT
      rw [bnd_ok (a := true) (M' := []) (eBool_ok (by show Res.ok (Vl.d (.bl (decide (c < 0)))) [] = _; rw [decide_eq_true h]))]
      rfl
    · by_cases h' : (10 : Int) ^ 18 ≤ c
      · refine ⟨_, hab, fun v o4 => (eIf_t (M1 := []) ?_).trans (by rfl)⟩
        refine (eOrT_f (M1 := []) (eBool_ok (by show Res.ok (Vl.d (.bl (decide (c < 0)))) [] = _; rw [decide_eq_false h]))).trans ?_
        refine eBool_ok ((eOp_ok (x := .d (.int c)) (y := .d (.int (10 ^ 18))) (M1 := []) (M2 := []) (by rfl) (by rfl)).trans ?_)
        show Res.ok (Vl.d (.bl (decide ((10 : Int) ^ 18 ≤ c)))) [] = _
        rw [decide_eq_true h']
      · refine ⟨0, by omega, fun v o4 => (eIf_f (M1 := []) ?_).trans (by rfl)⟩
        refine (eOrT_f (M1 := []) (eBool_ok (by show Res.ok (Vl.d (.bl (decide (c < 0)))) [] = _; rw [decide_eq_false h]))).trans ?_
        refine eBool_ok ((eOp_ok (x := .d (.int c)) (y := .d (.int (10 ^ 18))) (M1 := []) (M2 := []) (by rfl) (by rfl)).trans ?_)
        show Res.ok (Vl.d (.bl (decide ((10 : Int) ^ 18 ≤ c)))) [] = _
        rw [decide_eq_false h']
  obtain ⟨a, ha, h3⟩ := h3
  refine ⟨a, v', ha, ?_⟩
  unfold fnS b__law_deck
  rw [sSeq_nx (ρ' := [some (.d (.scr ns)), some (.d (.int (t : Nat))), some (.d (.int c)), none, none]) (M' := []) ((sAsg_ok hc).trans (by rfl))]
  rw [sSeq_nx (ρ' := ρ1) (M' := []) ((sAsg_ok (x := .d (.int (50021 + 8117 * (t : Int)))) (M' := []) ?_).trans (by rfl))]
  · rw [sSeq_nx (ρ' := [some (.d (.scr ns)), some (.d (.int (t : Nat))), some (.d (.int c)), some (.d (.int v')), o'.map Vl.d]) (M' := []) ((sFor_ok hds).trans hf)]
    rw [sRet_ok (x := .m 0) (M' := dk a v' 0)]
    · rfl
    · unfold eLstM
      rw [bnd_ok (a := [.d (.int a), .d (.int v'), .d (.int 0)]) (M' := [])]
      · rfl
      · exact eCons_ok (h3 _ _) (by rfl)
  · refine (eOp_ok (x := .d (.int 50021)) (y := .d (.int (8117 * (t : Int)))) (M1 := []) (M2 := []) (by rfl) ?_).trans (by rfl)
    exact (eOp_ok (x := .d (.int 8117)) (y := .d (.int (t : Nat))) (M1 := []) (M2 := []) (by rfl) (by rfl)).trans (fMulS_int (.inl (by decide)) _)
def DkOk (M : List Mu) : Prop := ∃ a b c : Int, 0 ≤ a ∧ M = dk a b c
theorem DkOk.len {M : List Mu} (h : DkOk M) : M.length = 1 := by
  obtain ⟨a, b, c, _, rfl⟩ := h
  rfl
theorem c_card {M : List Mu} (h : DkOk M) (t : Nat) (h1 : 0 < t) (h2 : t < 1073741824) : ∃ (r : Nat) (M' : List Mu), r < t ∧ DkOk M' ∧ m__law_card [.m 0, .d (.int (t : Nat))] M = .ok (.d (.int (r : Nat))) M' := by
  obtain ⟨a, b, c, ha, rfl⟩ := h
  obtain ⟨r, a', b', c', r1, r2, r3, r4⟩ := v_card a b c (t : Nat) ha (by omega) (by omega)
  refine ⟨r.toNat, dk a' b' c', by omega, ⟨a', b', c', r3, rfl⟩, ?_⟩
  rw [r4, Int.toNat_of_nonneg r1]
theorem c_far {M : List Mu} (h : DkOk M) (g : Nat) (hg : g ≤ 100) : ∃ (n : Nat) (M' : List Mu), DkOk M' ∧ m__law_far [.m 0, .d (.int (g : Nat))] M = .ok (.d (.int (n : Nat))) M' := by
  obtain ⟨a, b, c, ha, rfl⟩ := h
  obtain ⟨n, a', b', c', r3, r4⟩ := v_far a b c ha g hg
  exact ⟨n, dk a' b' c', ⟨a', b', c', r3, rfl⟩, r4⟩
theorem fAll_bls (l : List Bool) (M : List Mu) : fAll [.d (.lst (bls l))] M = .ok (.d (.bl (l.all id))) M := by
  show (match allBls (bls l) with | some bs => Res.ok (Vl.d (.bl (bs.all id))) M | none => .bad) = _
  unfold bls
  rw [allBls_map]
theorem eq_self {ds : List D} {p : PyData} (h : D.py (.lst ds) = some p) (hs : SeqAt.shaped p = true) (M : List Mu) : fEq (.d (.lst ds)) (.d (.lst ds)) M = .ok (.d (.bl true)) M := by
  show (match D.py (.lst ds), D.py (.lst ds) with | some p, some q => if SeqAt.shaped p && SeqAt.shaped q then Res.ok (Vl.d (.bl (PyData.eqv p q))) M else .bad | _, _ => .bad) = _
  rw [h]
  dsimp only
  rw [hs, Bool.and_self, if_pos rfl, SeqAt.eqv_refl p (Bool.and_eq_true_iff.mp hs).1]
theorem ne_self {ds : List D} {p : PyData} (h : D.py (.lst ds) = some p) (hs : SeqAt.shaped p = true) (M : List Mu) : fNe (.d (.lst ds)) (.d (.lst ds)) M = .ok (.d (.bl false)) M := by
  show (match D.py (.lst ds), D.py (.lst ds) with | some p, some q => if SeqAt.shaped p && SeqAt.shaped q then Res.ok (Vl.d (.bl (!PyData.eqv p q))) M else .bad | _, _ => .bad) = _
  rw [h]
  dsimp only
  rw [hs, Bool.and_self, if_pos rfl, SeqAt.eqv_refl p (Bool.and_eq_true_iff.mp hs).1]
  rfl
theorem strs_py : ∀ l : List Str, D.pys (l.map D.str) = some (l.map PyData.str)
  | [] => rfl
  | a :: l => by
    show (match D.py (.str a), D.pys (l.map D.str) with | some p, some ps => some (p :: ps) | _, _ => none) = _
    rw [strs_py l]
    rfl
theorem strs_shaped (l : List Str) (hl : ∀ a ∈ l, PyData.strOk a = true) : SeqAt.shaped (.list (l.map PyData.str)) = true := by
  have c : ∀ l : List Str, (∀ a ∈ l, PyData.strOk a = true) → PyData.canLayAll0 (l.map PyData.str) = true := fun l hl => by
    induction l with
    | nil => rw [List.map_nil, PyData.canLayAll0]
    | cons a l ih => rw [List.map_cons, PyData.canLayAll0, PyData.canLay0, ih fun b hb => hl b (List.mem_cons_of_mem _ hb), hl a List.mem_cons_self]; rfl
  have d : ∀ l : List Str, PyData.depthAll (l.map PyData.str) = 0 := fun l => by
    induction l with
    | nil => rw [List.map_nil, PyData.depthAll]
    | cons a l ih => rw [List.map_cons, PyData.depthAll, PyData.depth, ih]; rfl
  unfold SeqAt.shaped
  rw [PyData.canLay0, c l hl, PyData.depth, d]
  rfl
theorem c_ofS {M : List Mu} (h : DkOk M) (l : List Nat) (hm : l ≠ []) (hl : l.length ≤ 1000) : ∃ (c : Nat) (M' : List Mu), c ∈ l ∧ DkOk M' ∧ m__law_of [.m 0, .d (.str (sT l))] M = .ok (.d (.str (sT [c]))) M' := by
  have hpos : 0 < l.length := List.length_pos_iff.mpr hm
  obtain ⟨r, M', hr, K', e⟩ := c_card h l.length hpos (by omega)
  have hn : fLen [.d (.str (sT l))] M = .ok (.d (.int (l.length : Nat))) M := t_lenS (by omega)
  have hx : fIx (.d (.str (sT l))) (.d (.int (r : Nat))) M' = .ok (.d (.str (sT [l[r]]))) M' := t_ixS (by omega) (List.getElem?_eq_getElem hr)
  refine ⟨l[r], M', List.getElem_mem hr, K', ?_⟩
  rw [u__law_of]
  unfold b__law_of
  refine y_fnR ?_ (K'.len.trans h.len.symm)
  wp_walk using hn, e, hx
theorem allStrs_sT (cs : List (List Nat)) : allStrs (cs.map fun c => D.str (sT c)) = some (cs.map sT) := by
  have := allStrs_map (cs.map sT)
  rw [List.map_map] at this
  exact this
theorem sum_len : ∀ cs : List (List Nat), (∀ c ∈ cs, c.length ≤ 1000) → ((cs.map sT).map fun z : Str => z.length).sum ≤ 1000 * cs.length
  | [], _ => Nat.le_refl _
  | a :: r, hc => by
    rw [List.map_cons, List.map_cons, List.sum_cons, List.length_cons, sT_len]
    have := sum_len r fun c h => hc c (List.mem_cons_of_mem _ h)
    have := hc a List.mem_cons_self
    omega
theorem join_ok {mo me : Sm Vl} {ρ : Wv.Env} {M M1 M2 : List Mu} {cs : List (List Nat)} (h : mo ρ M = .ok (.d (.str (sT []))) M1) (h' : me ρ M1 = .ok (.d (.lst (cs.map fun c => D.str (sT c)))) M2) (hl : cs.length ≤ 1000 ∧ ∀ c ∈ cs, c.length ≤ 1000) : eJoin mo me ρ M = .ok (.d (.str (sT cs.flatten))) M2 := by
  have hs := sum_len cs hl.2
  unfold eJoin
  rw [bnd_ok h]
  dsimp only
  rw [bnd_ok h']
  have e : seqA M2 (.d (.lst (cs.map fun c => D.str (sT c)))) = some (cs.map fun c => D.str (sT c)) := rfl
  rw [e]
  dsimp only
  rw [allStrs_sT]
  show (if ((cs.map sT).map fun z : Str => z.length).sum + (cs.map sT).length * (sT []).length ≤ 16777216 then Res.ok (Vl.d (D.str (Txt.join (sT []) (cs.map sT)))) M2 else Res.bad) = _
  rw [if_pos (by rw [sT_len, List.length_nil, Nat.mul_zero]; have := hl.1; omega), join_sT]
def lets : List Nat := ("abcdefghijklmnopqrstuvwxyz" : Str).cps.toList
theorem sT0 : (("" : Str)) = sT [] := by decide
theorem ones_of : ∀ (ys : List D) (l : List Nat), (∀ y ∈ ys, ∃ c ∈ l, y = .str (sT [c])) → ∃ cs : List Nat, ys = (cs.map fun c => [c]).map (fun c => D.str (sT c)) ∧ (∀ c ∈ cs, c ∈ l)
  | [], _, _ => ⟨[], rfl, fun _ h => nomatch h⟩
  | y :: ys, l, h => by
    obtain ⟨c, hc, rfl⟩ := h y List.mem_cons_self
    obtain ⟨cs, rfl, hcs⟩ := ones_of ys l fun z hz => h z (List.mem_cons_of_mem _ hz)
    refine ⟨c :: cs, rfl, fun x hx => ?_⟩
    rcases List.mem_cons.mp hx with rfl | hx
    · exact hc
    · exact hcs x hx
theorem flat_ones (cs : List Nat) : (cs.map fun c => [c]).flatten = cs := by
  induction cs with
  | nil => rfl
  | cons a r ih => rw [List.map_cons, List.flatten_cons, ih]; rfl
theorem c_string {M : List Mu} (h : DkOk M) (l : List Nat) (hm : l ≠ []) (hl : l.length ≤ 1000) (n : Nat) (hn : n ≤ 100) : ∃ (cs : List Nat) (M' : List Mu), cs.length = n ∧ (∀ c ∈ cs, c ∈ l) ∧ DkOk M' ∧ m__law_string [.m 0, .d (.str (sT l)), .d (.int (n : Nat))] M = .ok (.d (.str (sT cs))) M' := by
  let ρ : Wv.Env := [some (.m 0), some (.d (.str (sT l))), some (.d (.int (n : Nat))), none]
  have hrng : eRng1 (eCons (eVar 2) eNil) ρ M = .ok (rngD 0 n) M := by
    refine (eRng1_ok (j := (n : Nat)) (M' := M) (by rfl) (by omega) (by omega)).trans ?_
    rw [Int.toNat_natCast]
  obtain ⟨ys, M', hlc, K', hyl, hyR⟩ := lc_inv (gs := cName 3) (e := eAp m__law_of (eCons (eVar 0) (eCons (eVar 1) eNil))) (vs := [3]) DkOk (fun y => ∃ c ∈ l, y = .str (sT [c])) (fun M2 hM => hM.len.trans h.len.symm) hrng h (fun d _ M2 hM => by
    obtain ⟨c, M3, hc, KM, ek⟩ := c_ofS hM l hm hl
    exact ⟨_, .str (sT [c]), M3, rfl, y_ap (y_cons (y_var (by rfl)) (y_cons (y_var (by rfl)) y_nil)) ek, KM, c, hc, rfl⟩) (by rw [rngD_len]; unfold sizeLine; omega)
  obtain ⟨cs, rfl, hcs⟩ := ones_of ys l hyR
  rw [rngD_len] at hyl
  have hl2 : cs.length = n := by simpa using hyl
  refine ⟨cs, M', hl2, hcs, K', ?_⟩
  rw [u__law_string]
  unfold b__law_string
  refine y_fnR (y_ret ?_) (K'.len.trans h.len.symm)
  have := join_ok (mo := eC (.str "")) (ρ := ρ) (M := M) (M1 := M) (cs := cs.map fun c => [c]) (by rw [sT0]; rfl) hlc ⟨by rw [List.length_map]; omega, fun c hc => by obtain ⟨x, _, rfl⟩ := List.mem_map.mp hc; show 1 ≤ 1000; decide⟩
  rw [flat_ones] at this
  exact this
theorem c_drawn {M : List Mu} (h : DkOk M) (l : List Nat) (hm : l ≠ []) (hl : l.length ≤ 1000) : ∃ (a c : List Nat) (M' : List Mu), a.length ≤ 8 ∧ 1 ≤ c.length ∧ c.length ≤ 8 ∧ (∀ x ∈ a, x ∈ l) ∧ (∀ x ∈ c, x ∈ l) ∧ DkOk M' ∧ m__law_drawn [.m 0, .d (.str (sT l))] M = .ok (.d (.tup [.str (sT a), .str (sT c)])) M' := by
  obtain ⟨n1, M1, h1, K1, e1⟩ := c_card h 9 (by decide) (by decide)
  have e1 : m__law_card [.m 0, .d (.int 9)] M = _ := e1
  obtain ⟨a, M2, a1, a2, K2, e2⟩ := c_string K1 l hm hl n1 (by omega)
  obtain ⟨n2, M3, h2, K3, e3⟩ := c_card K2 4 (by decide) (by decide)
  have e3 : m__law_card [.m 0, .d (.int 4)] M2 = _ := e3
  obtain ⟨c, M4, c1, c2, K4, e4⟩ := c_string K3 l hm hl (1 + n2) (by omega)
  obtain ⟨n3, M5, h3, K5, e5⟩ := c_card K4 2 (by decide) (by decide)
  have e5 : m__law_card [.m 0, .d (.int 2)] M4 = _ := e5
  obtain ⟨n4, M6, h4, K6, e6⟩ := c_card K5 2 (by decide) (by decide)
  have e6 : m__law_card [.m 0, .d (.int 2)] M5 = _ := e6
  have ad : fAdd (.d (.int 1)) (.d (.int (n2 : Nat))) M3 = .ok (.d (.int ((1 + n2 : Nat) : Nat))) M3 := by
    rw [t_addI, Int.natCast_add]
    rfl
  obtain ⟨c', hc'⟩ : ∃ c', c' = if n3 = 0 then c ++ c else c := ⟨_, rfl⟩
  have c'1 : 1 ≤ c'.length ∧ c'.length ≤ 8 ∧ ∀ x ∈ c', x ∈ l := by
    rw [hc']
    split
    · refine ⟨by rw [List.length_append]; omega, by rw [List.length_append]; omega, fun x hx => ?_⟩
      rcases List.mem_append.mp hx with hx | hx <;> exact c2 x hx
    · exact ⟨by omega, by omega, c2⟩
  obtain ⟨a', ha'⟩ : ∃ a', a' = if n4 = 0 then (a.take 4 ++ c').drop ((a.take 4 ++ c').length - 8) else a := ⟨_, rfl⟩
  have a'1 : a'.length ≤ 8 ∧ ∀ x ∈ a', x ∈ l := by
    rw [ha']
    split
    · refine ⟨by rw [List.length_drop]; omega, fun x hx => ?_⟩
      rcases List.mem_append.mp (List.mem_of_mem_drop hx) with hx | hx
      · exact a2 x (List.mem_of_mem_take hx)
      · exact c'1.2.2 x hx
    · exact ⟨by omega, a2⟩
  refine ⟨a', c', M6, a'1.1, c'1.1, c'1.2.1, a'1.2, c'1.2.2, K6, ?_⟩
  rw [u__law_drawn]
  unfold b__law_drawn
  refine y_fnR ?_ (K6.len.trans h.len.symm)
  refine y_seq (r1 := .nx [some (.m 0), some (.d (.str (sT l))), some (.d (.str (sT a))), none] M2) (by wp_walk using e1, e2) (y_seqN ?_)
  refine y_seq (r1 := .nx [some (.m 0), some (.d (.str (sT l))), some (.d (.str (sT a))), some (.d (.str (sT c)))] M4) (by wp_walk using e3, ad, e4) (y_seqN ?_)
  refine y_seq (r1 := .nx [some (.m 0), some (.d (.str (sT l))), some (.d (.str (sT a))), some (.d (.str (sT c')))] M5) ?_ (y_seqN ?_)
  · by_cases hz : n3 = 0
    · rw [hc', if_pos hz]
      have ac : fAdd (.d (.str (sT c))) (.d (.str (sT c))) M5 = .ok (.d (.str (sT (c ++ c)))) M5 := t_addT (by omega) (by omega)
      refine y_if (y_bool (y_op (y_ap (y_cons (y_var (by rfl)) (y_cons y_c y_nil)) e5) y_c t_eqI)) (bd_t (by omega)) (y_ifT (y_asgN (y_op (y_var (by rfl)) (y_var (by rfl)) ac) (by rfl)))
    · rw [hc', if_neg hz]
      exact y_if (y_bool (y_op (y_ap (y_cons (y_var (by rfl)) (y_cons y_c y_nil)) e5) y_c t_eqI)) (bd_f (by omega)) (y_ifF y_next)
  refine y_seq (r1 := .nx [some (.m 0), some (.d (.str (sT l))), some (.d (.str (sT a'))), some (.d (.str (sT c')))] M6) ?_ (y_seqN ?_)
  · by_cases hz : n4 = 0
    · rw [ha', if_pos hz]
      have t1 : fSl (.d (.str (sT a))) none (some 4) M6 = .ok (.d (.str (sT (a.take 4)))) M6 := t_takeS (by omega) 4
      have t2 : fAdd (.d (.str (sT (a.take 4)))) (.d (.str (sT c'))) M6 = .ok (.d (.str (sT (a.take 4 ++ c')))) M6 := t_addT (by rw [List.length_take]; omega) (by omega)
      have t3 : fSl (.d (.str (sT (a.take 4 ++ c')))) (some (-8)) none M6 = .ok (.d (.str (sT ((a.take 4 ++ c').drop ((a.take 4 ++ c').length - 8))))) M6 := t_last8 (by rw [List.length_append, List.length_take]; omega)
      refine y_if (y_bool (y_op (y_ap (y_cons (y_var (by rfl)) (y_cons y_c y_nil)) e6) y_c t_eqI)) (bd_t (by omega)) (y_ifT (y_asgN (y_sl (y_op (y_sl (y_var (by rfl)) y_noPart (y_part y_c) t1) (y_var (by rfl)) t2) (y_part (y_un y_c t_neg)) y_noPart t3) (by rfl)))
    · rw [ha', if_neg hz]
      exact y_if (y_bool (y_op (y_ap (y_cons (y_var (by rfl)) (y_cons y_c y_nil)) e6) y_c t_eqI)) (bd_f (by omega)) (y_ifF y_next)
  wp_walk using y_nil
theorem v_letters (l : List Nat) (h : ∀ x ∈ l, x ∈ lets) (hl : l.length ≤ 1000) (M : List Mu) : m_are_letters [.d (.str (sT l))] M = .ok (.d (.bl true)) M := by
  have lc : eLc (eIter (eVar 0)) (cName 1) eTrue (eOp (fInS false) (eVar 1) (eC (.str "abcdefghijklmnopqrstuvwxyz"))) [1] [some (.d (.str (sT l))), none] M = .ok (.d (.lst (bls (l.map fun _ => true)))) M := by
    refine (lc_map (ds := l.map fun c => D.str (sT [c])) (fun _ => D.bl true) (y_iter (y_var (by rfl)) (by show some (strD (sT l)) = _; rw [strD_sT])) (fun d hd => ?_) (by rw [List.length_map]; unfold sizeLine; omega)).trans ?_
    · obtain ⟨c, hc, rfl⟩ := List.mem_map.mp hd
      refine ⟨[some (.d (.str (sT l))), some (.d (.str (sT [c])))], by rfl, y_op (y_var (by rfl)) y_c ?_⟩
      rw [t_inT]
      exact congrArg (fun b => Res.ok (Vl.d (D.bl b)) M) (decide_eq_true (h c hc))
    · unfold bls
      rw [List.map_map, List.map_map]
      rfl
  have fa := fAll_bls (l.map fun _ => true) M
  have : (l.map fun _ => true).all id = true := by simp
  rw [this] at fa
  rw [u_are_letters]
  unfold b_are_letters
  refine y_fnR (y_ret (y_and (y_un (y_var (by rfl)) (t_isiB (by rfl) (by rfl))) rfl (y_andKT (y_ap (y_cons lc y_nil) fa)))) rfl
end K25

namespace K25
open PySem L2 Wv
local macro_rules
  | `(tactic| walk_at "bd") => `(tactic| first
    | with_reducible exact bd_TT
    | with_reducible exact bd_FF
    | with_reducible assumption
    | ((with_reducible apply bd_nF); walk_at "bd")
    | ((with_reducible apply bd_nT); walk_at "bd")
    | ((with_reducible apply bd_t); first | assumption | with_reducible rfl | omega | decide)
    | ((with_reducible apply bd_f); first | assumption | omega | decide)
    | ((with_reducible apply bd_aT); walk_at "bd"; walk_at "bd")
    | ((with_reducible apply bd_aL); walk_at "bd")
    | ((with_reducible apply bd_aR); walk_at "bd")
    | ((with_reducible apply bd_oF); walk_at "bd"; walk_at "bd")
    | ((with_reducible apply bd_oL); walk_at "bd")
    | ((with_reducible apply bd_oR); walk_at "bd")
    | exact bd_idT (by decide)
    | exact bd_idF (by decide))
  | `(tactic| walk_at "st") => `(tactic| first | with_reducible exact y_set0 | ((with_reducible apply y_setS); walk_at "st"))
  | `(tactic| wp_walk using $ts,*) => `(tactic| first
    $[| with_reducible exact $ts:term]*
    | with_reducible assumption
    | ((with_reducible apply y_var); exact rfl)
    | with_reducible exact y_c
    | with_reducible exact y_nil
    | with_reducible exact y_noPart
    | ((with_reducible apply y_cons); wp_walk using $ts,*; wp_walk using $ts,*)
    | ((with_reducible apply y_op); wp_walk using $ts,*; wp_walk using $ts,*; wp_walk using $ts,*)
    | ((with_reducible apply y_un); wp_walk using $ts,*; wp_walk using $ts,*)
    | ((with_reducible apply y_ap); wp_walk using $ts,*; wp_walk using $ts,*)
    | ((with_reducible apply y_bool); wp_walk using $ts,*)
    | ((with_reducible apply y_tru); wp_walk using $ts,*; wp_walk using $ts,*)
    | ((with_reducible apply y_notT); wp_walk using $ts,*)
    | ((with_reducible apply y_not); wp_walk using $ts,*)
    | ((with_reducible apply y_andT); wp_walk using $ts,*; walk_at "bd"; wp_walk using $ts,*)
    | ((with_reducible apply y_orT); wp_walk using $ts,*; walk_at "bd"; wp_walk using $ts,*)
    | with_reducible exact y_bK
    | ((with_reducible apply y_bT); wp_walk using $ts,*)
    | ((with_reducible apply y_bF); wp_walk using $ts,*)
    | ((with_reducible apply y_ifE); wp_walk using $ts,*; walk_at "bd"; wp_walk using $ts,*)
    | ((with_reducible apply y_eT); wp_walk using $ts,*)
    | ((with_reducible apply y_eF); wp_walk using $ts,*)
    | ((with_reducible apply y_and); wp_walk using $ts,*; walk_at "bd"; wp_walk using $ts,*)
    | ((with_reducible apply y_or); wp_walk using $ts,*; walk_at "bd"; wp_walk using $ts,*)
    | with_reducible exact y_andKF
    | with_reducible exact y_orKT
    | ((with_reducible apply y_andKT); wp_walk using $ts,*)
    | ((with_reducible apply y_orKF); wp_walk using $ts,*)
    | ((with_reducible apply y_chain); wp_walk using $ts,*; wp_walk using $ts,*; wp_walk using $ts,*; walk_at "bd"; wp_walk using $ts,*)
    | ((with_reducible apply y_last); wp_walk using $ts,*; wp_walk using $ts,*)
    | ((with_reducible apply y_sl); wp_walk using $ts,*; wp_walk using $ts,*; wp_walk using $ts,*; wp_walk using $ts,*)
    | ((with_reducible apply y_part); wp_walk using $ts,*)
    | ((with_reducible apply y_lst); wp_walk using $ts,*; exact rfl; first | exact Nat.le_of_ble_eq_true rfl | omega)
    | ((with_reducible apply y_tup); wp_walk using $ts,*; exact rfl; first | exact Nat.le_of_ble_eq_true rfl | omega)
    | with_reducible first | exact t_addI | exact t_subI | exact t_mulL (by first | assumption | omega | decide) | exact t_mulR (by first | assumption | omega | decide) | exact t_mulLS (by first | assumption | omega | decide) | exact t_mulRS (by first | assumption | omega | decide) | exact t_mod (by first | assumption | omega | decide) | exact t_div (by first | assumption | omega | decide) (by first | assumption | omega | decide) | exact t_neg | exact t_lt | exact t_le | exact t_gt | exact t_ge | exact t_eqI | exact t_neI | exact t_eqS | exact t_neS | exact t_eqB | exact t_neB | exact t_int | exact t_intB | exact t_abs | exact t_divmod (by first | assumption | omega | decide) (by first | assumption | omega | decide) | exact t_max2 | exact t_min2 | exact t_lenL | exact t_lenT | exact t_lenC | exact t_truB | exact t_truL | exact t_truI | exact t_ixT0 | exact t_ixT1 | exact t_ixT2 | exact t_ixL0 | exact t_ixL1 | exact t_ixL2
    | ((with_reducible apply y_seq); wp_walk using $ts,*; wp_walk using $ts,*)
    | ((with_reducible apply y_seqN); wp_walk using $ts,*)
    | with_reducible exact y_seqR
    | with_reducible exact y_seqB
    | with_reducible exact y_seqC
    | with_reducible exact y_seqX
    | ((with_reducible apply y_if); wp_walk using $ts,*; walk_at "bd"; wp_walk using $ts,*)
    | ((with_reducible apply y_ifT); wp_walk using $ts,*)
    | ((with_reducible apply y_ifF); wp_walk using $ts,*)
    | ((with_reducible apply y_ret); wp_walk using $ts,*)
    | ((with_reducible apply y_asgN); wp_walk using $ts,*; walk_at "st")
    | ((with_reducible apply y_asgT2); wp_walk using $ts,*; with_reducible apply y_set2; walk_at "st"; walk_at "st")
    | with_reducible exact y_next
    | with_reducible exact y_brk
    | with_reducible exact y_retN
    | with_reducible exact t_takeN _ _ _
    | with_reducible exact t_dropN _ _ _
    | with_reducible exact t_isiC (by rfl)
    | with_reducible exact t_isiB (by rfl) (by rfl)
    | ((with_reducible apply y_expr); wp_walk using $ts,*)
    | ((with_reducible apply y_parN); wp_walk using $ts,*; with_reducible apply y_set2; walk_at "st"; walk_at "st")
    | ((with_reducible apply y_for); wp_walk using $ts,*; wp_walk using $ts,*)
    | ((with_reducible apply y_rng1); wp_walk using $ts,*; first | assumption | omega | decide)
    | (focus (trace_state; fail "stuck")))

def cyc (W : List Nat) (s p : Nat) : List Nat := (W.drop s).take p
theorem cyc_turn {W : List Nat} {s p : Nat} (hp : 1 ≤ p) (hl : s + 1 + p ≤ W.length) (h : W[s]? = W[s + p]?) : (cyc W (s + 1) p).drop (p - 1) ++ (cyc W (s + 1) p).take (p - 1) = cyc W s p := by
  unfold cyc
  have e1 : ((W.drop (s + 1)).take p).drop (p - 1) = [W[s]] := by
    apply List.ext_getElem?
    intro i
    rw [List.getElem?_drop]
    by_cases hi : i = 0
    · subst hi
      rw [List.getElem?_take_of_lt (by omega), List.getElem?_drop, show s + 1 + (p - 1 + 0) = s + p by omega, ← h, List.getElem?_eq_getElem (by omega)]
      rfl
    · rw [List.getElem?_eq_none (by rw [List.length_take]; omega), List.getElem?_eq_none (by rw [List.length_singleton]; omega)]
  rw [e1, List.take_take, Nat.min_eq_left (by omega), List.singleton_append, show W.drop s = W[s] :: W.drop (s + 1) from List.drop_eq_getElem_cons (by omega)]
  have e3 : ∀ q, q = p - 1 + 1 → (W[s] :: W.drop (s + 1)).take q = W[s] :: (W.drop (s + 1)).take (p - 1) := fun q hq => by rw [hq, List.take_succ_cons]
  exact (e3 p (by omega)).symm
def natP (p : Nat → Bool) : D → Bool := fun d => match d with
  | .int i => p i.toNat
  | _ => false
theorem find_nats (p : Nat → Bool) : ∀ l : List Nat, (l.map fun k : Nat => D.int k).find? (natP p) = (l.find? p).map fun k : Nat => D.int k
  | [] => rfl
  | k :: l => by
    rw [List.map_cons, List.find?_cons, List.find?_cons, find_nats p l]
    show (match p ((k : Int).toNat) with | true => _ | false => _) = _
    rw [Int.toNat_natCast]
    cases p k <;> rfl

theorem cyc_len {W : List Nat} {s p : Nat} (h : s + p ≤ W.length) : (cyc W s p).length = p := by
  unfold cyc
  rw [List.length_take, List.length_drop]
  omega
theorem v_loop (c : List Nat) (h : c ≠ []) (hl : c.length ≤ 100) (M : List Mu) : m_shortest_loop [.d (.str (sT c))] M = .ok (.d (.str (sT (c.take (Wn.pace c))))) M := by
  have hn : fLen [.d (.str (sT c))] M = .ok (.d (.int (c.length : Nat))) M := t_lenS (by omega)
  rw [u_shortest_loop]
  unfold b_shortest_loop
  refine y_fnR (y_seq (r1 := .rt (.d (.str (sT (c.take (Wn.pace c))))) M) ?_ y_seqR) rfl
  refine y_for (ds := rngD 1 c.length) (M1 := M) ?_ ?_
  · refine (eRng2_ok (i := 1) (j := (c.length : Int) + 1) (M' := M) (y_cons y_c (y_cons (y_op (y_ap (y_cons (y_var (by rfl)) y_nil) hn) y_c t_addI) y_nil)) ⟨by decide, by decide⟩ (by omega) (by omega)).trans ?_
    rw [show ((c.length : Int) + 1 - 1).toNat = c.length by omega]
  · refine (for_find (ρ0 := [some (.d (.str (sT c))), none]) (natP (Wn.perOk c)) (fun d => match d with | .int i => .str (sT (c.take i.toNat)) | d => d) rfl (fun d => cut_plain _ _ (by rfl)) (rngD 1 c.length) none ?_).1 (.int (Wn.pace c : Nat)) ?_
    · intro d hd
      rw [rng1_eq] at hd
      obtain ⟨k, hk, rfl⟩ := List.mem_map.mp hd
      obtain ⟨k1, k2⟩ := ups_mem hk
      show sIf _ _ _ [some (.d (.str (sT c))), some (.d (.int (k : Nat)))] M = if Wn.perOk c ((k : Int).toNat) = true then .rt (.d (.str (sT (c.take (k : Int).toNat)))) M else _
      rw [Int.toNat_natCast]
      have e1 : eBool (eOp fEq (eOp fMod (eAp fLen (eCons (eVar 0) eNil)) (eVar 1)) (eC (.int 0))) [some (.d (.str (sT c))), some (.d (.int (k : Nat)))] M = .ok (decide (c.length % k = 0)) M := by
        refine (y_bool (y_op (y_op (y_ap (y_cons (y_var (by rfl)) y_nil) hn) (y_var (by rfl)) (t_mod (by omega))) y_c t_eqI)).trans ?_
        have : decide ((c.length : Int) % (k : Int) = 0) = decide (c.length % k = 0) := by
          rw [← Int.natCast_emod, decide_eq_decide]
          omega
        rw [this]
      have tk : fSl (.d (.str (sT c))) none (some (k : Nat)) M = .ok (.d (.str (sT (c.take k)))) M := t_takeS (by omega) k
      by_cases hd0 : c.length % k = 0
      · have hq : k * (c.length / k) ≤ c.length := by
          have := Nat.div_add_mod c.length k
          omega
        have hq2 : c.length / k ≤ c.length := Nat.div_le_self _ _
        have dv : fDiv (.d (.int (c.length : Nat))) (.d (.int (k : Nat))) M = .ok (.d (.int ((c.length / k : Nat) : Nat))) M := by
          rw [t_div (by omega) (by omega), Int.natCast_ediv]
        have mu : fMulS (.d (.str (sT (c.take k)))) (.d (.int ((c.length / k : Nat) : Nat))) M = .ok (.d (.str (sT (List.replicate (c.length / k) (c.take k)).flatten))) M := t_mulT (by omega) (by rw [List.length_take, Nat.min_eq_left k2]; omega)
        have e2 : eBool (eOp fEq (eOp fMulS (eSl (eVar 0) eNoPart (ePart (eVar 1))) (eOp fDiv (eAp fLen (eCons (eVar 0) eNil)) (eVar 1))) (eVar 0)) [some (.d (.str (sT c))), some (.d (.int (k : Nat)))] M = .ok (Wn.perOk c k) M := by
          refine (y_bool (y_op (y_op (y_sl (y_var (by rfl)) y_noPart (y_part (y_var (by rfl))) tk) (y_op (y_ap (y_cons (y_var (by rfl)) y_nil) hn) (y_var (by rfl)) dv) mu) (y_var (by rfl)) t_eqT)).trans ?_
          unfold Wn.perOk
          rw [decide_eq_true hd0]
          rfl
        rw [decide_eq_true hd0] at e1
        cases hp : Wn.perOk c k with
        | true =>
          rw [hp] at e2
          rw [if_pos rfl]
          exact y_if (y_andT e1 rfl (y_bT e2)) rfl (y_ifT (y_ret (y_sl (y_var (by rfl)) y_noPart (y_part (y_var (by rfl))) tk)))
        | false =>
          rw [hp] at e2
          rw [if_neg Bool.false_ne_true]
          exact y_if (y_andT e1 rfl (y_bT e2)) rfl (y_ifF y_next)
      · have hp : Wn.perOk c k = false := by
          unfold Wn.perOk
          rw [decide_eq_false hd0]
          rfl
        rw [decide_eq_false hd0] at e1
        rw [hp, if_neg Bool.false_ne_true]
        exact y_if (y_andT e1 rfl (y_bF (y_bK (ρ := [some (.d (.str (sT c))), some (.d (.int (k : Nat)))])))) rfl (y_ifF y_next)
    · rw [rng1_eq, find_nats]
      show ((Wn.ups c.length).find? (Wn.perOk c)).map _ = _
      rw [Wn.pace_per, (Wn.pace_find c h).1]
      rfl
def shE (W : List Nat) (p s : Nat) : Wv.Env := [some (.d (.str (sT (W.take s)))), some (.d (.str (sT (cyc W s p))))]
abbrev shC : Sm Bool := eAndT (eBool (eOp fNe (eVar 0) (eC (.str "")))) (eBool (eOp fEq (eOp fIx (eVar 0) (eUn fNeg (eC (.int 1)))) (eOp fIx (eVar 1) (eUn fNeg (eC (.int 1))))))
abbrev shB : Ss := sPar 0 1 (eCons (eSl (eVar 0) eNoPart (ePart (eUn fNeg (eC (.int 1))))) (eCons (eOp fAdd (eOp fIx (eVar 1) (eUn fNeg (eC (.int 1)))) (eSl (eVar 1) eNoPart (ePart (eUn fNeg (eC (.int 1)))))) eNil))
theorem ne_empty (l : List Nat) (M : List Mu) : fNe (.d (.str (sT l))) (.d (.str "")) M = .ok (.d (.bl (!decide (l = [])))) M := by
  rw [sT0]
  exact t_neT
theorem sh_while (W : List Nat) (hW : W.length ≤ 1000) (p : Nat) (hp : 1 ≤ p) (M : List Mu) : ∀ (s fuel : Nat), s < fuel → s + p ≤ W.length → whileL M.length shC shB fuel (shE W p s) M = .nx (shE W p (Wn.startOf W p s)) M
  | 0, fuel + 1, _, _ => by
    refine whileL_f ?_
    exact y_andT (y_bool (y_op (y_var (by rfl)) y_c (ne_empty [] M))) rfl (y_bF (y_bK (ρ := shE W p 0)))
  | s + 1, fuel + 1, hf, hl => by
    have h1 : W[s]? = some W[s] := List.getElem?_eq_getElem (by omega)
    have h2 : W[s + p]? = some W[s + p] := List.getElem?_eq_getElem (by omega)
    have c1 := cyc_len hl
    have tl : (W.take (s + 1)).length = s + 1 := by rw [List.length_take]; omega
    have g1 : fIx (.d (.str (sT (W.take (s + 1))))) (.d (.int (-1))) M = .ok (.d (.str (sT [W[s]]))) M := t_ixSL (by omega) (by
      rw [List.getLast?_eq_getElem?, tl, Nat.add_sub_cancel, List.getElem?_take_of_lt (by omega)]
      exact h1)
    have g2 : fIx (.d (.str (sT (cyc W (s + 1) p)))) (.d (.int (-1))) M = .ok (.d (.str (sT [W[s + p]]))) M := t_ixSL (by omega) (by
      rw [List.getLast?_eq_getElem?, c1]
      unfold cyc
      rw [List.getElem?_take_of_lt (by omega), List.getElem?_drop, show s + 1 + (p - 1) = s + p by omega]
      exact h2)
    have hne : W.take (s + 1) ≠ [] := fun z => by rw [z] at tl; cases tl
    have n1 := ne_empty (W.take (s + 1)) M
    rw [decide_eq_false hne] at n1
    have e : shC (shE W p (s + 1)) M = .ok (decide (W[s] = W[s + p])) M := by
      refine y_andT (y_bool (y_op (y_var (by rfl)) y_c n1)) rfl (y_bT ((y_bool (y_op (y_op (y_var (by rfl)) (y_un y_c t_neg) g1) (y_op (y_var (by rfl)) (y_un y_c t_neg) g2) t_eqT)).trans ?_))
      have : decide ([W[s]] = [W[s + p]]) = decide (W[s] = W[s + p]) := by
        rw [decide_eq_decide]
        simp
      rw [this]
    unfold Wn.startOf
    by_cases hq : W[s] = W[s + p]
    · rw [decide_eq_true hq] at e
      rw [if_pos (by rw [h1, h2, hq])]
      have i1 : fSl (.d (.str (sT (W.take (s + 1))))) none (some (-1)) M = .ok (.d (.str (sT (W.take s)))) M := by
        rw [t_initS (by omega), tl, Nat.add_sub_cancel, List.take_take, Nat.min_eq_left (by omega)]
      have i2 : fSl (.d (.str (sT (cyc W (s + 1) p)))) none (some (-1)) M = .ok (.d (.str (sT ((cyc W (s + 1) p).take (p - 1))))) M := by
        rw [t_initS (by omega), c1]
      have i3 : fAdd (.d (.str (sT [W[s + p]]))) (.d (.str (sT ((cyc W (s + 1) p).take (p - 1))))) M = .ok (.d (.str (sT (cyc W s p)))) M := by
        rw [t_addT (by show 1 ≤ 1000000; decide) (by rw [List.length_take]; omega), ← cyc_turn hp hl (by rw [h1, h2, hq])]
        have : (cyc W (s + 1) p).drop (p - 1) = [W[s + p]] := by
          have hd : p - 1 < (cyc W (s + 1) p).length := by omega
          rw [List.drop_eq_getElem_cons hd, List.drop_eq_nil_of_le (by omega)]
          congr 1
          have : (cyc W (s + 1) p)[p - 1]? = some W[s + p] := by
            unfold cyc
            rw [List.getElem?_take_of_lt (by omega), List.getElem?_drop, show s + 1 + (p - 1) = s + p by omega]
            exact h2
          rw [List.getElem?_eq_getElem hd] at this
          exact Option.some.inj this
        rw [this]
      have hb : shB (shE W p (s + 1)) M = .nx (shE W p s) M := y_parN (y_cons (y_sl (y_var (by rfl)) y_noPart (y_part (y_un y_c t_neg)) i1) (y_cons (y_op (y_op (y_var (by rfl)) (y_un y_c t_neg) g2) (y_sl (y_var (by rfl)) y_noPart (y_part (y_un y_c t_neg)) i2) i3) y_nil)) (by rfl)
      rw [whileL_t e hb, cut_plain _ _ (by rfl), List.take_length]
      exact sh_while W hW p hp M s fuel (by omega) (by omega)
    · rw [decide_eq_false hq] at e
      rw [if_neg (by rw [h1, h2]; exact fun z => hq (Option.some.inj z))]
      exact whileL_f e
def rsN (a c : List Nat) : Nat := Wn.startOf (a ++ c) (Wn.pace c) a.length
def hdN (a c : List Nat) : List Nat := (a ++ c).take (rsN a c)
def lpN (a c : List Nat) : List Nat := cyc (a ++ c) (rsN a c) (Wn.pace c)
def RD (a c : List Nat) : D := .ins "Round" [("begin", .str (sT (hdN a c))), ("cycle", .str (sT (lpN a c)))]
theorem v_head (a c : List Nat) (h : c ≠ []) (hl : (a ++ c).length ≤ 100) (M : List Mu) : m_shortest_head [.d (.str (sT a)), .d (.str (sT (c.take (Wn.pace c))))] M = .ok (.d (.tup [.str (sT (hdN a c)), .str (sT (lpN a c))])) M := by
  obtain ⟨_, p1, p2, _⟩ := Wn.pace_find c h
  have e1 : (a ++ c).take a.length = a := List.take_left
  have e2 : cyc (a ++ c) a.length (Wn.pace c) = c.take (Wn.pace c) := by unfold cyc; rw [List.drop_left]
  have hw := sh_while (a ++ c) (by omega) (Wn.pace c) p1 M a.length fuel (by rw [List.length_append] at hl; unfold fuel; omega) (by rw [List.length_append]; omega)
  have hw2 : sWhile shC shB [some (.d (.str (sT a))), some (.d (.str (sT (c.take (Wn.pace c)))))] M = .nx [some (.d (.str (sT (hdN a c)))), some (.d (.str (sT (lpN a c))))] M := by
    unfold shE at hw
    rw [e1, e2] at hw
    exact hw
  rw [u_shortest_head]
  unfold b_shortest_head
  refine y_fnR ?_ rfl
  wp_walk using hw2
end K25

namespace K25
open PySem L2 Wv
local macro_rules
  | `(tactic| walk_at "bd") => `(tactic| first
    | with_reducible exact bd_TT
    | with_reducible exact bd_FF
    | with_reducible assumption
    | ((with_reducible apply bd_nF); walk_at "bd")
    | ((with_reducible apply bd_nT); walk_at "bd")
    | ((with_reducible apply bd_t); first | assumption | with_reducible rfl | omega | decide)
    | ((with_reducible apply bd_f); first | assumption | omega | decide)
    | ((with_reducible apply bd_aT); walk_at "bd"; walk_at "bd")
    | ((with_reducible apply bd_aL); walk_at "bd")
    | ((with_reducible apply bd_aR); walk_at "bd")
    | ((with_reducible apply bd_oF); walk_at "bd"; walk_at "bd")
    | ((with_reducible apply bd_oL); walk_at "bd")
    | ((with_reducible apply bd_oR); walk_at "bd")
    | exact bd_idT (by decide)
    | exact bd_idF (by decide))
  | `(tactic| walk_at "st") => `(tactic| first | with_reducible exact y_set0 | ((with_reducible apply y_setS); walk_at "st"))
  | `(tactic| wp_walk using $ts,*) => `(tactic| first
    $[| with_reducible exact $ts:term]*
    | with_reducible assumption
    | ((with_reducible apply y_var); exact rfl)
    | with_reducible exact y_c
    | with_reducible exact y_nil
    | with_reducible exact y_noPart
    | ((with_reducible apply y_cons); wp_walk using $ts,*; wp_walk using $ts,*)
    | ((with_reducible apply y_op); wp_walk using $ts,*; wp_walk using $ts,*; wp_walk using $ts,*)
    | ((with_reducible apply y_un); wp_walk using $ts,*; wp_walk using $ts,*)
    | ((with_reducible apply y_ap); wp_walk using $ts,*; wp_walk using $ts,*)
    | ((with_reducible apply y_bool); wp_walk using $ts,*)
    | ((with_reducible apply y_tru); wp_walk using $ts,*; wp_walk using $ts,*)
    | ((with_reducible apply y_notT); wp_walk using $ts,*)
    | ((with_reducible apply y_not); wp_walk using $ts,*)
    | ((with_reducible apply y_andT); wp_walk using $ts,*; walk_at "bd"; wp_walk using $ts,*)
    | ((with_reducible apply y_orT); wp_walk using $ts,*; walk_at "bd"; wp_walk using $ts,*)
    | with_reducible exact y_bK
    | ((with_reducible apply y_bT); wp_walk using $ts,*)
    | ((with_reducible apply y_bF); wp_walk using $ts,*)
    | ((with_reducible apply y_ifE); wp_walk using $ts,*; walk_at "bd"; wp_walk using $ts,*)
    | ((with_reducible apply y_eT); wp_walk using $ts,*)
    | ((with_reducible apply y_eF); wp_walk using $ts,*)
    | ((with_reducible apply y_and); wp_walk using $ts,*; walk_at "bd"; wp_walk using $ts,*)
    | ((with_reducible apply y_or); wp_walk using $ts,*; walk_at "bd"; wp_walk using $ts,*)
    | with_reducible exact y_andKF
    | with_reducible exact y_orKT
    | ((with_reducible apply y_andKT); wp_walk using $ts,*)
    | ((with_reducible apply y_orKF); wp_walk using $ts,*)
    | ((with_reducible apply y_chain); wp_walk using $ts,*; wp_walk using $ts,*; wp_walk using $ts,*; walk_at "bd"; wp_walk using $ts,*)
    | ((with_reducible apply y_last); wp_walk using $ts,*; wp_walk using $ts,*)
    | ((with_reducible apply y_sl); wp_walk using $ts,*; wp_walk using $ts,*; wp_walk using $ts,*; wp_walk using $ts,*)
    | ((with_reducible apply y_part); wp_walk using $ts,*)
    | ((with_reducible apply y_lst); wp_walk using $ts,*; exact rfl; first | exact Nat.le_of_ble_eq_true rfl | omega)
    | ((with_reducible apply y_tup); wp_walk using $ts,*; exact rfl; first | exact Nat.le_of_ble_eq_true rfl | omega)
    | with_reducible first | exact t_addI | exact t_subI | exact t_mulL (by first | assumption | omega | decide) | exact t_mulR (by first | assumption | omega | decide) | exact t_mulLS (by first | assumption | omega | decide) | exact t_mulRS (by first | assumption | omega | decide) | exact t_mod (by first | assumption | omega | decide) | exact t_div (by first | assumption | omega | decide) (by first | assumption | omega | decide) | exact t_neg | exact t_lt | exact t_le | exact t_gt | exact t_ge | exact t_eqI | exact t_neI | exact t_eqS | exact t_neS | exact t_eqB | exact t_neB | exact t_int | exact t_intB | exact t_abs | exact t_divmod (by first | assumption | omega | decide) (by first | assumption | omega | decide) | exact t_max2 | exact t_min2 | exact t_lenL | exact t_lenT | exact t_lenC | exact t_truB | exact t_truL | exact t_truI | exact t_ixT0 | exact t_ixT1 | exact t_ixT2 | exact t_ixL0 | exact t_ixL1 | exact t_ixL2
    | ((with_reducible apply y_seq); wp_walk using $ts,*; wp_walk using $ts,*)
    | ((with_reducible apply y_seqN); wp_walk using $ts,*)
    | with_reducible exact y_seqR
    | with_reducible exact y_seqB
    | with_reducible exact y_seqC
    | with_reducible exact y_seqX
    | ((with_reducible apply y_if); wp_walk using $ts,*; walk_at "bd"; wp_walk using $ts,*)
    | ((with_reducible apply y_ifT); wp_walk using $ts,*)
    | ((with_reducible apply y_ifF); wp_walk using $ts,*)
    | ((with_reducible apply y_ret); wp_walk using $ts,*)
    | ((with_reducible apply y_asgN); wp_walk using $ts,*; walk_at "st")
    | ((with_reducible apply y_asgT2); wp_walk using $ts,*; with_reducible apply y_set2; walk_at "st"; walk_at "st")
    | with_reducible exact y_next
    | with_reducible exact y_brk
    | with_reducible exact y_retN
    | with_reducible exact t_takeN _ _ _
    | with_reducible exact t_dropN _ _ _
    | with_reducible exact t_isiC (by rfl)
    | with_reducible exact t_isiB (by rfl) (by rfl)
    | ((with_reducible apply y_expr); wp_walk using $ts,*)
    | ((with_reducible apply y_parN); wp_walk using $ts,*; with_reducible apply y_set2; walk_at "st"; walk_at "st")
    | ((with_reducible apply y_for); wp_walk using $ts,*; wp_walk using $ts,*)
    | ((with_reducible apply y_rng1); wp_walk using $ts,*; first | assumption | omega | decide)
    | (focus (trace_state; fail "stuck")))

theorem set2 {C f g : Str} (hfg : f ≠ g) (d d' : D) (M : List Mu) (ρ : Wv.Env) (hρ : ρ[0]? = some (some (.m M.length))) : gT 2 (gAnd (gF [C] (eVar 0) f) (gAnd (gF [C] (eVar 0) g) gEnd)) (.d (.tup [d, d'])) ρ (M ++ [.ins C []]) = some (ρ, M ++ [.ins C [(f, d), (g, d')]]) := by
  have s1 : ∀ d, setF [C] f (.m M.length) (.d d) (M ++ [.ins C []]) = some (M ++ [.ins C [(f, d)]]) := fun d => by
    unfold setF
    dsimp only [frz1]
    rw [show (M ++ [Mu.ins C []])[M.length]? = some (.ins C []) by simp]
    dsimp only
    rw [if_pos ⟨List.mem_singleton.mpr rfl, by decide⟩]
    simp [putD]
  have s2 : ∀ d d', setF [C] g (.m M.length) (.d d') (M ++ [.ins C [(f, d)]]) = some (M ++ [.ins C [(f, d), (g, d')]]) := fun d d' => by
    unfold setF
    dsimp only [frz1]
    rw [show (M ++ [Mu.ins C [(f, d)]])[M.length]? = some (.ins C [(f, d)]) by simp]
    dsimp only
    rw [if_pos ⟨List.mem_singleton.mpr rfl, by show 1 < 1000; decide⟩]
    have : putD g d' [(f, d)] = [(f, d), (g, d')] := by
      unfold putD
      rw [if_neg hfg]
      rfl
    rw [this]
    simp
  refine gT2_ok ?_ ?_ (ρ1 := ρ) (M1 := M ++ [.ins C [(f, d)]])
  · unfold gF gBnd eVar
    dsimp only
    rw [hρ]
    dsimp only
    rw [s1]
  · unfold gF gBnd eVar
    dsimp only
    rw [hρ]
    dsimp only
    rw [s2]
theorem v_initB (a c : List Nat) (h : c ≠ []) (hl : (a ++ c).length ≤ 100) (ha : ∀ x ∈ a, x ∈ lets) (hc : ∀ x ∈ c, x ∈ lets) (M : List Mu) : b_Round___init__ [some (.m M.length), some (.d (.str (sT a))), some (.d (.str (sT c)))] (M ++ [.ins "Round" []]) = .nx [some (.m M.length), some (.d (.str (sT a))), some (.d (.str (sT c)))] (M ++ [.ins "Round" [("begin", .str (sT (hdN a c))), ("cycle", .str (sT (lpN a c)))]]) := by
  have hl2 := hl
  rw [List.length_append] at hl2
  have v1 := v_letters a ha (by omega) (M ++ [.ins "Round" []])
  have v2 := v_letters c hc (by omega) (M ++ [.ins "Round" []])
  have v3 := v_loop c h (by omega) (M ++ [.ins "Round" []])
  have v4 := v_head a c h hl (M ++ [.ins "Round" []])
  have v5 : fEq (.d (.str (sT c))) (.d (.str "")) (M ++ [.ins "Round" []]) = .ok (.d (.bl false)) (M ++ [.ins "Round" []]) := by
    rw [sT0, t_eqT, decide_eq_false h]
  unfold b_Round___init__
  refine y_seq (r1 := .nx [some (.m M.length), some (.d (.str (sT a))), some (.d (.str (sT c)))] (M ++ [.ins "Round" []])) (y_if (y_notT (y_tru (y_ap (y_cons (y_var (by rfl)) y_nil) v1) t_truB)) rfl (y_ifF y_next)) (y_seqN ?_)
  refine y_seq (r1 := .nx [some (.m M.length), some (.d (.str (sT a))), some (.d (.str (sT c)))] (M ++ [.ins "Round" []])) (y_if (y_orT (y_notT (y_tru (y_ap (y_cons (y_var (by rfl)) y_nil) v2) t_truB)) rfl (y_bF (y_bool (y_op (y_var (by rfl)) y_c v5)))) rfl (y_ifF y_next)) (y_seqN ?_)
  exact y_asgG (y_ap (y_cons (y_var (by rfl)) (y_cons (y_ap (y_cons (y_var (by rfl)) y_nil) v3) y_nil)) v4) (set2 (by decide) _ _ M _ (by rfl))
theorem v_new (a c : List Nat) (h : c ≠ []) (hl : (a ++ c).length ≤ 100) (ha : ∀ x ∈ a, x ∈ lets) (hc : ∀ x ∈ c, x ∈ lets) (M : List Mu) : newS "Round" m_Round___init__ [.d (.str (sT a)), .d (.str (sT c))] M = .ok (.d (RD a c)) M := by
  refine newS_ok ?_
  rw [u_Round___init__]
  exact y_fnN (v_initB a c h hl ha hc M) (by simp)
theorem v_newK (a c : List Nat) (h : c ≠ []) (hl : (a ++ c).length ≤ 100) (ha : ∀ x ∈ a, x ∈ lets) (hc : ∀ x ∈ c, x ∈ lets) (M : List Mu) : newS "Round" m_Round___init___loop_head [.d (.str (sT c)), .d (.str (sT a))] M = .ok (.d (RD a c)) M := by
  refine newS_ok ?_
  rw [u_Round___init___loop_head]
  exact y_fnN (v_initB a c h hl ha hc M) (by simp)
/-! what a round tells -/
structure Rnd (a c : List Nat) : Prop where
  ne : c ≠ []
  len : (a ++ c).length ≤ 100
section
variable {a c : List Nat}
theorem Rnd.p1 (h : Rnd a c) : 1 ≤ Wn.pace c := (Wn.pace_find c h.ne).2.1
theorem Rnd.wh (h : Rnd a c) : rsN a c + Wn.pace c ≤ (a ++ c).length := (Wn.wh_of a c h.ne).len
theorem Rnd.hl (h : Rnd a c) : (hdN a c).length = rsN a c := by
  have := h.wh
  unfold hdN
  rw [List.length_take]
  omega
theorem Rnd.ll (h : Rnd a c) : (lpN a c).length = Wn.pace c := cyc_len h.wh
theorem Rnd.hd (h : Rnd a c) {n : Nat} (hn : n < rsN a c) : (hdN a c)[n]? = some (Wn.sq a c n) := by
  have e := Wn.sq_red a c h.ne n
  rw [if_pos (show n < Wn.startOf (a ++ c) (Wn.pace c) a.length from hn)] at e
  unfold hdN
  rw [List.getElem?_take_of_lt hn]
  exact e
theorem Rnd.lp (h : Rnd a c) {n : Nat} (hn : rsN a c ≤ n) : (lpN a c)[(n - rsN a c) % Wn.pace c]? = some (Wn.sq a c n) := by
  have e := Wn.sq_red a c h.ne n
  rw [if_neg (by unfold rsN at hn; omega)] at e
  have hm := Nat.mod_lt (n - rsN a c) (show Wn.pace c > 0 from h.p1)
  unfold lpN cyc
  rw [List.getElem?_take_of_lt hm, List.getElem?_drop]
  exact e
theorem Rnd.hds (h : Rnd a c) : hdN a c = (List.range (rsN a c)).map (Wn.sq a c) := Wn.take_sq (by have := h.wh; omega)
theorem Rnd.lps (h : Rnd a c) : lpN a c = (List.range (Wn.pace c)).map fun k => Wn.sq a c (rsN a c + k) := Wn.cyc_sq h.wh
theorem f_begin (M : List Mu) : fFld ["Round"] "begin" (.d (RD a c)) M = .ok (.d (.str (sT (hdN a c)))) M := rfl
theorem f_cycle (M : List Mu) : fFld ["Round"] "cycle" (.d (RD a c)) M = .ok (.d (.str (sT (lpN a c)))) M := rfl
theorem v_check (n : Nat) (M : List Mu) : m_check_number [.d (.int (n : Nat))] M = .ok (.d .non) M := by
  have v := v_is_number (n : Nat) (by omega) M
  rw [u_check_number]
  unfold b_check_number
  exact y_fnN (y_if (y_notT (y_tru (y_ap (y_cons (y_var (by rfl)) y_nil) v) t_truB)) rfl (y_ifF y_next)) rfl
theorem v_get (h : Rnd a c) (n : Nat) (M : List Mu) : fIxOwn "Round" m_Round___getitem__ (.d (RD a c)) (.d (.int (n : Nat))) M = .ok (.d (.str (sT [Wn.sq a c n]))) M := by
  have hl := h.len
  have hw := h.wh
  have hp := h.p1
  have n1 : fLen [.d (.str (sT (hdN a c)))] M = .ok (.d (.int (rsN a c : Nat))) M := by rw [t_lenS (by rw [h.hl]; omega), h.hl]
  have n2 : fLen [.d (.str (sT (lpN a c)))] M = .ok (.d (.int (Wn.pace c : Nat))) M := by rw [t_lenS (by rw [h.ll]; omega), h.ll]
  have e : m_Round___getitem__ [.d (RD a c), .d (.int (n : Nat))] M = .ok (.d (.str (sT [Wn.sq a c n]))) M := by
    rw [u_Round___getitem__]
    unfold b_Round___getitem__
    refine y_fnR (y_seq (y_expr (y_ap (y_cons (y_var (by rfl)) y_nil) (v_check n M))) (y_seqN ?_)) rfl
    by_cases hn : n < rsN a c
    · have g := t_ixS (M := M) (l := hdN a c) (by rw [h.hl]; omega) (h.hd hn)
      exact y_seq (y_if (y_bool (y_op (y_var (by rfl)) (y_ap (y_cons (y_un (y_var (by rfl)) (f_begin M)) y_nil) n1) t_lt)) (bd_t (by omega)) (y_ifT (y_ret (y_op (y_un (y_var (by rfl)) (f_begin M)) (y_var (by rfl)) g)))) y_seqR
    · have g := t_ixS (M := M) (l := lpN a c) (by rw [h.ll]; omega) (h.lp (show rsN a c ≤ n by omega))
      have md : fMod (.d (.int ((n : Int) - (rsN a c : Int)))) (.d (.int (Wn.pace c : Nat))) M = .ok (.d (.int (((n - rsN a c) % Wn.pace c : Nat) : Nat))) M := by
        rw [t_mod (by omega), ← Int.natCast_sub (by omega), ← Int.natCast_emod]
      refine y_seq (y_if (y_bool (y_op (y_var (by rfl)) (y_ap (y_cons (y_un (y_var (by rfl)) (f_begin M)) y_nil) n1) t_lt)) (bd_f (by omega)) (y_ifF y_next)) (y_seqN (y_ret ?_))
      exact y_op (y_un (y_var (by rfl)) (f_cycle M)) (y_op (y_op (y_var (by rfl)) (y_ap (y_cons (y_un (y_var (by rfl)) (f_begin M)) y_nil) n1) t_subI) (y_ap (y_cons (y_un (y_var (by rfl)) (f_cycle M)) y_nil) n2) md) g
  show (if "Round" = "Round" then noX (m_Round___getitem__ [.d (RD a c), .d (.int (n : Nat))] M) else Res.bad) = _
  rw [if_pos rfl, e]
  rfl
theorem v_sign (h : Rnd a c) (n : Nat) (M : List Mu) : m__law_sign [.d (.str (sT a)), .d (.str (sT c)), .d (.int (n : Nat))] M = .ok (.d (.str (sT [Wn.sq a c n]))) M := by
  have hl := h.len
  have hcp : 0 < c.length := List.length_pos_iff.mpr h.ne
  rw [List.length_append] at hl
  have n1 : fLen [.d (.str (sT a))] M = .ok (.d (.int (a.length : Nat))) M := t_lenS (by omega)
  have n2 : fLen [.d (.str (sT c))] M = .ok (.d (.int (c.length : Nat))) M := t_lenS (by omega)
  rw [u__law_sign]
  unfold b__law_sign
  refine y_fnR (y_ret ?_) rfl
  by_cases hn : n < a.length
  · have e : a[n]? = some (Wn.sq a c n) := by
      have := Wn.sq_lt (m := a) (c := c) (n := n) (by rw [List.length_append]; omega)
      rw [List.getElem?_append_left hn] at this
      exact this
    exact y_ifE (y_bool (y_op (y_var (by rfl)) (y_ap (y_cons (y_var (by rfl)) y_nil) n1) t_lt)) (bd_t (by omega)) (y_eT (y_op (y_var (by rfl)) (y_var (by rfl)) (t_ixS (by omega) e)))
  · have hm := Nat.mod_lt (n - a.length) hcp
    have e : c[(n - a.length) % c.length]? = some (Wn.sq a c n) := by
      unfold Wn.sq
      rw [if_neg hn, List.getD_eq_getElem?_getD, List.getElem?_eq_getElem hm]
      rfl
    have md : fMod (.d (.int ((n : Int) - (a.length : Int)))) (.d (.int (c.length : Nat))) M = .ok (.d (.int (((n - a.length) % c.length : Nat) : Nat))) M := by
      rw [t_mod (by omega), ← Int.natCast_sub (by omega), ← Int.natCast_emod]
    exact y_ifE (y_bool (y_op (y_var (by rfl)) (y_ap (y_cons (y_var (by rfl)) y_nil) n1) t_lt)) (bd_f (by omega)) (y_eF (y_op (y_var (by rfl)) (y_op (y_ap (y_cons (y_op (y_var (by rfl)) (y_ap (y_cons (y_var (by rfl)) y_nil) n1) t_subI) y_nil) t_int) (y_ap (y_cons (y_var (by rfl)) y_nil) n2) md) (t_ixS (by omega) e)))
theorem flat_get (l : List Nat) (hl : 0 < l.length) : ∀ (r j : Nat), j < l.length * r → (List.replicate r l).flatten[j]? = l[j % l.length]?
  | 0, j, h => absurd h (by omega)
  | r + 1, j, h => by
    rw [List.replicate_succ, List.flatten_cons]
    by_cases hj : j < l.length
    · rw [List.getElem?_append_left hj, Nat.mod_eq_of_lt hj]
    · rw [List.getElem?_append_right (by omega), flat_get l hl r (j - l.length) (by rw [Nat.mul_succ] at h; omega)]
      congr 1
      exact (Nat.mod_eq_sub_mod (by omega)).symm
theorem first_eq (h : Rnd a c) (n : Nat) : (hdN a c ++ (List.replicate (n / Wn.pace c + 1) (lpN a c)).flatten).take n = (List.range n).map (Wn.sq a c) := by
  have hp := h.p1
  have hlen : (List.replicate (n / Wn.pace c + 1) (lpN a c)).flatten.length = Wn.pace c * (n / Wn.pace c + 1) := by
    rw [List.length_flatten, List.map_replicate, List.sum_replicate_nat, h.ll, Nat.mul_comm]
  have hbig : n < Wn.pace c * (n / Wn.pace c + 1) := by
    have := Nat.div_add_mod n (Wn.pace c)
    have := Nat.mod_lt n (show Wn.pace c > 0 from hp)
    rw [Nat.mul_succ]
    omega
  apply List.ext_getElem?
  intro i
  by_cases hi : i < n
  · rw [List.getElem?_take_of_lt hi, List.getElem?_map, List.getElem?_range hi]
    show _ = some (Wn.sq a c i)
    by_cases hs : i < rsN a c
    · rw [List.getElem?_append_left (by rw [h.hl]; exact hs)]
      exact h.hd hs
    · rw [List.getElem?_append_right (by rw [h.hl]; omega), h.hl, flat_get _ (by rw [h.ll]; omega) _ _ (by rw [h.ll]; omega), h.ll]
      exact h.lp (by omega)
  · rw [List.getElem?_eq_none (by rw [List.length_take]; omega), List.getElem?_eq_none (by rw [List.length_map, List.length_range]; omega)]
theorem v_firstB (h : Rnd a c) (n : Nat) (hn : n ≤ 1000) (M : List Mu) : exitR M.length (b_Round_first [some (.d (RD a c)), some (.d (.int (n : Nat))), none] M) = .ok (.d (.str (sT ((List.range n).map (Wn.sq a c))))) M := by
  have hl := h.len
  have hw := h.wh
  have hp := h.p1
  have hq : n / Wn.pace c ≤ n := Nat.div_le_self _ _
  have n2 : fLen [.d (.str (sT (lpN a c)))] M = .ok (.d (.int (Wn.pace c : Nat))) M := by rw [t_lenS (by rw [h.ll]; omega), h.ll]
  have dv : fDiv (.d (.int (n : Nat))) (.d (.int (Wn.pace c : Nat))) M = .ok (.d (.int ((n / Wn.pace c : Nat) : Nat))) M := by
    rw [t_div (by omega) (by omega), Int.natCast_ediv]
  have ad : fAdd (.d (.int ((n / Wn.pace c : Nat) : Nat))) (.d (.int 1)) M = .ok (.d (.int ((n / Wn.pace c + 1 : Nat) : Nat))) M := by
    rw [t_addI, Int.natCast_add]
    rfl
  have hmul : Wn.pace c * (n / Wn.pace c + 1) ≤ 100 * 1001 := Nat.mul_le_mul (by omega) (by omega)
  have mu : fMulS (.d (.str (sT (lpN a c)))) (.d (.int ((n / Wn.pace c + 1 : Nat) : Nat))) M = .ok (.d (.str (sT (List.replicate (n / Wn.pace c + 1) (lpN a c)).flatten))) M := t_mulT (by omega) (by rw [h.ll]; omega)
  have hlen : (List.replicate (n / Wn.pace c + 1) (lpN a c)).flatten.length = Wn.pace c * (n / Wn.pace c + 1) := by
    rw [List.length_flatten, List.map_replicate, List.sum_replicate_nat, h.ll, Nat.mul_comm]
  have ap : fAdd (.d (.str (sT (hdN a c)))) (.d (.str (sT (List.replicate (n / Wn.pace c + 1) (lpN a c)).flatten))) M = .ok (.d (.str (sT (hdN a c ++ (List.replicate (n / Wn.pace c + 1) (lpN a c)).flatten)))) M := t_addT (by rw [h.hl]; omega) (by rw [hlen]; omega)
  have tk : fSl (.d (.str (sT (hdN a c ++ (List.replicate (n / Wn.pace c + 1) (lpN a c)).flatten)))) none (some (n : Nat)) M = .ok (.d (.str (sT ((List.range n).map (Wn.sq a c))))) M := by
    rw [t_takeS (by rw [List.length_append, hlen, h.hl]; omega), first_eq h]
  unfold b_Round_first
  refine y_fnR (y_seq (y_expr (y_ap (y_cons (y_var (by rfl)) y_nil) (v_check n M))) (y_seqN (y_seq (y_asgN (y_op (y_op (y_var (by rfl)) (y_ap (y_cons (y_un (y_var (by rfl)) (f_cycle M)) y_nil) n2) dv) y_c ad) (by rfl)) (y_seqN (y_ret ?_))))) rfl
  exact y_sl (y_op (y_un (y_var (by rfl)) (f_begin M)) (y_op (y_un (y_var (by rfl)) (f_cycle M)) (y_var (by rfl)) mu) ap) y_noPart (y_part (y_var (by rfl))) tk
end
end K25

namespace K25
open PySem L2 Wv
local macro_rules
  | `(tactic| walk_at "bd") => `(tactic| first
    | with_reducible exact bd_TT
    | with_reducible exact bd_FF
    | with_reducible assumption
    | ((with_reducible apply bd_nF); walk_at "bd")
    | ((with_reducible apply bd_nT); walk_at "bd")
    | ((with_reducible apply bd_t); first | assumption | with_reducible rfl | omega | decide)
    | ((with_reducible apply bd_f); first | assumption | omega | decide)
    | ((with_reducible apply bd_aT); walk_at "bd"; walk_at "bd")
    | ((with_reducible apply bd_aL); walk_at "bd")
    | ((with_reducible apply bd_aR); walk_at "bd")
    | ((with_reducible apply bd_oF); walk_at "bd"; walk_at "bd")
    | ((with_reducible apply bd_oL); walk_at "bd")
    | ((with_reducible apply bd_oR); walk_at "bd")
    | exact bd_idT (by decide)
    | exact bd_idF (by decide))
  | `(tactic| walk_at "st") => `(tactic| first | with_reducible exact y_set0 | ((with_reducible apply y_setS); walk_at "st"))
  | `(tactic| wp_walk using $ts,*) => `(tactic| first
    $[| with_reducible exact $ts:term]*
    | with_reducible assumption
    | ((with_reducible apply y_var); exact rfl)
    | with_reducible exact y_c
    | with_reducible exact y_nil
    | with_reducible exact y_noPart
    | ((with_reducible apply y_cons); wp_walk using $ts,*; wp_walk using $ts,*)
    | ((with_reducible apply y_op); wp_walk using $ts,*; wp_walk using $ts,*; wp_walk using $ts,*)
    | ((with_reducible apply y_un); wp_walk using $ts,*; wp_walk using $ts,*)
    | ((with_reducible apply y_ap); wp_walk using $ts,*; wp_walk using $ts,*)
    | ((with_reducible apply y_bool); wp_walk using $ts,*)
    | ((with_reducible apply y_tru); wp_walk using $ts,*; wp_walk using $ts,*)
    | ((with_reducible apply y_notT); wp_walk using $ts,*)
    | ((with_reducible apply y_not); wp_walk using $ts,*)
    | ((with_reducible apply y_andT); wp_walk using $ts,*; walk_at "bd"; wp_walk using $ts,*)
    | ((with_reducible apply y_orT); wp_walk using $ts,*; walk_at "bd"; wp_walk using $ts,*)
    | with_reducible exact y_bK
    | ((with_reducible apply y_bT); wp_walk using $ts,*)
    | ((with_reducible apply y_bF); wp_walk using $ts,*)
    | ((with_reducible apply y_ifE); wp_walk using $ts,*; walk_at "bd"; wp_walk using $ts,*)
    | ((with_reducible apply y_eT); wp_walk using $ts,*)
    | ((with_reducible apply y_eF); wp_walk using $ts,*)
    | ((with_reducible apply y_and); wp_walk using $ts,*; walk_at "bd"; wp_walk using $ts,*)
    | ((with_reducible apply y_or); wp_walk using $ts,*; walk_at "bd"; wp_walk using $ts,*)
    | with_reducible exact y_andKF
    | with_reducible exact y_orKT
    | ((with_reducible apply y_andKT); wp_walk using $ts,*)
    | ((with_reducible apply y_orKF); wp_walk using $ts,*)
    | ((with_reducible apply y_chain); wp_walk using $ts,*; wp_walk using $ts,*; wp_walk using $ts,*; walk_at "bd"; wp_walk using $ts,*)
    | ((with_reducible apply y_last); wp_walk using $ts,*; wp_walk using $ts,*)
    | ((with_reducible apply y_sl); wp_walk using $ts,*; wp_walk using $ts,*; wp_walk using $ts,*; wp_walk using $ts,*)
    | ((with_reducible apply y_part); wp_walk using $ts,*)
    | ((with_reducible apply y_lst); wp_walk using $ts,*; exact rfl; first | exact Nat.le_of_ble_eq_true rfl | omega)
    | ((with_reducible apply y_tup); wp_walk using $ts,*; exact rfl; first | exact Nat.le_of_ble_eq_true rfl | omega)
    | with_reducible first | exact t_addI | exact t_subI | exact t_mulL (by first | assumption | omega | decide) | exact t_mulR (by first | assumption | omega | decide) | exact t_mulLS (by first | assumption | omega | decide) | exact t_mulRS (by first | assumption | omega | decide) | exact t_mod (by first | assumption | omega | decide) | exact t_div (by first | assumption | omega | decide) (by first | assumption | omega | decide) | exact t_neg | exact t_lt | exact t_le | exact t_gt | exact t_ge | exact t_eqI | exact t_neI | exact t_eqS | exact t_neS | exact t_eqB | exact t_neB | exact t_int | exact t_intB | exact t_abs | exact t_divmod (by first | assumption | omega | decide) (by first | assumption | omega | decide) | exact t_max2 | exact t_min2 | exact t_lenL | exact t_lenT | exact t_lenC | exact t_truB | exact t_truL | exact t_truI | exact t_ixT0 | exact t_ixT1 | exact t_ixT2 | exact t_ixL0 | exact t_ixL1 | exact t_ixL2
    | ((with_reducible apply y_seq); wp_walk using $ts,*; wp_walk using $ts,*)
    | ((with_reducible apply y_seqN); wp_walk using $ts,*)
    | with_reducible exact y_seqR
    | with_reducible exact y_seqB
    | with_reducible exact y_seqC
    | with_reducible exact y_seqX
    | ((with_reducible apply y_if); wp_walk using $ts,*; walk_at "bd"; wp_walk using $ts,*)
    | ((with_reducible apply y_ifT); wp_walk using $ts,*)
    | ((with_reducible apply y_ifF); wp_walk using $ts,*)
    | ((with_reducible apply y_ret); wp_walk using $ts,*)
    | ((with_reducible apply y_asgN); wp_walk using $ts,*; walk_at "st")
    | ((with_reducible apply y_asgT2); wp_walk using $ts,*; with_reducible apply y_set2; walk_at "st"; walk_at "st")
    | with_reducible exact y_next
    | with_reducible exact y_brk
    | with_reducible exact y_retN
    | with_reducible exact t_takeN _ _ _
    | with_reducible exact t_dropN _ _ _
    | with_reducible exact t_isiC (by rfl)
    | with_reducible exact t_isiB (by rfl) (by rfl)
    | ((with_reducible apply y_expr); wp_walk using $ts,*)
    | ((with_reducible apply y_parN); wp_walk using $ts,*; with_reducible apply y_set2; walk_at "st"; walk_at "st")
    | ((with_reducible apply y_for); wp_walk using $ts,*; wp_walk using $ts,*)
    | ((with_reducible apply y_rng1); wp_walk using $ts,*; first | assumption | omega | decide)
    | (focus (trace_state; fail "stuck")))

theorem sTl (t : String) : ∃ l, Str.ofString t = sT l := ⟨(Str.ofString t).cps.toList, by unfold sT; simp⟩
def brN (a c : List Nat) : List Nat := hdN a c ++ [40] ++ lpN a c ++ [41]
section
variable {a c : List Nat}
theorem s40 : (("(" : Str)) = sT [40] := by decide
theorem s41 : ((")" : Str)) = sT [41] := by decide
theorem s4141 : (("))" : Str)) = sT [41, 41] := by decide
def rnd : List Nat := [82, 111, 117, 110, 100, 40]
theorem sRnd : (("Round(" : Str)) = sT rnd := by decide
theorem sE : Str.empty = sT [] := by decide
theorem v_str (h : Rnd a c) (M : List Mu) : m_Round___str__ [.d (RD a c)] M = .ok (.d (.str (sT (brN a c)))) M := by
  have hl := h.len
  have hw := h.wh
  have l1 := h.hl
  have l2 := h.ll
  have hz : sizeLine = 16777216 := rfl
  rw [u_Round___str__]
  unfold b_Round___str__
  refine y_fnR (y_ret ?_) rfl
  refine y_js (y_fmtS (y_un (y_var (by rfl)) (f_begin M)) (by rw [sT_len]; omega)) (by rw [sE, sT_app, sT_len, List.nil_append]; omega) ?_
  rw [sE, sT_app, List.nil_append]
  refine y_js y_c (by rw [s40, sT_app, sT_len, List.length_append]; simp; omega) ?_
  rw [s40, sT_app]
  refine y_js (y_fmtS (y_un (y_var (by rfl)) (f_cycle M)) (by rw [sT_len]; omega)) (by rw [sT_app, sT_len, List.length_append, List.length_append]; simp; omega) ?_
  rw [sT_app]
  refine y_js y_c (by rw [s41, sT_app, sT_len, List.length_append, List.length_append, List.length_append]; simp; omega) ?_
  rw [s41, sT_app]
  rfl
theorem v_repr (h : Rnd a c) (M : List Mu) : m_Round___repr__ [.d (RD a c)] M = .ok (.d (.str (sT (rnd ++ brN a c ++ [41])))) M := by
  have hl := h.len
  have hw := h.wh
  have l1 := h.hl
  have l2 := h.ll
  have hz : sizeLine = 16777216 := rfl
  have lr : rnd.length = 6 := rfl
  rw [u_Round___repr__]
  unfold b_Round___repr__
  refine y_fnR (y_ret ?_) rfl
  refine y_js y_c (by rw [sE, sRnd, sT_app, sT_len, List.nil_append]; omega) ?_
  rw [sE, sRnd, sT_app, List.nil_append]
  refine y_js (y_fmtS (y_un (y_var (by rfl)) (f_begin M)) (by rw [sT_len]; omega)) (by rw [sT_app, sT_len, List.length_append]; omega) ?_
  rw [sT_app]
  refine y_js y_c (by rw [s40, sT_app, sT_len, List.length_append, List.length_append]; simp; omega) ?_
  rw [s40, sT_app]
  refine y_js (y_fmtS (y_un (y_var (by rfl)) (f_cycle M)) (by rw [sT_len]; omega)) (by rw [sT_app, sT_len, List.length_append, List.length_append, List.length_append]; simp; omega) ?_
  rw [sT_app]
  refine y_js y_c (by rw [s4141, sT_app, sT_len, List.length_append, List.length_append, List.length_append, List.length_append]; simp; omega) ?_
  rw [s4141, sT_app]
  have : rnd ++ hdN a c ++ [40] ++ lpN a c ++ [41, 41] = rnd ++ brN a c ++ [41] := by
    unfold brN
    simp
  rw [this]
  rfl
def sameRD (a c a2 c2 : List Nat) : Bool := decide (hdN a c = hdN a2 c2) && decide (lpN a c = lpN a2 c2)
theorem v_eq (a c a2 c2 : List Nat) (M : List Mu) : m_Round___eq__ [.d (RD a c), .d (RD a2 c2)] M = .ok (.d (.bl (sameRD a c a2 c2))) M := by
  rw [u_Round___eq__]
  unfold b_Round___eq__ sameRD
  refine y_fnR (y_ret (y_and (y_un (y_var (by rfl)) (show fIsi _ _ (.d (RD a2 c2)) M = .ok (.d (.bl true)) M from t_isiC (by rfl))) rfl (y_andKT ?_))) rfl
  by_cases h : hdN a c = hdN a2 c2
  · rw [decide_eq_true h, Bool.true_and]
    exact y_and (y_op (y_un (y_var (by rfl)) (f_begin M)) (y_un (y_var (by rfl)) (f_begin M)) t_eqT) (bd_t h) (y_andKT (y_op (y_un (y_var (by rfl)) (f_cycle M)) (y_un (y_var (by rfl)) (f_cycle M)) t_eqT))
  · rw [decide_eq_false h, Bool.false_and]
    exact y_and (y_op (y_un (y_var (by rfl)) (f_begin M)) (y_un (y_var (by rfl)) (f_begin M)) t_eqT) (bd_f h) y_andKF
theorem o_eq (neg : Bool) (a c a2 c2 : List Nat) (M : List Mu) : fEqOwn neg "Round" m_Round___eq__ ["str", "tuple"] ["Round"] (.d (RD a c)) (.d (RD a2 c2)) M = .ok (.d (.bl (if neg then !sameRD a c a2 c2 else sameRD a c a2 c2))) M := fEqOwn_ins (by rfl) (v_eq a c a2 c2 M)
theorem o_eqD (neg : Bool) (a c : List Nat) (x : D) (t : String) (ht : tyN x = some t) (hm : t = "str" ∨ t = "tuple") (M : List Mu) : fEqOwn neg "Round" m_Round___eq__ ["str", "tuple"] ["Round"] (.d (RD a c)) (.d x) M = .ok (.d (.bl neg)) M := by
  have hty : fIsi [("str", false), ("tuple", false)] [("Round", true)] (.d x) M = .ok (.d (.bl false)) M := by
    refine t_isiB ht ?_
    rcases hm with rfl | rfl <;> rfl
  have e : m_Round___eq__ [.d (RD a c), .d x] M = .ok (.d (.bl false)) M := by
    rw [u_Round___eq__]
    unfold b_Round___eq__
    exact y_fnR (y_ret (y_and (y_un (y_var (by rfl)) hty) rfl y_andKF)) rfl
  have hb : besideV M ["str", "tuple"] ["Round"] (.d x) = true := by
    have : tyV' M (.d x) = some (.inl t) := by
      cases x <;> first | (cases ht; rfl) | cases ht
    unfold besideV
    rw [this]
    rcases hm with rfl | rfl <;> rfl
  have := fEqOwn_ins (neg := neg) hb e
  cases neg <;> exact this
theorem same_iff {a2 c2 : List Nat} (h : Rnd a c) (h2 : Rnd a2 c2) : sameRD a c a2 c2 = true ↔ ∀ n, Wn.sq a c n = Wn.sq a2 c2 n := by
  unfold sameRD
  rw [Bool.and_eq_true_iff, decide_eq_true_eq, decide_eq_true_eq]
  constructor
  · rintro ⟨e1, e2⟩ n
    have l1 := congrArg List.length e1
    have l2 := congrArg List.length e2
    rw [h.hl, h2.hl] at l1
    rw [h.ll, h2.ll] at l2
    by_cases hn : n < rsN a c
    · have x := h.hd hn
      have y := h2.hd (n := n) (by omega)
      rw [e1, y] at x
      exact (Option.some.inj x).symm
    · have x := h.lp (n := n) (by omega)
      have y := h2.lp (n := n) (by omega)
      rw [e2, l1, l2, y] at x
      exact (Option.some.inj x).symm
  · intro e
    obtain ⟨p, s⟩ := Wn.red_eq h.ne h2.ne e
    have hs : rsN a c = rsN a2 c2 := s
    have hf : Wn.sq a c = Wn.sq a2 c2 := funext e
    rw [h.hds, h2.hds, h.lps, h2.lps, hs, p, hf]
    exact ⟨rfl, rfl⟩
end
/-! the law's own search for the least form -/
def chk (f : Nat → Nat) (z g : Nat) : Bool := ((List.range (40 - g - z)).map fun i => decide (f (z + i) = f (z + i + g))).all id
theorem chk_iff {f : Nat → Nat} {s p : Nat} (hP : Wn.Per f s p) (hp : 1 ≤ p) (hs : s ≤ 8) (hp8 : p ≤ 8) {z g : Nat} (hz : z ≤ 8) (hg : 1 ≤ g) (hg8 : g ≤ 8) : chk f z g = true ↔ Wn.Per f z g := by
  unfold chk
  rw [List.all_map]
  simp only [List.all_eq_true, List.mem_range, Function.comp, id, decide_eq_true_eq]
  constructor
  · intro h n hn
    by_cases hlt : n < 40 - g
    · have := h (n - z) (by omega)
      rw [show z + (n - z) = n by omega] at this
      exact this.symm
    · have e1 := hP.at hp n (by omega)
      have hm := Nat.mod_lt (n - s) (show p > 0 by omega)
      -- a place of the same rest behind 8
      have hk : ∃ m, 8 ≤ m ∧ m < 16 ∧ ∃ k, n = m + p * k := by
        refine ⟨8 + (n - 8) % p, by omega, by have := Nat.mod_lt (n - 8) (show p > 0 by omega); omega, (n - 8) / p, ?_⟩
        have := Nat.div_add_mod (n - 8) p
        omega
      obtain ⟨m, m1, m2, k, rfl⟩ := hk
      have a1 := hP.mul k m (by omega)
      have a2 := hP.mul k (m + g) (by omega)
      have a3 := h (m - z) (by omega)
      rw [show z + (m - z) = m by omega] at a3
      rw [a1, show m + p * k + g = m + g + p * k by omega, a2]
      exact a3.symm
  · intro h i hi
    exact (h (z + i) (by omega)).symm
end K25

namespace K25
open PySem L2 Wv
local macro_rules
  | `(tactic| walk_at "bd") => `(tactic| first
    | with_reducible exact bd_TT
    | with_reducible exact bd_FF
    | with_reducible assumption
    | ((with_reducible apply bd_nF); walk_at "bd")
    | ((with_reducible apply bd_nT); walk_at "bd")
    | ((with_reducible apply bd_t); first | assumption | with_reducible rfl | omega | decide)
    | ((with_reducible apply bd_f); first | assumption | omega | decide)
    | ((with_reducible apply bd_aT); walk_at "bd"; walk_at "bd")
    | ((with_reducible apply bd_aL); walk_at "bd")
    | ((with_reducible apply bd_aR); walk_at "bd")
    | ((with_reducible apply bd_oF); walk_at "bd"; walk_at "bd")
    | ((with_reducible apply bd_oL); walk_at "bd")
    | ((with_reducible apply bd_oR); walk_at "bd")
    | exact bd_idT (by decide)
    | exact bd_idF (by decide))
  | `(tactic| walk_at "st") => `(tactic| first | with_reducible exact y_set0 | ((with_reducible apply y_setS); walk_at "st"))
  | `(tactic| wp_walk using $ts,*) => `(tactic| first
    $[| with_reducible exact $ts:term]*
    | with_reducible assumption
    | ((with_reducible apply y_var); exact rfl)
    | with_reducible exact y_c
    | with_reducible exact y_nil
    | with_reducible exact y_noPart
    | ((with_reducible apply y_cons); wp_walk using $ts,*; wp_walk using $ts,*)
    | ((with_reducible apply y_op); wp_walk using $ts,*; wp_walk using $ts,*; wp_walk using $ts,*)
    | ((with_reducible apply y_un); wp_walk using $ts,*; wp_walk using $ts,*)
    | ((with_reducible apply y_ap); wp_walk using $ts,*; wp_walk using $ts,*)
    | ((with_reducible apply y_bool); wp_walk using $ts,*)
    | ((with_reducible apply y_tru); wp_walk using $ts,*; wp_walk using $ts,*)
    | ((with_reducible apply y_notT); wp_walk using $ts,*)
    | ((with_reducible apply y_not); wp_walk using $ts,*)
    | ((with_reducible apply y_andT); wp_walk using $ts,*; walk_at "bd"; wp_walk using $ts,*)
    | ((with_reducible apply y_orT); wp_walk using $ts,*; walk_at "bd"; wp_walk using $ts,*)
    | with_reducible exact y_bK
    | ((with_reducible apply y_bT); wp_walk using $ts,*)
    | ((with_reducible apply y_bF); wp_walk using $ts,*)
    | ((with_reducible apply y_ifE); wp_walk using $ts,*; walk_at "bd"; wp_walk using $ts,*)
    | ((with_reducible apply y_eT); wp_walk using $ts,*)
    | ((with_reducible apply y_eF); wp_walk using $ts,*)
    | ((with_reducible apply y_and); wp_walk using $ts,*; walk_at "bd"; wp_walk using $ts,*)
    | ((with_reducible apply y_or); wp_walk using $ts,*; walk_at "bd"; wp_walk using $ts,*)
    | with_reducible exact y_andKF
    | with_reducible exact y_orKT
    | ((with_reducible apply y_andKT); wp_walk using $ts,*)
    | ((with_reducible apply y_orKF); wp_walk using $ts,*)
    | ((with_reducible apply y_chain); wp_walk using $ts,*; wp_walk using $ts,*; wp_walk using $ts,*; walk_at "bd"; wp_walk using $ts,*)
    | ((with_reducible apply y_last); wp_walk using $ts,*; wp_walk using $ts,*)
    | ((with_reducible apply y_sl); wp_walk using $ts,*; wp_walk using $ts,*; wp_walk using $ts,*; wp_walk using $ts,*)
    | ((with_reducible apply y_part); wp_walk using $ts,*)
    | ((with_reducible apply y_lst); wp_walk using $ts,*; exact rfl; first | exact Nat.le_of_ble_eq_true rfl | omega)
    | ((with_reducible apply y_tup); wp_walk using $ts,*; exact rfl; first | exact Nat.le_of_ble_eq_true rfl | omega)
    | with_reducible first | exact t_addI | exact t_subI | exact t_mulL (by first | assumption | omega | decide) | exact t_mulR (by first | assumption | omega | decide) | exact t_mulLS (by first | assumption | omega | decide) | exact t_mulRS (by first | assumption | omega | decide) | exact t_mod (by first | assumption | omega | decide) | exact t_div (by first | assumption | omega | decide) (by first | assumption | omega | decide) | exact t_neg | exact t_lt | exact t_le | exact t_gt | exact t_ge | exact t_eqI | exact t_neI | exact t_eqS | exact t_neS | exact t_eqB | exact t_neB | exact t_int | exact t_intB | exact t_abs | exact t_divmod (by first | assumption | omega | decide) (by first | assumption | omega | decide) | exact t_max2 | exact t_min2 | exact t_lenL | exact t_lenT | exact t_lenC | exact t_truB | exact t_truL | exact t_truI | exact t_ixT0 | exact t_ixT1 | exact t_ixT2 | exact t_ixL0 | exact t_ixL1 | exact t_ixL2
    | ((with_reducible apply y_seq); wp_walk using $ts,*; wp_walk using $ts,*)
    | ((with_reducible apply y_seqN); wp_walk using $ts,*)
    | with_reducible exact y_seqR
    | with_reducible exact y_seqB
    | with_reducible exact y_seqC
    | with_reducible exact y_seqX
    | ((with_reducible apply y_if); wp_walk using $ts,*; walk_at "bd"; wp_walk using $ts,*)
    | ((with_reducible apply y_ifT); wp_walk using $ts,*)
    | ((with_reducible apply y_ifF); wp_walk using $ts,*)
    | ((with_reducible apply y_ret); wp_walk using $ts,*)
    | ((with_reducible apply y_asgN); wp_walk using $ts,*; walk_at "st")
    | ((with_reducible apply y_asgT2); wp_walk using $ts,*; with_reducible apply y_set2; walk_at "st"; walk_at "st")
    | with_reducible exact y_next
    | with_reducible exact y_brk
    | with_reducible exact y_retN
    | with_reducible exact t_takeN _ _ _
    | with_reducible exact t_dropN _ _ _
    | with_reducible exact t_isiC (by rfl)
    | with_reducible exact t_isiB (by rfl) (by rfl)
    | ((with_reducible apply y_expr); wp_walk using $ts,*)
    | ((with_reducible apply y_parN); wp_walk using $ts,*; with_reducible apply y_set2; walk_at "st"; walk_at "st")
    | ((with_reducible apply y_for); wp_walk using $ts,*; wp_walk using $ts,*)
    | ((with_reducible apply y_rng1); wp_walk using $ts,*; first | assumption | omega | decide)
    | (focus (trace_state; fail "stuck")))

def oneD (l : List Nat) : List D := (l.map fun c => [c]).map fun c => D.str (sT c)
theorem oneD_map (f : Nat → Nat) (l : List Nat) : oneD (l.map f) = l.map fun k => D.str (sT [f k]) := by
  unfold oneD
  rw [List.map_map, List.map_map]
  rfl
theorem oneD_len (l : List Nat) : (oneD l).length = l.length := by unfold oneD; simp
theorem oneD_take (l : List Nat) (n : Nat) : (oneD l).take n = oneD (l.take n) := by unfold oneD; rw [List.map_take, List.map_take]
theorem oneD_drop (l : List Nat) (n : Nat) : (oneD l).drop n = oneD (l.drop n) := by unfold oneD; rw [List.map_drop, List.map_drop]
theorem fSl_mid (xs : List D) (z w : Nat) (hw : w ≤ xs.length) (hz : z ≤ w) (M : List Mu) : fSl (.d (.lst xs)) (some (z : Nat)) (some (w : Nat)) M = .ok (.d (.lst ((xs.drop z).take (w - z)))) M := by
  show Res.ok (Vl.d (.lst (cutD xs (some (z : Nat)) (some (w : Nat))))) M = _
  unfold cutD
  rw [HT.sIx_nat, HT.sIx_nat, Nat.min_eq_left hw, Nat.min_eq_left (by omega)]
theorem join_one {mo me : Sm Vl} {ρ : Wv.Env} {M M1 M2 : List Mu} {l : List Nat} (h : mo ρ M = .ok (.d (.str "")) M1) (h' : me ρ M1 = .ok (.d (.lst (oneD l))) M2) (hl : l.length ≤ 1000) : eJoin mo me ρ M = .ok (.d (.str (sT l))) M2 := by
  rw [sT0] at h
  have := join_ok (cs := l.map fun c => [c]) h h' ⟨by rw [List.length_map]; exact hl, fun c hc => by obtain ⟨x, _, rfl⟩ := List.mem_map.mp hc; show 1 ≤ 1000; decide⟩
  rw [flat_ones] at this
  exact this
abbrev inB : Ss := (sIf (eTru (eAp fAll (eCons (eLc (eRng2 (eCons (eVar 3) (eCons (eOp fSub (eC (.int 40)) (eVar 4)) eNil))) (cName 6) eTrue (eOp fEq (eOp fIx (eVar 2) (eVar 6)) (eOp fIx (eVar 2) (eOp fAdd (eVar 6) (eVar 4)))) [6]) eNil))) (sRet (eTup (eCons (eJoin (eC (.str "")) (eSl (eVar 2) eNoPart (ePart (eVar 3)))) (eCons (eJoin (eC (.str "")) (eSl (eVar 2) (ePart (eVar 3)) (ePart (eOp fAdd (eVar 3) (eVar 4))))) eNil)))) sNext)
def resD (f : Nat → Nat) (z g : Nat) : D := .tup [.str (sT ((List.range z).map f)), .str (sT ((List.range g).map fun k => f (z + k)))]
def lnE (a c : List Nat) (f : Nat → Nat) (o3 o4 : Option Vl) : Wv.Env := [some (.d (.str (sT a))), some (.d (.str (sT c))), some (.d (.lst (oneD ((List.range 40).map f)))), o3, o4, none, none]
theorem mid_range (f : Nat → Nat) (N z g : Nat) (h : z + g ≤ N) : (((List.range N).map f).drop z).take g = (List.range g).map fun k => f (z + k) := by
  apply List.ext_getElem?
  intro i
  by_cases hi : i < g
  · rw [List.getElem?_take_of_lt hi, List.getElem?_drop, List.getElem?_map, List.getElem?_map, List.getElem?_range (by omega), List.getElem?_range hi]
    rfl
  · rw [List.getElem?_eq_none (by rw [List.length_take]; omega), List.getElem?_eq_none (by rw [List.length_map, List.length_range]; omega)]
theorem for_none {n i : Nat} {b : Ss} {ρ0 : Wv.Env} {M : List Mu} (hn : n = M.length) (hc : ∀ d, cutE n (ρ0.set i (some (.d d))) = ρ0.set i (some (.d d))) : ∀ (ds : List D) (o : Option D), (∀ d ∈ ds, b (ρ0.set i (some (.d d))) M = .nx (ρ0.set i (some (.d d))) M) → ∃ o' : Option D, forL n (gN i) b ds (ρ0.set i (o.map Vl.d)) M = .nx (ρ0.set i (o'.map Vl.d)) M
  | [], o, _ => ⟨o, rfl⟩
  | d :: ds, o, h => by
    obtain ⟨o', e⟩ := for_none hn hc ds (some d) fun x hx => h x (List.mem_cons_of_mem _ hx)
    refine ⟨o', ?_⟩
    rw [forL_cons (p := (ρ0.set i (some (.d d)), M)) (by show some ((ρ0.set i (o.map Vl.d)).set i (some (.d d)), M) = _; rw [List.set_set]), h d List.mem_cons_self]
    dsimp only
    rw [hc, hn, List.take_length, ← hn]
    exact e
theorem in_ok (a c : List Nat) (f : Nat → Nat) (z g : Nat) (hz : z ≤ 8) (hg : 1 ≤ g) (hg8 : g ≤ 8) (M : List Mu) : inB (lnE a c f (some (.d (.int (z : Nat)))) (some (.d (.int (g : Nat))))) M = if chk f z g = true then .rt (.d (resD f z g)) M else .nx (lnE a c f (some (.d (.int (z : Nat)))) (some (.d (.int (g : Nat))))) M := by
  let ρ := lnE a c f (some (.d (.int (z : Nat)))) (some (.d (.int (g : Nat))))
  have ll : (oneD ((List.range 40).map f)).length = 40 := by rw [oneD_len]; simp
  have gt : ∀ k, k < 40 → (oneD ((List.range 40).map f))[k]? = some (.str (sT [f k])) := fun k hk => by
    rw [oneD_map, List.getElem?_map, List.getElem?_range hk]
    rfl
  have hr : eRng2 (eCons (eVar 3) (eCons (eOp fSub (eC (.int 40)) (eVar 4)) eNil)) ρ M = .ok (rngD (z : Nat) (40 - g - z)) M := by
    refine (eRng2_ok (i := (z : Nat)) (j := 40 - (g : Int)) (M' := M) (y_cons (y_var (by rfl)) (y_cons (y_op y_c (y_var (by rfl)) t_subI) y_nil)) ⟨by omega, by omega⟩ (by omega) (by omega)).trans ?_
    rw [show (40 - (g : Int) - (z : Nat)).toNat = 40 - g - z by omega]
  have lc : eLc (eRng2 (eCons (eVar 3) (eCons (eOp fSub (eC (.int 40)) (eVar 4)) eNil))) (cName 6) eTrue (eOp fEq (eOp fIx (eVar 2) (eVar 6)) (eOp fIx (eVar 2) (eOp fAdd (eVar 6) (eVar 4)))) [6] ρ M = .ok (.d (.lst (bls ((List.range (40 - g - z)).map fun i => decide (f (z + i) = f (z + i + g)))))) M := by
    refine (lc_map (fun d => match d with | .int i => D.bl (decide (f i.toNat = f (i.toNat + g))) | _ => .non) hr (fun d hd => ?_) (by rw [rngD_len]; unfold sizeLine; omega)).trans ?_
    · obtain ⟨i, hi, rfl⟩ := rngD_mem hd
      refine ⟨_, rfl, ?_⟩
      show eOp fEq _ _ [some (.d (.str (sT a))), some (.d (.str (sT c))), some (.d (.lst (oneD ((List.range 40).map f)))), some (.d (.int (z : Nat))), some (.d (.int (g : Nat))), none, some (.d (.int (((z : Nat) : Int) + (i : Nat))))] M = Res.ok (Vl.d (.bl (decide (f (((z : Nat) : Int) + (i : Nat)).toNat = f ((((z : Nat) : Int) + (i : Nat)).toNat + g))))) M
      rw [show (((z : Nat) : Int) + (i : Nat)) = ((z + i : Nat) : Int) by omega, Int.toNat_natCast]
      have x1 : fIx (.d (.lst (oneD ((List.range 40).map f)))) (.d (.int ((z + i : Nat) : Nat))) M = .ok (.d (.str (sT [f (z + i)]))) M := fIx_lst (gt _ (by omega)) M
      have x2 : fIx (.d (.lst (oneD ((List.range 40).map f)))) (.d (.int ((z + i + g : Nat) : Nat))) M = .ok (.d (.str (sT [f (z + i + g)]))) M := fIx_lst (gt _ (by omega)) M
      have x3 : fAdd (.d (.int ((z + i : Nat) : Nat))) (.d (.int (g : Nat))) M = .ok (.d (.int ((z + i + g : Nat) : Nat))) M := by rw [t_addI, ← Int.natCast_add]
      refine (y_op (y_op (y_var (by rfl)) (y_var (by rfl)) x1) (y_op (y_var (by rfl)) (y_op (y_var (by rfl)) (y_var (by rfl)) x3) x2) t_eqT).trans ?_
      have : decide ([f (z + i)] = [f (z + i + g)]) = decide (f (z + i) = f (z + i + g)) := by
        rw [decide_eq_decide]
        simp
      rw [this]
    · unfold rngD bls
      rw [List.map_map, List.map_map]
      have hmm : ∀ i : Nat, (((z : Nat) : Int) + (i : Nat)).toNat = z + i := fun i => by omega
      simp only [Function.comp_def, hmm]
  have fa := fAll_bls ((List.range (40 - g - z)).map fun i => decide (f (z + i) = f (z + i + g))) M
  have ht : eTru (eAp fAll (eCons (eLc (eRng2 (eCons (eVar 3) (eCons (eOp fSub (eC (.int 40)) (eVar 4)) eNil))) (cName 6) eTrue (eOp fEq (eOp fIx (eVar 2) (eVar 6)) (eOp fIx (eVar 2) (eOp fAdd (eVar 6) (eVar 4)))) [6]) eNil)) ρ M = .ok (chk f z g) M := y_tru (y_ap (y_cons lc y_nil) fa) t_truB
  cases hc : chk f z g with
  | false =>
    rw [hc] at ht
    rw [if_neg Bool.false_ne_true]
    exact y_if ht rfl (y_ifF y_next)
  | true =>
    rw [hc] at ht
    rw [if_pos rfl]
    have t1 : fSl (.d (.lst (oneD ((List.range 40).map f)))) none (some (z : Nat)) M = .ok (.d (.lst (oneD ((List.range z).map f)))) M := by
      rw [fSl_take, oneD_take, ← List.map_take, List.take_range, Nat.min_eq_left (by omega)]
    have t2 : fSl (.d (.lst (oneD ((List.range 40).map f)))) (some (z : Nat)) (some ((z + g : Nat) : Nat)) M = .ok (.d (.lst (oneD ((List.range g).map fun k => f (z + k))))) M := by
      have hl : (((List.range 40).map f).drop z).take g = (List.range g).map fun k => f (z + k) := by
        exact mid_range f 40 z g (by omega)
      rw [fSl_mid _ _ _ (by rw [ll]; omega) (by omega), oneD_drop, oneD_take, Nat.add_sub_cancel_left, hl]
    have x3 : fAdd (.d (.int (z : Nat))) (.d (.int (g : Nat))) M = .ok (.d (.int ((z + g : Nat) : Nat))) M := by rw [t_addI, ← Int.natCast_add]
    refine y_if ht rfl (y_ifT (y_ret (y_tup (y_cons (join_one y_c (y_sl (y_var (by rfl)) y_noPart (y_part (y_var (by rfl))) t1) (by simp; omega)) (y_cons (join_one y_c (y_sl (y_var (by rfl)) (y_part (y_var (by rfl))) (y_part (y_op (y_var (by rfl)) (y_var (by rfl)) x3)) t2) (by simp; omega)) y_nil)) (by rfl) (Nat.le_of_ble_eq_true rfl))))
theorem rng19 (ρ : Wv.Env) (M : List Mu) : eRng2 (eCons (eC (.int 1)) (eCons (eC (.int 9)) eNil)) ρ M = .ok (rngD 1 8) M := eRng2_ok (i := 1) (j := 9) (M' := M) (by rfl) ⟨by decide, by decide⟩ (by decide) (by decide)
theorem in_body (a c : List Nat) (f : Nat → Nat) (z : Nat) (hz : z ≤ 8) (M : List Mu) (d : D) (hd : d ∈ rngD 1 8) : ∃ k, k ∈ ups 8 ∧ d = .int (k : Nat) ∧ inB (lnE a c f (some (.d (.int (z : Nat)))) (some (.d d))) M = if chk f z k = true then .rt (.d (resD f z k)) M else .nx (lnE a c f (some (.d (.int (z : Nat)))) (some (.d d))) M := by
  rw [rng1_eq] at hd
  obtain ⟨k, hk, rfl⟩ := List.mem_map.mp hd
  obtain ⟨k1, k2⟩ := ups_mem hk
  exact ⟨k, hk, rfl, in_ok a c f z k hz k1 k2 M⟩
theorem in_none (a c : List Nat) (f : Nat → Nat) (z : Nat) (hz : z ≤ 8) (o4 : Option D) (M : List Mu) (h : ∀ g ∈ ups 8, chk f z g = false) : ∃ o4' : Option D, sFor (eRng2 (eCons (eC (.int 1)) (eCons (eC (.int 9)) eNil))) (gN 4) inB (lnE a c f (some (.d (.int (z : Nat)))) (o4.map Vl.d)) M = .nx (lnE a c f (some (.d (.int (z : Nat)))) (o4'.map Vl.d)) M := by
  obtain ⟨o', e⟩ := for_none (n := M.length) (i := 4) (b := inB) (ρ0 := lnE a c f (some (.d (.int (z : Nat)))) none) (M := M) rfl (fun d => cut_plain _ _ (by rfl)) (rngD 1 8) o4 (fun d hd => by
    obtain ⟨k, hk, rfl, e⟩ := in_body a c f z hz M d hd
    rw [h k hk, if_neg Bool.false_ne_true] at e
    exact e)
  exact ⟨o', y_for (rng19 _ M) e⟩
theorem in_some (a c : List Nat) (f : Nat → Nat) (z : Nat) (hz : z ≤ 8) (o4 : Option D) (M : List Mu) (g : Nat) (h : (ups 8).find? (chk f z) = some g) : sFor (eRng2 (eCons (eC (.int 1)) (eCons (eC (.int 9)) eNil))) (gN 4) inB (lnE a c f (some (.d (.int (z : Nat)))) (o4.map Vl.d)) M = .rt (.d (resD f z g)) M := by
  have key := (for_find (n := M.length) (i := 4) (b := inB) (ρ0 := lnE a c f (some (.d (.int (z : Nat)))) none) (M := M) (natP (chk f z)) (fun d => match d with | .int i => resD f z i.toNat | d => d) rfl (fun d => cut_plain _ _ (by rfl)) (rngD 1 8) (o4.map Vl.d) (fun d hd => by
    obtain ⟨k, hk, rfl, e⟩ := in_body a c f z hz M d hd
    show inB (lnE a c f (some (.d (.int (z : Nat)))) (some (.d (.int (k : Nat))))) M = if chk f z ((k : Int).toNat) = true then .rt (.d (resD f z (k : Int).toNat)) M else _
    rw [Int.toNat_natCast]
    exact e)).1 (.int (g : Nat)) (by rw [rng1_eq, find_nats, h]; rfl)
  refine y_for (rng19 _ M) (key.trans ?_)
  show RS.rt (.d (resD f z (g : Int).toNat)) M = _
  rw [Int.toNat_natCast]
abbrev outB : Ss := sFor (eRng2 (eCons (eC (.int 1)) (eCons (eC (.int 9)) eNil))) (gN 4) inB
theorem forL_nx {n : Nat} {g : Tg} {b : Ss} {d : D} {ds : List D} {ρ ρ1 ρ2 : Wv.Env} {M M1 M2 : List Mu} (h : g (.d d) ρ M = some (ρ1, M1)) (e : b ρ1 M1 = .nx ρ2 M2) : forL n g b (d :: ds) ρ M = forL n g b ds (cutE n ρ2) (M2.take n) := by
  rw [forL_cons h]
  dsimp only
  rw [e]
theorem forL_rt {n : Nat} {g : Tg} {b : Ss} {d : D} {ds : List D} {ρ ρ1 : Wv.Env} {M M1 M2 : List Mu} {x : Vl} (h : g (.d d) ρ M = some (ρ1, M1)) (e : b ρ1 M1 = .rt x M2) : forL n g b (d :: ds) ρ M = .rt x M2 := by
  rw [forL_cons h]
  dsimp only
  rw [e]
theorem out_some (a c : List Nat) (f : Nat → Nat) (g s : Nat) (hs : s ≤ 8) (M : List Mu) (hf : (ups 8).find? (chk f s) = some g) (o3 o4 : Option D) (rest : List D) : forL M.length (gN 3) outB (D.int (s : Nat) :: rest) (lnE a c f (o3.map Vl.d) (o4.map Vl.d)) M = .rt (.d (resD f s g)) M := by
  exact forL_rt (ρ1 := lnE a c f (some (.d (.int (s : Nat)))) (o4.map Vl.d)) (M1 := M) rfl (in_some a c f s hs o4 M g hf)
theorem out_none (a c : List Nat) (f : Nat → Nat) (z : Nat) (hz : z ≤ 8) (M : List Mu) (h : ∀ g ∈ ups 8, chk f z g = false) (o3 o4 : Option D) (rest : List D) : ∃ o4' : Option D, forL M.length (gN 3) outB (D.int (z : Nat) :: rest) (lnE a c f (o3.map Vl.d) (o4.map Vl.d)) M = forL M.length (gN 3) outB rest (lnE a c f ((some (D.int (z : Nat))).map Vl.d) (o4'.map Vl.d)) M := by
  obtain ⟨o4', e⟩ := in_none a c f z hz o4 M h
  refine ⟨o4', (forL_nx (ρ1 := lnE a c f (some (.d (.int (z : Nat)))) (o4.map Vl.d)) (M1 := M) rfl e).trans ?_⟩
  have hc : cutE M.length (lnE a c f (some (.d (.int (z : Nat)))) (o4'.map Vl.d)) = lnE a c f ((some (D.int (z : Nat))).map Vl.d) (o4'.map Vl.d) := cut_plain _ _ (by cases o4' <;> rfl)
  rw [hc, List.take_length]
theorem out_for (a c : List Nat) (f : Nat → Nat) (g s : Nat) (hs : s ≤ 8) (M : List Mu) (hf : (ups 8).find? (chk f s) = some g) (rest : List D) (k : Nat) : ∀ (z : Nat) (o3 o4 : Option D), z + k = s → (∀ y, z ≤ y → y < s → ∀ g ∈ ups 8, chk f y g = false) →
    forL M.length (gN 3) outB (((List.range' z k).map fun y : Nat => D.int y) ++ (D.int (s : Nat) :: rest)) (lnE a c f (o3.map Vl.d) (o4.map Vl.d)) M = .rt (.d (resD f s g)) M := by
  induction k with
  | zero =>
    intro z o3 o4 _ _
    rw [List.range'_zero, List.map_nil, List.nil_append]
    exact out_some a c f g s hs M hf o3 o4 rest
  | succ k ih =>
    intro z o3 o4 hz hn
    rw [List.range'_succ, List.map_cons, List.cons_append]
    obtain ⟨o4', e⟩ := out_none a c f z (by omega) M (hn z (Nat.le_refl z) (by omega)) o3 o4 (((List.range' (z + 1) k).map fun y : Nat => D.int y) ++ (D.int (s : Nat) :: rest))
    rw [e]
    exact ih (z + 1) (some (.int (z : Nat))) o4' (by omega) fun y h1 h2 => hn y (by omega) h2
theorem v_least {a c : List Nat} (h : Rnd a c) (hs : rsN a c ≤ 8) (hp : Wn.pace c ≤ 8) (M : List Mu) : m__law_least [.d (.str (sT a)), .d (.str (sT c))] M = .ok (.d (.tup [.str (sT (hdN a c)), .str (sT (lpN a c))])) M := by
  have p1 := h.p1
  have hP : Wn.Per (Wn.sq a c) (rsN a c) (Wn.pace c) := Wn.sq_min h.ne
  obtain ⟨f, hf⟩ : ∃ f, f = Wn.sq a c := ⟨_, rfl⟩
  rw [← hf] at hP
  have hlt : ∀ y, 0 ≤ y → y < rsN a c → ∀ g ∈ ups 8, chk f y g = false := fun y _ hy g hg => by
    obtain ⟨g1, g2⟩ := ups_mem hg
    cases hc : chk f y g with
    | false => rfl
    | true =>
      have hp2 := (chk_iff hP p1 hs hp (by omega) g1 g2).mp hc
      have := hp2.down g1 hP
      rw [hf] at this
      have := Wn.start_le h.ne this
      have : rsN a c ≤ y := this
      omega
  have hfind : (ups 8).find? (chk f (rsN a c)) = some (Wn.pace c) := by
    rw [List.find?_eq_some_iff_append]
    refine ⟨(chk_iff hP p1 hs hp hs p1 hp).mpr hP, (List.range (Wn.pace c - 1)).map (· + 1), (List.range' (Wn.pace c) (8 - Wn.pace c)).map (· + 1), ?_, fun g hg => ?_⟩
    · have : ∀ p, p < 9 → 1 ≤ p → ups 8 = (List.range (p - 1)).map (· + 1) ++ p :: (List.range' p (8 - p)).map (· + 1) := by decide
      exact this _ (by omega) p1
    · obtain ⟨i, hi, rfl⟩ := List.mem_map.mp hg
      have hi := List.mem_range.mp hi
      cases hc : chk f (rsN a c) (i + 1) with
      | false => rfl
      | true =>
        have hp2 := (chk_iff hP p1 hs hp hs (by omega) (by omega)).mp hc
        rw [hf] at hp2
        have := Wn.pace_le h.ne (i + 1) (by omega) _ hp2
        omega
  have lc : eLc (eRng1 (eCons (eC (.int 40)) eNil)) (cName 5) eTrue (eAp m__law_sign (eCons (eVar 0) (eCons (eVar 1) (eCons (eVar 5) eNil)))) [5] [some (.d (.str (sT a))), some (.d (.str (sT c))), none, none, none, none, none] M = .ok (.d (.lst (oneD ((List.range 40).map f)))) M := by
    refine (lc_map (ds := rngD 0 40) (fun d => match d with | .int i => D.str (sT [f i.toNat]) | _ => .non) (eRng1_ok (j := 40) (M' := M) (by rfl) (by decide) (by decide)) (fun d hd => ?_) (by rw [rngD_len]; unfold sizeLine; omega)).trans ?_
    · rw [rng0_eq] at hd
      obtain ⟨k, hk, rfl⟩ := List.mem_map.mp hd
      refine ⟨_, rfl, ?_⟩
      have v := v_sign h k M
      rw [← hf] at v
      show _ = Res.ok (Vl.d (.str (sT [f (k : Int).toNat]))) M
      rw [Int.toNat_natCast]
      exact y_ap (y_cons (y_var (by rfl)) (y_cons (y_var (by rfl)) (y_cons (y_var (by rfl)) y_nil))) v
    · rw [rng0_eq, oneD_map, List.map_map]
      rfl
  have hout := out_for a c f (Wn.pace c) (rsN a c) hs M hfind ((List.range' (rsN a c + 1) (8 - rsN a c)).map fun y : Nat => D.int y) (rsN a c) 0 none none (by omega) hlt
  have hds : ((List.range' 0 (rsN a c)).map fun y : Nat => D.int y) ++ (D.int (rsN a c : Nat) :: (List.range' (rsN a c + 1) (8 - rsN a c)).map fun y : Nat => D.int y) = rngD 0 9 := by
    rw [rng0_eq]
    have : ∀ s, s < 9 → List.range 9 = List.range' 0 s ++ s :: List.range' (s + 1) (8 - s) := by decide
    rw [this (rsN a c) (by omega), List.map_append, List.map_cons]
  rw [hds] at hout
  have r9 : eRng1 (eCons (eC (.int 9)) eNil) (lnE a c f none none) M = .ok (rngD 0 9) M := eRng1_ok (j := 9) (M' := M) (by rfl) (by decide) (by decide)
  have hres : resD f (rsN a c) (Wn.pace c) = .tup [.str (sT (hdN a c)), .str (sT (lpN a c))] := by
    unfold resD
    rw [h.hds, h.lps, hf]
  rw [u__law_least]
  unfold b__law_least
  refine y_fnR (y_seq (r1 := .nx (lnE a c f none none) M) (y_asgN lc (by rfl)) (y_seqN (y_seq (r1 := .rt (.d (resD f (rsN a c) (Wn.pace c))) M) (y_for r9 hout) ?_))) rfl
  rw [hres]
  exact y_seqR
end K25

namespace K25
open PySem L2 Wv
local macro_rules
  | `(tactic| walk_at "bd") => `(tactic| first
    | with_reducible exact bd_TT
    | with_reducible exact bd_FF
    | with_reducible assumption
    | ((with_reducible apply bd_nF); walk_at "bd")
    | ((with_reducible apply bd_nT); walk_at "bd")
    | ((with_reducible apply bd_t); first | assumption | with_reducible rfl | omega | decide)
    | ((with_reducible apply bd_f); first | assumption | omega | decide)
    | ((with_reducible apply bd_aT); walk_at "bd"; walk_at "bd")
    | ((with_reducible apply bd_aL); walk_at "bd")
    | ((with_reducible apply bd_aR); walk_at "bd")
    | ((with_reducible apply bd_oF); walk_at "bd"; walk_at "bd")
    | ((with_reducible apply bd_oL); walk_at "bd")
    | ((with_reducible apply bd_oR); walk_at "bd")
    | exact bd_idT (by decide)
    | exact bd_idF (by decide))
  | `(tactic| walk_at "st") => `(tactic| first | with_reducible exact y_set0 | ((with_reducible apply y_setS); walk_at "st"))
  | `(tactic| wp_walk using $ts,*) => `(tactic| first
    $[| with_reducible exact $ts:term]*
    | with_reducible assumption
    | ((with_reducible apply y_var); exact rfl)
    | with_reducible exact y_c
    | with_reducible exact y_nil
    | with_reducible exact y_noPart
    | ((with_reducible apply y_cons); wp_walk using $ts,*; wp_walk using $ts,*)
    | ((with_reducible apply y_op); wp_walk using $ts,*; wp_walk using $ts,*; wp_walk using $ts,*)
    | ((with_reducible apply y_un); wp_walk using $ts,*; wp_walk using $ts,*)
    | ((with_reducible apply y_ap); wp_walk using $ts,*; wp_walk using $ts,*)
    | ((with_reducible apply y_bool); wp_walk using $ts,*)
    | ((with_reducible apply y_tru); wp_walk using $ts,*; wp_walk using $ts,*)
    | ((with_reducible apply y_notT); wp_walk using $ts,*)
    | ((with_reducible apply y_not); wp_walk using $ts,*)
    | ((with_reducible apply y_andT); wp_walk using $ts,*; walk_at "bd"; wp_walk using $ts,*)
    | ((with_reducible apply y_orT); wp_walk using $ts,*; walk_at "bd"; wp_walk using $ts,*)
    | with_reducible exact y_bK
    | ((with_reducible apply y_bT); wp_walk using $ts,*)
    | ((with_reducible apply y_bF); wp_walk using $ts,*)
    | ((with_reducible apply y_ifE); wp_walk using $ts,*; walk_at "bd"; wp_walk using $ts,*)
    | ((with_reducible apply y_eT); wp_walk using $ts,*)
    | ((with_reducible apply y_eF); wp_walk using $ts,*)
    | ((with_reducible apply y_and); wp_walk using $ts,*; walk_at "bd"; wp_walk using $ts,*)
    | ((with_reducible apply y_or); wp_walk using $ts,*; walk_at "bd"; wp_walk using $ts,*)
    | with_reducible exact y_andKF
    | with_reducible exact y_orKT
    | ((with_reducible apply y_andKT); wp_walk using $ts,*)
    | ((with_reducible apply y_orKF); wp_walk using $ts,*)
    | ((with_reducible apply y_chain); wp_walk using $ts,*; wp_walk using $ts,*; wp_walk using $ts,*; walk_at "bd"; wp_walk using $ts,*)
    | ((with_reducible apply y_last); wp_walk using $ts,*; wp_walk using $ts,*)
    | ((with_reducible apply y_sl); wp_walk using $ts,*; wp_walk using $ts,*; wp_walk using $ts,*; wp_walk using $ts,*)
    | ((with_reducible apply y_part); wp_walk using $ts,*)
    | ((with_reducible apply y_lst); wp_walk using $ts,*; exact rfl; first | exact Nat.le_of_ble_eq_true rfl | omega)
    | ((with_reducible apply y_tup); wp_walk using $ts,*; exact rfl; first | exact Nat.le_of_ble_eq_true rfl | omega)
    | with_reducible first | exact t_addI | exact t_subI | exact t_mulL (by first | assumption | omega | decide) | exact t_mulR (by first | assumption | omega | decide) | exact t_mulLS (by first | assumption | omega | decide) | exact t_mulRS (by first | assumption | omega | decide) | exact t_mod (by first | assumption | omega | decide) | exact t_div (by first | assumption | omega | decide) (by first | assumption | omega | decide) | exact t_neg | exact t_lt | exact t_le | exact t_gt | exact t_ge | exact t_eqI | exact t_neI | exact t_eqS | exact t_neS | exact t_eqB | exact t_neB | exact t_int | exact t_intB | exact t_abs | exact t_divmod (by first | assumption | omega | decide) (by first | assumption | omega | decide) | exact t_max2 | exact t_min2 | exact t_lenL | exact t_lenT | exact t_lenC | exact t_truB | exact t_truL | exact t_truI | exact t_ixT0 | exact t_ixT1 | exact t_ixT2 | exact t_ixL0 | exact t_ixL1 | exact t_ixL2
    | ((with_reducible apply y_seq); wp_walk using $ts,*; wp_walk using $ts,*)
    | ((with_reducible apply y_seqN); wp_walk using $ts,*)
    | with_reducible exact y_seqR
    | with_reducible exact y_seqB
    | with_reducible exact y_seqC
    | with_reducible exact y_seqX
    | ((with_reducible apply y_if); wp_walk using $ts,*; walk_at "bd"; wp_walk using $ts,*)
    | ((with_reducible apply y_ifT); wp_walk using $ts,*)
    | ((with_reducible apply y_ifF); wp_walk using $ts,*)
    | ((with_reducible apply y_ret); wp_walk using $ts,*)
    | ((with_reducible apply y_asgN); wp_walk using $ts,*; walk_at "st")
    | ((with_reducible apply y_asgT2); wp_walk using $ts,*; with_reducible apply y_set2; walk_at "st"; walk_at "st")
    | with_reducible exact y_next
    | with_reducible exact y_brk
    | with_reducible exact y_retN
    | with_reducible exact t_takeN _ _ _
    | with_reducible exact t_dropN _ _ _
    | with_reducible exact t_isiC (by rfl)
    | with_reducible exact t_isiB (by rfl) (by rfl)
    | ((with_reducible apply y_expr); wp_walk using $ts,*)
    | ((with_reducible apply y_parN); wp_walk using $ts,*; with_reducible apply y_set2; walk_at "st"; walk_at "st")
    | ((with_reducible apply y_for); wp_walk using $ts,*; wp_walk using $ts,*)
    | ((with_reducible apply y_rng1); wp_walk using $ts,*; first | assumption | omega | decide)
    | (focus (trace_state; fail "stuck")))

theorem cut_m0 {n : Nat} (hn : n = 1) {r : Wv.Env} (h : plainE r = true) : cutE n (some (.m 0) :: r) = some (.m 0) :: r := by
  subst hn
  have := cut_plain 1 r h
  unfold cutE at this ⊢
  rw [List.map_cons, this]
  rfl
theorem y_meth {C m : Str} {fs : FS} {o : Sm Vl} {as : Sm (List Vl)} {ρ : Wv.Env} {M M1 M2 : List Mu} {fl : List (Str × D)} {xs : List Vl} {r : Res Vl} (h : o ρ M = .ok (.d (.ins C fl)) M1) (hl : fl.lookup m = none) (h' : as ρ M1 = .ok xs M2) (hf : fs (.d (.ins C fl) :: xs) M2 = r) : eMeth C m fs o as ρ M = r := by
  unfold eMeth
  rw [bnd_ok h]
  have e : insV M1 (.d (.ins C fl)) = some (C, fl) := rfl
  rw [e]
  dsimp only
  rw [if_pos ⟨rfl, hl⟩, bnd_ok h']
  exact hf
theorem sT_ok {l : List Nat} (h : ∀ x ∈ l, x < 1000) : PyData.strOk (sT l) = true := by
  unfold PyData.strOk sT
  rw [Array.all_eq_true_iff_forall_mem]
  intro x hx
  have := h x (by simpa using hx)
  rw [decide_eq_true_eq]
  omega
theorem lets_lt : ∀ x ∈ lets, x < 1000 := by decide +kernel
theorem strs_ne (l : List (List Nat)) (h : ∀ z ∈ l, ∀ x ∈ z, x < 1000) (M : List Mu) : fNe (.d (.lst (l.map fun z => D.str (sT z)))) (.d (.lst (l.map fun z => D.str (sT z)))) M = .ok (.d (.bl false)) M := by
  have e : (l.map fun z => D.str (sT z)) = (l.map sT).map D.str := by rw [List.map_map]; rfl
  rw [e]
  exact ne_self (p := .list ((l.map sT).map PyData.str)) (by rw [D.py, strs_py]) (strs_shaped _ (fun a ha => by
    obtain ⟨z, hz, rfl⟩ := List.mem_map.mp ha
    exact sT_ok (h z hz))) M
theorem tup_eq (x y u v : List Nat) (hx : ∀ z ∈ x, z < 1000) (hy : ∀ z ∈ y, z < 1000) (hu : ∀ z ∈ u, z < 1000) (hv : ∀ z ∈ v, z < 1000) (M : List Mu) : fEq (.d (.tup [.str (sT x), .str (sT y)])) (.d (.tup [.str (sT u), .str (sT v)])) M = .ok (.d (.bl (decide (x = u) && decide (y = v)))) M := by
  have sh : ∀ a b : List Nat, (∀ z ∈ a, z < 1000) → (∀ z ∈ b, z < 1000) → SeqAt.shaped (.tuple [.str (sT a), .str (sT b)]) = true := fun a b ha hb => by
    unfold SeqAt.shaped
    rw [PyData.canLay0, PyData.canLayAll0, PyData.canLayAll0, PyData.canLayAll0, PyData.canLay0, PyData.canLay0, sT_ok ha, sT_ok hb, PyData.depth, PyData.depthAll, PyData.depthAll, PyData.depthAll, PyData.depth, PyData.depth]
    rfl
  show (match D.py (.tup [.str (sT x), .str (sT y)]), D.py (.tup [.str (sT u), .str (sT v)]) with | some p, some q => if SeqAt.shaped p && SeqAt.shaped q then Res.ok (Vl.d (.bl (PyData.eqv p q))) M else .bad | _, _ => .bad) = _
  have p : ∀ a b : List Nat, D.py (.tup [.str (sT a), .str (sT b)]) = some (.tuple [.str (sT a), .str (sT b)]) := fun a b => rfl
  rw [p, p]
  dsimp only
  rw [sh _ _ hx hy, sh _ _ hu hv, Bool.and_self, if_pos rfl, PyData.eqv, PyData.eqvAll, PyData.eqvAll, PyData.eqvAll, PyData.eqv, PyData.eqv]
  have q : ∀ a b : List Nat, (sT a == sT b) = decide (a = b) := fun a b => by
    rw [← sT_dec, Bool.eq_iff_iff]
    simp
  rw [q, q, Bool.and_true]
section
variable {a c : List Nat}
theorem Rnd.mem (h : Rnd a c) (ha : ∀ x ∈ a, x ∈ lets) (hc : ∀ x ∈ c, x ∈ lets) : (∀ x ∈ hdN a c, x ∈ lets) ∧ ∀ x ∈ lpN a c, x ∈ lets := by
  have : ∀ x ∈ a ++ c, x ∈ lets := fun x hx => by
    rcases List.mem_append.mp hx with hx | hx
    · exact ha x hx
    · exact hc x hx
  exact ⟨fun x hx => this x (List.mem_of_mem_take hx), fun x hx => this x (List.mem_of_mem_drop (List.mem_of_mem_take hx))⟩
theorem sq_mem (h : c ≠ []) (ha : ∀ x ∈ a, x ∈ lets) (hc : ∀ x ∈ c, x ∈ lets) (n : Nat) : Wn.sq a c n ∈ lets := by
  have e := Wn.sq_wh a c h n
  have hm : ∀ i x, (a ++ c)[i]? = some x → x ∈ lets := fun i x hx => by
    rcases List.mem_append.mp (List.mem_of_getElem? hx) with hx | hx
    · exact ha x hx
    · exact hc x hx
  split at e
  · exact hm _ _ e
  · exact hm _ _ e
end
theorem sq_twice (a c : List Nat) (h : c ≠ []) (n : Nat) : Wn.sq (a ++ c) (c ++ c) n = Wn.sq a c n := by
  have hc : 0 < c.length := List.length_pos_iff.mpr h
  have hP := Wn.sq_per a c h
  have h2 : c ++ c ≠ [] := by simp [h]
  have hP2 := Wn.sq_per (a ++ c) (c ++ c) h2
  rw [List.length_append, List.length_append] at hP2
  have small : ∀ k, k < (a ++ c).length + c.length + c.length → Wn.sq (a ++ c) (c ++ c) k = Wn.sq a c k := fun k hk => by
    have e1 := Wn.sq_lt (m := a ++ c) (c := c ++ c) (n := k) (by simp at hk ⊢; omega)
    by_cases h1 : k < (a ++ c).length
    · have e2 := Wn.sq_lt (m := a) (c := c) h1
      rw [List.getElem?_append_left h1, e2] at e1
      exact (Option.some.inj e1).symm
    · rw [List.length_append] at h1 hk
      have e3 : Wn.sq a c k = Wn.sq a c (k - c.length) := by
        have := hP (k - c.length) (by omega)
        rw [show k - c.length + c.length = k by omega] at this
        exact this
      rw [List.getElem?_append_right (by rw [List.length_append]; omega), List.length_append] at e1
      by_cases h4 : k - c.length < (a ++ c).length
      · have e2 := Wn.sq_lt (m := a) (c := c) h4
        rw [List.length_append] at h4
        rw [List.getElem?_append_left (by omega)] at e1
        rw [List.getElem?_append_right (by omega), show k - c.length - a.length = k - (a.length + c.length) by omega, e1] at e2
        rw [e3]
        exact Option.some.inj e2
      · rw [List.length_append] at h4
        have e4 : Wn.sq a c (k - c.length) = Wn.sq a c (k - c.length - c.length) := by
          have := hP (k - c.length - c.length) (by omega)
          rw [show k - c.length - c.length + c.length = k - c.length by omega] at this
          exact this
        have e2 := Wn.sq_lt (m := a) (c := c) (n := k - c.length - c.length) (by rw [List.length_append]; omega)
        rw [List.getElem?_append_right (by omega)] at e1
        rw [List.getElem?_append_right (by omega), show k - c.length - c.length - a.length = k - (a.length + c.length) - c.length by omega, e1] at e2
        rw [e3, e4]
        exact Option.some.inj e2
  by_cases hn : n < (a ++ c).length
  · exact small n (by omega)
  · rw [List.length_append] at hn
    have p1 := hP2.at (by omega) n (by omega)
    have hm := Nat.mod_lt (n - (a.length + c.length)) (show c.length + c.length > 0 by omega)
    rw [p1, small _ (by rw [List.length_append]; omega)]
    have hP' : Wn.Per (Wn.sq a c) (a.length + c.length) (c.length + c.length) := by
      have := (hP.mul 2).up (s' := a.length + c.length) (by omega)
      rw [show c.length * 2 = c.length + c.length by omega] at this
      exact this
    exact (hP'.at (by omega) n (by omega)).symm
end K25

namespace K25
open PySem L2 Wv
local macro_rules
  | `(tactic| walk_at "bd") => `(tactic| first
    | with_reducible exact bd_TT
    | with_reducible exact bd_FF
    | with_reducible assumption
    | ((with_reducible apply bd_nF); walk_at "bd")
    | ((with_reducible apply bd_nT); walk_at "bd")
    | ((with_reducible apply bd_t); first | assumption | with_reducible rfl | omega | decide)
    | ((with_reducible apply bd_f); first | assumption | omega | decide)
    | ((with_reducible apply bd_aT); walk_at "bd"; walk_at "bd")
    | ((with_reducible apply bd_aL); walk_at "bd")
    | ((with_reducible apply bd_aR); walk_at "bd")
    | ((with_reducible apply bd_oF); walk_at "bd"; walk_at "bd")
    | ((with_reducible apply bd_oL); walk_at "bd")
    | ((with_reducible apply bd_oR); walk_at "bd")
    | exact bd_idT (by decide)
    | exact bd_idF (by decide))
  | `(tactic| walk_at "st") => `(tactic| first | with_reducible exact y_set0 | ((with_reducible apply y_setS); walk_at "st"))
  | `(tactic| wp_walk using $ts,*) => `(tactic| first
    $[| with_reducible exact $ts:term]*
    | with_reducible assumption
    | ((with_reducible apply y_var); exact rfl)
    | with_reducible exact y_c
    | with_reducible exact y_nil
    | with_reducible exact y_noPart
    | ((with_reducible apply y_cons); wp_walk using $ts,*; wp_walk using $ts,*)
    | ((with_reducible apply y_op); wp_walk using $ts,*; wp_walk using $ts,*; wp_walk using $ts,*)
    | ((with_reducible apply y_un); wp_walk using $ts,*; wp_walk using $ts,*)
    | ((with_reducible apply y_ap); wp_walk using $ts,*; wp_walk using $ts,*)
    | ((with_reducible apply y_bool); wp_walk using $ts,*)
    | ((with_reducible apply y_tru); wp_walk using $ts,*; wp_walk using $ts,*)
    | ((with_reducible apply y_notT); wp_walk using $ts,*)
    | ((with_reducible apply y_not); wp_walk using $ts,*)
    | ((with_reducible apply y_andT); wp_walk using $ts,*; walk_at "bd"; wp_walk using $ts,*)
    | ((with_reducible apply y_orT); wp_walk using $ts,*; walk_at "bd"; wp_walk using $ts,*)
    | with_reducible exact y_bK
    | ((with_reducible apply y_bT); wp_walk using $ts,*)
    | ((with_reducible apply y_bF); wp_walk using $ts,*)
    | ((with_reducible apply y_ifE); wp_walk using $ts,*; walk_at "bd"; wp_walk using $ts,*)
    | ((with_reducible apply y_eT); wp_walk using $ts,*)
    | ((with_reducible apply y_eF); wp_walk using $ts,*)
    | ((with_reducible apply y_and); wp_walk using $ts,*; walk_at "bd"; wp_walk using $ts,*)
    | ((with_reducible apply y_or); wp_walk using $ts,*; walk_at "bd"; wp_walk using $ts,*)
    | with_reducible exact y_andKF
    | with_reducible exact y_orKT
    | ((with_reducible apply y_andKT); wp_walk using $ts,*)
    | ((with_reducible apply y_orKF); wp_walk using $ts,*)
    | ((with_reducible apply y_chain); wp_walk using $ts,*; wp_walk using $ts,*; wp_walk using $ts,*; walk_at "bd"; wp_walk using $ts,*)
    | ((with_reducible apply y_last); wp_walk using $ts,*; wp_walk using $ts,*)
    | ((with_reducible apply y_sl); wp_walk using $ts,*; wp_walk using $ts,*; wp_walk using $ts,*; wp_walk using $ts,*)
    | ((with_reducible apply y_part); wp_walk using $ts,*)
    | ((with_reducible apply y_lst); wp_walk using $ts,*; exact rfl; first | exact Nat.le_of_ble_eq_true rfl | omega)
    | ((with_reducible apply y_tup); wp_walk using $ts,*; exact rfl; first | exact Nat.le_of_ble_eq_true rfl | omega)
    | with_reducible first | exact t_addI | exact t_subI | exact t_mulL (by first | assumption | omega | decide) | exact t_mulR (by first | assumption | omega | decide) | exact t_mulLS (by first | assumption | omega | decide) | exact t_mulRS (by first | assumption | omega | decide) | exact t_mod (by first | assumption | omega | decide) | exact t_div (by first | assumption | omega | decide) (by first | assumption | omega | decide) | exact t_neg | exact t_lt | exact t_le | exact t_gt | exact t_ge | exact t_eqI | exact t_neI | exact t_eqS | exact t_neS | exact t_eqB | exact t_neB | exact t_int | exact t_intB | exact t_abs | exact t_divmod (by first | assumption | omega | decide) (by first | assumption | omega | decide) | exact t_max2 | exact t_min2 | exact t_lenL | exact t_lenT | exact t_lenC | exact t_truB | exact t_truL | exact t_truI | exact t_ixT0 | exact t_ixT1 | exact t_ixT2 | exact t_ixL0 | exact t_ixL1 | exact t_ixL2
    | ((with_reducible apply y_seq); wp_walk using $ts,*; wp_walk using $ts,*)
    | ((with_reducible apply y_seqN); wp_walk using $ts,*)
    | with_reducible exact y_seqR
    | with_reducible exact y_seqB
    | with_reducible exact y_seqC
    | with_reducible exact y_seqX
    | ((with_reducible apply y_if); wp_walk using $ts,*; walk_at "bd"; wp_walk using $ts,*)
    | ((with_reducible apply y_ifT); wp_walk using $ts,*)
    | ((with_reducible apply y_ifF); wp_walk using $ts,*)
    | ((with_reducible apply y_ret); wp_walk using $ts,*)
    | ((with_reducible apply y_asgN); wp_walk using $ts,*; walk_at "st")
    | ((with_reducible apply y_asgT2); wp_walk using $ts,*; with_reducible apply y_set2; walk_at "st"; walk_at "st")
    | with_reducible exact y_next
    | with_reducible exact y_brk
    | with_reducible exact y_retN
    | with_reducible exact t_takeN _ _ _
    | with_reducible exact t_dropN _ _ _
    | with_reducible exact t_isiC (by rfl)
    | with_reducible exact t_isiB (by rfl) (by rfl)
    | ((with_reducible apply y_expr); wp_walk using $ts,*)
    | ((with_reducible apply y_parN); wp_walk using $ts,*; with_reducible apply y_set2; walk_at "st"; walk_at "st")
    | ((with_reducible apply y_for); wp_walk using $ts,*; wp_walk using $ts,*)
    | ((with_reducible apply y_rng1); wp_walk using $ts,*; first | assumption | omega | decide)
    | (focus (trace_state; fail "stuck")))

theorem fProp_ok {C : Str} {fs : FS} {fl : List (Str × D)} {M : List Mu} {y : Vl} (h : fs [.d (.ins C fl)] M = .ok y M) : fProp C fs (.d (.ins C fl)) M = .ok y M := by
  show (if C = C then (match fs [.d (.ins C fl)] M with | .ok y M' => Res.ok y M' | _ => .bad) else .bad) = _
  rw [if_pos rfl, h]
theorem c_right {M : List Mu} (h : DkOk M) : ∃ M', DkOk M' ∧ m__law_right [.m 0] M = .ok (.d (.bl true)) M' := by
  obtain ⟨k, M1, hk, K1, e1⟩ := c_card h 3 (by decide) (by decide)
  have e1 : m__law_card [.m 0, .d (.int 3)] M = _ := e1
  have hlet : ∃ l : List Nat, l ≠ [] ∧ l.length ≤ 1000 ∧ (∀ x ∈ l, x ∈ lets) ∧ fIx (.d (.lst [.str "a", .str "ab", .str "xyz"])) (.d (.int (k : Nat))) M1 = .ok (.d (.str (sT l))) M1 := by
    match k, hk with
    | 0, _ => exact ⟨[97], by simp, by simp, by decide +kernel, (fIx_lst (n := 0) rfl M1).trans (by rw [show ("a" : Str) = sT [97] by decide])⟩
    | 1, _ => exact ⟨[97, 98], by simp, by simp, by decide +kernel, (fIx_lst (n := 1) rfl M1).trans (by rw [show ("ab" : Str) = sT [97, 98] by decide])⟩
    | 2, _ => exact ⟨[120, 121, 122], by simp, by simp, by decide +kernel, (fIx_lst (n := 2) rfl M1).trans (by rw [show ("xyz" : Str) = sT [120, 121, 122] by decide])⟩
  obtain ⟨l, l1, l2, l3, hix⟩ := hlet
  obtain ⟨a, c, M2, a1, c1, c2, al, cl, K2, e2⟩ := c_drawn K1 l l1 l2
  have al : ∀ x ∈ a, x ∈ lets := fun x hx => l3 x (al x hx)
  have cl : ∀ x ∈ c, x ∈ lets := fun x hx => l3 x (cl x hx)
  have rnd_of : ∀ a c : List Nat, a.length ≤ 16 → 1 ≤ c.length → c.length ≤ 16 → Rnd a c := fun a c h1 h2 h3 => ⟨fun e => by rw [e] at h2; simp at h2, by rw [List.length_append]; omega⟩
  have R := rnd_of a c (by omega) c1 (by omega)
  have cne := R.ne
  have hs8 : rsN a c ≤ 8 := Nat.le_trans (Wn.startOf_le _ _ _) a1
  have hp8 : Wn.pace c ≤ 8 := Nat.le_trans (Wn.pace_find c cne).2.2.1 c2
  obtain ⟨f, hf⟩ : ∃ f, f = Wn.sq a c := ⟨_, rfl⟩
  have v1 := v_new a c cne R.len al cl M2
  have v2 := v_least R hs8 hp8 M2
  have hm := R.mem al cl
  have hd_lt : ∀ x ∈ hdN a c, x < 1000 := fun x hx => lets_lt x (hm.1 x hx)
  have lp_lt : ∀ x ∈ lpN a c, x < 1000 := fun x hx => lets_lt x (hm.2 x hx)
  have hsl := R.hl
  have lpl := R.ll
  -- the line
  have lcL : eLc (eRng1 (eCons (eC (.int 30)) eNil)) (cName 9) eTrue (eAp m__law_sign (eCons (eVar 2) (eCons (eVar 3) (eCons (eVar 9) eNil)))) [9] [some (.m 0), some (.d (.str (sT l))), some (.d (.str (sT a))), some (.d (.str (sT c))), some (.d (RD a c)), some (.d (.tup [.str (sT (hdN a c)), .str (sT (lpN a c))])), none, none, none, none, none, none, none, none] M2 = .ok (.d (.lst (oneD ((List.range 30).map f)))) M2 := by
    refine (lc_map (ds := rngD 0 30) (fun d => match d with | .int i => D.str (sT [f i.toNat]) | _ => .non) (eRng1_ok (j := 30) (M' := M2) (by rfl) (by decide) (by decide)) (fun d hd => ?_) (by rw [rngD_len]; unfold sizeLine; omega)).trans ?_
    · rw [rng0_eq] at hd
      obtain ⟨k, hk, rfl⟩ := List.mem_map.mp hd
      refine ⟨_, rfl, ?_⟩
      have v := v_sign R k M2
      rw [← hf] at v
      show _ = Res.ok (Vl.d (.str (sT [f (k : Int).toNat]))) M2
      rw [Int.toNat_natCast]
      exact y_ap (y_cons (y_var (by rfl)) (y_cons (y_var (by rfl)) (y_cons (y_var (by rfl)) y_nil))) v
    · rw [rng0_eq, oneD_map, List.map_map]
      rfl
  obtain ⟨ln, hln⟩ : ∃ ln, ln = (List.range 30).map f := ⟨_, rfl⟩
  rw [← hln] at lcL
  have lnl : ln.length = 30 := by rw [hln]; simp
  have f_lt : ∀ n, f n < 1000 := fun n => by rw [hf]; exact lets_lt _ (sq_mem cne al cl n)
  have ln_lt : ∀ x ∈ ln, x < 1000 := fun x hx => by
    rw [hln] at hx
    obtain ⟨n, _, rfl⟩ := List.mem_map.mp hx
    exact f_lt n
  have LD : D := .non
  obtain ⟨T, hT⟩ : ∃ T, T = D.tup [.str (sT (hdN a c)), .str (sT (lpN a c))] := ⟨_, rfl⟩
  -- the brief text
  have b1 : fAdd (.d (.str (sT (hdN a c)))) (.d (.str "(")) M2 = .ok (.d (.str (sT (hdN a c ++ [40])))) M2 := by rw [s40]; exact t_addT (by omega) (by simp)
  have b2 : fAdd (.d (.str (sT (hdN a c ++ [40])))) (.d (.str (sT (lpN a c)))) M2 = .ok (.d (.str (sT (hdN a c ++ [40] ++ lpN a c)))) M2 := t_addT (by simp; omega) (by omega)
  have b3 : fAdd (.d (.str (sT (hdN a c ++ [40] ++ lpN a c)))) (.d (.str ")")) M2 = .ok (.d (.str (sT (brN a c)))) M2 := by rw [s41]; exact t_addT (by simp; omega) (by simp)
  have brl : (brN a c).length ≤ 100 := by unfold brN; simp; omega
  have br_lt : ∀ x ∈ brN a c, x < 1000 := fun x hx => by
    unfold brN at hx
    simp only [List.mem_append, List.mem_singleton] at hx
    rcases hx with ((hx | rfl) | hx) | rfl
    · exact hd_lt x hx
    · decide
    · exact lp_lt x hx
    · decide
  have b4 : fAdd (.d (.str "Round(")) (.d (.str (sT (brN a c)))) M2 = .ok (.d (.str (sT (rnd ++ brN a c)))) M2 := by rw [sRnd]; exact t_addT (by decide) (by omega)
  have b5 : fAdd (.d (.str (sT (rnd ++ brN a c)))) (.d (.str ")")) M2 = .ok (.d (.str (sT (rnd ++ brN a c ++ [41])))) M2 := by rw [s41]; exact t_addT (by rw [List.length_append]; show 6 + _ ≤ _; omega) (by simp)
  have rb_lt : ∀ x ∈ rnd ++ brN a c ++ [41], x < 1000 := fun x hx => by
    simp only [List.mem_append, List.mem_singleton] at hx
    rcases hx with (hx | hx) | rfl
    · exact (by decide : ∀ x ∈ rnd, x < 1000) x hx
    · exact br_lt x hx
    · decide
  have w1 : fProp "Round" m_Round_head (.d (RD a c)) M2 = .ok (.d (.str (sT (hdN a c)))) M2 := by
    have e : m_Round_head [.d (RD a c)] M2 = .ok (.d (.str (sT (hdN a c)))) M2 := by rw [u_Round_head]; exact y_fnR (y_ret (y_un (y_var (by rfl)) (f_begin M2))) rfl
    exact fProp_ok e
  have w2 : fProp "Round" m_Round_loop (.d (RD a c)) M2 = .ok (.d (.str (sT (lpN a c)))) M2 := by
    have e : m_Round_loop [.d (RD a c)] M2 = .ok (.d (.str (sT (lpN a c)))) M2 := by rw [u_Round_loop]; exact y_fnR (y_ret (y_un (y_var (by rfl)) (f_cycle M2))) rfl
    exact fProp_ok e
  have w3 : ∀ M, fStrA "Round" m_Round___str__ [.d (RD a c)] M = .ok (.d (.str (sT (brN a c)))) M := fun M => fStrA_ins (v_str R M)
  have w4 : fReprA "Round" m_Round___repr__ [.d (RD a c)] M2 = .ok (.d (.str (sT (rnd ++ brN a c ++ [41])))) M2 := fReprA_ins (v_repr R M2)
  have w5 := strs_ne [hdN a c, lpN a c, brN a c, rnd ++ brN a c ++ [41]] (fun z hz => by
    simp only [List.mem_cons, List.not_mem_nil, or_false] at hz
    rcases hz with rfl | rfl | rfl | rfl
    · exact hd_lt
    · exact lp_lt
    · exact br_lt
    · exact rb_lt) M2
  -- first
  obtain ⟨n, M3, hn, K3, e3⟩ := c_card K2 31 (by decide) (by decide)
  have e3 : m__law_card [.m 0, .d (.int 31)] M2 = _ := e3
  have x1 : m_Round_first [.d (RD a c), .d (.int (n : Nat))] M3 = .ok (.d (.str (sT (ln.take n)))) M3 := by
    rw [u_Round_first, v_firstB R n (by omega), hln, ← List.map_take, List.take_range, Nat.min_eq_left (by omega), hf]
  have x2 : m_Round_first_many [.d (RD a c), .d (.int (30 : Nat))] M3 = .ok (.d (.str (sT ln))) M3 := by
    rw [u_Round_first_many, v_firstB R 30 (by decide), hln, hf]
  have x3 : m_Round_first [.d (RD a c), .d (.int (0 : Nat))] M3 = .ok (.d (.str (sT []))) M3 := by
    rw [u_Round_first, v_firstB R 0 (by decide)]
    rfl
  have x4 : fSl (.d (.str (sT ln))) none (some (n : Nat)) M3 = .ok (.d (.str (sT (ln.take n)))) M3 := t_takeS (by omega) n
  have x5 := strs_ne [ln.take n, ln, []] (fun z hz => by
    simp only [List.mem_cons, List.not_mem_nil, or_false] at hz
    rcases hz with rfl | rfl | rfl
    · exact fun x hx => ln_lt x (List.mem_of_mem_take hx)
    · exact ln_lt
    · exact fun x hx => nomatch hx) M3
  -- places
  obtain ⟨far1, M4, K4, e4⟩ := c_far K3 13 (by decide)
  have e4 : m__law_far [.m 0, .d (.int 13)] M3 = _ := e4
  obtain ⟨far2, M5, K5, e5⟩ := c_far K4 5 (by decide)
  have e5 : m__law_far [.m 0, .d (.int 5)] M4 = _ := e5
  let E : Option Vl → Wv.Env := fun o9 => [some (.m 0), some (.d (.str (sT l))), some (.d (.str (sT a))), some (.d (.str (sT c))), some (.d (RD a c)), some (.d T), some (.d (.str (sT ln))), some (.d (.str (sT (brN a c)))), some (.d (.int (n : Nat))), o9, none, none, none, none]
  have hit : eIter (eOp fAdd (eListRg (eC (.int 30))) (eLst (eCons (eAp m__law_far (eCons (eVar 0) (eCons (eC (.int 13)) eNil))) (eCons (eAp m__law_far (eCons (eVar 0) (eCons (eC (.int 5)) eNil))) eNil)))) (E none) M3 = .ok (nts (List.range 30 ++ [far1, far2])) M5 := by
    have g1 : eListRg (eC (.int 30)) (E none) M3 = .ok (.d (.lst (nts (List.range 30)))) M3 := by
      unfold eListRg
      rw [bnd_ok y_c]
      dsimp only
      rw [if_pos ⟨by decide, by decide, by decide⟩]
      show Res.ok (Vl.d (.lst (rngD 0 30))) M3 = _
      rw [rng0_eq]
      rfl
    refine y_iter (x := .d (.lst (nts (List.range 30) ++ nts [far1, far2]))) (y_op g1 (y_lst (y_cons (y_ap (y_cons (y_var (by rfl)) (y_cons y_c y_nil)) e4) (y_cons (y_ap (y_cons (y_var (by rfl)) (y_cons y_c y_nil)) e5) y_nil)) (by rfl) (Nat.le_of_ble_eq_true rfl)) ?_) ?_
    · exact fAdd_lst _ _ _ (by show _ + 2 ≤ sizeLine; unfold nts; rw [List.length_map, List.length_range]; unfold sizeLine; omega)
    · show some (nts (List.range 30) ++ nts [far1, far2]) = _
      unfold nts
      rw [List.map_append]
  obtain ⟨o9, hfor⟩ := for_none (n := M5.length) (i := 9) (b := sIf (eBool (eOp fNe (eOp (fIxOwn "Round" m_Round___getitem__) (eVar 4) (eVar 9)) (eAp m__law_sign (eCons (eVar 2) (eCons (eVar 3) (eCons (eVar 9) eNil)))))) (sRet (eC (.bl false))) sNext) (ρ0 := E none) (M := M5) rfl (fun d => cut_m0 K5.len (by rfl)) (nts (List.range 30 ++ [far1, far2])) none (fun d hd => by
    obtain ⟨k, _, rfl⟩ := List.mem_map.mp hd
    have g1 := v_get R k M5
    have g2 := v_sign R k M5
    exact y_if (y_bool (y_op (y_op (y_var (by rfl)) (y_var (by rfl)) g1) (y_ap (y_cons (y_var (by rfl)) (y_cons (y_var (by rfl)) (y_cons (y_var (by rfl)) y_nil))) g2) t_neT)) (bd_nT (bd_t rfl)) (y_ifF y_next))
  -- another one
  have t1 : fAdd (.d (.str (sT a))) (.d (.str (sT c))) M5 = .ok (.d (.str (sT (a ++ c)))) M5 := t_addT (by omega) (by omega)
  have t2 : fMulS (.d (.str (sT c))) (.d (.int (2 : Nat))) M5 = .ok (.d (.str (sT (c ++ c)))) M5 := by
    rw [t_mulT (by decide) (by omega)]
    have : (List.replicate 2 c).flatten = c ++ c := by simp [List.replicate]
    rw [this]
  obtain ⟨z, M6, hz, K6, e6⟩ := c_card K5 2 (by decide) (by decide)
  have e6 : m__law_card [.m 0, .d (.int 2)] M5 = _ := e6
  let E2 : D → D → Wv.Env := fun x y => [some (.m 0), some (.d (.str (sT l))), some (.d (.str (sT a))), some (.d (.str (sT c))), some (.d (RD a c)), some (.d T), some (.d (.str (sT ln))), some (.d (.str (sT (brN a c)))), some (.d (.int (n : Nat))), o9.map Vl.d, some (.d x), some (.d y), none, none]
  have hmate : ∃ (a2 c2 : List Nat) (M7 : List Mu), Rnd a2 c2 ∧ rsN a2 c2 ≤ 8 ∧ Wn.pace c2 ≤ 8 ∧ (∀ x ∈ a2, x ∈ lets) ∧ (∀ x ∈ c2, x ∈ lets) ∧ DkOk M7 ∧ sIf (eBool (eOp fEq (eAp m__law_card (eCons (eVar 0) (eCons (eC (.int 2)) eNil))) (eC (.int 0)))) (sAsg (eAp m__law_drawn (eCons (eVar 0) (eCons (eVar 1) eNil))) (gT 2 (gAnd (gN 10) (gAnd (gN 11) gEnd)))) sNext (E2 (.str (sT (a ++ c))) (.str (sT (c ++ c)))) M5 = .nx (E2 (.str (sT a2)) (.str (sT c2))) M7 := by
    by_cases hz0 : z = 0
    · obtain ⟨a2, c2, M7, q1, q2, q3, q4, q5, K7, e7⟩ := c_drawn K6 l l1 l2
      have R2 := rnd_of a2 c2 (by omega) q2 (by omega)
      exact ⟨a2, c2, M7, R2, Nat.le_trans (Wn.startOf_le _ _ _) q1, Nat.le_trans (Wn.pace_find c2 R2.ne).2.2.1 q3, fun x hx => l3 x (q4 x hx), fun x hx => l3 x (q5 x hx), K7, y_if (y_bool (y_op (y_ap (y_cons (y_var (by rfl)) (y_cons y_c y_nil)) e6) y_c t_eqI)) (bd_t (by omega)) (y_ifT (y_asgT2 (y_ap (y_cons (y_var (by rfl)) (y_cons (y_var (by rfl)) y_nil)) e7) (by rfl)))⟩
    · have R2 := rnd_of (a ++ c) (c ++ c) (by rw [List.length_append]; omega) (by rw [List.length_append]; omega) (by rw [List.length_append]; omega)
      obtain ⟨p, s⟩ := Wn.red_eq R2.ne cne (sq_twice a c cne)
      have s : rsN (a ++ c) (c ++ c) = rsN a c := s
      refine ⟨a ++ c, c ++ c, M6, R2, by omega, by omega, fun x hx => ?_, fun x hx => ?_, K6, y_if (y_bool (y_op (y_ap (y_cons (y_var (by rfl)) (y_cons y_c y_nil)) e6) y_c t_eqI)) (bd_f (by omega)) (y_ifF y_next)⟩
      · rcases List.mem_append.mp hx with hx | hx
        · exact al x hx
        · exact cl x hx
      · rcases List.mem_append.mp hx with hx | hx <;> exact cl x hx
  obtain ⟨a2, c2, M7, R2, s2, p2, al2, cl2, K7, e7⟩ := hmate
  have y1 := v_newK a2 c2 R2.ne R2.len al2 cl2 M7
  have y2 := v_least R2 s2 p2 M7
  have hm2 := R2.mem al2 cl2
  have y3 := tup_eq (hdN a2 c2) (lpN a2 c2) (hdN a c) (lpN a c) (fun x hx => lets_lt x (hm2.1 x hx)) (fun x hx => lets_lt x (hm2.2 x hx)) hd_lt lp_lt M7
  obtain ⟨sm, hsm⟩ : ∃ sm, sm = sameRD a2 c2 a c := ⟨_, rfl⟩
  have y3 : fEq (.d (.tup [.str (sT (hdN a2 c2)), .str (sT (lpN a2 c2))])) (.d T) M7 = .ok (.d (.bl sm)) M7 := by rw [hT, hsm]; exact y3
  have y4 := o_eq false a c a2 c2 M7
  have y5 := o_eq false a2 c2 a c M7
  have y6 := o_eq true a c a2 c2 M7
  have hsym : sameRD a c a2 c2 = sm := by
    rw [hsm, Bool.eq_iff_iff, same_iff R R2, same_iff R2 R]
    exact ⟨fun h n => (h n).symm, fun h n => (h n).symm⟩
  rw [hsym] at y4 y6
  rw [← hsm] at y5
  have y7 := fNe_bls [sm, sm, !sm] [sm, sm, !sm] M7
  have R3 : Rnd (hdN a c) (lpN a c) := ⟨fun e => by rw [e] at lpl; have := R.p1; simp at lpl; omega, by rw [List.length_append]; omega⟩
  have z1 := v_new (hdN a c) (lpN a c) R3.ne R3.len hm.1 hm.2 M7
  have hsq : ∀ n, Wn.sq a c n = Wn.sq (hdN a c) (lpN a c) n := fun n => by
    have r : Wn.sq (hdN a c) (lpN a c) n = (if n < rsN a c then (hdN a c).getD n 0 else (lpN a c).getD ((n - rsN a c) % Wn.pace c) 0) := by
      unfold Wn.sq; rw [hsl, lpl]
    rw [r]
    by_cases hns : n < rsN a c
    · rw [if_pos hns, List.getD_eq_getElem?_getD, R.hd hns]; rfl
    · rw [if_neg hns, List.getD_eq_getElem?_getD, R.lp (n := n) (by omega)]; rfl
  have z2 := o_eq false a c (hdN a c) (lpN a c) M7
  rw [(same_iff R R3).mpr hsq] at z2
  have z3 := o_eqD true a c (.str (sT (brN a c))) "str" rfl (.inl rfl) M7
  have z4 := o_eqD true a c (.tup [.str (sT a), .str (sT c)]) "tuple" rfl (.inr rfl) M7
  have w1' : fProp "Round" m_Round_head (.d (RD a c)) M7 = .ok (.d (.str (sT (hdN a c)))) M7 := by
    have e : m_Round_head [.d (RD a c)] M7 = .ok (.d (.str (sT (hdN a c)))) M7 := by rw [u_Round_head]; exact y_fnR (y_ret (y_un (y_var (by rfl)) (f_begin M7))) rfl
    exact fProp_ok e
  have w2' : fProp "Round" m_Round_loop (.d (RD a c)) M7 = .ok (.d (.str (sT (lpN a c)))) M7 := by
    have e : m_Round_loop [.d (RD a c)] M7 = .ok (.d (.str (sT (lpN a c)))) M7 := by rw [u_Round_loop]; exact y_fnR (y_ret (y_un (y_var (by rfl)) (f_cycle M7))) rfl
    exact fProp_ok e
  refine ⟨M7, K7, ?_⟩
  rw [u__law_right]
  refine y_fnR ?_ (K7.len.trans h.len.symm)
  unfold b__law_right
  have no : (none : Option Vl) = none := rfl
  refine y_seq (r1 := .nx [some (.m 0), some (.d (.str (sT l))), none, none, none, none, none, none, none, none, none, none, none, none] M1) (y_asgN (y_op (y_lst (y_cons y_c (y_cons y_c (y_cons y_c y_nil))) (by rfl) (Nat.le_of_ble_eq_true rfl)) (y_ap (y_cons (y_var (by rfl)) (y_cons y_c y_nil)) e1) hix) (by rfl)) (y_seqN ?_)
  refine y_seq (r1 := .nx [some (.m 0), some (.d (.str (sT l))), some (.d (.str (sT a))), some (.d (.str (sT c))), none, none, none, none, none, none, none, none, none, none] M2) (y_asgT2 (y_ap (y_cons (y_var (by rfl)) (y_cons (y_var (by rfl)) y_nil)) e2) (by rfl)) (y_seqN ?_)
  rw [← hT] at v2 lcL
  refine y_seq (r1 := .nx [some (.m 0), some (.d (.str (sT l))), some (.d (.str (sT a))), some (.d (.str (sT c))), some (.d (RD a c)), some (.d T), none, none, none, none, none, none, none, none] M2) (y_parN (y_cons (y_ap (y_cons (y_var (by rfl)) (y_cons (y_var (by rfl)) y_nil)) v1) (y_cons (y_ap (y_cons (y_var (by rfl)) (y_cons (y_var (by rfl)) y_nil)) v2) y_nil)) (by rfl)) (y_seqN ?_)
  refine y_seq (r1 := .nx [some (.m 0), some (.d (.str (sT l))), some (.d (.str (sT a))), some (.d (.str (sT c))), some (.d (RD a c)), some (.d T), some (.d (.str (sT ln))), none, none, none, none, none, none, none] M2) (y_asgN (join_one y_c lcL (by omega)) (by rfl)) (y_seqN ?_)
  have ix0 : ∀ M, fIx (.d T) (.d (.int 0)) M = .ok (.d (.str (sT (hdN a c)))) M := fun M => by rw [hT]; exact t_ixT0
  have ix1 : ∀ M, fIx (.d T) (.d (.int 1)) M = .ok (.d (.str (sT (lpN a c)))) M := fun M => by rw [hT]; exact t_ixT1
  refine y_seq (r1 := .nx [some (.m 0), some (.d (.str (sT l))), some (.d (.str (sT a))), some (.d (.str (sT c))), some (.d (RD a c)), some (.d T), some (.d (.str (sT ln))), some (.d (.str (sT (brN a c)))), none, none, none, none, none, none] M2) (y_asgN (y_op (y_op (y_op (y_op (y_var (by rfl)) y_c (ix0 _)) y_c b1) (y_op (y_var (by rfl)) y_c (ix1 _)) b2) y_c b3) (by rfl)) (y_seqN ?_)
  refine y_seq (r1 := .nx [some (.m 0), some (.d (.str (sT l))), some (.d (.str (sT a))), some (.d (.str (sT c))), some (.d (RD a c)), some (.d T), some (.d (.str (sT ln))), some (.d (.str (sT (brN a c)))), none, none, none, none, none, none] M2) (y_if (y_bool (y_op (y_lst (y_cons (y_un (y_var (by rfl)) w1) (y_cons (y_un (y_var (by rfl)) w2) (y_cons (y_ap (y_cons (y_var (by rfl)) y_nil) (w3 _)) (y_cons (y_ap (y_cons (y_var (by rfl)) y_nil) w4) y_nil)))) (by rfl) (Nat.le_of_ble_eq_true rfl)) (y_lst (y_cons (y_op (y_var (by rfl)) y_c (ix0 _)) (y_cons (y_op (y_var (by rfl)) y_c (ix1 _)) (y_cons (y_var (by rfl)) (y_cons (y_op (y_op y_c (y_var (by rfl)) b4) y_c b5) y_nil)))) (by rfl) (Nat.le_of_ble_eq_true rfl)) w5)) rfl (y_ifF y_next)) (y_seqN ?_)
  refine y_seq (r1 := .nx (E none) M3) (y_asgN (y_ap (y_cons (y_var (by rfl)) (y_cons y_c y_nil)) e3) (by rfl)) (y_seqN ?_)
  refine y_seq (r1 := .nx (E none) M3) (y_if (y_bool (y_op (y_lst (y_cons (y_meth (y_var (by rfl)) (by rfl) (y_cons (y_var (by rfl)) y_nil) x1) (y_cons (y_meth (y_var (by rfl)) (by rfl) (y_cons y_c y_nil) x2) (y_cons (y_meth (y_var (by rfl)) (by rfl) (y_cons y_c y_nil) x3) y_nil))) (by rfl) (Nat.le_of_ble_eq_true rfl)) (y_lst (y_cons (y_sl (y_var (by rfl)) y_noPart (y_part (y_var (by rfl))) x4) (y_cons (y_var (by rfl)) (y_cons (by rw [sT0]; exact y_c) y_nil))) (by rfl) (Nat.le_of_ble_eq_true rfl)) x5)) rfl (y_ifF y_next)) (y_seqN ?_)
  refine y_seq (r1 := .nx ((E none).set 9 (o9.map Vl.d)) M5) (y_for hit hfor) (y_seqN ?_)
  refine y_seq (r1 := .nx (E2 (.str (sT (a ++ c))) (.str (sT (c ++ c)))) M5) (y_parN (y_cons (y_op (y_var (by rfl)) (y_var (by rfl)) t1) (y_cons (y_op (y_var (by rfl)) y_c t2) y_nil)) (by rfl)) (y_seqN ?_)
  refine y_seq e7 (y_seqN ?_)
  refine y_seq (y_asgN (y_ap (y_cons (y_var (by rfl)) (y_cons (y_var (by rfl)) y_nil)) y1) (by rfl)) (y_seqN ?_)
  refine y_seq (y_asgN (y_op (y_ap (y_cons (y_var (by rfl)) (y_cons (y_var (by rfl)) y_nil)) y2) (y_var (by rfl)) y3) (by rfl)) (y_seqN ?_)
  refine y_seq (y_if (y_bool (y_op (y_lst (y_cons (y_op (y_var (by rfl)) (y_var (by rfl)) y4) (y_cons (y_op (y_var (by rfl)) (y_var (by rfl)) y5) (y_cons (y_op (y_var (by rfl)) (y_var (by rfl)) y6) y_nil))) (by rfl) (Nat.le_of_ble_eq_true rfl)) (y_lst (y_cons (y_var (by rfl)) (y_cons (y_var (by rfl)) (y_cons (y_not (y_var (by rfl))) y_nil))) (by rfl) (Nat.le_of_ble_eq_true rfl)) y7)) (bd_nT (bd_t rfl)) (y_ifF y_next)) (y_seqN (y_ret ?_))
  refine y_and (y_op (y_var (by rfl)) (y_ap (y_cons (y_var (by rfl)) y_nil) (w3 _)) z3) rfl (y_andKT (y_and (y_op (y_var (by rfl)) (y_tup (y_cons (y_var (by rfl)) (y_cons (y_var (by rfl)) y_nil)) (by rfl) (Nat.le_of_ble_eq_true rfl)) z4) rfl (y_andKT ?_)))
  exact y_op (y_var (by rfl)) (y_ap (y_cons (y_un (y_var (by rfl)) w1') (y_cons (y_un (y_var (by rfl)) w2') y_nil)) z1) z2
theorem law_of_right (ns : List Int) (h : ns.length ≤ 63) (k : Nat) (hk : 2 ≤ k) (hk2 : k ≤ 63) : eAp fAll (eCons (eLc (eRng1 (eCons (eAp fMax2 (eCons (eC (.int 2)) (eCons (eAp fMin2 (eCons (eAp fLen (eCons (eVar 0) eNil)) (eCons (eC (.int (k : Nat))) eNil))) eNil))) eNil)) (cName 1) eTrue (eAp m__law_right (eCons (eAp m__law_deck (eCons (eVar 0) (eCons (eVar 1) eNil))) eNil)) [1]) eNil) [some (.d (.scr ns)), none] [] = .ok (.d (.bl true)) [] := by
  obtain ⟨n, hn⟩ : ∃ n : Nat, n = (max 2 (min (ns.length : Int) (k : Nat))).toNat := ⟨_, rfl⟩
  have hn2 : n ≤ 63 := by omega
  refine (eAp_ok (xs := [.d (.lst ((rngD 0 n).map fun _ => D.bl true))]) (M' := []) (eCons_ok (M1 := []) (lc_cut (ds := rngD 0 n) (fun _ => D.bl true) ?_ ?_ ?_) (by rfl))).trans ?_
  · refine (eRng1_ok (j := max 2 (min (ns.length : Int) (k : Nat))) (M' := []) (eCons_ok (M1 := []) ?_ (by rfl)) (by omega) (by omega)).trans (by rw [hn])
    refine (eAp_ok (xs := [.d (.int 2), .d (.int (min (ns.length : Int) (k : Nat)))]) (M' := []) (eCons_ok (M1 := []) (by rfl) (eCons_ok (M1 := []) ?_ (by rfl)))).trans ?_
    · refine (eAp_ok (xs := [.d (.int (ns.length : Nat)), .d (.int (k : Nat))]) (M' := []) (eCons_ok (M1 := []) ?_ (by rfl))).trans ?_
      · show Res.ok (Vl.d (.int ((ns.map D.int).length : Nat))) [] = _
        rw [List.length_map]
      · rw [t_min2]
        rw [show (if ((k : Nat) : Int) < (ns.length : Int) then ((k : Nat) : Int) else (ns.length : Int)) = min (ns.length : Int) (k : Nat) by split <;> omega]
    · rw [t_max2]
      rw [show (if min (ns.length : Int) (k : Nat) > 2 then min (ns.length : Int) (k : Nat) else 2) = max 2 (min (ns.length : Int) (k : Nat)) by split <;> omega]
  · intro d hd
    obtain ⟨i, hi, rfl⟩ := rngD_mem hd
    obtain ⟨a, b, ha, e2⟩ := v_deck ns h i (by omega)
    obtain ⟨M', KM, e3⟩ := c_right ⟨a, b, 0, ha, rfl⟩
    refine ⟨_, M', rfl, ?_, by rw [List.length_nil, List.take_zero]⟩
    refine (eAp_ok (xs := [.m 0]) (M' := dk a b 0) (eCons_ok (M1 := dk a b 0) ?_ (by rfl))).trans e3
    refine (eAp_ok (xs := [.d (.scr ns), .d (.int (0 + (i : Int)))]) (M' := []) (by rfl)).trans ?_
    rw [Int.zero_add]
    exact e2
  · rw [rngD_len]
    unfold sizeLine
    omega
  · have : ∀ l : List D, allBls (l.map fun _ => D.bl true) = some (l.map fun _ => true) := fun l => by
      have := allBls_map (l.map fun _ => true)
      rw [List.map_map] at this
      exact this
    show (match allBls ((rngD 0 n).map fun _ => D.bl true) with | some bs => Res.ok (Vl.d (.bl (bs.all id))) [] | none => .bad) = _
    rw [this]
    dsimp only
    have : ((rngD 0 n).map fun _ => true).all id = true := by simp
    rw [this]
theorem math (ns : List Int) (h : ns.length ≤ 63) : m_law [.d (.scr ns)] [] = .ok (.d (.bl true)) [] := by
  rw [u_law]
  unfold b_law
  refine y_fnR (y_ret ?_) rfl
  exact law_of_right ns h 10 (by decide) (by decide)
end K25

namespace K25
open PySem PySem.Spec PyProof.Rows L2 Wv
/-! the head -/
def fa : List Fq := [qA (.free "len"),
  qA (.free "min"),
  qA (.free "max"),
  qA (.free "range"),
  qA (.glo "_law_right"),
  qA (.glo "_law_card"),
  qA (.free "divmod"),
  qA (.free "int"),
  qA (.glo "_law_drawn"),
  qA (.glo "_law_string"),
  qA (.glo "_law_of"),
  qA (.glo "are_letters"),
  qA (.free "isinstance"),
  qA (.free "str"),
  qA (.str "LETTERS" "abcdefghijklmnopqrstuvwxyz"),
  qA (.free "all"),
  qA (.glo "shortest_head"),
  qA (.glo "shortest_loop"),
  qA (.cls "Round"),
  qA (.noat "Round" "cycle"),
  qA (.noat "Round" "begin"),
  qA (.mkr "Round"),
  qA (.glo "Round"),
  qA (.glo "_law_least"),
  qA (.glo "_law_sign"),
  qProp "Round" "head",
  qProp "Round" "loop",
  qA (.meth "Round" "__str__"),
  qA (.meth "Round" "__repr__"),
  qA (.free "repr"),
  qA (.glo "check_number"),
  qA (.glo "is_number"),
  qA (.glo "is_integer"),
  qA (.free "bool"),
  qA (.meth "Round" "first"),
  qA (.free "list"),
  qA (.glo "_law_far"),
  qA (.meth "Round" "__getitem__"),
  qKitB "tuple" "Round" false,
  qKitB "str" "Round" false,
  qIns "Round",
  qKitC "Round" "Round" true,
  qSub "tuple" "Round",
  qSub "str" "Round",
  qNF "Round" "Round",
  qA (.meth "Round" "__eq__"),
  qObj "Round",
  qNe "Round",
  qA (.glo "_law_deck"),
  qA (.free "abs"),
  qA (.glo "law")]
def ds : List Dq := [⟨fun K => He.ga K "law", "law", "law", s_law⟩,
  ⟨fun K => He.ga K "_law_right", "_law_right", "_law_right", s__law_right⟩,
  ⟨fun K => He.ga K "_law_card", "_law_card", "_law_card", s__law_card⟩,
  ⟨fun K => He.ga K "_law_drawn", "_law_drawn", "_law_drawn", s__law_drawn⟩,
  ⟨fun K => He.ga K "_law_string", "_law_string", "_law_string", s__law_string⟩,
  ⟨fun K => He.ga K "_law_of", "_law_of", "_law_of", s__law_of⟩,
  ⟨fun K => He.ma K (He.ga K "Round") "__init__", "__init__", "Round.__init__", s_Round___init__⟩,
  ⟨fun K => He.ga K "are_letters", "are_letters", "are_letters", s_are_letters⟩,
  ⟨fun K => He.ga K "shortest_head", "shortest_head", "shortest_head", s_shortest_head⟩,
  ⟨fun K => He.ga K "shortest_loop", "shortest_loop", "shortest_loop", s_shortest_loop⟩,
  ⟨fun K => He.ga K "_law_least", "_law_least", "_law_least", s__law_least⟩,
  ⟨fun K => He.ga K "_law_sign", "_law_sign", "_law_sign", s__law_sign⟩,
  ⟨fun K => pgA "Round" "head" K, "head", "Round.head", s_Round_head⟩,
  ⟨fun K => pgA "Round" "loop" K, "loop", "Round.loop", s_Round_loop⟩,
  ⟨fun K => He.ma K (He.ga K "Round") "__str__", "__str__", "Round.__str__", s_Round___str__⟩,
  ⟨fun K => He.ma K (He.ga K "Round") "__repr__", "__repr__", "Round.__repr__", s_Round___repr__⟩,
  ⟨fun K => He.ma K (He.ga K "Round") "first", "first", "Round.first", s_Round_first⟩,
  ⟨fun K => He.ga K "check_number", "check_number", "check_number", s_check_number⟩,
  ⟨fun K => He.ga K "is_number", "is_number", "is_number", s_is_number⟩,
  ⟨fun K => He.ga K "is_integer", "is_integer", "is_integer", s_is_integer⟩,
  ⟨fun K => He.ga K "_law_far", "_law_far", "_law_far", s__law_far⟩,
  ⟨fun K => He.ma K (He.ga K "Round") "__getitem__", "__getitem__", "Round.__getitem__", s_Round___getitem__⟩,
  ⟨fun K => He.ma K (He.ga K "Round") "__eq__", "__eq__", "Round.__eq__", s_Round___eq__⟩,
  ⟨fun K => He.ga K "_law_deck", "_law_deck", "_law_deck", s__law_deck⟩]
theorem txt {K : PySem.W.Frag} {h : Heap} {mg : Str → Option Value} (X : K.In h) (G : h.Ns mainGlobals mg) (c : SaysQ fa ds K) : Txt K mg where
  d_law := c.def_ 0
  n_len := He.free_ok X G (x := "len") (c.fact 0)
  n_min := He.free_ok X G (x := "min") (c.fact 1)
  n_max := He.free_ok X G (x := "max") (c.fact 2)
  n_range := He.free_ok X G (x := "range") (c.fact 3)
  m__law_right := He.glo_ok X G (x := "_law_right") (c.fact 4)
  d__law_right := c.def_ 1
  m__law_card := He.glo_ok X G (x := "_law_card") (c.fact 5)
  d__law_card := c.def_ 2
  n_divmod := He.free_ok X G (x := "divmod") (c.fact 6)
  n_int := He.free_ok X G (x := "int") (c.fact 7)
  m__law_drawn := He.glo_ok X G (x := "_law_drawn") (c.fact 8)
  d__law_drawn := c.def_ 3
  m__law_string := He.glo_ok X G (x := "_law_string") (c.fact 9)
  d__law_string := c.def_ 4
  m__law_of := He.glo_ok X G (x := "_law_of") (c.fact 10)
  d__law_of := c.def_ 5
  d_Round___init__ := c.def_ 6
  m_are_letters := He.glo_ok X G (x := "are_letters") (c.fact 11)
  d_are_letters := c.def_ 7
  n_isinstance := He.free_ok X G (x := "isinstance") (c.fact 12)
  n_str := He.free_ok X G (x := "str") (c.fact 13)
  i_LETTERS := He.str_ok X G (x := "LETTERS") (c.fact 14)
  n_all := He.free_ok X G (x := "all") (c.fact 15)
  m_shortest_head := He.glo_ok X G (x := "shortest_head") (c.fact 16)
  d_shortest_head := c.def_ 8
  m_shortest_loop := He.glo_ok X G (x := "shortest_loop") (c.fact 17)
  d_shortest_loop := c.def_ 9
  cls_Round := He.cls_ok (x := "Round") (c.fact 18)
  na_Round_cycle := He.noat_ok (x := "Round") (c.fact 19)
  na_Round_begin := He.noat_ok (x := "Round") (c.fact 20)
  mk_Round := He.mkr_ok (x := "Round") (c.fact 21)
  m_Round := He.glo_ok X G (x := "Round") (c.fact 22)
  m__law_least := He.glo_ok X G (x := "_law_least") (c.fact 23)
  d__law_least := c.def_ 10
  m__law_sign := He.glo_ok X G (x := "_law_sign") (c.fact 24)
  d__law_sign := c.def_ 11
  d_Round_head := c.def_ 12
  pr_Round_head := qProp_ok (C := "Round") (c.fact 25)
  d_Round_loop := c.def_ 13
  pr_Round_loop := qProp_ok (C := "Round") (c.fact 26)
  d_Round___str__ := c.def_ 14
  me_Round___str__ := He.meth_ok (x := "Round") (c.fact 27)
  d_Round___repr__ := c.def_ 15
  me_Round___repr__ := He.meth_ok (x := "Round") (c.fact 28)
  n_repr := He.free_ok X G (x := "repr") (c.fact 29)
  d_Round_first := c.def_ 16
  m_check_number := He.glo_ok X G (x := "check_number") (c.fact 30)
  d_check_number := c.def_ 17
  m_is_number := He.glo_ok X G (x := "is_number") (c.fact 31)
  d_is_number := c.def_ 18
  m_is_integer := He.glo_ok X G (x := "is_integer") (c.fact 32)
  d_is_integer := c.def_ 19
  n_bool := He.free_ok X G (x := "bool") (c.fact 33)
  me_Round_first := He.meth_ok (x := "Round") (c.fact 34)
  n_list := He.free_ok X G (x := "list") (c.fact 35)
  m__law_far := He.glo_ok X G (x := "_law_far") (c.fact 36)
  d__law_far := c.def_ 20
  d_Round___getitem__ := c.def_ 21
  me_Round___getitem__ := He.meth_ok (x := "Round") (c.fact 37)
  d_Round___eq__ := c.def_ 22
  kb_tuple_Round := qKitB_ok (C := "Round") (c.fact 38)
  kb_str_Round := qKitB_ok (C := "Round") (c.fact 39)
  it_Round := qIns_ok (C := "Round") (c.fact 40)
  kc_Round_Round := qKitC_ok (C := "Round") (c.fact 41)
  sb_tuple_Round := qSub_ok (C := "Round") (c.fact 42)
  sb_str_Round := qSub_ok (C := "Round") (c.fact 43)
  nf_Round_Round := qNF_ok (C := "Round") (c.fact 44)
  me_Round___eq__ := He.meth_ok (x := "Round") (c.fact 45)
  ob_Round := qObj_ok (C := "Round") (c.fact 46)
  ne_Round := qNe_ok (C := "Round") (c.fact 47)
  m__law_deck := He.glo_ok X G (x := "_law_deck") (c.fact 48)
  d__law_deck := c.def_ 23
  n_abs := He.free_ok X G (x := "abs") (c.fact 49)
  m_law := He.glo_ok X G (x := "law") (c.fact 50)
abbrev R : PySem.W.OpenRow := PySem.W.OpenLaw.row PySem.Challenge.rw_wovenplaces_k25_rows_that_come_round
abbrev hk : PySem.W.Hook := hookQ 6 fa ds
def ob (s : PySem.W.SharedT) : Bool × List He.FnW := obsQG 6 fa ds (HandSHeadRun.getT s)
theorem ob_eq (s : PySem.W.SharedT) : ob s = hk.obs s.abs := obsQG_eq (HandSHeadRun.getT_eq s)
abbrev lo : List Str := "WrongValue" :: "InvalidNumber" :: "InvalidText" :: "is_integer" :: "is_number" :: "check_number" :: "are_letters" :: "shortest_loop" :: "shortest_head" :: "Round" :: "_law_deck" :: "_law_card" :: "_law_of" :: "_law_far" :: "_law_string" :: "_law_sign" :: "_law_least" :: "_law_drawn" :: "_law_right" :: "LETTERS" :: []
theorem run (w : World) : HandSHeadRun.RunEq R (PySem.W.view R.prog [24]) hk ob 4000 K25.lo w := by
  intro os
  kernel_rfl
end K25


open PySem PySem.W PySem.Calls PyProof.Rows in
theorem PySem.Challenge.cw_wovenplaces_k25_rows_that_come_round_holds : PySem.Challenge.rw_wovenplaces_k25_rows_that_come_round.Holds := by
  w_on; o_law
  refine HandSHeadRun.head_any (r := OpenLaw.row PySem.Challenge.rw_wovenplaces_k25_rows_that_come_round) (q := view (OpenLaw.row PySem.Challenge.rw_wovenplaces_k25_rows_that_come_round).prog [24]) (H := K25.hk) (ob := K25.ob) (M := 4000) (loose := K25.lo) (d := HandSHeadRun.topDef (OpenLaw.row PySem.Challenge.rw_wovenplaces_k25_rows_that_come_round).prog 24) (kwd := []) K25.ob_eq
    (by kernel_rfl) (fun s => by kernel_rfl) K25.run (by kernel_rfl) (by kernel_rfl) (by kernel_rfl) (by rfl) (by first | assumption | decide +kernel) (by decide +kernel) ⟨rfl, rfl, rfl, rfl, rfl, by decide +kernel⟩ ?hw ?hc
  case hw => w_witness2
  case hc =>
    refine Wv.lawWalk (l := PySem.Challenge.rw_wovenplaces_k25_rows_that_come_round) (n := 63) (k := 7) rfl (by decide) (by kernel_rfl) ⟨rfl, by decide, by decide⟩ ?F
    intro w mg fa h Y G hmg0
    obtain ⟨K, KX, c⟩ := Y
    have hmg : mg ("law" : PySem.Str) = some (.ref fa) := by
      have e : (HandSHeadRun.topDef (OpenLaw.row PySem.Challenge.rw_wovenplaces_k25_rows_that_come_round).prog 24).name = ("law" : PySem.Str) := by kernel_rfl
      rw [← e]
      exact hmg0
    have T := K25.txt KX G c
    have hl := hmg.symm.trans T.m_law
    cases hl
    exact ⟨K, K25.m_law, KX, K25.math, fun base _ _ => K25.g_law T⟩
