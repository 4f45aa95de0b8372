import PyProof.Rows.All
import Wide.All
import OpenK.AllK
import Wide.FinOn
import HandS.ForMost
import HandS.Exc
import HandS.ExcOwn
import HandS.Conv
import HandS.IsInst
import HandS.Wide
import HandS.ForExc
import HandS.TryOnly
import HandS.ListItems
import PySem.Challenge.RW_turnbase_k28_whole_finest_parting
set_option Elab.async false
set_option linter.all false
set_option maxRecDepth 100000
set_option maxHeartbeats 4000000
namespace DL
open PySem L2

/-! ### data -/
inductive D where
  | non | bl (b : Bool) | int (i : Int) | str (x : Str)
  | tup (xs : List D) | lst (xs : List D) | lsr (xs : List D)
  | ins (c : Nat) (xs : List D)
  | dct (ks xs : List D)
structure Tb where
  adr : Nat → Addr
  nms : Nat → List Str
def keyD : Key → D
  | .inl i => .int i
  | .inr x => .str x
mutual
def Rep (K : PySem.W.Frag) (T : Tb) (Z : Hp) : D → V → Prop
  | .non, v => v = .non
  | .bl b, v => v = .bl b
  | .int i, v => v = .int i
  | .str x, v => v = .str x
  | .tup ds, v => ∃ a xs, v = .ref a ∧ SqT K Z a xs ∧ Reps K T Z ds xs
  | .lst ds, v => ∃ a xs, v = .ref a ∧ Z a = some (.lst xs) ∧ Reps K T Z ds xs
  | .lsr ds, v => ∃ a xs, v = .ref a ∧ SqL K Z a xs ∧ Reps K T Z ds xs
  | .ins c ds, v => ∃ a dx fs, v = .ref a ∧ Z a = some (.ins (T.adr c) dx fs) ∧ fs.map (·.1) = T.nms c ∧ Reps K T Z ds (fs.map (·.2))
  | .dct ks ds, v => ∃ (a : Addr) (kvs : List (Key × V)), v = .ref a ∧ Rd Z a (.dK kvs) ∧ (kvs.map fun p => keyD p.1) = ks ∧ Reps K T Z ds (kvs.map (·.2))
def Reps (K : PySem.W.Frag) (T : Tb) (Z : Hp) : List D → List V → Prop
  | [], vs => vs = []
  | d :: ds, vs => ∃ v r, vs = v :: r ∧ Rep K T Z d v ∧ Reps K T Z ds r
end

section
variable {K : PySem.W.Frag} {T : Tb} {Z Z' H H' : Hp}
theorem Same.rd {a : Addr} {u : HO} (e : Same Z Z') (h : Rd Z a u) : Rd Z' a u := by
  rcases h with h | ⟨o, h⟩
  · exact .inl (e _ _ h)
  · exact .inr ⟨o, e _ _ h⟩
theorem Same.sqT {a : Addr} {xs : List V} (e : Same Z Z') (h : SqT K Z a xs) : SqT K Z' a xs := by
  rcases h with h | h
  · exact .inl (Same.rd e h)
  · exact .inr h
theorem Same.sqL {a : Addr} {xs : List V} (e : Same Z Z') (h : SqL K Z a xs) : SqL K Z' a xs := by
  rcases h with h | h
  · exact .inl (Same.rd e h)
  · exact .inr h
mutual
theorem Rep.mono (e : Same Z Z') : ∀ (d : D) (v : V), Rep K T Z d v → Rep K T Z' d v
  | .non, v, h => h
  | .bl b, v, h => h
  | .int i, v, h => h
  | .str x, v, h => h
  | .tup ds, v, h => by
    obtain ⟨a, xs, h1, h2, h3⟩ := h
    exact ⟨a, xs, h1, Same.sqT e h2, Reps.mono e ds xs h3⟩
  | .lst ds, v, h => by
    obtain ⟨a, xs, h1, h2, h3⟩ := h
    exact ⟨a, xs, h1, e _ _ h2, Reps.mono e ds xs h3⟩
  | .lsr ds, v, h => by
    obtain ⟨a, xs, h1, h2, h3⟩ := h
    exact ⟨a, xs, h1, Same.sqL e h2, Reps.mono e ds xs h3⟩
  | .ins c ds, v, h => by
    obtain ⟨a, dx, fs, h1, h2, h4, h3⟩ := h
    exact ⟨a, dx, fs, h1, e _ _ h2, h4, Reps.mono e ds _ h3⟩
  | .dct ks ds, v, h => by
    obtain ⟨a, kvs, h1, h2, h4, h3⟩ := h
    exact ⟨a, kvs, h1, Same.rd e h2, h4, Reps.mono e ds _ h3⟩
theorem Reps.mono (e : Same Z Z') : ∀ (ds : List D) (vs : List V), Reps K T Z ds vs → Reps K T Z' ds vs
  | [], vs, h => h
  | d :: ds, vs, h => by
    obtain ⟨v, r, h1, h2, h3⟩ := h
    exact ⟨v, r, h1, Rep.mono e d v h2, Reps.mono e ds r h3⟩
end
theorem reps_nil {vs : List V} (h : Reps K T Z [] vs) : vs = [] := h
theorem reps_cons {d : D} {ds : List D} {vs : List V} (h : Reps K T Z (d :: ds) vs) : ∃ v r, vs = v :: r ∧ Rep K T Z d v ∧ Reps K T Z ds r := h
theorem Reps.cons {d : D} {ds : List D} {v : V} {r : List V} (h : Rep K T Z d v) (t : Reps K T Z ds r) : Reps K T Z (d :: ds) (v :: r) := ⟨v, r, rfl, h, t⟩
theorem Reps.nil : Reps K T Z [] [] := rfl
theorem Reps.length : ∀ {ds : List D} {vs : List V}, Reps K T Z ds vs → ds.length = vs.length
  | [], vs, h => by rw [reps_nil h]; rfl
  | d :: ds, vs, h => by
    obtain ⟨v, r, h1, _, h3⟩ := reps_cons h
    rw [h1, List.length_cons, List.length_cons, Reps.length h3]
theorem Reps.get : ∀ {ds : List D} {vs : List V} {i : Nat} {d : D}, Reps K T Z ds vs → ds[i]? = some d → ∃ v, vs[i]? = some v ∧ Rep K T Z d v
  | [], vs, i, d, h, e => by simp at e
  | d0 :: ds, vs, 0, d, h, e => by
    obtain ⟨v, r, h1, h2, h3⟩ := reps_cons h
    have e : d0 = d := by simpa using e
    subst e
    exact ⟨v, by rw [h1]; rfl, h2⟩
  | d0 :: ds, vs, i + 1, d, h, e => by
    obtain ⟨v, r, h1, h2, h3⟩ := reps_cons h
    have e : ds[i]? = some d := by simpa using e
    obtain ⟨w, q1, q2⟩ := Reps.get h3 e
    exact ⟨w, by rw [h1]; simpa using q1, q2⟩
theorem Reps.get' : ∀ {ds : List D} {vs : List V} {i : Nat} {v : V}, Reps K T Z ds vs → vs[i]? = some v → ∃ d, ds[i]? = some d ∧ Rep K T Z d v
  | [], vs, i, d, h, e => by rw [reps_nil h] at e; simp at e
  | d0 :: ds, vs, 0, d, h, e => by
    obtain ⟨v, r, h1, h2, h3⟩ := reps_cons h
    rw [h1] at e
    have e : v = d := by simpa using e
    subst e
    exact ⟨d0, rfl, h2⟩
  | d0 :: ds, vs, i + 1, d, h, e => by
    obtain ⟨v, r, h1, h2, h3⟩ := reps_cons h
    rw [h1] at e
    have e : r[i]? = some d := by simpa using e
    obtain ⟨w, q1, q2⟩ := Reps.get' h3 e
    exact ⟨w, by simpa using q1, q2⟩
theorem Reps.append : ∀ {ds es : List D} {vs ws : List V}, Reps K T Z ds vs → Reps K T Z es ws → Reps K T Z (ds ++ es) (vs ++ ws)
  | [], es, vs, ws, h, t => by rw [reps_nil h]; exact t
  | d :: ds, es, vs, ws, h, t => by
    obtain ⟨v, r, h1, h2, h3⟩ := reps_cons h
    rw [h1]
    exact Reps.cons h2 (Reps.append h3 t)
theorem Reps.set : ∀ {ds : List D} {vs : List V} (i : Nat) {d : D} {v : V}, Reps K T Z ds vs → Rep K T Z d v → Reps K T Z (ds.set i d) (vs.set i v)
  | [], vs, i, d, v, h, t => by rw [reps_nil h]; exact Reps.nil
  | d0 :: ds, vs, 0, d, v, h, t => by
    obtain ⟨v0, r, h1, h2, h3⟩ := reps_cons h
    rw [h1]
    exact Reps.cons t h3
  | d0 :: ds, vs, i + 1, d, v, h, t => by
    obtain ⟨v0, r, h1, h2, h3⟩ := reps_cons h
    rw [h1]
    exact Reps.cons h2 (Reps.set i h3 t)
theorem Reps.drop : ∀ {ds : List D} {vs : List V} (n : Nat), Reps K T Z ds vs → Reps K T Z (ds.drop n) (vs.drop n)
  | ds, vs, 0, h => h
  | [], vs, n + 1, h => by rw [reps_nil h]; exact Reps.nil
  | d :: ds, vs, n + 1, h => by
    obtain ⟨v, r, h1, h2, h3⟩ := reps_cons h
    rw [h1]
    exact Reps.drop n h3
theorem Reps.take : ∀ {ds : List D} {vs : List V} (n : Nat), Reps K T Z ds vs → Reps K T Z (ds.take n) (vs.take n)
  | ds, vs, 0, h => Reps.nil
  | [], vs, n + 1, h => by rw [reps_nil h]; exact Reps.nil
  | d :: ds, vs, n + 1, h => by
    obtain ⟨v, r, h1, h2, h3⟩ := reps_cons h
    rw [h1]
    exact Reps.cons h2 (Reps.take n h3)
theorem Reps.eraseIdx : ∀ {ds : List D} {vs : List V} (n : Nat), Reps K T Z ds vs → Reps K T Z (ds.eraseIdx n) (vs.eraseIdx n)
  | [], vs, n, h => by rw [reps_nil h]; exact Reps.nil
  | d :: ds, vs, 0, h => by
    obtain ⟨v, r, h1, h2, h3⟩ := reps_cons h
    rw [h1]
    exact h3
  | d :: ds, vs, n + 1, h => by
    obtain ⟨v, r, h1, h2, h3⟩ := reps_cons h
    rw [h1]
    exact Reps.cons h2 (Reps.eraseIdx n h3)
theorem Reps.reverse : ∀ {ds : List D} {vs : List V}, Reps K T Z ds vs → Reps K T Z ds.reverse vs.reverse
  | [], vs, h => by rw [reps_nil h]; exact Reps.nil
  | d :: ds, vs, h => by
    obtain ⟨v, r, h1, h2, h3⟩ := reps_cons h
    rw [h1, List.reverse_cons, List.reverse_cons]
    exact (Reps.reverse h3).append (Reps.cons h2 Reps.nil)
/-- ints -/
theorem Reps.ints : ∀ {ns : List Int} {vs : List V}, Reps K T Z (ns.map D.int) vs → vs = ns.map V.int
  | [], vs, h => reps_nil h
  | n :: ns, vs, h => by
    obtain ⟨v, r, h1, h2, h3⟩ := reps_cons h
    have h2 : v = .int n := h2
    rw [h1, h2, Reps.ints h3]
    rfl
theorem Reps.ofInts : ∀ (ns : List Int), Reps K T Z (ns.map D.int) (ns.map V.int)
  | [] => Reps.nil
  | n :: ns => Reps.cons rfl (Reps.ofInts ns)
theorem Reps.bls : ∀ {bs : List Bool} {vs : List V}, Reps K T Z (bs.map D.bl) vs → vs = bs.map V.bl
  | [], vs, h => reps_nil h
  | n :: ns, vs, h => by
    obtain ⟨v, r, h1, h2, h3⟩ := reps_cons h
    have h2 : v = .bl n := h2
    rw [h1, h2, Reps.bls h3]
    rfl
theorem Reps.strs : ∀ {bs : List Str} {vs : List V}, Reps K T Z (bs.map D.str) vs → vs = bs.map V.str
  | [], vs, h => reps_nil h
  | n :: ns, vs, h => by
    obtain ⟨v, r, h1, h2, h3⟩ := reps_cons h
    have h2 : v = .str n := h2
    rw [h1, h2, Reps.strs h3]
    rfl
theorem Reps.ofStrs : ∀ (ns : List Str), Reps K T Z (ns.map D.str) (ns.map V.str)
  | [] => Reps.nil
  | n :: ns => Reps.cons rfl (Reps.ofStrs ns)
end

/-! ### slots -/
inductive S where
  | no | dat (d : D) | own (ds : List D) | ownd (ks ds : List D)
def S.isOwn : S → Bool
  | .own _ => true
  | .ownd _ _ => true
  | _ => false
abbrev Env := List S
abbrev R := Except Nat D

def SlotOk (K : PySem.W.Frag) (T : Tb) (Z H : Hp) (o : Option V) : S → Prop
  | .no => True
  | .dat d => ∃ v, o = some v ∧ Rep K T Z d v
  | .own ds => ∃ a xs, o = some (.ref a) ∧ H a = some (.lst xs) ∧ Z a = none ∧ Reps K T Z ds xs
  | .ownd ks ds => ∃ (a : Addr) (kvs : List (Key × V)), o = some (.ref a) ∧ H a = some (.dK kvs) ∧ Z a = none ∧ (kvs.map fun p => keyD p.1) = ks ∧ Reps K T Z ds (kvs.map (·.2))

/-- the heap grows, what is frozen grows by new objects alone -/
structure Ext (Z H Z' H' : Hp) : Prop where
  zz : Same Z Z'
  hh : Same H H'
  zh : Same Z' H'
  nw : ∀ a o, Z' a = some o → Z a = some o ∨ H a = none

structure Stt (K : PySem.W.Frag) (T : Tb) (Z H : Hp) (σ : L2.St) (ρ : Env) : Prop where
  zh : Same Z H
  len : σ.length = ρ.length
  ok : ∀ (i : Nat) (s : S), ρ[i]? = some s → ∃ o, σ[i]? = some o ∧ SlotOk K T Z H o s
  ne : ∀ (i j : Nat) (s t : S) (a : Addr), i ≠ j → ρ[i]? = some s → ρ[j]? = some t → s.isOwn = true → t.isOwn = true → σ[i]? = some (some (.ref a)) → σ[j]? ≠ some (some (.ref a))

def OwnOk (K : PySem.W.Frag) (T : Tb) (Z' H' H : Hp) (v : V) (s : S) : Prop := SlotOk K T Z' H' (some v) s ∧ (s.isOwn = true → ∀ a, v = .ref a → H a = none)

section
variable {K : PySem.W.Frag} {T : Tb} {Z Z' H H' Z1 H1 Z2 H2 : Hp} {σ : L2.St} {ρ : Env}
theorem Ext.refl (h : Same Z H) : Ext Z H Z H := ⟨Same.refl _, Same.refl _, h, fun a o e => .inl e⟩
theorem same_none {a : Addr} (e : Same H H') (h : H' a = none) : H a = none := by
  cases q : H a with
  | none => rfl
  | some o => rw [e a o q] at h; cases h
theorem Ext.trans (a : Ext Z H Z1 H1) (b : Ext Z1 H1 Z2 H2) : Ext Z H Z2 H2 := ⟨a.zz.trans b.zz, a.hh.trans b.hh, b.zh, fun x o e => by
  rcases b.nw x o e with h | h
  · exact a.nw x o h
  · exact .inr (same_none a.hh h)⟩
theorem same_upd {p : Addr} {o : HO} (h : H p = none) : Same H (upd H p o) := fun a u e => by
  rw [upd_ne (ne_of_none e h)]
  exact e
/-- a new object, frozen -/
theorem Ext.frozen {p : Addr} {o : HO} (zh : Same Z H) (h : H p = none) : Ext Z H (upd Z p o) (upd H p o) :=
  ⟨same_upd (same_none zh h), same_upd h, fun a u e => by
    by_cases q : a = p
    · subst q; rw [upd_same] at e ⊢; exact e
    · rw [upd_ne q] at e ⊢; exact zh a u e, fun a u e => by
    by_cases q : a = p
    · subst q; exact .inr h
    · rw [upd_ne q] at e; exact .inl e⟩
/-- a new object, one's own -/
theorem Ext.mine {p : Addr} {o : HO} (zh : Same Z H) (h : H p = none) : Ext Z H Z (upd H p o) :=
  ⟨Same.refl _, same_upd h, zh.trans (same_upd h), fun a u e => .inl e⟩
theorem SlotOk.ext {o : Option V} {s : S} (e : Ext Z H Z' H') (h : SlotOk K T Z H o s) : SlotOk K T Z' H' o s := by
  cases s with
  | no => exact h
  | dat d =>
    obtain ⟨v, h1, h2⟩ := h
    exact ⟨v, h1, Rep.mono e.zz d v h2⟩
  | own ds =>
    obtain ⟨a, xs, h1, h2, h3, h4⟩ := h
    refine ⟨a, xs, h1, e.hh _ _ h2, ?_, Reps.mono e.zz ds xs h4⟩
    cases q : Z' a with
    | none => rfl
    | some o =>
      rcases e.nw a o q with z | z
      · rw [h3] at z; cases z
      · rw [h2] at z; cases z
  | ownd ks ds =>
    obtain ⟨a, xs, h1, h2, h3, h5, h4⟩ := h
    refine ⟨a, xs, h1, e.hh _ _ h2, ?_, h5, Reps.mono e.zz ds _ h4⟩
    cases q : Z' a with
    | none => rfl
    | some o =>
      rcases e.nw a o q with z | z
      · rw [h3] at z; cases z
      · rw [h2] at z; cases z
theorem Stt.ext (e : Ext Z H Z' H') (h : Stt K T Z H σ ρ) : Stt K T Z' H' σ ρ :=
  ⟨e.zh, h.len, fun i s hi => let ⟨o, h1, h2⟩ := h.ok i s hi; ⟨o, h1, h2.ext e⟩, h.ne⟩
theorem Stt.var {i : Nat} {d : D} (h : Stt K T Z H σ ρ) (e : ρ[i]? = some (.dat d)) : ∃ v, σ[i]? = some (some v) ∧ Rep K T Z d v := by
  obtain ⟨o, h1, v, rfl, h2⟩ := h.ok i _ e
  exact ⟨v, h1, h2⟩
theorem own_adr {o : Option V} {s : S} (h : SlotOk K T Z H o s) (w : s.isOwn = true) : ∃ a, o = some (.ref a) ∧ H a ≠ none ∧ Z a = none := by
  cases s with
  | no => cases w
  | dat d => cases w
  | own ds =>
    obtain ⟨a, xs, h1, h2, h3, h4⟩ := h
    exact ⟨a, h1, by rw [h2]; simp, h3⟩
  | ownd ks ds =>
    obtain ⟨a, xs, h1, h2, h3, h4⟩ := h
    exact ⟨a, h1, by rw [h2]; simp, h3⟩
/-- an owned thing becomes frozen -/
def frzS : S → Option D
  | .no => none
  | .dat d => some d
  | .own ds => some (.lst ds)
  | .ownd ks ds => some (.dct ks ds)
theorem OwnOk.frz {v : V} {s : S} {d : D} (e : Ext Z H Z' H') (h : OwnOk K T Z' H' H v s) (hd : frzS s = some d) : ∃ Z2, Ext Z H Z2 H' ∧ Rep K T Z2 d v := by
  obtain ⟨h, hn⟩ := h
  cases s with
  | no => cases hd
  | dat d' =>
    cases hd
    obtain ⟨w, h1, h2⟩ := h
    cases h1
    exact ⟨Z', e, h2⟩
  | own ds =>
    cases hd
    obtain ⟨a, xs, h1, h2, h3, h4⟩ := h
    cases h1
    have hz : Same Z' (upd Z' a (.lst xs)) := same_upd h3
    refine ⟨upd Z' a (.lst xs), ⟨e.zz.trans hz, e.hh, fun b o q => ?_, fun b o q => ?_⟩, ⟨a, xs, rfl, upd_same, Reps.mono hz ds xs h4⟩⟩
    · by_cases z : b = a
      · subst z; rw [upd_same] at q; rw [h2]; exact q
      · rw [upd_ne z] at q; exact e.zh b o q
    · by_cases z : b = a
      · subst z; exact .inr (hn rfl _ rfl)
      · rw [upd_ne z] at q; exact e.nw b o q
  | ownd ks ds =>
    cases hd
    obtain ⟨a, xs, h1, h2, h3, h5, h4⟩ := h
    cases h1
    have hz : Same Z' (upd Z' a (.dK xs)) := same_upd h3
    refine ⟨upd Z' a (.dK xs), ⟨e.zz.trans hz, e.hh, fun b o q => ?_, fun b o q => ?_⟩, ⟨a, xs, rfl, .inl upd_same, h5, Reps.mono hz ds _ h4⟩⟩
    · by_cases z : b = a
      · subst z; rw [upd_same] at q; rw [h2]; exact q
      · rw [upd_ne z] at q; exact e.zh b o q
    · by_cases z : b = a
      · subst z; exact .inr (hn rfl _ rfl)
      · rw [upd_ne z] at q; exact e.nw b o q
end

/-! ### what a reading gives -/
section
variable (K : PySem.W.Frag) (T : Tb) (W : WX)
abbrev EF (α : Type) := Env → Option (Except Nat α)
def SemE (te : TE) (f : EF D) : Prop := ∀ Z H σ ρ, Stt K T Z H σ ρ → ∀ r, f ρ = some r → ∀ Q : VK, (match r with
  | .ok d => ∀ v Z' H', Ext Z H Z' H' → Rep K T Z' d v → Q v H'
  | .error c => ∀ Z' H', Ext Z H Z' H' → W (.ref (T.adr c)) none σ H') → te σ H Q
def SemO (te : TE) (f : EF S) : Prop := ∀ Z H σ ρ, Stt K T Z H σ ρ → ∀ r, f ρ = some r → ∀ Q : VK, (match r with
  | .ok s => ∀ v Z' H', Ext Z H Z' H' → OwnOk K T Z' H' H v s → Q v H'
  | .error c => ∀ Z' H', Ext Z H Z' H' → W (.ref (T.adr c)) none σ H') → te σ H Q
/-- a thing that is read, perhaps one's own -/
def Pk (Z H : Hp) (d : D) (v : V) : Prop := Rep K T Z d v ∨ (∃ ds a xs, d = .lst ds ∧ v = .ref a ∧ H a = some (.lst xs) ∧ Reps K T Z ds xs) ∨
  ∃ (ks ds : List D) (a : Addr) (kvs : List (Key × V)), d = .dct ks ds ∧ v = .ref a ∧ H a = some (.dK kvs) ∧ (kvs.map fun p => keyD p.1) = ks ∧ Reps K T Z ds (kvs.map (·.2))
def SemP (te : TE) (f : EF D) : Prop := ∀ Z H σ ρ, Stt K T Z H σ ρ → ∀ r, f ρ = some r → ∀ Q : VK, (match r with
  | .ok d => ∀ v Z' H', Ext Z H Z' H' → Pk K T Z' H' d v → Q v H'
  | .error c => ∀ Z' H', Ext Z H Z' H' → W (.ref (T.adr c)) none σ H') → te σ H Q
def SemT (te : TT) (f : EF Bool) : Prop := ∀ Z H σ ρ, Stt K T Z H σ ρ → ∀ r, f ρ = some r → ∀ Q : Bool → Hp → Prop, (match r with
  | .ok b => ∀ Z' H', Ext Z H Z' H' → Q b H'
  | .error c => ∀ Z' H', Ext Z H Z' H' → W (.ref (T.adr c)) none σ H') → te σ H Q
def SemA (te : TA) (f : EF (List D)) : Prop := ∀ Z H σ ρ, Stt K T Z H σ ρ → ∀ r, f ρ = some r → ∀ Q : List V → Hp → Prop, (match r with
  | .ok ds => ∀ vs Z' H', Ext Z H Z' H' → Reps K T Z' ds vs → Q vs H'
  | .error c => ∀ Z' H', Ext Z H Z' H' → W (.ref (T.adr c)) none σ H') → te σ H Q
end
def bnd {α β : Type} (m : Option (Except Nat α)) (k : α → Option (Except Nat β)) : Option (Except Nat β) := match m with
  | some (.ok x) => k x
  | some (.error c) => some (.error c)
  | none => none
@[simp] theorem bnd_ok {α β : Type} (x : α) (k : α → Option (Except Nat β)) : bnd (some (.ok x)) k = k x := rfl
@[simp] theorem bnd_er {α β : Type} (c : Nat) (k : α → Option (Except Nat β)) : bnd (some (.error c)) k = some (.error c) := rfl
def okO {α : Type} : Option α → Option (Except Nat α)
  | some x => some (.ok x)
  | none => none
@[simp] theorem okO_some {α : Type} (x : α) : okO (some x) = some (.ok x) := rfl
@[simp] theorem okO_none {α : Type} : okO (none : Option α) = none := rfl
theorem bnd_cases {α β : Type} {m : Option (Except Nat α)} {k : α → Option (Except Nat β)} {r : Except Nat β} (h : bnd m k = some r) :
    (∃ x, m = some (.ok x) ∧ k x = some r) ∨ ∃ c, m = some (.error c) ∧ r = .error c := by
  unfold bnd at h
  split at h
  · exact .inl ⟨_, rfl, h⟩
  · exact .inr ⟨_, rfl, (Option.some.inj h).symm⟩
  · cases h
theorem okO_cases {α : Type} {m : Option α} {r : Except Nat α} (h : okO m = some r) : ∃ x, m = some x ∧ r = .ok x := by
  cases m with
  | none => cases h
  | some x => exact ⟨x, rfl, (Option.some.inj h).symm⟩

section
variable {K : PySem.W.Frag} {T : Tb} {W : WX} {Z Z' H H' : Hp} {σ : L2.St} {ρ : Env}
theorem Pk.ext {d : D} {v : V} (e : Ext Z H Z' H') (h : Pk K T Z H d v) : Pk K T Z' H' d v := by
  rcases h with h | ⟨ds, a, xs, h1, h2, h3, h4⟩ | ⟨ks, ds, a, xs, h1, h2, h3, h5, h4⟩
  · exact .inl (Rep.mono e.zz d v h)
  · exact .inr (.inl ⟨ds, a, xs, h1, h2, e.hh _ _ h3, Reps.mono e.zz ds xs h4⟩)
  · exact .inr (.inr ⟨ks, ds, a, xs, h1, h2, e.hh _ _ h3, h5, Reps.mono e.zz ds _ h4⟩)
theorem Pk.lst {ds : List D} {v : V} (h : Pk K T Z H (.lst ds) v) (zh : Same Z H) : ∃ a xs, v = .ref a ∧ H a = some (.lst xs) ∧ Reps K T Z ds xs := by
  rcases h with h | ⟨ds', a, xs, h1, h2, h3, h4⟩ | ⟨_, _, _, _, h1, _⟩
  · obtain ⟨a, xs, h1, h2, h3⟩ := h
    exact ⟨a, xs, h1, zh _ _ h2, h3⟩
  · cases h1
    exact ⟨a, xs, h2, h3, h4⟩
  · cases h1
theorem Pk.rep {d : D} {v : V} (h : Pk K T Z H d v) (n1 : ∀ ds, d ≠ .lst ds) (n2 : ∀ ks ds, d ≠ .dct ks ds) : Rep K T Z d v := by
  rcases h with h | ⟨ds', a, xs, h1, h2, h3, h4⟩ | ⟨_, _, _, _, h1, _⟩
  · exact h
  · exact absurd h1 (n1 _)
  · exact absurd h1 (n2 _ _)
theorem Pk.dct {ks ds : List D} {v : V} (h : Pk K T Z H (.dct ks ds) v) (zh : Same Z H) : ∃ (a : Addr) (kvs : List (Key × V)), v = .ref a ∧ Rd H a (.dK kvs) ∧ (kvs.map fun p => keyD p.1) = ks ∧ Reps K T Z ds (kvs.map (·.2)) := by
  rcases h with h | ⟨ds', a, xs, h1, h2, h3, h4⟩ | ⟨_, _, a, kvs, h1, h2, h3, h4, h5⟩
  · obtain ⟨a, kvs, h1, h2, h4, h3⟩ := h
    exact ⟨a, kvs, h1, Same.rd zh h2, h4, h3⟩
  · cases h1
  · cases h1
    exact ⟨a, kvs, h2, .inl h3, h4, h5⟩
def seqOf : D → Option (List D)
  | .tup ds => some ds
  | .lst ds => some ds
  | .lsr ds => some ds
  | _ => none
theorem Pk.seq {d : D} {ds : List D} {v : V} (h : Pk K T Z H d v) (zh : Same Z H) (e : seqOf d = some ds) : ∃ a xs, v = .ref a ∧ (SqL K H a xs ∨ SqT K H a xs) ∧ Reps K T Z ds xs := by
  cases d with
  | tup es =>
    cases e
    obtain ⟨a, xs, h1, h2, h3⟩ := h.rep (by simp) (by simp)
    exact ⟨a, xs, h1, .inr (Same.sqT zh h2), h3⟩
  | lst es =>
    cases e
    obtain ⟨a, xs, h1, h2, h3⟩ := h.lst zh
    exact ⟨a, xs, h1, .inl (SqL.of h2), h3⟩
  | lsr es =>
    cases e
    obtain ⟨a, xs, h1, h2, h3⟩ := h.rep (by simp) (by simp)
    exact ⟨a, xs, h1, .inl (Same.sqL zh h2), h3⟩
  | _ => cases e
theorem SemE.p {te : TE} {f : EF D} (h : SemE K T W te f) : SemP K T W te f := fun Z H σ ρ st r hr Q q => h Z H σ ρ st r hr Q (by
  cases r with
  | ok d => exact fun v Z' H' e rp => q v Z' H' e (.inl rp)
  | error c => exact q)
def datE (f : EF D) : EF S := fun ρ => bnd (f ρ) fun d => some (.ok (.dat d))
theorem SemE.o {te : TE} {f : EF D} (h : SemE K T W te f) : SemO K T W te (datE f) := fun Z H σ ρ st r hr Q q => by
  rcases bnd_cases hr with ⟨d, h1, h2⟩ | ⟨c, h1, h2⟩
  · cases h2
    exact h Z H σ ρ st _ h1 Q fun v Z' H' e rp => q v Z' H' e ⟨⟨v, rfl, rp⟩, fun z => by cases z⟩
  · cases h2
    exact h Z H σ ρ st _ h1 Q q
def frzF (f : EF S) : EF D := fun ρ => bnd (f ρ) fun s => okO (frzS s)
theorem SemO.e {te : TE} {f : EF S} (h : SemO K T W te f) : SemE K T W te (frzF f) := fun Z H σ ρ st r hr Q q => by
  rcases bnd_cases hr with ⟨d, h1, h2⟩ | ⟨c, h1, h2⟩
  · obtain ⟨x, h3, h4⟩ := okO_cases h2
    cases h4
    refine h Z H σ ρ st _ h1 Q fun v Z' H' e rp => ?_
    obtain ⟨Z2, e2, rp2⟩ := rp.frz e h3
    exact q v Z2 H' e2 rp2
  · cases h2
    exact h Z H σ ρ st _ h1 Q q
end
end DL

set_option Elab.async false
set_option linter.all false
set_option maxRecDepth 100000
set_option maxHeartbeats 4000000
namespace DL
open PySem L2

/-! ### a family of contexts that differ in what the code does not see -/
structure Fam where
  I : Type
  P : Program
  w : World
  K : PySem.W.Frag
  mg : Str → Option Value
  base : Heap
  N : List Str
  A : I → Around
  s0 : I → Shared
  H0 : I → Hp
  env : I → PySem.Env
  outer : I → List PySem.Env
  stack : I → List PySem.Env
  ex : I → List Addr
  fn : I → Str → Bool
  pn : I → List (Addr × Obj)
  xe : I → Value → Shared → Prop
abbrev Fam.X (F : Fam) (i : F.I) : Cx where
  prog := F.P
  w := F.w
  K := F.K
  mg := F.mg
  base := F.base
  A := F.A i
  N := F.N
  s_0 := F.s0 i
  H_0 := F.H0 i
  env := F.env i
  outer := F.outer i
  stack := F.stack i
  ex := F.ex i
  calm := true
  fn := F.fn i
  pn := F.pn i
  xe := F.xe i
structure FOk (F : Fam) (W : WX) (k : Nat) : Prop where
  nd : F.N.Nodup
  tk : ∀ i, Takes (F.X i) W
  po : ∀ i, PassesOwn (model F.P F.w) (F.A i) (F.env i) (F.xe i)
  hr : ∀ i, Room k (F.A i)
/-- a comprehension's block -/
abbrev Fam.blk (F : Fam) (scope : Scope) : Fam where
  I := F.I × Shared × Hp × Addr × List (Str × Addr) × List Addr
  P := F.P
  w := F.w
  K := F.K
  mg := F.mg
  base := F.base
  N := F.N
  A := fun i => F.A i.1
  s0 := fun i => i.2.1
  H0 := fun i => i.2.2.1
  env := fun i => compEnvC scope i.2.2.2.2.1 i.2.2.2.1 (F.env i.1)
  outer := fun i => F.stack i.1
  stack := fun i => F.stack i.1
  ex := fun i => i.2.2.2.2.2
  fn := fun i x => scope.names.lookup x == some .cell
  pn := fun i => []
  xe := fun i _ _ => False
abbrev W0 : WX := fun _ _ _ _ => False
theorem FOk.blk {F : Fam} {W : WX} {k : Nat} (h : FOk F W k) (scope : Scope) : FOk (F.blk scope) W0 k := ⟨h.nd, fun _ => takes0, fun _ => PassesOwn.never, fun i => h.hr i.1⟩
abbrev Fam.of (X : Cx) : Fam where
  I := Unit
  P := X.prog
  w := X.w
  K := X.K
  mg := X.mg
  base := X.base
  N := X.N
  A := fun _ => X.A
  s0 := fun _ => X.s_0
  H0 := fun _ => X.H_0
  env := fun _ => X.env
  outer := fun _ => X.outer
  stack := fun _ => X.stack
  ex := fun _ => X.ex
  fn := fun _ => X.fn
  pn := fun _ => X.pn
  xe := fun _ => X.xe

section
variable (F : Fam) (T : Tb) (W : WX)
structure DE (e : Expr) (f : EF D) : Prop where
  ex : ∃ te, (∀ i, PE (F.X i) e te) ∧ SemE F.K T W te f
structure DO (e : Expr) (f : EF S) : Prop where
  ex : ∃ te, (∀ i, PE (F.X i) e te) ∧ SemO F.K T W te f
structure DP (e : Expr) (f : EF D) : Prop where
  ex : ∃ te, (∀ i, PE (F.X i) e te) ∧ SemP F.K T W te f
structure DT (e : Expr) (f : EF Bool) : Prop where
  ex : ∃ te, (∀ i, PT (F.X i) e te) ∧ SemT F.K T W te f
structure DWt (e : Expr) (f : EF Bool) : Prop where
  ex : ∃ te, (∀ i, PW (F.X i) e te) ∧ SemT F.K T W te f
structure DA (es : List Expr) (f : EF (List D)) : Prop where
  ex : ∃ te, (∀ i, PA (F.X i) es te) ∧ SemA F.K T W te f
end

theorem sz24 {n : Nat} (h : n ≤ sizeLine) : n ≤ 16777216 := by rw [sizeLine_eq] at h; exact h
/-! ### operations on data -/
mutual
def toPy : D → Option PyData
  | .non => some .none
  | .bl b => some (.bool b)
  | .int i => some (.int i)
  | .str x => some (.str x)
  | .tup ds => (toPys ds).map .tuple
  | .lst ds => (toPys ds).map .list
  | .lsr ds => (toPys ds).map .list
  | .ins _ _ => none
  | .dct _ _ => none
def toPys : List D → Option (List PyData)
  | [] => some []
  | d :: ds => match toPy d, toPys ds with
    | some x, some xs => some (x :: xs)
    | _, _ => none
end
section
variable {K : PySem.W.Frag} {T : Tb} {Z H : Hp}
mutual
theorem Rep.dp (zh : Same Z H) : ∀ (d : D) (v : V) (p : PyData), Rep K T Z d v → toPy d = some p → Dp K H v p
  | .non, v, p, h, e => by cases e; cases (show v = .non from h); exact .non
  | .bl b, v, p, h, e => by cases e; cases (show v = .bl b from h); exact .bl b
  | .int b, v, p, h, e => by cases e; cases (show v = .int b from h); exact .int b
  | .str b, v, p, h, e => by cases e; cases (show v = .str b from h); exact .str b
  | .tup ds, v, p, h, e => by
    obtain ⟨a, xs, h1, h2, h3⟩ := h
    obtain ⟨ps, e1, e2⟩ := Option.map_eq_some_iff.mp (show (toPys ds).map PyData.tuple = some p from e)
    subst h1 e2
    exact .tup (Same.sqT zh h2) (Reps.dp zh ds xs ps h3 e1)
  | .lst ds, v, p, h, e => by
    obtain ⟨a, xs, h1, h2, h3⟩ := h
    obtain ⟨ps, e1, e2⟩ := Option.map_eq_some_iff.mp (show (toPys ds).map PyData.list = some p from e)
    subst h1 e2
    exact .lst (SqL.of (zh _ _ h2)) (Reps.dp zh ds xs ps h3 e1)
  | .lsr ds, v, p, h, e => by
    obtain ⟨a, xs, h1, h2, h3⟩ := h
    obtain ⟨ps, e1, e2⟩ := Option.map_eq_some_iff.mp (show (toPys ds).map PyData.list = some p from e)
    subst h1 e2
    exact .lst (Same.sqL zh h2) (Reps.dp zh ds xs ps h3 e1)
  | .ins _ _, v, p, h, e => by cases e
  | .dct _ _, v, p, h, e => by cases e
theorem Reps.dp (zh : Same Z H) : ∀ (ds : List D) (vs : List V) (ps : List PyData), Reps K T Z ds vs → toPys ds = some ps → DpAll K H vs ps
  | [], vs, ps, h, e => by
    cases e
    rw [reps_nil h]
    exact .nil
  | d :: ds, vs, ps, h, e => by
    obtain ⟨v, r, h1, h2, h3⟩ := reps_cons h
    subst h1
    unfold toPys at e
    split at e
    · rename_i x xs hx hxs
      cases e
      exact .cons (Rep.dp zh d v x h2 hx) (Reps.dp zh ds r xs h3 hxs)
    · cases e
end
theorem Pk.dp {d : D} {v : V} {p : PyData} (h : Pk K T Z H d v) (zh : Same Z H) (e : toPy d = some p) : Dp K H v p := by
  rcases h with h | ⟨ds, a, xs, h1, h2, h3, h4⟩ | ⟨ks, ds, a, xs, h1, h2, h3, h5, h4⟩
  · exact Rep.dp zh d v p h e
  · subst h1 h2
    obtain ⟨ps, e1, e2⟩ := Option.map_eq_some_iff.mp (show (toPys ds).map PyData.list = some p from e)
    subst e2
    exact .lst (SqL.of h3) (Reps.dp zh ds xs ps h4 e1)
  · subst h1
    cases e
end
/-- what two-place operations do -/
def RB (K : PySem.W.Frag) (T : Tb) (r : R2) (g : D → D → Option D) : Prop := ∀ Z H x y z v w, Same Z H → Pk K T Z H x v → Pk K T Z H y w → g x y = some z → ∀ Q : VK, (∀ u Z' H', Ext Z H Z' H' → Rep K T Z' z u → Q u H') → r v w H Q
def RBO (K : PySem.W.Frag) (T : Tb) (r : R2) (g : D → D → Option S) : Prop := ∀ Z H x y z v w, Same Z H → Pk K T Z H x v → Pk K T Z H y w → g x y = some z → ∀ Q : VK, (∀ u Z' H', Ext Z H Z' H' → OwnOk K T Z' H' H u z → Q u H') → r v w H Q
def gI (f : Int → Int → Option D) : D → D → Option D
  | .int i, .int j => f i j
  | _, _ => none
def ifO {α : Type} (c : Prop) [Decidable c] (x : α) : Option α := if c then some x else none
theorem ifO_some {α : Type} {c : Prop} [Decidable c] {x y : α} (h : ifO c x = some y) : c ∧ x = y := by
  unfold ifO at h
  split at h
  · exact ⟨by assumption, Option.some.inj h⟩
  · cases h
@[simp] theorem ifO_pos {α : Type} {c : Prop} [Decidable c] {x : α} (h : c) : ifO c x = some x := if_pos h
section
variable {K : PySem.W.Frag} {T : Tb} {Z H : Hp}
theorem rb_int {r : R2} {f : Int → Int → Option D} (h : ∀ Z H i j z, Same Z H → f i j = some z → ∀ Q : VK, (∀ u, Rep K T Z z u → Q u H) → r (.int i) (.int j) H Q) : RB K T r (gI f) := by
  intro Z H x y z v w zh hx hy e Q q
  cases x with
  | int i =>
    cases y with
    | int j =>
      cases (show v = .int i from hx.rep (by simp) (by simp))
      cases (show w = .int j from hy.rep (by simp) (by simp))
      exact h Z H i j z zh e Q fun u ru => q u Z H (Ext.refl zh) ru
    | _ => cases e
  | _ => cases e
theorem rb_I0 {g : Int → Int → V} {f : Int → Int → D} (h : ∀ Z i j, Rep K T Z (f i j) (g i j)) : RB K T (rI0 g) (gI fun i j => some (f i j)) := rb_int fun Z H i j z zh e Q q => by
  cases e
  exact ⟨i, j, rfl, rfl, q _ (h Z i j)⟩
theorem rb_I {C : Int → Int → Prop} [∀ i j, Decidable (C i j)] {g : Int → Int → V} {f : Int → Int → D} (h : ∀ Z i j, Rep K T Z (f i j) (g i j)) : RB K T (rI C g) (gI fun i j => ifO (C i j) (f i j)) := rb_int fun Z H i j z zh e Q q => by
  obtain ⟨c, e⟩ := ifO_some e
  cases e
  exact ⟨i, j, rfl, rfl, c, q _ (h Z i j)⟩
instance : ∀ i j, Decidable (CDivW i j) := fun i j => by unfold CDivW; infer_instance
instance : ∀ i j, Decidable (CMulW i j) := fun i j => by unfold CMulW; infer_instance
instance : ∀ i j, Decidable (CPow i j) := fun i j => by unfold CPow; infer_instance
def gSub := gI fun i j => some (.int (i - j))
def gFdiv := gI fun i j => ifO (CDivW i j) (.int (i / j))
def gMod := gI fun i j => ifO (0 < j) (.int (i % j))
def gPow := gI fun i j => ifO (CPow i j) (.int (i ^ j.toNat))
def gMul := gI fun i j => ifO (CMulW i j) (.int (i * j))
def gLt := gI fun i j => some (.bl (decide (i < j)))
def gLe := gI fun i j => some (.bl (decide (i ≤ j)))
def gGt := gI fun i j => some (.bl (decide (j < i)))
def gGe := gI fun i j => some (.bl (decide (j ≤ i)))
theorem rb_sub : RB K T (rI0 fun i j => .int (i - j)) gSub := rb_I0 fun _ _ _ => rfl
theorem rb_fdiv : RB K T (rI CDivW fun i j => .int (i / j)) gFdiv := rb_I fun _ _ _ => rfl
theorem rb_mod : RB K T (rI (fun _ j => 0 < j) fun i j => .int (i % j)) gMod := rb_I fun _ _ _ => rfl
theorem rb_pow : RB K T (rI CPow fun i j => .int (i ^ j.toNat)) gPow := rb_I fun _ _ _ => rfl
theorem rb_mul : RB K T (rI CMulW fun i j => .int (i * j)) gMul := rb_I fun _ _ _ => rfl
theorem rb_lt : RB K T (rI0 fun i j => .bl (decide (i < j))) gLt := rb_I0 fun _ _ _ => rfl
theorem rb_le : RB K T (rI0 fun i j => .bl (decide (i ≤ j))) gLe := rb_I0 fun _ _ _ => rfl
theorem rb_gt : RB K T (rI0 fun i j => .bl (decide (j < i))) gGt := rb_I0 fun _ _ _ => rfl
theorem rb_ge : RB K T (rI0 fun i j => .bl (decide (j ≤ i))) gGe := rb_I0 fun _ _ _ => rfl
/-- == -/
def gEqB (x y : D) : Option Bool := match toPy x, toPy y with
  | some p, some q => ifO (SeqAt.shaped p = true ∧ SeqAt.shaped q = true) (PyData.eqv p q)
  | _, _ => none
def gEq (x y : D) : Option D := (gEqB x y).map .bl
def gNe (x y : D) : Option D := (gEqB x y).map fun b => .bl !b
theorem gEqB_of {x y : D} {b : Bool} (h : gEqB x y = some b) : ∃ p q, toPy x = some p ∧ toPy y = some q ∧ SeqAt.shaped p = true ∧ SeqAt.shaped q = true ∧ PyData.eqv p q = b := by
  unfold gEqB at h
  split at h
  · rename_i p q hp hq
    obtain ⟨⟨c1, c2⟩, e⟩ := ifO_some h
    exact ⟨p, q, hp, hq, c1, c2, e⟩
  · cases h
theorem rb_eq : RB K T (rEqD K) gEq := by
  intro Z H x y z v w zh hx hy e Q q
  obtain ⟨b, e1, e2⟩ := Option.map_eq_some_iff.mp (show (gEqB x y).map D.bl = some z from e)
  obtain ⟨p, p', h1, h2, h3, h4, h5⟩ := gEqB_of e1
  subst e2
  exact ⟨p, p', hx.dp zh h1, hy.dp zh h2, h3, h4, q _ Z H (Ext.refl zh) (by rw [h5]; exact rfl)⟩
theorem rb_ne : RB K T (rNeD K) gNe := by
  intro Z H x y z v w zh hx hy e Q q
  obtain ⟨b, e1, e2⟩ := Option.map_eq_some_iff.mp (show (gEqB x y).map (fun b => D.bl !b) = some z from e)
  obtain ⟨p, p', h1, h2, h3, h4, h5⟩ := gEqB_of e1
  subst e2
  exact ⟨p, p', hx.dp zh h1, hy.dp zh h2, h3, h4, q _ Z H (Ext.refl zh) (by rw [h5]; exact rfl)⟩
/-- a + b -/
def rAddStr : R2 := fun x y H Q => ∃ i j, x = .str i ∧ y = .str j ∧ i.length + j.length ≤ sizeLine ∧ Q (.str (i ++ j)) H
def rAddAll (K : PySem.W.Frag) : R2 := fun x y H Q => (rI0 fun i j => .int (i + j)) x y H Q ∨ (rAddStr x y H Q ∨ (rCat x y H Q ∨ rCatT K x y H Q))
theorem op_addAll {X : Cx} : OpR X (binaryOp .Add) (rAddAll X.K) := op_add.or (op_add_str.or (op_cat.or op_catT))
def gAdd : D → D → Option S
  | .int i, .int j => some (.dat (.int (i + j)))
  | .str i, .str j => ifO (i.length + j.length ≤ sizeLine) (.dat (.str (i ++ j)))
  | .lst xs, .lst ys => ifO (xs.length + ys.length ≤ sizeLine) (.own (xs ++ ys))
  | .tup [], _ => none
  | .tup (x :: xs), .tup ys => ifO ((x :: xs).length + ys.length ≤ sizeLine) (.dat (.tup (x :: xs ++ ys)))
  | _, _ => none
theorem datOk {Z H H2 : Hp} {d : D} {v : V} (h : Rep K T Z d v) : OwnOk K T Z H H2 v (.dat d) := ⟨⟨v, rfl, h⟩, fun z => by cases z⟩
theorem newOk {p : Addr} {xs : List V} {ds : List D} (zh : Same Z H) (hp : H p = none) (h : Reps K T Z ds xs) : OwnOk K T Z (upd H p (.lst xs)) H (.ref p) (.own ds) :=
  ⟨⟨p, xs, rfl, upd_same, same_none zh hp, h⟩, fun _ a e => by cases e; exact hp⟩
theorem newTup {p : Addr} {xs : List V} {ds : List D} (zh : Same Z H) (hp : H p = none) (h : Reps K T Z ds xs) : Rep K T (upd Z p (.tup xs)) (.tup ds) (.ref p) :=
  ⟨p, xs, rfl, SqT.of upd_same, Reps.mono (same_upd (same_none zh hp)) ds xs h⟩
theorem rb_add : RBO K T (rAddAll K) gAdd := by
  intro Z H x y z v w zh hx hy e Q q
  cases x with
  | int i =>
    cases y with
    | int j =>
      cases (show v = .int i from hx.rep (by simp) (by simp))
      cases (show w = .int j from hy.rep (by simp) (by simp))
      cases e
      exact .inl ⟨i, j, rfl, rfl, q _ Z H (Ext.refl zh) (datOk rfl)⟩
    | _ => cases e
  | str i =>
    cases y with
    | str j =>
      cases (show v = .str i from hx.rep (by simp) (by simp))
      cases (show w = .str j from hy.rep (by simp) (by simp))
      obtain ⟨c, e⟩ := ifO_some (show ifO _ _ = some z from e)
      subst e
      exact .inr (.inl ⟨i, j, rfl, rfl, c, q _ Z H (Ext.refl zh) (datOk rfl)⟩)
    | _ => cases e
  | lst xs =>
    cases y with
    | lst ys =>
      obtain ⟨c, e⟩ := ifO_some (show ifO _ _ = some z from e)
      subst e
      obtain ⟨a, us, rfl, h1, h2⟩ := hx.lst zh
      obtain ⟨b, ws, rfl, h3, h4⟩ := hy.lst zh
      refine .inr (.inr (.inl ⟨a, b, us, ws, rfl, rfl, h1, h3, by rw [← h2.length, ← h4.length]; exact c, fun p hp => ?_⟩))
      exact q _ Z _ (Ext.mine zh hp) (newOk zh hp (h2.append h4))
    | _ => cases e
  | tup xs =>
    cases xs with
    | nil => cases y <;> cases e
    | cons x0 xs =>
      cases y with
      | tup ys =>
        obtain ⟨c, e⟩ := ifO_some (show ifO _ _ = some z from e)
        subst e
        obtain ⟨a, us, rfl, h1, h2⟩ := hx.rep (by simp) (by simp)
        obtain ⟨b, ws, rfl, h3, h4⟩ := hy.rep (by simp) (by simp)
        refine .inr (.inr (.inr ⟨a, b, us, ws, rfl, rfl, Same.sqT zh h1, Same.sqT zh h3, ?_, by rw [← h2.length, ← h4.length]; exact c, ?_⟩))
        · intro z
          rw [z] at h2
          obtain ⟨_, _, h, _⟩ := reps_cons h2
          cases h
        · first
            | exact fun p hp => q _ _ _ (Ext.frozen zh hp) (datOk (newTup zh hp (h2.append h4)))
            | (refine ⟨fun hw => ?_, fun hw p hp => q _ _ _ (Ext.frozen zh hp) (datOk (newTup zh hp (h2.append h4)))⟩
               rw [hw] at h4
               have : ys = [] := by
                 cases ys with
                 | nil => rfl
                 | cons y0 yr => obtain ⟨_, _, h, _⟩ := reps_cons h4; cases h
               subst this
               refine q _ Z H (Ext.refl zh) (datOk ?_)
               rw [List.append_nil]
               exact ⟨a, us, rfl, h1, h2⟩)
      | _ => cases e
  | _ => cases y <;> cases e
/-- a * b -/
def rMulAll : R2 := fun x y H Q => (rI CMulW fun i j => .int (i * j)) x y H Q ∨ rRep x y H Q
theorem op_mulAll {X : Cx} : OpR X (binaryOp .Mult) rMulAll := op_mulW.or op_rep
def gMulO : D → D → Option S
  | .int i, .int j => ifO (CMulW i j) (.dat (.int (i * j)))
  | .lst xs, .int k => ifO (k.natAbs ≤ sizeLine ∧ xs.length * k.toNat ≤ sizeLine) (.own (List.replicate k.toNat xs).flatten)
  | _, _ => none
theorem Reps.rep {ds : List D} {vs : List V} (h : Reps K T Z ds vs) : ∀ n : Nat, Reps K T Z (List.replicate n ds).flatten (List.replicate n vs).flatten
  | 0 => Reps.nil
  | n + 1 => by
    rw [List.replicate_succ, List.replicate_succ, List.flatten_cons, List.flatten_cons]
    exact h.append (Reps.rep h n)
theorem rb_mulO : RBO K T rMulAll gMulO := by
  intro Z H x y z v w zh hx hy e Q q
  cases x with
  | int i =>
    cases y with
    | int j =>
      cases (show v = .int i from hx.rep (by simp) (by simp))
      cases (show w = .int j from hy.rep (by simp) (by simp))
      obtain ⟨c, e⟩ := ifO_some (show ifO _ _ = some z from e)
      subst e
      exact .inl ⟨i, j, rfl, rfl, c, q _ Z H (Ext.refl zh) (datOk rfl)⟩
    | _ => cases e
  | lst xs =>
    cases y with
    | int j =>
      cases (show w = .int j from hy.rep (by simp) (by simp))
      obtain ⟨a, us, rfl, h1, h2⟩ := hx.lst zh
      obtain ⟨⟨c1, c2⟩, e⟩ := ifO_some (show ifO _ _ = some z from e)
      subst e
      have c3 := sz24 c1
      refine .inr ⟨a, j, us, rfl, rfl, h1, by omega, by omega, by rw [← h2.length]; exact c2, fun p hp => ?_⟩
      exact q _ Z _ (Ext.mine zh hp) (newOk zh hp (h2.rep _))
    | _ => cases e
  | _ => cases y <;> cases e
end

/-! ### expressions -/
section
variable {F : Fam} {T : Tb} {W : WX} {pos : Pos} {a b e : Expr} {fa fb f : EF D}
theorem DE.p (h : DE F T W e f) : DP F T W e f := let ⟨te, h1, h2⟩ := h.ex; ⟨te, h1, h2.p⟩
theorem DE.o (h : DE F T W e f) : DO F T W e (datE f) := let ⟨te, h1, h2⟩ := h.ex; ⟨te, h1, h2.o⟩
theorem DO.frz {f : EF S} (h : DO F T W e f) : DE F T W e (frzF f) := let ⟨te, h1, h2⟩ := h.ex; ⟨te, h1, h2.e⟩

def eVar (j : Nat) : EF D := fun ρ => match ρ[j]? with
  | some (.dat d) => some (.ok d)
  | _ => none
def eVarP (j : Nat) : EF D := fun ρ => match ρ[j]? with
  | some (.dat d) => some (.ok d)
  | some (.own ds) => some (.ok (.lst ds))
  | some (.ownd ks ds) => some (.ok (.dct ks ds))
  | _ => none
/-- a name whose thing is handed out (return) -/
theorem de_var (j : Nat) {x : Str} (hN : F.N[j]? = some x := by rfl) (hv : ∀ i, Vis (F.X i).env.scope x := by intro _; first | exact Or.inl rfl | exact Or.inr (Or.inl rfl) | exact Or.inr (Or.inr rfl)) (hd : (x == ("__debug__" : Str)) = false := by decide)
    (hcd : (x == ("__classdict__" : Str)) = false := by decide) : DE F T W (.Name x pos) (eVar j) := by
  refine ⟨tVar j, fun i => pe_var hN (hv i) hd hcd, ?_⟩
  intro Z H σ ρ st r hr Q q
  unfold eVar at hr
  split at hr
  · rename_i d hd
    cases hr
    obtain ⟨v, h1, h2⟩ := st.var hd
    exact ⟨v, h1, q v Z H (Ext.refl st.zh) h2⟩
  · cases hr
theorem dp_var (j : Nat) {x : Str} (hN : F.N[j]? = some x := by rfl) (hv : ∀ i, Vis (F.X i).env.scope x := by intro _; first | exact Or.inl rfl | exact Or.inr (Or.inl rfl) | exact Or.inr (Or.inr rfl)) (hd : (x == ("__debug__" : Str)) = false := by decide)
    (hcd : (x == ("__classdict__" : Str)) = false := by decide) : DP F T W (.Name x pos) (eVarP j) := by
  refine ⟨tVar j, fun i => pe_var hN (hv i) hd hcd, ?_⟩
  intro Z H σ ρ st r hr Q q
  unfold eVarP at hr
  split at hr
  · rename_i d hd
    cases hr
    obtain ⟨v, h1, h2⟩ := st.var hd
    exact ⟨v, h1, q v Z H (Ext.refl st.zh) (.inl h2)⟩
  · rename_i ds hd
    cases hr
    obtain ⟨o, h1, a, xs, rfl, h3, h4, h5⟩ := st.ok j _ hd
    exact ⟨_, h1, q _ Z H (Ext.refl st.zh) (.inr (.inl ⟨ds, a, xs, rfl, rfl, h3, h5⟩))⟩
  · rename_i ks ds hd
    cases hr
    obtain ⟨o, h1, a, xs, rfl, h3, h4, h6, h5⟩ := st.ok j _ hd
    exact ⟨_, h1, q _ Z H (Ext.refl st.zh) (.inr (.inr ⟨ks, ds, a, xs, rfl, rfl, h3, h6, h5⟩))⟩
  · cases hr
def eC (d : D) : EF D := fun _ => some (.ok d)
theorem sem_c {K : PySem.W.Frag} {d : D} {v : V} (h : ∀ Z, Rep K T Z d v) : SemE K T W (tC v) (eC d) := fun Z H σ ρ st r hr Q q => by
  cases hr
  exact q v Z H (Ext.refl st.zh) (h Z)
theorem de_int {i : Int} {j} : DE F T W (.Constant (.int i) j pos) (eC (.int i)) := ⟨_, fun _ => pe_int, sem_c fun _ => rfl⟩
theorem de_bl {i : Bool} {j} : DE F T W (.Constant (.bool i) j pos) (eC (.bl i)) := ⟨_, fun _ => pe_bl, sem_c fun _ => rfl⟩
theorem de_non {j} : DE F T W (.Constant .none j pos) (eC .non) := ⟨_, fun _ => pe_non, sem_c fun _ => rfl⟩
theorem de_str {i : Str} {j} : DE F T W (.Constant (.str i) j pos) (eC (.str i)) := ⟨_, fun _ => pe_str, sem_c fun _ => rfl⟩
/-- a module's constant -/
theorem de_glob {x : Str} {v : V} {u : Value} {d : D} (hm : F.mg x = some u) (r : RelV v u) (h : ∀ Z, Rep F.K T Z d v) (hg : ∀ i, Gl (F.X i) x := by intro _; rfl) (hd : (x == ("__debug__" : Str)) = false := by decide) : DE F T W (.Name x pos) (eC d) :=
  ⟨_, fun i => pe_glob (hg i) hm r hd, sem_c h⟩
def eBin (g : D → D → Option D) (fa fb : EF D) : EF D := fun ρ => bnd (fa ρ) fun x => bnd (fb ρ) fun y => okO (g x y)
theorem sem_bin {K : PySem.W.Frag} {r : R2} {g : D → D → Option D} {ta tb : TE} (hr : RB K T r g) (ha : SemP K T W ta fa) (hb : SemP K T W tb fb) : SemE K T W (tOp r ta tb) (eBin g fa fb) := by
  intro Z H σ ρ st c hc Q q
  rcases bnd_cases hc with ⟨x, h1, h2⟩ | ⟨e, h1, h2⟩
  · rcases bnd_cases h2 with ⟨y, h3, h4⟩ | ⟨e, h3, h4⟩
    · obtain ⟨z, h5, h6⟩ := okO_cases h4
      subst h6
      refine ha Z H σ ρ st _ h1 _ fun v Z1 H1 e1 r1 => ?_
      refine hb Z1 H1 σ ρ (st.ext e1) _ h3 _ fun w Z2 H2 e2 r2 => ?_
      exact hr Z2 H2 x y z v w e2.zh (r1.ext e2) r2 h5 Q fun u Z3 H3 e3 r3 => q u Z3 H3 ((e1.trans e2).trans e3) r3
    · subst h4
      refine ha Z H σ ρ st _ h1 _ fun v Z1 H1 e1 r1 => ?_
      exact hb Z1 H1 σ ρ (st.ext e1) _ h3 _ fun Z2 H2 e2 => q Z2 H2 (e1.trans e2)
  · subst h2
    exact ha Z H σ ρ st _ h1 _ q
def eBinO (g : D → D → Option S) (fa fb : EF D) : EF S := fun ρ => bnd (fa ρ) fun x => bnd (fb ρ) fun y => okO (g x y)
theorem OwnOk.back {K : PySem.W.Frag} {Z' H' H1 H : Hp} {v : V} {s : S} (e : Same H H1) (h : OwnOk K T Z' H' H1 v s) : OwnOk K T Z' H' H v s := ⟨h.1, fun w a z => same_none e (h.2 w a z)⟩
theorem sem_binO {K : PySem.W.Frag} {r : R2} {g : D → D → Option S} {ta tb : TE} (hr : RBO K T r g) (ha : SemP K T W ta fa) (hb : SemP K T W tb fb) : SemO K T W (tOp r ta tb) (eBinO g fa fb) := by
  intro Z H σ ρ st c hc Q q
  rcases bnd_cases hc with ⟨x, h1, h2⟩ | ⟨e, h1, h2⟩
  · rcases bnd_cases h2 with ⟨y, h3, h4⟩ | ⟨e, h3, h4⟩
    · obtain ⟨z, h5, h6⟩ := okO_cases h4
      subst h6
      refine ha Z H σ ρ st _ h1 _ fun v Z1 H1 e1 r1 => ?_
      refine hb Z1 H1 σ ρ (st.ext e1) _ h3 _ fun w Z2 H2 e2 r2 => ?_
      exact hr Z2 H2 x y z v w e2.zh (r1.ext e2) r2 h5 Q fun u Z3 H3 e3 r3 => q u Z3 H3 ((e1.trans e2).trans e3) (r3.back (e1.trans e2).hh)
    · subst h4
      refine ha Z H σ ρ st _ h1 _ fun v Z1 H1 e1 r1 => ?_
      exact hb Z1 H1 σ ρ (st.ext e1) _ h3 _ fun Z2 H2 e2 => q Z2 H2 (e1.trans e2)
  · subst h2
    exact ha Z H σ ρ st _ h1 _ q
theorem de_op {op : Operator} {r : R2} {g : D → D → Option D} (ho : ∀ i, OpR (F.X i) (binaryOp op) r) (hr : RB F.K T r g) (ha : DP F T W a fa) (hb : DP F T W b fb) : DE F T W (.BinOp a op b pos) (eBin g fa fb) :=
  let ⟨ta, a1, a2⟩ := ha.ex; let ⟨tb, b1, b2⟩ := hb.ex; ⟨_, fun i => pe_op (ho i) (a1 i) (b1 i), sem_bin hr a2 b2⟩
theorem do_op {op : Operator} {r : R2} {g : D → D → Option S} (ho : ∀ i, OpR (F.X i) (binaryOp op) r) (hr : RBO F.K T r g) (ha : DP F T W a fa) (hb : DP F T W b fb) : DO F T W (.BinOp a op b pos) (eBinO g fa fb) :=
  let ⟨ta, a1, a2⟩ := ha.ex; let ⟨tb, b1, b2⟩ := hb.ex; ⟨_, fun i => pe_op (ho i) (a1 i) (b1 i), sem_binO hr a2 b2⟩
theorem do_add (ha : DP F T W a fa) (hb : DP F T W b fb) : DO F T W (.BinOp a .Add b pos) (eBinO gAdd fa fb) := do_op (fun _ => op_addAll) rb_add ha hb
theorem do_mul (ha : DP F T W a fa) (hb : DP F T W b fb) : DO F T W (.BinOp a .Mult b pos) (eBinO gMulO fa fb) := do_op (fun _ => op_mulAll) rb_mulO ha hb
theorem de_sub (ha : DP F T W a fa) (hb : DP F T W b fb) : DE F T W (.BinOp a .Sub b pos) (eBin gSub fa fb) := de_op (fun _ => op_sub) rb_sub ha hb
theorem de_fdiv (ha : DP F T W a fa) (hb : DP F T W b fb) : DE F T W (.BinOp a .FloorDiv b pos) (eBin gFdiv fa fb) := de_op (fun _ => op_fdivW) rb_fdiv ha hb
theorem de_mod (ha : DP F T W a fa) (hb : DP F T W b fb) : DE F T W (.BinOp a .Mod b pos) (eBin gMod fa fb) := de_op (fun _ => op_mod) rb_mod ha hb
theorem de_pow (ha : DP F T W a fa) (hb : DP F T W b fb) : DE F T W (.BinOp a .Pow b pos) (eBin gPow fa fb) := de_op (fun _ => op_pow) rb_pow ha hb
def eNeg (fa : EF D) : EF D := fun ρ => bnd (fa ρ) fun x => match x with
  | .int i => some (.ok (.int (-i)))
  | _ => none
theorem de_neg (ha : DE F T W a fa) : DE F T W (.UnaryOp .USub a pos) (eNeg fa) := by
  obtain ⟨ta, a1, a2⟩ := ha.ex
  refine ⟨_, fun i => pe_un un_neg (a1 i), ?_⟩
  intro Z H σ ρ st c hc Q q
  rcases bnd_cases hc with ⟨x, h1, h2⟩ | ⟨e, h1, h2⟩
  · cases x with
    | int j =>
      cases h2
      refine a2 Z H σ ρ st _ h1 _ fun v Z1 H1 e1 r1 => ?_
      cases (show v = .int j from r1)
      exact ⟨j, rfl, q _ Z1 H1 e1 rfl⟩
    | _ => cases h2
  · subst h2
    exact a2 Z H σ ρ st _ h1 _ q
/-! comparisons -/
theorem de_cmp {op : CmpOp} {r : R2} {g : D → D → Option D} (ho : ∀ i, OpR (F.X i) (compareOp op) r) (hr : RB F.K T r g) (ha : DP F T W a fa) (hb : DP F T W b fb) (hm : behindInMarks op b = false) : DE F T W (.Compare a [op] [b] pos) (eBin g fa fb) :=
  let ⟨ta, a1, a2⟩ := ha.ex; let ⟨tb, b1, b2⟩ := hb.ex; ⟨_, fun i => pe_cmpR (ho i) (a1 i) (b1 i) hm, sem_bin hr a2 b2⟩
theorem de_lt (ha : DP F T W a fa) (hb : DP F T W b fb) : DE F T W (.Compare a [.Lt] [b] pos) (eBin gLt fa fb) := de_cmp (fun _ => op_lt) rb_lt ha hb (nomark _)
theorem de_le (ha : DP F T W a fa) (hb : DP F T W b fb) : DE F T W (.Compare a [.LtE] [b] pos) (eBin gLe fa fb) := de_cmp (fun _ => op_le) rb_le ha hb (nomark _)
theorem de_gt (ha : DP F T W a fa) (hb : DP F T W b fb) : DE F T W (.Compare a [.Gt] [b] pos) (eBin gGt fa fb) := de_cmp (fun _ => op_gt) rb_gt ha hb (nomark _)
theorem de_ge (ha : DP F T W a fa) (hb : DP F T W b fb) : DE F T W (.Compare a [.GtE] [b] pos) (eBin gGe fa fb) := de_cmp (fun _ => op_ge) rb_ge ha hb (nomark _)
theorem room_units {k : Nat} {A : Around} (r : Room k A) : A.units + 64 < cLine := by have := r.un; omega
theorem de_eq {k : Nat} (ok : FOk F W k) (ha : DP F T W a fa) (hb : DP F T W b fb) : DE F T W (.Compare a [.Eq] [b] pos) (eBin gEq fa fb) := de_cmp (fun i => op_eqD (room_units (ok.hr i))) rb_eq ha hb (nomark _)
theorem de_ne {k : Nat} (ok : FOk F W k) (ha : DP F T W a fa) (hb : DP F T W b fb) : DE F T W (.Compare a [.NotEq] [b] pos) (eBin gNe fa fb) := de_cmp (fun i => op_neD (room_units (ok.hr i))) rb_ne ha hb (nomark _)
end
end DL

set_option Elab.async false
set_option linter.all false
set_option maxRecDepth 100000
set_option maxHeartbeats 400000
namespace DL
open PySem L2

/-! ### tests -/
section
variable {F : Fam} {T : Tb} {W : WX} {pos : Pos} {a b c e : Expr} {rest : List Expr} {fa fb f : EF D} {ga gb : EF Bool} {K : PySem.W.Frag}
def toB (f : EF D) : EF Bool := fun ρ => bnd (f ρ) fun d => match d with
  | .bl b => some (.ok b)
  | _ => none
theorem toB_cases {f : EF D} {ρ : Env} {r : Except Nat Bool} (h : toB f ρ = some r) : (∃ b, f ρ = some (.ok (.bl b)) ∧ r = .ok b) ∨ ∃ c, f ρ = some (.error c) ∧ r = .error c := by
  rcases bnd_cases h with ⟨d, h1, h2⟩ | ⟨c, h1, h2⟩
  · cases d with
    | bl b => cases h2; exact .inl ⟨b, h1, rfl⟩
    | _ => cases h2
  · exact .inr ⟨c, h1, h2⟩
theorem sem_tB {te : TE} (h : SemE K T W te f) : SemT K T W (tB te) (toB f) := fun Z H σ ρ st r hr Q q => by
  rcases toB_cases hr with ⟨b, h1, h2⟩ | ⟨c, h1, h2⟩
  · subst h2
    exact h Z H σ ρ st _ h1 _ fun v Z1 H1 e1 r1 => ⟨b, r1, q Z1 H1 e1⟩
  · subst h2
    exact h Z H σ ρ st _ h1 _ q
theorem sem_tTest {te : TE} (h : SemE K T W te f) : SemT K T W (tTest te) (toB f) := sem_tB h
theorem dt_val (h : DE F T W e f) (he : ∀ i whole, isTrue e (F.X i).env whole = (do let v ← whole; standAt e.pos; holding [v] (truthy v)) := by intro _ _; rfl) : DT F T W e (toB f) :=
  let ⟨te, h1, h2⟩ := h.ex; ⟨_, fun i => pt_val (h1 i) (he i), sem_tB h2⟩
theorem dt_cmp {op : CmpOp} {r : R2} {g : D → D → Option D} (ho : ∀ i, OpR (F.X i) (compareOp op) r) (hr : RB F.K T r g) (ha : DP F T W a fa) (hb : DP F T W b fb) (hm : behindInMarks op b = false) : DT F T W (.Compare a [op] [b] pos) (toB (eBin g fa fb)) :=
  let ⟨ta, a1, a2⟩ := ha.ex; let ⟨tb, b1, b2⟩ := hb.ex; ⟨_, fun i => pt_cmpR (ho i) (a1 i) (b1 i) hm, sem_tTest (sem_bin hr a2 b2)⟩
theorem dt_lt (ha : DP F T W a fa) (hb : DP F T W b fb) : DT F T W (.Compare a [.Lt] [b] pos) (toB (eBin gLt fa fb)) := dt_cmp (fun _ => op_lt) rb_lt ha hb (nomark _)
theorem dt_le (ha : DP F T W a fa) (hb : DP F T W b fb) : DT F T W (.Compare a [.LtE] [b] pos) (toB (eBin gLe fa fb)) := dt_cmp (fun _ => op_le) rb_le ha hb (nomark _)
theorem dt_gt (ha : DP F T W a fa) (hb : DP F T W b fb) : DT F T W (.Compare a [.Gt] [b] pos) (toB (eBin gGt fa fb)) := dt_cmp (fun _ => op_gt) rb_gt ha hb (nomark _)
theorem dt_ge (ha : DP F T W a fa) (hb : DP F T W b fb) : DT F T W (.Compare a [.GtE] [b] pos) (toB (eBin gGe fa fb)) := dt_cmp (fun _ => op_ge) rb_ge ha hb (nomark _)
theorem dt_eq {k : Nat} (ok : FOk F W k) (ha : DP F T W a fa) (hb : DP F T W b fb) : DT F T W (.Compare a [.Eq] [b] pos) (toB (eBin gEq fa fb)) := dt_cmp (fun i => op_eqD (room_units (ok.hr i))) rb_eq ha hb (nomark _)
theorem dt_ne {k : Nat} (ok : FOk F W k) (ha : DP F T W a fa) (hb : DP F T W b fb) : DT F T W (.Compare a [.NotEq] [b] pos) (toB (eBin gNe fa fb)) := dt_cmp (fun i => op_neD (room_units (ok.hr i))) rb_ne ha hb (nomark _)
/-- a < b < c -/
def eChain (g g' : D → D → Option D) (fa fb fc : EF D) : EF D := fun ρ => bnd (fa ρ) fun x => bnd (fb ρ) fun y => match g x y with
  | some (.bl true) => bnd (fc ρ) fun z => okO (g' y z)
  | some (.bl false) => some (.ok (.bl false))
  | _ => none
/-- is None, is not None -/
def isNon : D → Bool
  | .non => true
  | _ => false
theorem isNon_iff {Z : Hp} {d : D} {v : V} (h : Rep K T Z d v) : decide (v = .non) = isNon d := by
  cases d with
  | non => cases (show v = .non from h); rfl
  | bl b => cases (show v = .bl b from h); rfl
  | int b => cases (show v = .int b from h); rfl
  | str b => cases (show v = .str b from h); rfl
  | tup ds => obtain ⟨a, _, rfl, _⟩ := h; rfl
  | lst ds => obtain ⟨a, _, rfl, _⟩ := h; rfl
  | lsr ds => obtain ⟨a, _, rfl, _⟩ := h; rfl
  | ins c ds => obtain ⟨a, _, _, rfl, _⟩ := h; rfl
  | dct c ds => obtain ⟨a, _, rfl, _⟩ := h; rfl
theorem isNon_pk {Z H : Hp} {d : D} {v : V} (h : Pk K T Z H d v) : decide (v = .non) = isNon d := by
  rcases h with h | ⟨ds, a, xs, h1, h2, _⟩ | ⟨ks, ds, a, xs, h1, h2, _⟩
  · exact isNon_iff h
  · subst h1 h2; rfl
  · subst h1 h2; rfl
def gIs (x y : D) : Option D := match y with
  | .non => some (.bl (isNon x))
  | _ => none
def gIsN (x y : D) : Option D := match y with
  | .non => some (.bl (!isNon x))
  | _ => none
theorem rb_is : RB K T (fun x y H Q => y = .non ∧ Q (.bl (decide (x = .non))) H) gIs := by
  intro Z H x y z v w zh hx hy e Q q
  cases y with
  | non =>
    cases e
    refine ⟨hy.rep (by simp) (by simp), q _ Z H (Ext.refl zh) ?_⟩
    rw [isNon_pk hx]
    exact rfl
  | _ => cases e
theorem rb_isN : RB K T (fun x y H Q => y = .non ∧ Q (.bl (!decide (x = .non))) H) gIsN := by
  intro Z H x y z v w zh hx hy e Q q
  cases y with
  | non =>
    cases e
    refine ⟨hy.rep (by simp) (by simp), q _ Z H (Ext.refl zh) ?_⟩
    rw [isNon_pk hx]
    exact rfl
  | _ => cases e
theorem dt_is (ha : DP F T W a fa) (hb : DP F T W b fb) : DT F T W (.Compare a [.Is] [b] pos) (toB (eBin gIs fa fb)) := dt_cmp (fun _ => op_isN) rb_is ha hb (nomark _)
theorem dt_isn (ha : DP F T W a fa) (hb : DP F T W b fb) : DT F T W (.Compare a [.IsNot] [b] pos) (toB (eBin gIsN fa fb)) := dt_cmp (fun _ => op_notN) rb_isN ha hb (nomark _)
theorem de_is (ha : DP F T W a fa) (hb : DP F T W b fb) : DE F T W (.Compare a [.Is] [b] pos) (eBin gIs fa fb) := de_cmp (fun _ => op_isN) rb_is ha hb (nomark _)
theorem de_isn (ha : DP F T W a fa) (hb : DP F T W b fb) : DE F T W (.Compare a [.IsNot] [b] pos) (eBin gIsN fa fb) := de_cmp (fun _ => op_notN) rb_isN ha hb (nomark _)

def bAnd (ga gb : EF Bool) : EF Bool := fun ρ => bnd (ga ρ) fun x => match x with
  | true => gb ρ
  | false => some (.ok false)
def bOr (ga gb : EF Bool) : EF Bool := fun ρ => bnd (ga ρ) fun x => match x with
  | true => some (.ok true)
  | false => gb ρ
def bNot (ga : EF Bool) : EF Bool := fun ρ => bnd (ga ρ) fun x => some (.ok (!x))
theorem sem_and {t u : TT} (ha : SemT K T W t ga) (hb : SemT K T W u gb) : SemT K T W (tAnd t u) (bAnd ga gb) := fun Z H σ ρ st r hr Q q => by
  rcases bnd_cases hr with ⟨x, h1, h2⟩ | ⟨c, h1, h2⟩
  · refine ha Z H σ ρ st _ h1 _ fun Z1 H1 e1 => ?_
    cases x with
    | true =>
      show u σ H1 Q
      refine hb Z1 H1 σ ρ (st.ext e1) _ h2 Q ?_
      cases r with
      | ok b => exact fun Z2 H2 e2 => q Z2 H2 (e1.trans e2)
      | error c => exact fun Z2 H2 e2 => q Z2 H2 (e1.trans e2)
    | false =>
      show Q false H1
      cases h2
      exact q Z1 H1 e1
  · subst h2
    exact ha Z H σ ρ st _ h1 _ q
theorem sem_or {t u : TT} (ha : SemT K T W t ga) (hb : SemT K T W u gb) : SemT K T W (tOr t u) (bOr ga gb) := fun Z H σ ρ st r hr Q q => by
  rcases bnd_cases hr with ⟨x, h1, h2⟩ | ⟨c, h1, h2⟩
  · refine ha Z H σ ρ st _ h1 _ fun Z1 H1 e1 => ?_
    cases x with
    | false =>
      show u σ H1 Q
      refine hb Z1 H1 σ ρ (st.ext e1) _ h2 Q ?_
      cases r with
      | ok b => exact fun Z2 H2 e2 => q Z2 H2 (e1.trans e2)
      | error c => exact fun Z2 H2 e2 => q Z2 H2 (e1.trans e2)
    | true =>
      show Q true H1
      cases h2
      exact q Z1 H1 e1
  · subst h2
    exact ha Z H σ ρ st _ h1 _ q
theorem sem_not {t : TT} (ha : SemT K T W t ga) : SemT K T W (tNot t) (bNot ga) := fun Z H σ ρ st r hr Q q => by
  rcases bnd_cases hr with ⟨x, h1, h2⟩ | ⟨c, h1, h2⟩
  · cases h2
    exact ha Z H σ ρ st _ h1 _ fun Z1 H1 e1 => q Z1 H1 e1
  · subst h2
    exact ha Z H σ ρ st _ h1 _ q
theorem DWt.pt (h : DWt F T W e ga) : DT F T W e ga := let ⟨te, h1, h2⟩ := h.ex; ⟨te, fun i => (h1 i).pt, h2⟩
theorem dw_and1 (h : DT F T W a ga) : DWt F T W (.BoolOp .And [a] pos) ga := let ⟨te, h1, h2⟩ := h.ex; ⟨te, fun i => pw_and1 (h1 i), h2⟩
theorem dw_or1 (h : DT F T W a ga) : DWt F T W (.BoolOp .Or [a] pos) ga := let ⟨te, h1, h2⟩ := h.ex; ⟨te, fun i => pw_or1 (h1 i), h2⟩
theorem dw_and (h : DT F T W a ga) (h' : DWt F T W (.BoolOp .And (b :: rest) pos) gb) : DWt F T W (.BoolOp .And (a :: b :: rest) pos) (bAnd ga gb) :=
  let ⟨te, h1, h2⟩ := h.ex; let ⟨te', h1', h2'⟩ := h'.ex; ⟨_, fun i => pw_and (h1 i) (h1' i), sem_and h2 h2'⟩
theorem dw_or (h : DT F T W a ga) (h' : DWt F T W (.BoolOp .Or (b :: rest) pos) gb) : DWt F T W (.BoolOp .Or (a :: b :: rest) pos) (bOr ga gb) :=
  let ⟨te, h1, h2⟩ := h.ex; let ⟨te', h1', h2'⟩ := h'.ex; ⟨_, fun i => pw_or (h1 i) (h1' i), sem_or h2 h2'⟩
theorem dt_not (h : DT F T W a ga) : DT F T W (.UnaryOp .Not a pos) (bNot ga) := let ⟨te, h1, h2⟩ := h.ex; ⟨_, fun i => pt_not (h1 i), sem_not h2⟩
/-- .. as values; all but the last True or False -/
def eAnd (fa fb : EF D) : EF D := fun ρ => bnd (fa ρ) fun x => match x with
  | .bl true => fb ρ
  | .bl false => some (.ok (.bl false))
  | _ => none
def eOr (fa fb : EF D) : EF D := fun ρ => bnd (fa ρ) fun x => match x with
  | .bl true => some (.ok (.bl true))
  | .bl false => fb ρ
  | _ => none
def eNot (fa : EF D) : EF D := fun ρ => bnd (fa ρ) fun x => match x with
  | .bl b => some (.ok (.bl !b))
  | _ => none
theorem de_one {op : BoolOp} (h : DE F T W a fa) : DE F T W (.BoolOp op [a] pos) fa := let ⟨te, h1, h2⟩ := h.ex; ⟨te, fun i => pe_one (h1 i), h2⟩
theorem sem_andV {ta tb : TE} (ha : SemE K T W ta fa) (hb : SemE K T W tb fb) : SemE K T W (tAndV ta tb) (eAnd fa fb) := fun Z H σ ρ st r hr Q q => by
  rcases bnd_cases hr with ⟨x, h1, h2⟩ | ⟨c, h1, h2⟩
  · cases x with
    | bl x =>
      refine ha Z H σ ρ st _ h1 _ fun v Z1 H1 e1 r1 => ⟨x, r1, ?_⟩
      cases x with
      | true =>
        rw [if_pos rfl]
        refine hb Z1 H1 σ ρ (st.ext e1) _ h2 Q ?_
        cases r with
        | ok b => exact fun v Z2 H2 e2 => q v Z2 H2 (e1.trans e2)
        | error c => exact fun Z2 H2 e2 => q Z2 H2 (e1.trans e2)
      | false =>
        rw [if_neg Bool.false_ne_true]
        cases h2
        exact q _ Z1 H1 e1 rfl
    | _ => cases h2
  · subst h2
    exact ha Z H σ ρ st _ h1 _ q
theorem sem_orV {ta tb : TE} (ha : SemE K T W ta fa) (hb : SemE K T W tb fb) : SemE K T W (tOrV ta tb) (eOr fa fb) := fun Z H σ ρ st r hr Q q => by
  rcases bnd_cases hr with ⟨x, h1, h2⟩ | ⟨c, h1, h2⟩
  · cases x with
    | bl x =>
      refine ha Z H σ ρ st _ h1 _ fun v Z1 H1 e1 r1 => ⟨x, r1, ?_⟩
      cases x with
      | false =>
        rw [if_neg Bool.false_ne_true]
        refine hb Z1 H1 σ ρ (st.ext e1) _ h2 Q ?_
        cases r with
        | ok b => exact fun v Z2 H2 e2 => q v Z2 H2 (e1.trans e2)
        | error c => exact fun Z2 H2 e2 => q Z2 H2 (e1.trans e2)
      | true =>
        rw [if_pos rfl]
        cases h2
        exact q _ Z1 H1 e1 rfl
    | _ => cases h2
  · subst h2
    exact ha Z H σ ρ st _ h1 _ q
theorem sem_notV {ta : TE} (ha : SemE K T W ta fa) : SemE K T W (tNotV ta) (eNot fa) := fun Z H σ ρ st r hr Q q => by
  rcases bnd_cases hr with ⟨x, h1, h2⟩ | ⟨c, h1, h2⟩
  · cases x with
    | bl x =>
      cases h2
      exact ha Z H σ ρ st _ h1 _ fun v Z1 H1 e1 r1 => ⟨x, r1, q _ Z1 H1 e1 rfl⟩
    | _ => cases h2
  · subst h2
    exact ha Z H σ ρ st _ h1 _ q
theorem de_and (h : DE F T W a fa) (h' : DE F T W (.BoolOp .And (b :: rest) pos) fb) : DE F T W (.BoolOp .And (a :: b :: rest) pos) (eAnd fa fb) :=
  let ⟨te, h1, h2⟩ := h.ex; let ⟨te', h1', h2'⟩ := h'.ex; ⟨_, fun i => pe_and (h1 i) (h1' i), sem_andV h2 h2'⟩
theorem de_or (h : DE F T W a fa) (h' : DE F T W (.BoolOp .Or (b :: rest) pos) fb) : DE F T W (.BoolOp .Or (a :: b :: rest) pos) (eOr fa fb) :=
  let ⟨te, h1, h2⟩ := h.ex; let ⟨te', h1', h2'⟩ := h'.ex; ⟨_, fun i => pe_or (h1 i) (h1' i), sem_orV h2 h2'⟩
theorem de_not (h : DE F T W a fa) : DE F T W (.UnaryOp .Not a pos) (eNot fa) := let ⟨te, h1, h2⟩ := h.ex; ⟨_, fun i => pe_not (h1 i), sem_notV h2⟩
def eIf (g : EF Bool) (fa fb : EF D) : EF D := fun ρ => bnd (g ρ) fun x => match x with
  | true => fa ρ
  | false => fb ρ
theorem de_if (hc : DT F T W c ga) (ha : DE F T W a fa) (hb : DE F T W b fb) : DE F T W (.IfExp c a b pos) (eIf ga fa fb) := by
  obtain ⟨tc, c1, c2⟩ := hc.ex
  obtain ⟨ta, a1, a2⟩ := ha.ex
  obtain ⟨tb, b1, b2⟩ := hb.ex
  refine ⟨_, fun i => pe_ifExp (c1 i) (a1 i) (b1 i), fun Z H σ ρ st r hr Q q => ?_⟩
  rcases bnd_cases hr with ⟨x, h1, h2⟩ | ⟨c, h1, h2⟩
  · refine c2 Z H σ ρ st _ h1 _ fun Z1 H1 e1 => ?_
    cases x with
    | true =>
      rw [if_pos rfl]
      refine a2 Z1 H1 σ ρ (st.ext e1) _ h2 Q ?_
      cases r with
      | ok b => exact fun v Z2 H2 e2 => q v Z2 H2 (e1.trans e2)
      | error c => exact fun Z2 H2 e2 => q Z2 H2 (e1.trans e2)
    | false =>
      rw [if_neg Bool.false_ne_true]
      refine b2 Z1 H1 σ ρ (st.ext e1) _ h2 Q ?_
      cases r with
      | ok b => exact fun v Z2 H2 e2 => q v Z2 H2 (e1.trans e2)
      | error c => exact fun Z2 H2 e2 => q Z2 H2 (e1.trans e2)
  · subst h2
    exact c2 Z H σ ρ st _ h1 _ q
end

/-! ### items, slices -/
section
variable {F : Fam} {T : Tb} {W : WX} {pos : Pos} {a b c e : Expr} {fa fb f : EF D} {K : PySem.W.Frag}
def gIx (x y : D) : Option D := match y with
  | .int i => match x with
    | .str z => ifO (z.length ≤ sizeLine) () |>.bind fun _ => (atI z.cps.toList i).map fun c => .str ⟨#[c]⟩
    | x => (seqOf x).bind fun ds => atI ds i
  | _ => none
theorem Reps.atI {Z : Hp} {ds : List D} {vs : List V} {i : Int} {d : D} (h : Reps K T Z ds vs) (e : atI ds i = some d) : ∃ v, L2.atI vs i = some v ∧ Rep K T Z d v := by
  unfold L2.atI at e ⊢
  rw [← h.length]
  cases q : ixN ds.length i with
  | none => rw [q] at e; cases e
  | some j =>
    rw [q] at e
    exact h.get e
theorem rb_ix : RB K T (rIx K) gIx := by
  intro Z H x y z v w zh hx hy e Q q
  cases y with
  | int i =>
    cases (show w = .int i from hy.rep (by simp) (by simp))
    have gen : ∀ ds, seqOf x = some ds → atI ds i = some z → rIx K v (.int i) H Q := fun ds h1 h2 => by
      obtain ⟨a, xs, rfl, h3, h4⟩ := hx.seq zh h1
      obtain ⟨u, h5, h6⟩ := h4.atI h2
      rcases h3 with h3 | h3
      · exact .inl ⟨a, xs, i, u, rfl, rfl, h3, h5, q u Z H (Ext.refl zh) h6⟩
      · exact .inr (.inl ⟨a, xs, i, u, rfl, rfl, h3, h5, q u Z H (Ext.refl zh) h6⟩)
    cases x with
    | str s =>
      cases (show v = .str s from hx.rep (by simp) (by simp))
      have e : ((ifO (s.length ≤ sizeLine) ()).bind fun _ => (L2.atI s.cps.toList i).map fun c => D.str ⟨#[c]⟩) = some z := e
      obtain ⟨u, h1, h2⟩ := Option.bind_eq_some_iff.mp e
      obtain ⟨c, _⟩ := ifO_some h1
      obtain ⟨ch, h3, h4⟩ := Option.map_eq_some_iff.mp h2
      subst h4
      exact .inr (.inr ⟨s, i, ch, rfl, rfl, c, h3, q _ Z H (Ext.refl zh) rfl⟩)
    | tup ds => exact gen ds rfl e
    | lst ds => exact gen ds rfl e
    | lsr ds => exact gen ds rfl e
    | _ => cases e
  | _ => cases e
theorem de_ix (ha : DP F T W a fa) (hb : DP F T W b fb) (hs : PlainIx b := by intro _ _; rfl) : DE F T W (.Subscript a b pos) (eBin gIx fa fb) :=
  let ⟨ta, a1, a2⟩ := ha.ex; let ⟨tb, b1, b2⟩ := hb.ex; ⟨_, fun i => pe_ix ix_seq (a1 i) (b1 i) hs, sem_bin rb_ix a2 b2⟩
/-- an end of a slice -/
def SemPart (K : PySem.W.Frag) (T : Tb) (W : WX) (to : TO) (f : EF (Option Int)) : Prop := ∀ Z H σ ρ, Stt K T Z H σ ρ → ∀ r, f ρ = some r → ∀ Q : Option Int → Hp → Prop, (match r with
  | .ok o => ∀ Z' H', Ext Z H Z' H' → Q o H'
  | .error c => ∀ Z' H', Ext Z H Z' H' → W (.ref (T.adr c)) none σ H') → to σ H Q
structure DPart (F : Fam) (T : Tb) (W : WX) (e : Option Expr) (f : EF (Option Int)) : Prop where
  ex : ∃ te, (∀ i, PO (F.X i) e te) ∧ SemPart F.K T W te f
def pNo : EF (Option Int) := fun _ => some (.ok none)
def pAt (f : EF D) : EF (Option Int) := fun ρ => bnd (f ρ) fun d => match d with
  | .int i => some (.ok (some i))
  | _ => none
theorem dpart_no : DPart F T W none pNo := ⟨_, fun _ => po_none, fun Z H σ ρ st r hr Q q => by cases hr; exact q Z H (Ext.refl st.zh)⟩
theorem dpart_at (h : DE F T W e f) : DPart F T W (some e) (pAt f) := by
  obtain ⟨ta, a1, a2⟩ := h.ex
  refine ⟨_, fun i => po_some (a1 i), fun Z H σ ρ st r hr Q q => ?_⟩
  rcases bnd_cases hr with ⟨x, h1, h2⟩ | ⟨c, h1, h2⟩
  · cases x with
    | int j =>
      cases h2
      exact a2 Z H σ ρ st _ h1 _ fun v Z1 H1 e1 r1 => ⟨j, r1, q Z1 H1 e1⟩
    | _ => cases h2
  · subst h2
    exact a2 Z H σ ρ st _ h1 _ q
def cutD (xs : List D) (lo hi : Option Int) : List D := (xs.drop (HT.sIx xs.length 0 lo)).take (HT.sIx xs.length xs.length hi - HT.sIx xs.length 0 lo)
theorem Reps.cut {Z : Hp} {ds : List D} {vs : List V} (h : Reps K T Z ds vs) (lo hi : Option Int) : Reps K T Z (cutD ds lo hi) (cutV vs lo hi) := by
  unfold cutD cutV
  rw [h.length]
  exact (h.drop _).take _
def rSlAll (K : PySem.W.Frag) : V → Option Int → Option Int → Hp → VK → Prop := fun x lo hi H Q => rSlL K x lo hi H Q ∨ (rSlT K x lo hi H Q ∨ rSlS x lo hi H Q)
def gSl (x : D) (lo hi : Option Int) : Option S := match x with
  | .lst ds => some (.own (cutD ds lo hi))
  | .lsr ds => some (.own (cutD ds lo hi))
  | .tup ds => ifO (¬ (HT.sIx ds.length 0 lo = 0 ∧ HT.sIx ds.length ds.length hi = ds.length)) (.dat (.tup (cutD ds lo hi)))
  | .str z => ifO (z.length ≤ sizeLine) (.dat (.str (cutS z lo hi)))
  | _ => none
def eSl (f : EF D) (lo hi : EF (Option Int)) : EF S := fun ρ => bnd (f ρ) fun x => bnd (lo ρ) fun l => bnd (hi ρ) fun h => okO (gSl x l h)
theorem do_sl {lo hi : Option Expr} {fl fh : EF (Option Int)} {p2 : Pos} (ha : DP F T W a fa) (hl : DPart F T W lo fl) (hh : DPart F T W hi fh) : DO F T W (.Subscript a (.Slice lo hi none p2) pos) (eSl fa fl fh) := by
  obtain ⟨ta, a1, a2⟩ := ha.ex
  obtain ⟨tl, l1, l2⟩ := hl.ex
  obtain ⟨th, h1, h2⟩ := hh.ex
  refine ⟨_, fun i => pe_slice (r := rSlAll F.K) (sl_list.or (sl_tup.or sl_str)) (a1 i) (l1 i) (h1 i), fun Z H σ ρ st r hr Q q => ?_⟩
  rcases bnd_cases hr with ⟨x, e1, e2⟩ | ⟨c, e1, e2⟩
  · refine a2 Z H σ ρ st _ e1 _ fun v Z1 H1 x1 r1 => ?_
    rcases bnd_cases e2 with ⟨l, e3, e4⟩ | ⟨c, e3, e4⟩
    · refine l2 Z1 H1 σ ρ (st.ext x1) _ e3 _ fun Z2 H2 x2 => ?_
      rcases bnd_cases e4 with ⟨h, e5, e6⟩ | ⟨c, e5, e6⟩
      · refine h2 Z2 H2 σ ρ ((st.ext x1).ext x2) _ e5 _ fun Z3 H3 x3 => ?_
        obtain ⟨s, e7, e8⟩ := okO_cases e6
        subst e8
        have X := (x1.trans x2).trans x3
        have R := (r1.ext x2).ext x3
        show rSlAll F.K v l h H3 Q
        cases x with
        | lst ds =>
          cases e7
          obtain ⟨a, xs, rfl, g1, g2⟩ := R.lst X.zh
          exact .inl ⟨a, xs, rfl, SqL.of g1, fun p hp => q _ Z3 _ (X.trans (Ext.mine X.zh hp)) ((newOk X.zh hp (g2.cut l h)).back X.hh)⟩
        | lsr ds =>
          cases e7
          obtain ⟨a, xs, rfl, g1, g2⟩ := R.rep (by simp) (by simp)
          exact .inl ⟨a, xs, rfl, Same.sqL X.zh g1, fun p hp => q _ Z3 _ (X.trans (Ext.mine X.zh hp)) ((newOk X.zh hp (g2.cut l h)).back X.hh)⟩
        | tup ds =>
          obtain ⟨c, e9⟩ := ifO_some (show ifO _ _ = some s from e7)
          subst e9
          obtain ⟨a, xs, rfl, g1, g2⟩ := R.rep (by simp) (by simp)
          exact .inr (.inl ⟨a, xs, rfl, Same.sqT X.zh g1, by rw [← g2.length]; exact c, fun p hp => q _ _ _ (X.trans (Ext.frozen X.zh hp)) (datOk (newTup X.zh hp (g2.cut l h)))⟩)
        | str z =>
          obtain ⟨c, e9⟩ := ifO_some (show ifO _ _ = some s from e7)
          subst e9
          cases (show v = .str z from R.rep (by simp) (by simp))
          exact .inr (.inr ⟨z, rfl, c, q _ Z3 H3 X (datOk rfl)⟩)
        | _ => cases e7
      · subst e6
        exact h2 Z2 H2 σ ρ ((st.ext x1).ext x2) _ e5 _ fun Z3 H3 x3 => q Z3 H3 ((x1.trans x2).trans x3)
    · subst e4
      exact l2 Z1 H1 σ ρ (st.ext x1) _ e3 _ fun Z2 H2 x2 => q Z2 H2 (x1.trans x2)
  · subst e2
    exact a2 Z H σ ρ st _ e1 _ q
end

/-! ### arguments -/
def Pks (K : PySem.W.Frag) (T : Tb) (Z H : Hp) : List D → List V → Prop
  | [], vs => vs = []
  | d :: ds, vs => ∃ v r, vs = v :: r ∧ Pk K T Z H d v ∧ Pks K T Z H ds r
section
variable {K : PySem.W.Frag} {T : Tb} {W : WX} {Z Z' H H' : Hp}
theorem Pks.ext (e : Ext Z H Z' H') : ∀ {ds : List D} {vs : List V}, Pks K T Z H ds vs → Pks K T Z' H' ds vs
  | [], _, h => h
  | d :: ds, vs, h => by
    obtain ⟨v, r, h1, h2, h3⟩ := h
    exact ⟨v, r, h1, h2.ext e, Pks.ext e h3⟩
theorem Reps.pks : ∀ {ds : List D} {vs : List V}, Reps K T Z ds vs → Pks K T Z H ds vs
  | [], _, h => h
  | d :: ds, vs, h => by
    obtain ⟨v, r, h1, h2, h3⟩ := reps_cons h
    exact ⟨v, r, h1, .inl h2, Reps.pks h3⟩
theorem pks1 {d : D} {vs : List V} (h : Pks K T Z H [d] vs) : ∃ v, vs = [v] ∧ Pk K T Z H d v := by
  obtain ⟨v, r, h1, h2, h3⟩ := h
  cases h3
  exact ⟨v, h1, h2⟩
theorem pks2 {d d' : D} {vs : List V} (h : Pks K T Z H [d, d'] vs) : ∃ v w, vs = [v, w] ∧ Pk K T Z H d v ∧ Pk K T Z H d' w := by
  obtain ⟨v, r, h1, h2, h3⟩ := h
  obtain ⟨w, h4, h5⟩ := pks1 h3
  subst h4
  exact ⟨v, w, h1, h2, h5⟩
end
def SemAp (K : PySem.W.Frag) (T : Tb) (W : WX) (te : TA) (f : EF (List D)) : Prop := ∀ Z H σ ρ, Stt K T Z H σ ρ → ∀ r, f ρ = some r → ∀ Q : List V → Hp → Prop, (match r with
  | .ok ds => ∀ vs Z' H', Ext Z H Z' H' → Pks K T Z' H' ds vs → Q vs H'
  | .error c => ∀ Z' H', Ext Z H Z' H' → W (.ref (T.adr c)) none σ H') → te σ H Q
structure DAp (F : Fam) (T : Tb) (W : WX) (es : List Expr) (f : EF (List D)) : Prop where
  ex : ∃ te, (∀ i, PA (F.X i) es te) ∧ SemAp F.K T W te f
def aNil : EF (List D) := fun _ => some (.ok [])
def aCons (f : EF D) (g : EF (List D)) : EF (List D) := fun ρ => bnd (f ρ) fun x => bnd (g ρ) fun xs => some (.ok (x :: xs))
section
variable {F : Fam} {T : Tb} {W : WX} {pos : Pos} {a b c e : Expr} {es : List Expr} {fa fb f : EF D} {fs : EF (List D)} {K : PySem.W.Frag}
theorem da_nil : DA F T W [] aNil := ⟨_, fun _ => pa_nil, fun Z H σ ρ st r hr Q q => by cases hr; exact q [] Z H (Ext.refl st.zh) Reps.nil⟩
theorem dap_nil : DAp F T W [] aNil := ⟨_, fun _ => pa_nil, fun Z H σ ρ st r hr Q q => by cases hr; exact q [] Z H (Ext.refl st.zh) rfl⟩
theorem da_cons (h : DE F T W e f) (hr : DA F T W es fs) (hs : ∀ i, starEach (e :: es) (F.X i).env = (false, eval e (F.X i).env) :: starEach es (F.X i).env := by intro _; rfl) : DA F T W (e :: es) (aCons f fs) := by
  obtain ⟨ta, a1, a2⟩ := h.ex
  obtain ⟨tr, b1, b2⟩ := hr.ex
  refine ⟨_, fun i => pa_cons (a1 i) (b1 i) (hs i), fun Z H σ ρ st r hr Q q => ?_⟩
  rcases bnd_cases hr with ⟨x, e1, e2⟩ | ⟨c, e1, e2⟩
  · refine a2 Z H σ ρ st _ e1 _ fun v Z1 H1 x1 r1 => ?_
    rcases bnd_cases e2 with ⟨xs, e3, e4⟩ | ⟨c, e3, e4⟩
    · cases e4
      exact b2 Z1 H1 σ ρ (st.ext x1) _ e3 _ fun vs Z2 H2 x2 r2 => q _ Z2 H2 (x1.trans x2) (Reps.cons (Rep.mono x2.zz x v r1) r2)
    · subst e4
      exact b2 Z1 H1 σ ρ (st.ext x1) _ e3 _ fun Z2 H2 x2 => q Z2 H2 (x1.trans x2)
  · subst e2
    exact a2 Z H σ ρ st _ e1 _ q
theorem dap_cons (h : DP F T W e f) (hr : DAp F T W es fs) (hs : ∀ i, starEach (e :: es) (F.X i).env = (false, eval e (F.X i).env) :: starEach es (F.X i).env := by intro _; rfl) : DAp F T W (e :: es) (aCons f fs) := by
  obtain ⟨ta, a1, a2⟩ := h.ex
  obtain ⟨tr, b1, b2⟩ := hr.ex
  refine ⟨_, fun i => pa_cons (a1 i) (b1 i) (hs i), fun Z H σ ρ st r hr Q q => ?_⟩
  rcases bnd_cases hr with ⟨x, e1, e2⟩ | ⟨c, e1, e2⟩
  · refine a2 Z H σ ρ st _ e1 _ fun v Z1 H1 x1 r1 => ?_
    rcases bnd_cases e2 with ⟨xs, e3, e4⟩ | ⟨c, e3, e4⟩
    · cases e4
      exact b2 Z1 H1 σ ρ (st.ext x1) _ e3 _ fun vs Z2 H2 x2 r2 => q _ Z2 H2 (x1.trans x2) ⟨v, vs, rfl, r1.ext x2, r2⟩
    · subst e4
      exact b2 Z1 H1 σ ρ (st.ext x1) _ e3 _ fun Z2 H2 x2 => q Z2 H2 (x1.trans x2)
  · subst e2
    exact a2 Z H σ ρ st _ e1 _ q
/-! displays -/
def eTup (fs : EF (List D)) : EF D := fun ρ => bnd (fs ρ) fun ds => okO (ifO (ds.length ≤ sizeLine) (.tup ds))
def eLst (fs : EF (List D)) : EF S := fun ρ => bnd (fs ρ) fun ds => okO (ifO (ds.length ≤ sizeLine) (.own ds))
theorem de_tup {x1} (h : DA F T W es fs) : DE F T W (.Tuple es x1 pos) (eTup fs) := by
  obtain ⟨ta, a1, a2⟩ := h.ex
  refine ⟨_, fun i => pe_tup (a1 i), fun Z H σ ρ st r hr Q q => ?_⟩
  rcases bnd_cases hr with ⟨x, e1, e2⟩ | ⟨c, e1, e2⟩
  · obtain ⟨d, e3, e4⟩ := okO_cases e2
    obtain ⟨c, e5⟩ := ifO_some e3
    subst e4 e5
    exact a2 Z H σ ρ st _ e1 _ fun vs Z1 H1 x1 r1 => ⟨by rw [← r1.length]; exact c, fun p hp => q _ _ _ (x1.trans (Ext.frozen x1.zh hp)) (newTup x1.zh hp r1)⟩
  · subst e2
    exact a2 Z H σ ρ st _ e1 _ q
theorem do_lst (h : DA F T W es fs) : DO F T W (.List es pos) (eLst fs) := by
  obtain ⟨ta, a1, a2⟩ := h.ex
  refine ⟨_, fun i => pe_lst (a1 i), fun Z H σ ρ st r hr Q q => ?_⟩
  rcases bnd_cases hr with ⟨x, e1, e2⟩ | ⟨c, e1, e2⟩
  · obtain ⟨d, e3, e4⟩ := okO_cases e2
    obtain ⟨c, e5⟩ := ifO_some e3
    subst e4 e5
    exact a2 Z H σ ρ st _ e1 _ fun vs Z1 H1 x1 r1 => ⟨by rw [← r1.length]; exact c, fun p hp => q _ _ _ (x1.trans (Ext.mine x1.zh hp)) ((newOk x1.zh hp r1).back x1.hh)⟩
  · subst e2
    exact a2 Z H σ ρ st _ e1 _ q
/-! built-in functions -/
def RC (K : PySem.W.Frag) (T : Tb) (r : List V → Hp → VK → Prop) (g : List D → Option D) : Prop := ∀ Z H ds vs z, Same Z H → Pks K T Z H ds vs → g ds = some z → ∀ Q : VK, (∀ u Z' H', Ext Z H Z' H' → Rep K T Z' z u → Q u H') → r vs H Q
def RCO (K : PySem.W.Frag) (T : Tb) (r : List V → Hp → VK → Prop) (g : List D → Option S) : Prop := ∀ Z H ds vs z, Same Z H → Pks K T Z H ds vs → g ds = some z → ∀ Q : VK, (∀ u Z' H', Ext Z H Z' H' → OwnOk K T Z' H' H u z → Q u H') → r vs H Q
def eFn (g : List D → Option D) (fs : EF (List D)) : EF D := fun ρ => bnd (fs ρ) fun ds => okO (g ds)
def eFnO (g : List D → Option S) (fs : EF (List D)) : EF S := fun ρ => bnd (fs ρ) fun ds => okO (g ds)
theorem sem_fn {r : List V → Hp → VK → Prop} {g : List D → Option D} {ta : TA} (hr : RC K T r g) (ha : SemAp K T W ta fs) : SemE K T W (tCB r ta) (eFn g fs) := fun Z H σ ρ st c hc Q q => by
  rcases bnd_cases hc with ⟨x, e1, e2⟩ | ⟨c, e1, e2⟩
  · obtain ⟨d, e3, e4⟩ := okO_cases e2
    subst e4
    exact ha Z H σ ρ st _ e1 _ fun vs Z1 H1 x1 r1 => hr Z1 H1 x vs d x1.zh r1 e3 Q fun u Z2 H2 x2 r2 => q u Z2 H2 (x1.trans x2) r2
  · subst e2
    exact ha Z H σ ρ st _ e1 _ q
theorem sem_fnO {r : List V → Hp → VK → Prop} {g : List D → Option S} {ta : TA} (hr : RCO K T r g) (ha : SemAp K T W ta fs) : SemO K T W (tCB r ta) (eFnO g fs) := fun Z H σ ρ st c hc Q q => by
  rcases bnd_cases hc with ⟨x, e1, e2⟩ | ⟨c, e1, e2⟩
  · obtain ⟨d, e3, e4⟩ := okO_cases e2
    subst e4
    exact ha Z H σ ρ st _ e1 _ fun vs Z1 H1 x1 r1 => hr Z1 H1 x vs d x1.zh r1 e3 Q fun u Z2 H2 x2 r2 => q u Z2 H2 (x1.trans x2) (r2.back x1.hh)
  · subst e2
    exact ha Z H σ ρ st _ e1 _ q
variable {x : Str} {p : Pos} {id : String}
theorem de_fn {r : List V → Hp → VK → Prop} {g : List D → Option D} (hc : ∀ i, CallR (F.X i) (.builtin id) r) (hr : RC F.K T r g) (ha : DAp F T W (e :: es) fs) (hm : F.mg x = none) (hv : bootBuiltins x = some (.builtin id)) (hg : ∀ i, Gl (F.X i) x := by intro _; rfl)
    (hn : x ≠ "__name__" := by decide) (hdb : (x == ("__debug__" : Str)) = false := by decide) (he : ∀ i, starEach (e :: es) (F.X i).env = (false, eval e (F.X i).env) :: starEach es (F.X i).env := by intro _; rfl)
    (hpl : ∀ i, (backTo pos (starEach es (F.X i).env)).any (·.1) = false := by intro _; rfl) : DE F T W (.Call (.Name x p) (e :: es) [] pos) (eFn g fs) :=
  let ⟨ta, a1, a2⟩ := ha.ex; ⟨_, fun i => pe_callB (hc i) (hg i) hm hv (a1 i) hn hdb (he i) (hpl i), sem_fn hr a2⟩
theorem do_fn {r : List V → Hp → VK → Prop} {g : List D → Option S} (hc : ∀ i, CallR (F.X i) (.builtin id) r) (hr : RCO F.K T r g) (ha : DAp F T W (e :: es) fs) (hm : F.mg x = none) (hv : bootBuiltins x = some (.builtin id)) (hg : ∀ i, Gl (F.X i) x := by intro _; rfl)
    (hn : x ≠ "__name__" := by decide) (hdb : (x == ("__debug__" : Str)) = false := by decide) (he : ∀ i, starEach (e :: es) (F.X i).env = (false, eval e (F.X i).env) :: starEach es (F.X i).env := by intro _; rfl)
    (hpl : ∀ i, (backTo pos (starEach es (F.X i).env)).any (·.1) = false := by intro _; rfl) : DO F T W (.Call (.Name x p) (e :: es) [] pos) (eFnO g fs) :=
  let ⟨ta, a1, a2⟩ := ha.ex; ⟨_, fun i => pe_callB (hc i) (hg i) hm hv (a1 i) hn hdb (he i) (hpl i), sem_fnO hr a2⟩
theorem de_ty {r : List V → Hp → VK → Prop} {g : List D → Option D} (hc : ∀ i, CallR (F.X i) (.type id) r) (hr : RC F.K T r g) (ha : DAp F T W (e :: es) fs) (hm : F.mg x = none) (hv : bootBuiltins x = some (.type id)) (hg : ∀ i, Gl (F.X i) x := by intro _; rfl)
    (hn : x ≠ "__name__" := by decide) (hdb : (x == ("__debug__" : Str)) = false := by decide) (he : ∀ i, starEach (e :: es) (F.X i).env = (false, eval e (F.X i).env) :: starEach es (F.X i).env := by intro _; rfl)
    (hpl : ∀ i, (backTo pos (starEach es (F.X i).env)).any (·.1) = false := by intro _; rfl) : DE F T W (.Call (.Name x p) (e :: es) [] pos) (eFn g fs) :=
  let ⟨ta, a1, a2⟩ := ha.ex; ⟨_, fun i => pe_callTy (hc i) (hg i) hm hv (a1 i) hn hdb (he i) (hpl i), sem_fn hr a2⟩
theorem do_ty {r : List V → Hp → VK → Prop} {g : List D → Option S} (hc : ∀ i, CallR (F.X i) (.type id) r) (hr : RCO F.K T r g) (ha : DAp F T W (e :: es) fs) (hm : F.mg x = none) (hv : bootBuiltins x = some (.type id)) (hg : ∀ i, Gl (F.X i) x := by intro _; rfl)
    (hn : x ≠ "__name__" := by decide) (hdb : (x == ("__debug__" : Str)) = false := by decide) (he : ∀ i, starEach (e :: es) (F.X i).env = (false, eval e (F.X i).env) :: starEach es (F.X i).env := by intro _; rfl)
    (hpl : ∀ i, (backTo pos (starEach es (F.X i).env)).any (·.1) = false := by intro _; rfl) : DO F T W (.Call (.Name x p) (e :: es) [] pos) (eFnO g fs) :=
  let ⟨ta, a1, a2⟩ := ha.ex; ⟨_, fun i => pe_callTy (hc i) (hg i) hm hv (a1 i) hn hdb (he i) (hpl i), sem_fnO hr a2⟩
def g1 {α : Type} (g : D → Option α) : List D → Option α
  | [d] => g d
  | _ => none
def g2 {α : Type} (g : D → D → Option α) : List D → Option α
  | [d, d'] => g d d'
  | _ => none
theorem g1_of {α : Type} {g : D → Option α} {ds : List D} {z : α} (h : g1 g ds = some z) : ∃ d, ds = [d] ∧ g d = some z := by
  unfold g1 at h
  split at h
  · exact ⟨_, rfl, h⟩
  · cases h
theorem g2_of {α : Type} {g : D → D → Option α} {ds : List D} {z : α} (h : g2 g ds = some z) : ∃ d d', ds = [d, d'] ∧ g d d' = some z := by
  unfold g2 at h
  split at h
  · exact ⟨_, _, rfl, h⟩
  · cases h
theorem gI_of {f : Int → Int → Option D} {x y z : D} (h : gI f x y = some z) : ∃ i j, x = .int i ∧ y = .int j ∧ f i j = some z := by
  unfold gI at h
  split at h
  · exact ⟨_, _, rfl, rfl, h⟩
  · cases h
/-- len -/
def lenD : D → Option D
  | .str z => ifO (z.length ≤ sizeLine) (.int z.length)
  | .dct ks ds => some (.int ks.length)
  | d => (seqOf d).map fun ds => .int ds.length
def gLen : List D → Option D := g1 lenD
def rLenAll (K : PySem.W.Frag) : List V → Hp → VK → Prop := fun xs H Q => (∃ x n, xs = [x] ∧ LenV K x H n ∧ Q (.int n) H) ∨ ∃ a kvs, xs = [V.ref a] ∧ Rd H a (.dK kvs) ∧ Q (.int kvs.length) H
theorem call_lenDR {X : Cx} : CallR X (.builtin "len") (fun xs H Q => ∃ a kvs, xs = [V.ref a] ∧ Rd H a (.dK kvs) ∧ Q (.int kvs.length) H) := by
  intro pins s σ H xs us Q I r h
  obtain ⟨a, kvs, rfl, ha, q⟩ := h
  obtain ⟨u, rfl, ru⟩ := vals1 r
  cases ru
  exact d_len I ha fun t s' I' => ⟨.int kvs.length, H, I', ⟨t, rfl⟩, q⟩
theorem call_lenAll {X : Cx} : CallR X (.builtin "len") (rLenAll X.K) := call_len.or call_lenDR
theorem rc_len : RC K T (rLenAll K) gLen := by
  intro Z H ds vs z zh h e Q q
  obtain ⟨d, rfl, e⟩ := g1_of e
  · skip
    obtain ⟨v, rfl, hv⟩ := pks1 h
    have gen : ∀ es, seqOf d = some es → D.int es.length = z → rLenAll K [v] H Q := fun es h1 h2 => by
      obtain ⟨a, xs, rfl, h3, h4⟩ := hv.seq zh h1
      refine .inl ⟨_, es.length, rfl, ?_, q _ Z H (Ext.refl zh) (by rw [← h2]; exact rfl)⟩
      rcases h3 with h3 | h3
      · exact .inl ⟨xs, h3, h4.length⟩
      · exact .inr ⟨xs, h3, h4.length⟩
    cases d with
    | str s =>
      obtain ⟨c, e⟩ := ifO_some (show ifO _ _ = some z from e)
      cases (show v = .str s from hv.rep (by simp) (by simp))
      exact .inl ⟨_, s.length, rfl, ⟨c, rfl⟩, q _ Z H (Ext.refl zh) (by rw [← e]; exact rfl)⟩
    | dct ks es =>
      cases e
      obtain ⟨a, kvs, rfl, h1, h2, h3⟩ := hv.dct zh
      refine .inr ⟨a, kvs, rfl, h1, q _ Z H (Ext.refl zh) ?_⟩
      rw [← h2, List.length_map]
      exact rfl
    | tup es => exact gen es rfl (Option.some.inj e)
    | lst es => exact gen es rfl (Option.some.inj e)
    | lsr es => exact gen es rfl (Option.some.inj e)
    | _ => cases e
theorem de_len (ha : DAp F T W [e] fs) (hm : F.mg "len" = none) (hg : ∀ i, Gl (F.X i) "len" := by intro _; rfl) (he : ∀ i, starEach [e] (F.X i).env = (false, eval e (F.X i).env) :: starEach [] (F.X i).env := by intro _; rfl) : DE F T W (.Call (.Name "len" p) [e] [] pos) (eFn gLen fs) :=
  de_fn (fun _ => call_lenAll) rc_len ha hm PySem.boot_len hg (by decide) (by decide) he (fun _ => rfl)
/-- list(xs), tuple(xs) -/
def gList : List D → Option S := g1 fun d => (seqOf d).map .own
theorem rc_list : RCO K T (fun xs H Q => ∃ p ys, xs = [.ref p] ∧ (SqL K H p ys ∨ SqT K H p ys) ∧ ∀ l, H l = none → Q (.ref l) (upd H l (.lst ys))) gList := by
  intro Z H ds vs z zh h e Q q
  obtain ⟨d, rfl, e⟩ := g1_of e
  · skip
    obtain ⟨v, rfl, hv⟩ := pks1 h
    obtain ⟨es, h1, h2⟩ := Option.map_eq_some_iff.mp (show (seqOf d).map S.own = some z from e)
    subst h2
    obtain ⟨a, xs, rfl, h3, h4⟩ := hv.seq zh h1
    exact ⟨a, xs, rfl, h3, fun l hl => q _ Z _ (Ext.mine zh hl) (newOk zh hl h4)⟩
def gTuple : List D → Option D := g1 fun d => (seqOf d).map .tup
theorem rc_tuple : RC K T (fun xs H Q => ∃ p ys, xs = [.ref p] ∧ ((SqL K H p ys ∧ ∀ l, H l = none → Q (.ref l) (upd H l (.tup ys))) ∨ (SqT K H p ys ∧ Q (.ref p) H))) gTuple := by
  intro Z H ds vs z zh h e Q q
  obtain ⟨d, rfl, e⟩ := g1_of e
  · skip
    obtain ⟨v, rfl, hv⟩ := pks1 h
    obtain ⟨es, h1, h2⟩ := Option.map_eq_some_iff.mp (show (seqOf d).map D.tup = some z from e)
    subst h2
    have viaL : ∀ {a xs}, SqL K H a xs → Reps K T Z es xs → v = .ref a → ∃ p ys, [v] = [V.ref p] ∧ ((SqL K H p ys ∧ ∀ l, H l = none → Q (.ref l) (upd H l (.tup ys))) ∨ (SqT K H p ys ∧ Q (.ref p) H)) := fun {a xs} h3 h4 h5 => by
      subst h5
      exact ⟨a, xs, rfl, .inl ⟨h3, fun l hl => q _ _ _ (Ext.frozen zh hl) (newTup zh hl h4)⟩⟩
    cases d with
    | tup ys =>
      cases h1
      have hr := hv.rep (by simp) (by simp)
      obtain ⟨a, xs, rfl, h3, h4⟩ := id hr
      exact ⟨a, xs, rfl, .inr ⟨Same.sqT zh h3, q _ Z H (Ext.refl zh) hr⟩⟩
    | lst ys =>
      cases h1
      obtain ⟨a, xs, h2, h3, h4⟩ := hv.lst zh
      exact viaL (SqL.of h3) h4 h2
    | lsr ys =>
      cases h1
      obtain ⟨a, xs, h2, h3, h4⟩ := hv.rep (by simp) (by simp)
      exact viaL (Same.sqL zh h3) h4 h2
    | _ => cases h1
theorem do_list (ha : DAp F T W [e] fs) (hm : F.mg "list" = none) (hg : ∀ i, Gl (F.X i) "list" := by intro _; rfl) (he : ∀ i, starEach [e] (F.X i).env = (false, eval e (F.X i).env) :: starEach [] (F.X i).env := by intro _; rfl) : DO F T W (.Call (.Name "list" p) [e] [] pos) (eFnO gList fs) :=
  do_ty (fun _ => call_list_of) rc_list ha hm (by decide +kernel) hg (by decide) (by decide) he (fun _ => rfl)
theorem de_tuple (ha : DAp F T W [e] fs) (hm : F.mg "tuple" = none) (hg : ∀ i, Gl (F.X i) "tuple" := by intro _; rfl) (he : ∀ i, starEach [e] (F.X i).env = (false, eval e (F.X i).env) :: starEach [] (F.X i).env := by intro _; rfl) : DE F T W (.Call (.Name "tuple" p) [e] [] pos) (eFn gTuple fs) :=
  de_ty (fun _ => call_tuple_of) rc_tuple ha hm (by decide +kernel) hg (by decide) (by decide) he (fun _ => rfl)
/-- min, max of two ints -/
def gMax : List D → Option D := g2 (gI fun i j => some (.int (if j > i then j else i)))
def gMin : List D → Option D := g2 (gI fun i j => some (.int (if j < i then j else i)))
theorem pk_int {Z H : Hp} {i : Int} {v : V} (h : Pk K T Z H (.int i) v) : v = .int i := h.rep (by simp) (by simp)
theorem rc_max : RC K T (fun xs H Q => ∃ i j, xs = [.int i, .int j] ∧ Q (.int (if j > i then j else i)) H) gMax := by
  intro Z H ds vs z zh h e Q q
  obtain ⟨x, y, rfl, e⟩ := g2_of e
  obtain ⟨i, j, rfl, rfl, e⟩ := gI_of e
  · skip
    obtain ⟨v, w, rfl, h1, h2⟩ := pks2 h
    cases pk_int h1
    cases pk_int h2
    cases e
    exact ⟨i, j, rfl, q _ Z H (Ext.refl zh) rfl⟩
theorem rc_min : RC K T (fun xs H Q => ∃ i j, xs = [.int i, .int j] ∧ Q (.int (if j < i then j else i)) H) gMin := by
  intro Z H ds vs z zh h e Q q
  obtain ⟨x, y, rfl, e⟩ := g2_of e
  obtain ⟨i, j, rfl, rfl, e⟩ := gI_of e
  · skip
    obtain ⟨v, w, rfl, h1, h2⟩ := pks2 h
    cases pk_int h1
    cases pk_int h2
    cases e
    exact ⟨i, j, rfl, q _ Z H (Ext.refl zh) rfl⟩
theorem de_max2 (ha : DAp F T W [a, b] fs) (hm : F.mg "max" = none) (hg : ∀ i, Gl (F.X i) "max" := by intro _; rfl) (he : ∀ i, starEach [a, b] (F.X i).env = (false, eval a (F.X i).env) :: starEach [b] (F.X i).env := by intro _; rfl)
    (hpl : ∀ i, (backTo pos (starEach [b] (F.X i).env)).any (·.1) = false := by intro _; rfl) : DE F T W (.Call (.Name "max" p) [a, b] [] pos) (eFn gMax fs) :=
  de_fn (fun _ => call_max2 rfl) rc_max ha hm (by decide +kernel) hg (by decide) (by decide) he hpl
theorem de_min2 (ha : DAp F T W [a, b] fs) (hm : F.mg "min" = none) (hg : ∀ i, Gl (F.X i) "min" := by intro _; rfl) (he : ∀ i, starEach [a, b] (F.X i).env = (false, eval a (F.X i).env) :: starEach [b] (F.X i).env := by intro _; rfl)
    (hpl : ∀ i, (backTo pos (starEach [b] (F.X i).env)).any (·.1) = false := by intro _; rfl) : DE F T W (.Call (.Name "min" p) [a, b] [] pos) (eFn gMin fs) :=
  de_fn (fun _ => call_min2 rfl) rc_min ha hm (by decide +kernel) hg (by decide) (by decide) he hpl
/-- divmod -/
def CDivS (j : Int) : Prop := 0 < j ∧ j.natAbs ≤ sizeLine
instance : ∀ j, Decidable (CDivS j) := fun j => by unfold CDivS; infer_instance
theorem CDivS.ok {i j : Int} (h : CDivS j) : CDiv i j := ⟨h.1, by have := sz24 h.2; omega⟩
def gDivmod : List D → Option D := g2 (gI fun i j => ifO (CDivS j) (.tup [.int (i / j), .int (i % j)]))
theorem rc_divmod : RC K T (fun xs H Q => ∃ i j, xs = [.int i, .int j] ∧ CDiv i j ∧ ∀ p, H p = none → Q (.ref p) (upd H p (.tup [.int (i / j), .int (i % j)]))) gDivmod := by
  intro Z H ds vs z zh h e Q q
  obtain ⟨x, y, rfl, e⟩ := g2_of e
  obtain ⟨i, j, rfl, rfl, e⟩ := gI_of e
  · skip
    obtain ⟨v, w, rfl, h1, h2⟩ := pks2 h
    cases pk_int h1
    cases pk_int h2
    obtain ⟨c, e⟩ := ifO_some (show ifO _ _ = some z from e)
    subst e
    exact ⟨i, j, rfl, c.ok, fun p hp => q _ _ _ (Ext.frozen zh hp) (newTup zh hp (Reps.cons rfl (Reps.cons rfl Reps.nil)))⟩
theorem de_divmod (ha : DAp F T W [a, b] fs) (hm : F.mg "divmod" = none) (hg : ∀ i, Gl (F.X i) "divmod" := by intro _; rfl) (he : ∀ i, starEach [a, b] (F.X i).env = (false, eval a (F.X i).env) :: starEach [b] (F.X i).env := by intro _; rfl)
    (hpl : ∀ i, (backTo pos (starEach [b] (F.X i).env)).any (·.1) = false := by intro _; rfl) : DE F T W (.Call (.Name "divmod" p) [a, b] [] pos) (eFn gDivmod fs) :=
  de_fn (fun _ => call_divmod) rc_divmod ha hm (by decide +kernel) hg (by decide) (by decide) he hpl
/-- all, any, sum over a list -/
def blsOf : List D → Option (List Bool)
  | [] => some []
  | .bl b :: r => (blsOf r).map (b :: ·)
  | _ => none
theorem blsOf_eq : ∀ {ds : List D} {bs : List Bool}, blsOf ds = some bs → ds = bs.map .bl
  | [], bs, h => by cases h; rfl
  | .bl b :: r, bs, h => by
    obtain ⟨l, h1, h2⟩ := Option.map_eq_some_iff.mp (show (blsOf r).map (b :: ·) = some bs from h)
    subst h2
    rw [blsOf_eq h1]
    rfl
@[simp] theorem blsOf_map (bs : List Bool) : blsOf (bs.map .bl) = some bs := by
  induction bs with
  | nil => rfl
  | cons b r ih => show (blsOf (r.map .bl)).map (b :: ·) = _; rw [ih]; rfl
def intsOf : List D → Option (List Int)
  | [] => some []
  | .int b :: r => (intsOf r).map (b :: ·)
  | _ => none
theorem intsOf_eq : ∀ {ds : List D} {bs : List Int}, intsOf ds = some bs → ds = bs.map .int
  | [], bs, h => by cases h; rfl
  | .int b :: r, bs, h => by
    obtain ⟨l, h1, h2⟩ := Option.map_eq_some_iff.mp (show (intsOf r).map (b :: ·) = some bs from h)
    subst h2
    rw [intsOf_eq h1]
    rfl
@[simp] theorem intsOf_map (bs : List Int) : intsOf (bs.map .int) = some bs := by
  induction bs with
  | nil => rfl
  | cons b r ih => show (intsOf (r.map .int)).map (b :: ·) = _; rw [ih]; rfl
def lstOf : D → Option (List D)
  | .lst ds => some ds
  | .lsr ds => some ds
  | _ => none
theorem Pk.lstOf {Z H : Hp} {d : D} {ds : List D} {v : V} (h : Pk K T Z H d v) (zh : Same Z H) (e : lstOf d = some ds) : ∃ a xs, v = .ref a ∧ SqL K H a xs ∧ Reps K T Z ds xs := by
  cases d with
  | lst es =>
    cases e
    obtain ⟨a, xs, h1, h2, h3⟩ := h.lst zh
    exact ⟨a, xs, h1, SqL.of h2, h3⟩
  | lsr es =>
    cases e
    obtain ⟨a, xs, h1, h2, h3⟩ := h.rep (by simp) (by simp)
    exact ⟨a, xs, h1, Same.sqL zh h2, h3⟩
  | _ => cases e
def gAll : List D → Option D := g1 fun d => (lstOf d).bind fun ds => (blsOf ds).map fun bs => .bl (bs.all _root_.id)
def gAny : List D → Option D := g1 fun d => (lstOf d).bind fun ds => (blsOf ds).map fun bs => .bl (bs.any _root_.id)
def gSum : List D → Option D := g1 fun d => (lstOf d).bind fun ds => (intsOf ds).map fun bs => .int bs.sum
theorem rc_all : RC K T (rAll K) gAll := by
  intro Z H ds vs z zh h e Q q
  obtain ⟨d, rfl, e⟩ := g1_of e
  · skip
    obtain ⟨v, rfl, hv⟩ := pks1 h
    obtain ⟨es, h1, h2⟩ := Option.bind_eq_some_iff.mp (show (lstOf d).bind _ = some z from e)
    obtain ⟨bs, h3, h4⟩ := Option.map_eq_some_iff.mp h2
    subst h4
    obtain ⟨a, xs, rfl, h5, h6⟩ := hv.lstOf zh h1
    rw [blsOf_eq h3] at h6
    rw [h6.bls] at h5
    exact ⟨a, bs, rfl, h5, q _ Z H (Ext.refl zh) rfl⟩
theorem rc_any : RC K T (rAny K) gAny := by
  intro Z H ds vs z zh h e Q q
  obtain ⟨d, rfl, e⟩ := g1_of e
  · skip
    obtain ⟨v, rfl, hv⟩ := pks1 h
    obtain ⟨es, h1, h2⟩ := Option.bind_eq_some_iff.mp (show (lstOf d).bind _ = some z from e)
    obtain ⟨bs, h3, h4⟩ := Option.map_eq_some_iff.mp h2
    subst h4
    obtain ⟨a, xs, rfl, h5, h6⟩ := hv.lstOf zh h1
    rw [blsOf_eq h3] at h6
    rw [h6.bls] at h5
    exact ⟨a, bs, rfl, h5, q _ Z H (Ext.refl zh) rfl⟩
theorem rc_sum : RC K T (rSum K) gSum := by
  intro Z H ds vs z zh h e Q q
  obtain ⟨d, rfl, e⟩ := g1_of e
  · skip
    obtain ⟨v, rfl, hv⟩ := pks1 h
    obtain ⟨es, h1, h2⟩ := Option.bind_eq_some_iff.mp (show (lstOf d).bind _ = some z from e)
    obtain ⟨bs, h3, h4⟩ := Option.map_eq_some_iff.mp h2
    subst h4
    obtain ⟨a, xs, rfl, h5, h6⟩ := hv.lstOf zh h1
    rw [intsOf_eq h3] at h6
    rw [h6.ints] at h5
    exact ⟨a, bs, rfl, h5, q _ Z H (Ext.refl zh) rfl⟩
theorem de_all (ha : DAp F T W [a] fs) (hm : F.mg "all" = none) (hg : ∀ i, Gl (F.X i) "all" := by intro _; rfl) (he : ∀ i, starEach [a] (F.X i).env = (false, eval a (F.X i).env) :: starEach [] (F.X i).env := by intro _; rfl) : DE F T W (.Call (.Name "all" p) [a] [] pos) (eFn gAll fs) :=
  de_fn (fun _ => cr_all rfl) rc_all ha hm (by decide +kernel) hg (by decide) (by decide) he (fun _ => rfl)
theorem de_any (ha : DAp F T W [a] fs) (hm : F.mg "any" = none) (hg : ∀ i, Gl (F.X i) "any" := by intro _; rfl) (he : ∀ i, starEach [a] (F.X i).env = (false, eval a (F.X i).env) :: starEach [] (F.X i).env := by intro _; rfl) : DE F T W (.Call (.Name "any" p) [a] [] pos) (eFn gAny fs) :=
  de_fn (fun _ => cr_any rfl) rc_any ha hm (by decide +kernel) hg (by decide) (by decide) he (fun _ => rfl)
theorem de_sum (ha : DAp F T W [a] fs) (hm : F.mg "sum" = none) (hg : ∀ i, Gl (F.X i) "sum" := by intro _; rfl) (he : ∀ i, starEach [a] (F.X i).env = (false, eval a (F.X i).env) :: starEach [] (F.X i).env := by intro _; rfl) : DE F T W (.Call (.Name "sum" p) [a] [] pos) (eFn gSum fs) :=
  de_fn (fun _ => cr_sum rfl) rc_sum ha hm (by decide +kernel) hg (by decide) (by decide) he (fun _ => rfl)
end
end DL

set_option Elab.async false
set_option linter.all false
set_option maxRecDepth 100000
set_option maxHeartbeats 400000
namespace DL
open PySem L2

/-! ### calls of one's own functions -/
/-- the promise: on such data that result -/
def spD (K : PySem.W.Frag) (T : Tb) (n : Nat) (G : List D → Option (Except Nat S)) : Sp := fun vs H Q E => ∃ Z ds r, vs.length = n ∧ Same Z H ∧ Reps K T Z ds vs ∧ G ds = some r ∧ match r with
  | .ok s => ∀ v Z' H', Ext Z H Z' H' → OwnOk K T Z' H' H v s → Q v H'
  | .error c => ∀ Z' H', Ext Z H Z' H' → E (.ref (T.adr c)) none H'
def eCall (G : List D → Option (Except Nat S)) (fs : EF (List D)) : EF S := fun ρ => bnd (fs ρ) G
theorem sem_call {K : PySem.W.Frag} {T : Tb} {W : WX} {n : Nat} {G : List D → Option (Except Nat S)} {ta : TA} {fs : EF (List D)} (hn : ∀ ds r, G ds = some r → ds.length = n) (ha : SemA K T W ta fs) : SemO K T W (tCallS (spD K T n G) (WE W) ta) (eCall G fs) := fun Z H σ ρ st r hr Q q => by
  rcases bnd_cases hr with ⟨x, e1, e2⟩ | ⟨c, e1, e2⟩
  · refine ha Z H σ ρ st _ e1 _ fun vs Z1 H1 x1 r1 => ?_
    refine ⟨Z1, x, r, by rw [← r1.length]; exact hn x r e2, x1.zh, r1, e2, ?_⟩
    cases r with
    | ok s => exact fun v Z2 H2 x2 r2 => q v Z2 H2 (x1.trans x2) (r2.back x1.hh)
    | error c => exact fun Z2 H2 x2 => q Z2 H2 (x1.trans x2)
  · subst e2
    exact ha Z H σ ρ st _ e1 _ q
/-- a def as it is called -/
structure FnD (P : Program) (w : World) (K : PySem.W.Frag) (mg : Str → Option Value) (base : Heap) (T : Tb) (j : Nat) (x : Str) (n : Nat) (G : List D → Option (Except Nat S)) : Prop where
  ex : ∃ (f : Addr) (fd : FuncData) (ps : List Str), FnOk P w K mg base (L2.CX P w) j f fd ps (spD K T n G) ∧ mg x = some (.ref f) ∧ PySem.W.keepIn K (.ref f) = true ∧ Binds K fd ps []
  len : ∀ ds r, G ds = some r → ds.length = n
section
variable {F : Fam} {T : Tb} {W : WX} {pos p : Pos} {e : Expr} {es : List Expr} {fs : EF (List D)} {x : Str} {j k n : Nat} {G : List D → Option (Except Nat S)}
theorem do_call (ok : FOk F W k) (h : FnD F.P F.w F.K F.mg F.base T j x n G) (hj : j ≤ k) (ha : DA F T W (e :: es) fs) (hg : ∀ i, Gl (F.X i) x := by intro _; rfl) (hdb : (x == ("__debug__" : Str)) = false := by decide)
    (he : ∀ i, starEach (e :: es) (F.X i).env = (false, eval e (F.X i).env) :: starEach es (F.X i).env := by intro _; rfl) (hpl : ∀ i, (backTo pos (starEach es (F.X i).env)).any (·.1) = false := by intro _; rfl) :
    DO F T W (.Call (.Name x p) (e :: es) [] pos) (eCall G fs) := by
  obtain ⟨ta, a1, a2⟩ := ha.ex
  obtain ⟨f, fd, ps, h1, h2, h3, h4⟩ := h.ex
  exact ⟨_, fun i => pe_callS h1 ((ok.hr i).mono hj) (hg i) h2 h3 h4 (passAt (ok.tk i)) (a1 i) hdb (he i) (hpl i), sem_call h.len a2⟩
end

/-! ### iteration -/
/-- J walks ds while what is frozen stays (and, where Rel says it, the heap only grows) -/
def Wk (K : PySem.W.Frag) (T : Tb) (Rel : Hp → Hp → Prop) (J : It) (ds : List D) : Prop := ∀ Z H, Rel Z H → Same Z H →
  (∀ i d, ds[i]? = some d → J.go i H ∧ ∀ x H', J.yld i H x H' → ∃ Z', Ext Z H Z' H' ∧ Rep K T Z' d x) ∧ ∀ i, ds.length ≤ i → J.stop i H
/-- over what is frozen -/
def SemI (K : PySem.W.Frag) (T : Tb) (W : WX) (wi : TI) (f : EF (List D)) : Prop := ∀ Z H σ ρ, Stt K T Z H σ ρ → ∀ r, f ρ = some r → ∀ R : It → Hp → Prop, (match r with
  | .ok ds => ∀ J Z' H', Ext Z H Z' H' → Wk K T (fun Z1 H1 => Same Z' Z1) J ds → R J H'
  | .error c => ∀ Z' H', Ext Z H Z' H' → W (.ref (T.adr c)) none σ H') → wi σ H R
/-- over what is frozen, or one's own, where the heap only grows -/
def SemJ (K : PySem.W.Frag) (T : Tb) (W : WX) (wi : TI) (f : EF (List D)) : Prop := ∀ Z H σ ρ, Stt K T Z H σ ρ → ∀ r, f ρ = some r → ∀ R : It → Hp → Prop, (match r with
  | .ok ds => ∀ J Z' H', Ext Z H Z' H' → Wk K T (fun Z1 H1 => Same Z' Z1 ∧ Same H' H1) J ds → R J H'
  | .error c => ∀ Z' H', Ext Z H Z' H' → W (.ref (T.adr c)) none σ H') → wi σ H R
structure DI (F : Fam) (T : Tb) (W : WX) (tg e : Expr) (f : EF (List D)) : Prop where
  ex : ∃ wi, (∀ i, PI (F.X i) tg e wi) ∧ SemI F.K T W wi f
structure DJ (F : Fam) (T : Tb) (W : WX) (tg e : Expr) (f : EF (List D)) : Prop where
  ex : ∃ wi, (∀ i, PI (F.X i) tg e wi) ∧ SemJ F.K T W wi f
section
variable {F : Fam} {T : Tb} {W : WX} {pos p : Pos} {tg e a b : Expr} {es : List Expr} {f fa fb : EF D} {fs : EF (List D)} {K : PySem.W.Frag}
theorem DI.j (h : DI F T W tg e fs) : DJ F T W tg e fs := by
  obtain ⟨wi, h1, h2⟩ := h.ex
  refine ⟨wi, h1, fun Z H σ ρ st r hr R q => h2 Z H σ ρ st r hr R ?_⟩
  cases r with
  | ok ds => exact fun J Z' H' x w => q J Z' H' x fun Z1 H1 rel zh => w Z1 H1 rel.1 zh
  | error c => exact q
def ofLst (f : EF D) : EF (List D) := fun ρ => bnd (f ρ) fun d => okO (lstOf d)
def ofTup (f : EF D) : EF (List D) := fun ρ => bnd (f ρ) fun d => match d with
  | .tup ds => some (.ok ds)
  | _ => none
theorem SqL.inj {H : Hp} {a : Addr} {xs ys : List V} (h : Rd H a (.lst xs)) (h' : Rd H a (.lst ys)) : xs = ys := by
  rcases h with h | ⟨o, h⟩ <;> rcases h' with h' | ⟨o', h'⟩ <;> rw [h] at h' <;> cases h' <;> rfl

/-- the list's walk -/
theorem wk_lst {Rel : Hp → Hp → Prop} {a : Addr} {xs : List V} {ds : List D} (hl : ∀ Z H, Rel Z H → Same Z H → SqL K H a xs ∧ Reps K T Z ds xs) : Wk K T Rel (Itl K a) ds := fun Z H rel zh => by
  obtain ⟨h1, h2⟩ := hl Z H rel zh
  refine ⟨fun i d hd => ?_, fun i hi => ⟨xs, h1, by rw [← h2.length]; exact hi⟩⟩
  obtain ⟨v, h4, h5⟩ := h2.get hd
  refine ⟨⟨xs, v, h1, h4⟩, fun x H' y => ?_⟩
  obtain ⟨y1, y2⟩ := y
  subst y1
  have := y2 xs h1
  rw [h4] at this
  cases this
  exact ⟨Z, Ext.refl zh, h5⟩
theorem wk_tup {Rel : Hp → Hp → Prop} {a : Addr} {xs : List V} {ds : List D} (hl : ∀ Z H, Rel Z H → Same Z H → SqT K H a xs ∧ Reps K T Z ds xs) : Wk K T Rel (Itt K a) ds := fun Z H rel zh => by
  obtain ⟨h1, h2⟩ := hl Z H rel zh
  refine ⟨fun i d hd => ?_, fun i hi => ⟨xs, h1, by rw [← h2.length]; exact hi⟩⟩
  obtain ⟨v, h4, h5⟩ := h2.get hd
  refine ⟨⟨xs, v, h1, h4⟩, fun x H' y => ?_⟩
  obtain ⟨y1, y2⟩ := y
  subst y1
  have := y2 xs h1
  rw [h4] at this
  cases this
  exact ⟨Z, Ext.refl zh, h5⟩
def rngD (lo hi : Int) : List D := (List.range (hi - lo).toNat).map fun i => .int (lo + (i : Nat))
theorem rngD_length (lo hi : Int) : (rngD lo hi).length = (hi - lo).toNat := by simp [rngD]
theorem wk_rng {Rel : Hp → Hp → Prop} {lo hi : Int} : Wk K T Rel (Itr lo (hi - lo).toNat) (rngD lo hi) := fun Z H rel zh => by
  refine ⟨fun i d hd => ?_, fun i h => by rw [rngD_length] at h; exact h⟩
  have hi' : i < (hi - lo).toNat := by
    have := (List.getElem?_eq_some_iff.mp hd).1
    rw [rngD_length] at this
    exact this
  have e : d = .int (lo + (i : Nat)) := by
    simp [rngD, hi'] at hd
    exact hd.symm
  subst e
  refine ⟨hi', fun x H' y => ?_⟩
  obtain ⟨y1, y2⟩ := y
  subst y1
  exact ⟨Z, Ext.refl zh, y2⟩
theorem di_lst (h : DE F T W e f) : DI F T W tg e (ofLst f) := by
  obtain ⟨te, h1, h2⟩ := h.ex
  refine ⟨iList F.K te, fun i => pi_list (h1 i), fun Z H σ ρ st r hr R q => ?_⟩
  rcases bnd_cases hr with ⟨x, e1, e2⟩ | ⟨c, e1, e2⟩
  · obtain ⟨ds, e3, e4⟩ := okO_cases e2
    subst e4
    refine h2 Z H σ ρ st _ e1 _ fun v Z1 H1 x1 r1 => ?_
    have key : ∃ a xs, v = .ref a ∧ SqL F.K Z1 a xs ∧ Reps F.K T Z1 ds xs := by
      cases x with
      | lst es =>
        cases e3
        obtain ⟨a, xs, g1, g2, g3⟩ := r1
        exact ⟨a, xs, g1, SqL.of g2, g3⟩
      | lsr es =>
        cases e3
        exact r1
      | _ => cases e3
    obtain ⟨a, xs, rfl, g2, g3⟩ := key
    exact ⟨a, rfl, ⟨xs, Same.sqL x1.zh g2⟩, q _ Z1 H1 x1 (wk_lst fun Z2 H2 rel zh => ⟨Same.sqL zh (Same.sqL rel g2), Reps.mono rel ds xs g3⟩)⟩
  · subst e2
    exact h2 Z H σ ρ st _ e1 _ q
theorem di_tup (h : DE F T W e f) : DI F T W tg e (ofTup f) := by
  obtain ⟨te, h1, h2⟩ := h.ex
  refine ⟨iTup F.K te, fun i => pi_tup (h1 i), fun Z H σ ρ st r hr R q => ?_⟩
  rcases bnd_cases hr with ⟨x, e1, e2⟩ | ⟨c, e1, e2⟩
  · cases x with
    | tup es =>
      cases e2
      refine h2 Z H σ ρ st _ e1 _ fun v Z1 H1 x1 r1 => ?_
      obtain ⟨a, xs, rfl, g2, g3⟩ := r1
      exact ⟨a, rfl, ⟨xs, Same.sqT x1.zh g2⟩, q _ Z1 H1 x1 (wk_tup fun Z2 H2 rel zh => ⟨Same.sqT zh (Same.sqT rel g2), Reps.mono rel es xs g3⟩)⟩
    | _ => cases e2
  · subst e2
    exact h2 Z H σ ρ st _ e1 _ q
theorem dj_lst (h : DP F T W e f) : DJ F T W tg e (ofLst f) := by
  obtain ⟨te, h1, h2⟩ := h.ex
  refine ⟨iList F.K te, fun i => pi_list (h1 i), fun Z H σ ρ st r hr R q => ?_⟩
  rcases bnd_cases hr with ⟨x, e1, e2⟩ | ⟨c, e1, e2⟩
  · obtain ⟨ds, e3, e4⟩ := okO_cases e2
    subst e4
    refine h2 Z H σ ρ st _ e1 _ fun v Z1 H1 x1 r1 => ?_
    have key : ∃ a xs, v = .ref a ∧ (SqL F.K Z1 a xs ∨ H1 a = some (.lst xs)) ∧ Reps F.K T Z1 ds xs := by
      cases x with
      | lst es =>
        cases e3
        obtain ⟨a, xs, g1, g2, g3⟩ := r1.lst x1.zh
        exact ⟨a, xs, g1, .inr g2, g3⟩
      | lsr es =>
        cases e3
        obtain ⟨a, xs, g1, g2, g3⟩ := r1.rep (by simp) (by simp)
        exact ⟨a, xs, g1, .inl g2, g3⟩
      | _ => cases e3
    obtain ⟨a, xs, rfl, g2, g3⟩ := key
    refine ⟨a, rfl, ⟨xs, g2.elim (fun g => Same.sqL x1.zh g) SqL.of⟩, q _ Z1 H1 x1 (wk_lst fun Z2 H2 rel zh => ⟨?_, Reps.mono rel.1 ds xs g3⟩)⟩
    exact g2.elim (fun g => Same.sqL zh (Same.sqL rel.1 g)) fun g => SqL.of (rel.2 _ _ g)
  · subst e2
    exact h2 Z H σ ρ st _ e1 _ q
def big62 : Int := 4611686018427387904
def rng1 : List D → Option (List D) := g1 fun d => match d with
  | .int j => ifO (j.natAbs ≤ sizeLine) (rngD 0 j)
  | _ => none
def rng2 : List D → Option (List D) := g2 fun x y => match x, y with
  | .int i, .int j => ifO (i.natAbs ≤ sizeLine ∧ j.natAbs ≤ sizeLine) (rngD i j)
  | _, _ => none
def iFn (g : List D → Option (List D)) (fs : EF (List D)) : EF (List D) := fun ρ => bnd (fs ρ) fun ds => okO (g ds)
theorem di_rng1 (h : DA F T W [a] fs) (hm : F.mg "range" = none) (hg : ∀ i, Gl (F.X i) "range" := by intro _; rfl) (hs : ∀ i, starEach [a] (F.X i).env = [(false, eval a (F.X i).env)] := by intro _; rfl) : DI F T W tg (.Call (.Name "range" p) [a] [] pos) (iFn rng1 fs) := by
  obtain ⟨ta, a1, a2⟩ := h.ex
  refine ⟨_, fun i => pi_range1 (hg i) hm (a1 i) (hs i), fun Z H σ ρ st r hr R q => ?_⟩
  rcases bnd_cases hr with ⟨x, e1, e2⟩ | ⟨c, e1, e2⟩
  · obtain ⟨ds, e3, e4⟩ := okO_cases e2
    subst e4
    obtain ⟨d, rfl, e5⟩ := g1_of e3
    cases d with
    | int j =>
      obtain ⟨c, e6⟩ := ifO_some (show ifO _ _ = some ds from e5)
      subst e6
      refine a2 Z H σ ρ st _ e1 _ fun vs Z1 H1 x1 r1 => ?_
      cases (Reps.ints (ns := [j]) r1)
      have c' := sz24 c
      refine ⟨j, rfl, by omega, by omega, q _ Z1 H1 x1 ?_⟩
      have := wk_rng (K := F.K) (T := T) (Rel := fun Z2 H2 => Same Z1 Z2) (lo := 0) (hi := j)
      rw [Int.sub_zero] at this
      exact this
    | _ => cases e5
  · subst e2
    exact a2 Z H σ ρ st _ e1 _ q
theorem di_rng2 (h : DA F T W [a, b] fs) (hm : F.mg "range" = none) (hg : ∀ i, Gl (F.X i) "range" := by intro _; rfl) (hs : ∀ i, starEach [a, b] (F.X i).env = [(false, eval a (F.X i).env), (false, eval b (F.X i).env)] := by intro _; rfl) (hs2 : ∀ i, starEach [b] (F.X i).env = [(false, eval b (F.X i).env)] := by intro _; rfl) :
    DI F T W tg (.Call (.Name "range" p) [a, b] [] pos) (iFn rng2 fs) := by
  obtain ⟨ta, a1, a2⟩ := h.ex
  refine ⟨_, fun i => pi_range2 (hg i) hm (a1 i) (hs i) (hs2 i), fun Z H σ ρ st r hr R q => ?_⟩
  rcases bnd_cases hr with ⟨x, e1, e2⟩ | ⟨c, e1, e2⟩
  · obtain ⟨ds, e3, e4⟩ := okO_cases e2
    subst e4
    obtain ⟨d, d', rfl, e5⟩ := g2_of e3
    cases d with
    | int i =>
      cases d' with
      | int j =>
        obtain ⟨c, e6⟩ := ifO_some (show ifO _ _ = some ds from e5)
        subst e6
        refine a2 Z H σ ρ st _ e1 _ fun vs Z1 H1 x1 r1 => ?_
        cases (Reps.ints (ns := [i, j]) r1)
        have c1 := sz24 c.1
        have c2 := sz24 c.2
        exact ⟨i, j, rfl, ⟨by omega, by omega, by omega, by omega⟩, q _ Z1 H1 x1 wk_rng⟩
      | _ => cases e5
    | _ => cases e5
  · subst e2
    exact a2 Z H σ ρ st _ e1 _ q
end

/-! ### targets: what they store where -/
def setD (ρ : Env) : List (Nat × D) → Env
  | [] => ρ
  | p :: r => setD (ρ.set p.1 (.dat p.2)) r
def setV (σ : L2.St) : List (Nat × V) → L2.St
  | [] => σ
  | p :: r => setV (σ.set p.1 (some p.2)) r
def Ups (K : PySem.W.Frag) (T : Tb) (Z : Hp) : List (Nat × D) → List (Nat × V) → Prop := Paired fun p q => p.1 = q.1 ∧ Rep K T Z p.2 q.2
def SemG (K : PySem.W.Frag) (T : Tb) (ix : List Nat) (g : TG) (u : D → Option (List (Nat × D))) : Prop := ∀ Z H σ x d ups, Same Z H → Rep K T Z d x → u d = some ups → (∀ p ∈ ups, p.1 ∈ ix) ∧ ∀ Q : L2.St → Hp → Prop, (∀ vps, Ups K T Z ups vps → Q (setV σ vps) H) → g x σ H Q
def SemGs (K : PySem.W.Frag) (T : Tb) (ix : List Nat) (g : TGs) (u : List D → Option (List (Nat × D))) : Prop := ∀ Z H σ xs ds ups, Same Z H → Reps K T Z ds xs → u ds = some ups → (∀ p ∈ ups, p.1 ∈ ix) ∧ ∀ Q : L2.St → Hp → Prop, (∀ vps, Ups K T Z ups vps → Q (setV σ vps) H) → g xs σ H Q
structure DG (F : Fam) (T : Tb) (ix : List Nat) (tg : Expr) (u : D → Option (List (Nat × D))) : Prop where
  ex : ∃ g, (∀ i, PG (F.X i) tg g) ∧ SemG F.K T ix g u
structure DGs (F : Fam) (T : Tb) (ix : List Nat) (tg : List Expr) (u : List D → Option (List (Nat × D))) : Prop where
  ex : ∃ g, (∀ i, PGs (F.X i) tg g) ∧ SemGs F.K T ix g u
def uName (j : Nat) : D → Option (List (Nat × D)) := fun d => some [(j, d)]
def uNil : List D → Option (List (Nat × D))
  | [] => some []
  | _ => none
def uCons (u : D → Option (List (Nat × D))) (us : List D → Option (List (Nat × D))) : List D → Option (List (Nat × D))
  | d :: ds => (u d).bind fun p => (us ds).map fun q => p ++ q
  | [] => none
def uTup (us : List D → Option (List (Nat × D))) : D → Option (List (Nat × D))
  | .tup ds => us ds
  | _ => none
theorem setV_append (σ : L2.St) : ∀ (p q : List (Nat × V)), setV σ (p ++ q) = setV (setV σ p) q
  | [], q => rfl
  | x :: r, q => setV_append _ r q
theorem Paired.append' {α β : Type} {P : α → β → Prop} : ∀ {a c : List α} {b d : List β}, Paired P a b → Paired P c d → Paired P (a ++ c) (b ++ d)
  | _, _, _, _, .nil, h => h
  | _, _, _, _, .cons r t, h => .cons r (Paired.append' t h)
section
variable {F : Fam} {T : Tb} {W : WX} {pos p : Pos} {tg e a b : Expr} {es : List Expr} {K : PySem.W.Frag} {ix : List Nat} {u : D → Option (List (Nat × D))} {us : List D → Option (List (Nat × D))}
theorem dg_name {k : Nat} (ok : FOk F W k) (j : Nat) {x : Str} (hi : F.N[j]? = some x := by rfl) (hx : ∀ i, Loc (F.X i).env.scope x := by intro _; first | exact Or.inl rfl | exact Or.inr rfl) (hf : ∀ i, (F.X i).fn x = true ∨ (F.X i).env.scope.names.lookup x = some .local := by intro _; first | exact .inl rfl | exact .inr rfl) :
    DG F T [j] (.Name x pos) (uName j) :=
  ⟨gName j, fun i => pg_name ok.nd hi (hx i) (hf i), fun Z H σ x d ups zh r e => by
    cases e
    refine ⟨fun p hp => ?_, fun Q q => q [(j, x)] (.cons ⟨rfl, r⟩ .nil)⟩
    rw [List.mem_singleton.mp hp]
    exact List.mem_singleton.mpr rfl⟩
theorem dgs_nil : DGs F T [] [] uNil := ⟨gNil, fun _ => pgs_nil, fun Z H σ xs ds ups zh r e => by
  cases ds with
  | nil =>
    cases e
    cases reps_nil r
    exact ⟨fun p hp => (by cases hp), fun Q q => ⟨rfl, q [] .nil⟩⟩
  | cons d ds => cases e⟩
theorem dgs_cons {ix' : List Nat} (h : DG F T ix e u) (hs : DGs F T ix' es us) (hq : ∀ i, (assignEach (e :: es) (F.X i).env).map (·.2) = assign e (F.X i).env :: (assignEach es (F.X i).env).map (·.2) := by intro _; rfl) : DGs F T (ix ++ ix') (e :: es) (uCons u us) := by
  obtain ⟨g, a1, a2⟩ := h.ex
  obtain ⟨gs, b1, b2⟩ := hs.ex
  refine ⟨_, fun i => pgs_cons (a1 i) (b1 i) (hq i), fun Z H σ xs ds ups zh r e => ?_⟩
  cases ds with
  | nil => cases e
  | cons d ds =>
    obtain ⟨v, rr, rfl, h1, h2⟩ := reps_cons r
    obtain ⟨p, e1, e2⟩ := Option.bind_eq_some_iff.mp (show (u d).bind (fun p => (us ds).map fun q => p ++ q) = some ups from e)
    obtain ⟨q, e3, e4⟩ := Option.map_eq_some_iff.mp e2
    subst e4
    obtain ⟨m1, k1⟩ := a2 Z H σ v d p zh h1 e1
    refine ⟨fun z hz => ?_, fun Q qq => ⟨v, rr, rfl, k1 _ fun vps hv => ?_⟩⟩
    · rcases List.mem_append.mp hz with hz | hz
      · exact List.mem_append_left _ (m1 z hz)
      · exact List.mem_append_right _ ((b2 Z H σ rr ds q zh h2 e3).1 z hz)
    · refine (b2 Z H (setV σ vps) rr ds q zh h2 e3).2 _ fun wps hw => ?_
      rw [← setV_append]
      exact qq _ (Paired.append' hv hw)
theorem dg_tup {n : Nat} {kk : Nat} (h : DGs F T ix es us) (hlen : ∀ ds ups, us ds = some ups → ds.length = n) (hn : ∀ i, (assignEach es (F.X i).env).length = n := by intro _; rfl) (hst : ∀ i, (assignEach es (F.X i).env).findIdx? (·.1) = none := by intro _; rfl) : DG F T ix (.Tuple es kk pos) (uTup us) := by
  obtain ⟨g, a1, a2⟩ := h.ex
  refine ⟨gTup F.K n g, fun i => pg_tup rfl (a1 i) (hn i) (hst i), fun Z H σ x d ups zh r e => ?_⟩
  cases d with
  | tup ds =>
    obtain ⟨a, xs, rfl, h1, h2⟩ := r
    obtain ⟨m, k⟩ := a2 Z H σ xs ds ups zh h2 e
    exact ⟨m, fun Q q => ⟨a, xs, rfl, Same.sqT zh h1, by rw [← h2.length]; exact hlen _ _ e, k Q q⟩⟩
  | _ => cases e
theorem uNil_len : ∀ ds ups, uNil ds = some ups → ds.length = 0 := fun ds ups h => by cases ds with | nil => rfl | cons _ _ => cases h
theorem uCons_len {n : Nat} (h : ∀ ds ups, us ds = some ups → ds.length = n) : ∀ ds ups, uCons u us ds = some ups → ds.length = n + 1 := fun ds ups e => by
  cases ds with
  | nil => cases e
  | cons d ds =>
    obtain ⟨p, e1, e2⟩ := Option.bind_eq_some_iff.mp (show (u d).bind (fun p => (us ds).map fun q => p ++ q) = some ups from e)
    obtain ⟨q, e3, e4⟩ := Option.map_eq_some_iff.mp e2
    rw [List.length_cons, h _ _ e3]
end
/-! slots that are stored -/
theorem setV_length : ∀ (vps : List (Nat × V)) (σ : L2.St), (setV σ vps).length = σ.length
  | [], _ => rfl
  | p :: r, σ => by show (setV (σ.set p.1 (some p.2)) r).length = _; rw [setV_length r, List.length_set]
section
variable {K : PySem.W.Frag} {T : Tb} {Z H : Hp} {σ : L2.St} {ρ : Env}
/-- a slot gets a thing -/
theorem Stt.set1 (st : Stt K T Z H σ ρ) (j : Nat) {v : V} {s : S} (h : SlotOk K T Z H (some v) s) (hn : s.isOwn = true → ∀ i t a, i ≠ j → ρ[i]? = some t → t.isOwn = true → σ[i]? = some (some (.ref a)) → v ≠ .ref a) : Stt K T Z H (σ.set j (some v)) (ρ.set j s) := by
  have get : ∀ i t, (ρ.set j s)[i]? = some t → (i = j ∧ t = s ∧ (σ.set j (some v))[i]? = some (some v)) ∨ (i ≠ j ∧ ρ[i]? = some t ∧ (σ.set j (some v))[i]? = σ[i]?) := fun i t e => by
    by_cases q : i = j
    · subst q
      have hl : i < ρ.length := by
        have := (List.getElem?_eq_some_iff.mp e).1
        rwa [List.length_set] at this
      rw [List.getElem?_set_self hl] at e
      cases e
      exact .inl ⟨rfl, rfl, List.getElem?_set_self (by rw [st.len]; exact hl)⟩
    · rw [List.getElem?_set_ne (fun z => q z.symm)] at e
      exact .inr ⟨q, e, List.getElem?_set_ne (fun z => q z.symm)⟩
  refine ⟨st.zh, by rw [List.length_set, List.length_set, st.len], fun i t e => ?_, fun i i' t t' a ne e e' w w' h1 h2 => ?_⟩
  · rcases get i t e with ⟨rfl, rfl, g⟩ | ⟨q, e, g⟩
    · exact ⟨_, g, h⟩
    · rw [g]
      exact st.ok i t e
  · rcases get i t e with ⟨rfl, rfl, g⟩ | ⟨q, e2, g⟩
    · rcases get i' t' e' with ⟨rfl, rfl, g'⟩ | ⟨q', e3, g'⟩
      · exact ne rfl
      · rw [g] at h1
        rw [g'] at h2
        cases h1
        exact hn w i' t' a q' e3 w' h2 rfl
    · rcases get i' t' e' with ⟨rfl, rfl, g'⟩ | ⟨q', e3, g'⟩
      · rw [g] at h1
        rw [g'] at h2
        cases h2
        exact hn w' i t a q e2 w h1 rfl
      · rw [g] at h1
        rw [g'] at h2
        exact st.ne i i' t t' a ne e2 e3 w w' h1 h2
theorem Stt.setDat (st : Stt K T Z H σ ρ) (j : Nat) {v : V} {d : D} (h : Rep K T Z d v) : Stt K T Z H (σ.set j (some v)) (ρ.set j (.dat d)) := st.set1 j ⟨v, rfl, h⟩ fun z => by cases z
theorem Stt.sets : ∀ {ups : List (Nat × D)} {vps : List (Nat × V)} {σ : L2.St} {ρ : Env}, Stt K T Z H σ ρ → Ups K T Z ups vps → Stt K T Z H (setV σ vps) (setD ρ ups)
  | _, _, _, _, st, .nil => st
  | p :: r, q :: t, σ, ρ, st, .cons h hr => by
    obtain ⟨h1, h2⟩ := h
    have := st.setDat q.1 h2
    show Stt K T Z H (setV (σ.set q.1 (some q.2)) t) (setD (ρ.set p.1 (.dat p.2)) r)
    rw [h1]
    exact Stt.sets this hr
end
def wipeD (ρ : Env) : List Nat → Env
  | [] => ρ
  | v :: vs => (wipeD ρ vs).set v .no
theorem Stt.setNo {K : PySem.W.Frag} {T : Tb} {Z H : Hp} {σ : L2.St} {ρ : Env} (st : Stt K T Z H σ ρ) (j : Nat) : Stt K T Z H (σ.set j none) (ρ.set j .no) := by
  have get : ∀ i t, (ρ.set j S.no)[i]? = some t → (i = j ∧ t = .no ∧ (σ.set j none)[i]? = some none) ∨ (i ≠ j ∧ ρ[i]? = some t ∧ (σ.set j none)[i]? = σ[i]?) := fun i t e => by
    by_cases q : i = j
    · subst q
      have hl : i < ρ.length := by
        have := (List.getElem?_eq_some_iff.mp e).1
        rwa [List.length_set] at this
      rw [List.getElem?_set_self hl] at e
      cases e
      exact .inl ⟨rfl, rfl, List.getElem?_set_self (by rw [st.len]; exact hl)⟩
    · rw [List.getElem?_set_ne (fun z => q z.symm)] at e
      exact .inr ⟨q, e, List.getElem?_set_ne (fun z => q z.symm)⟩
  refine ⟨st.zh, by rw [List.length_set, List.length_set, st.len], fun i t e => ?_, fun i i' t t' a ne e e' w w' h1 h2 => ?_⟩
  · rcases get i t e with ⟨rfl, rfl, g⟩ | ⟨q, e, g⟩
    · exact ⟨_, g, trivial⟩
    · rw [g]
      exact st.ok i t e
  · rcases get i t e with ⟨rfl, rfl, g⟩ | ⟨q, e, g⟩
    · cases w
    · rcases get i' t' e' with ⟨rfl, rfl, g'⟩ | ⟨q', e', g'⟩
      · cases w'
      · rw [g] at h1
        rw [g'] at h2
        exact st.ne i i' t t' a ne e e' w w' h1 h2
theorem Stt.wipe {K : PySem.W.Frag} {T : Tb} {Z H : Hp} {σ : L2.St} {ρ : Env} (st : Stt K T Z H σ ρ) : ∀ vs : List Nat, Stt K T Z H (L2.wipe σ vs) (wipeD ρ vs)
  | [] => st
  | v :: vs => (Stt.wipe st vs).setNo v
theorem wipe_get {σ : L2.St} {i : Nat} : ∀ {vs : List Nat}, (L2.wipe σ vs)[i]? = if i ∈ vs then (if i < σ.length then some none else none) else σ[i]?
  | [] => by simp [L2.wipe]
  | v :: vs => by
    unfold L2.wipe
    by_cases h : v = i
    · subst h
      by_cases hl : v < σ.length
      · rw [List.getElem?_set_self (by rw [wipe_length]; exact hl)]
        simp [hl]
      · rw [List.getElem?_eq_none (by rw [List.length_set, wipe_length]; omega)]
        simp [hl]
    · rw [List.getElem?_set_ne h, wipe_get (vs := vs)]
      have : i ≠ v := fun z => h z.symm
      simp [this]
theorem setV_get : ∀ {vps : List (Nat × V)} {σ : L2.St} {i : Nat}, (∀ p ∈ vps, p.1 ≠ i) → (setV σ vps)[i]? = σ[i]?
  | [], _, _, _ => rfl
  | p :: r, σ, i, h => by
    show (setV (σ.set p.1 (some p.2)) r)[i]? = _
    rw [setV_get fun q hq => h q (List.mem_cons_of_mem _ hq), List.getElem?_set_ne (h p List.mem_cons_self)]
theorem wipe_setV {σ : L2.St} {vs : List Nat} {vps : List (Nat × V)} (h : ∀ p ∈ vps, p.1 ∈ vs) : L2.wipe (setV (L2.wipe σ vs) vps) vs = L2.wipe σ vs := by
  apply List.ext_getElem?
  intro i
  rw [wipe_get, wipe_get, setV_length, wipe_length]
  by_cases hi : i ∈ vs
  · simp [hi]
  · rw [if_neg hi, if_neg hi, setV_get fun p hp z => hi (by rw [← z]; exact h p hp), wipe_get, if_neg hi]
theorem Ups.mem {K : PySem.W.Frag} {T : Tb} {Z : Hp} : ∀ {ups : List (Nat × D)} {vps : List (Nat × V)}, Ups K T Z ups vps → ∀ q ∈ vps, ∃ p ∈ ups, p.1 = q.1
  | _, _, .nil, q, h => by cases h
  | p :: r, v :: t, .cons h hr, q, hq => by
    rcases List.mem_cons.mp hq with rfl | hq
    · exact ⟨p, List.mem_cons_self, h.1⟩
    · obtain ⟨p', h1, h2⟩ := Ups.mem hr q hq
      exact ⟨p', List.mem_cons_of_mem _ h1, h2⟩
end DL

set_option Elab.async false
set_option linter.all false
set_option maxRecDepth 100000
set_option maxHeartbeats 400000
namespace DL
open PySem L2

/-! ### list comprehensions -/
def compF (u : D → Option (List (Nat × D))) (tt : EF Bool) (el : EF D) (ρ : Env) : List D → Option (List D)
  | [] => some []
  | d :: ds => match u d with
    | none => none
    | some ups => match tt (setD ρ ups) with
      | some (.ok true) => match el (setD ρ ups) with
        | some (.ok x) => (compF u tt el ρ ds).map (x :: ·)
        | _ => none
      | some (.ok false) => compF u tt el ρ ds
      | _ => none
def eComp (vs : List Nat) (it : EF (List D)) (u : D → Option (List (Nat × D))) (tt : EF Bool) (el : EF D) : EF S := fun ρ => bnd (it ρ) fun ds => okO ((ifO (ds.length ≤ sizeLine) ()).bind fun _ => (compF u tt el (wipeD ρ vs) ds).map .own)
def tYesF : EF Bool := fun _ => some (.ok true)
theorem sem_lc {K : PySem.W.Frag} {T : Tb} {W : WX} {wi : TI} {g : TG} {tt : TT} {te : TE} {vs ix : List Nat} {it : EF (List D)} {u : D → Option (List (Nat × D))} {ft : EF Bool} {fe : EF D}
    (hi : SemJ K T W wi it) (hg : SemG K T ix g u) (hix : ∀ j ∈ ix, j ∈ vs) (ht : SemT K T W0 tt ft) (he : SemE K T W0 te fe) : SemO K T W (tLc wi g tt te vs) (eComp vs it u ft fe) := fun Z H σ ρ st r hr Q q => by
  rcases bnd_cases hr with ⟨ds, e1, e2⟩ | ⟨c, e1, e2⟩
  · obtain ⟨s, e3, e4⟩ := okO_cases e2
    subst e4
    obtain ⟨_, e5, e6⟩ := Option.bind_eq_some_iff.mp e3
    obtain ⟨hlen, _⟩ := ifO_some e5
    obtain ⟨fin, e7, e8⟩ := Option.map_eq_some_iff.mp e6
    subst e8
    refine hi Z H σ ρ st _ e1 _ fun J Z1 H1 x1 wk => ?_
    intro Dl hD
    refine ⟨fun i m H' => m = ds.length - i ∧ i ≤ ds.length ∧ ∃ Z' acc da rest, Ext Z1 H1 Z' H' ∧ Z' Dl = none ∧ H' Dl = some (.lst acc) ∧ Reps K T Z' da acc ∧ acc.length ≤ i ∧ compF u ft fe (wipeD ρ vs) (ds.drop i) = some rest ∧ da ++ rest = fin,
      ⟨ds.length, by simp, Nat.zero_le _, Z1, [], [], fin, Ext.mine x1.zh hD, same_none x1.zh hD, upd_same, Reps.nil, Nat.le_refl _, e7, rfl⟩, ?_⟩
    rintro i m H' ⟨rfl, hi', Z', acc, da, rest, x2, zD, hD', ra, la, hc, hf⟩
    obtain ⟨wgo, wst⟩ := wk Z' H' ⟨x2.zz, x2.hh⟩ x2.zh
    by_cases hlt : i < ds.length
    · obtain ⟨d, hd⟩ : ∃ d, ds[i]? = some d := ⟨ds[i], by simp [hlt]⟩
      have hdrop : ds.drop i = d :: ds.drop (i + 1) := by
        rw [List.drop_eq_getElem_cons hlt]
        congr 1
        have := List.getElem?_eq_some_iff.mp hd
        exact this.2
      rw [hdrop] at hc
      unfold compF at hc
      cases eu : u d with
      | none => rw [eu] at hc; cases hc
      | some ups =>
        rw [eu] at hc
        simp only at hc
        obtain ⟨go, yl⟩ := wgo i d hd
        refine .inr ⟨go, fun H6 => ∃ Z' acc da rest, Ext Z1 H1 Z' H6 ∧ Z' Dl = none ∧ H6 Dl = some (.lst acc) ∧ Reps K T Z' da acc ∧ acc.length ≤ i + 1 ∧ compF u ft fe (wipeD ρ vs) (ds.drop (i + 1)) = some rest ∧ da ++ rest = fin, fun H6 h6 => ⟨ds.length - (i + 1), by omega, rfl, hlt, h6⟩, fun x H2 y => ?_⟩
        obtain ⟨Z2, x3, rx⟩ := yl x H2 y
        obtain ⟨gm, gq⟩ := hg Z2 H2 (L2.wipe σ vs) x d ups x3.zh rx eu
        refine gq _ fun vps hv => ⟨wipe_setV fun p hp => ?_, ?_⟩
        · obtain ⟨p', h1, h2⟩ := Ups.mem hv p hp
          rw [← h2]
          exact hix _ (gm p' h1)
        · have stay : ∀ {Za Ha Zb Hb : Hp}, Ext Za Ha Zb Hb → Za Dl = none → Ha Dl = some (.lst acc) → Zb Dl = none ∧ Hb Dl = some (.lst acc) := fun {Za Ha Zb Hb} x z h => by
            refine ⟨?_, x.hh _ _ h⟩
            cases q : Zb Dl with
            | none => rfl
            | some o =>
              rcases x.nw Dl o q with z' | z'
              · rw [z] at z'; cases z'
              · rw [h] at z'; cases z'
          obtain ⟨zD2, hD2⟩ := stay x3 zD hD'
          have st2 : Stt K T Z2 H2 (setV (L2.wipe σ vs) vps) (setD (wipeD ρ vs) ups) := (((st.wipe vs).ext ((x1.trans x2).trans x3))).sets hv
          cases et : ft (setD (wipeD ρ vs) ups) with
          | none => rw [et] at hc; cases hc
          | some rt =>
            cases rt with
            | error c => rw [et] at hc; cases hc
            | ok b =>
              refine ht Z2 H2 _ _ st2 _ et _ fun Z3 H3 x4 => ?_
              obtain ⟨zD3, hD3⟩ := stay x4 zD2 hD2
              cases b with
              | true =>
                rw [if_pos rfl]
                rw [et] at hc
                simp only at hc
                cases ee : fe (setD (wipeD ρ vs) ups) with
                | none => rw [ee] at hc; cases hc
                | some re =>
                  cases re with
                  | error c => rw [ee] at hc; cases hc
                  | ok z =>
                    rw [ee] at hc
                    simp only at hc
                    obtain ⟨rest', hc1, hc2⟩ := Option.map_eq_some_iff.mp hc
                    refine he Z3 H3 _ _ (st2.ext x4) _ ee _ fun v Z4 H4 x5 rv => ?_
                    obtain ⟨zD4, hD4⟩ := stay x5 zD3 hD3
                    have X := ((x2.trans x3).trans x4).trans x5
                    have hw : Same Z4 (upd H4 Dl (.lst (acc ++ [v]))) := fun b o hb => by
                      rw [upd_ne (ne_of_none hb zD4)]
                      exact X.zh b o hb
                    refine ⟨acc, hD4, by omega, Z4, acc ++ [v], da ++ [z], rest', ⟨X.zz, fun b o hb => ?_, hw, X.nw⟩, zD4, upd_same, ((Reps.mono ((x3.trans x4).trans x5).zz _ _ ra).append (Reps.cons rv Reps.nil)), by simp; omega, hc1, ?_⟩
                    · rw [upd_ne (ne_of_none hb hD)]
                      exact X.hh b o hb
                    · rw [List.append_assoc, ← hf, ← hc2]
                      rfl
              | false =>
                rw [if_neg Bool.false_ne_true]
                rw [et] at hc
                exact ⟨Z3, acc, da, rest, (x2.trans x3).trans x4, zD3, hD3, Reps.mono (x3.trans x4).zz _ _ ra, by omega, hc, hf⟩
    · have e : i = ds.length := by omega
      subst e
      refine .inl ⟨wst _ (Nat.le_refl _), ?_⟩
      rw [List.drop_length] at hc
      cases hc
      rw [List.append_nil] at hf
      subst hf
      exact q _ Z' H' (x1.trans x2) ⟨⟨Dl, acc, rfl, hD', zD, ra⟩, fun _ a ea => by cases ea; exact same_none x1.hh hD⟩
  · subst e2
    exact hi Z H σ ρ st _ e1 _ q
structure DTs (F : Fam) (T : Tb) (W : WX) (es : List Expr) (f : EF Bool) : Prop where
  ex : ∃ te, (∀ i, PTs (F.X i) es te) ∧ SemT F.K T W te f
structure DLC (F : Fam) (T : Tb) (W : WX) (elt tg iter : Expr) (ifs : List Expr) (scope : Scope) (own : List (Str × Nat)) (f : EF S) : Prop where
  ex : ∃ wi g tt te, (∀ i, PI (F.X i) tg iter wi) ∧ (∀ i, PG ((F.blk scope).X i) tg g) ∧ (∀ i, PTs ((F.blk scope).X i) ifs tt) ∧ (∀ i, PE ((F.blk scope).X i) elt te) ∧ SemO F.K T W (tLc wi g tt te (own.map (·.2))) f
section
variable {F : Fam} {T : Tb} {W : WX} {pos p : Pos} {elt tg iter e a b : Expr} {es ifs : List Expr} {ix : List Nat} {u : D → Option (List (Nat × D))} {fi : EF (List D)} {ft : EF Bool} {fe : EF D} {scope : Scope} {own : List (Str × Nat)} {k : Nat} {f : EF S}
theorem dts_nil : DTs F T W [] tYesF := ⟨_, fun _ => pts_nil, fun Z H σ ρ st r hr Q q => by cases hr; exact q Z H (Ext.refl st.zh)⟩
theorem dts_one (h : DT F T W e ft) : DTs F T W [e] ft := let ⟨te, h1, h2⟩ := h.ex; ⟨_, fun i => pts_one (h1 i), h2⟩
theorem dlc (own : List (Str × Nat)) (hi : DJ F T W tg iter fi) (hg : DG (F.blk scope) T ix tg u) (hix : ∀ j ∈ ix, j ∈ own.map (·.2)) (ht : DTs (F.blk scope) T W0 ifs ft) (he : DE (F.blk scope) T W0 elt fe) :
    DLC F T W elt tg iter ifs scope own (eComp (own.map (·.2)) fi u ft fe) := by
  obtain ⟨wi, a1, a2⟩ := hi.ex
  obtain ⟨g, b1, b2⟩ := hg.ex
  obtain ⟨tt, c1, c2⟩ := ht.ex
  obtain ⟨te, d1, d2⟩ := he.ex
  exact ⟨wi, g, tt, te, a1, b1, c1, d1, sem_lc a2 b2 hix c2 d2⟩
theorem do_lc (ok : FOk F W k) {sc : Scope} (hb : BlkOk F.N sc scope own) (h : DLC F T W elt tg iter ifs scope own f) (hsc : ∀ i, (F.X i).env.scope = sc := by intro _; rfl) (hs : ∀ i x, foldedSetIterable iter (F.X i).env x = pure x := by intro _ _; rfl) :
    DO F T W (.ListComp elt [⟨tg, iter, ifs, 0⟩] scope pos) f := by
  obtain ⟨wi, g, tt, te, a1, b1, c1, d1, s1⟩ := h.ex
  exact ⟨_, fun i => pe_lc rfl ok.nd (a1 i) (by rw [hsc i]; exact hb) (fun s H C cl fp => b1 (i, s, H, C, cl, fp)) (fun s H C cl fp => c1 (i, s, H, C, cl, fp)) (fun s H C cl fp => d1 (i, s, H, C, cl, fp)) (hs i), s1⟩
end

/-! ### statements -/
inductive Fl where
  | nx (ρ : Env) | rt (s : S) | bk (ρ : Env) | ct (ρ : Env) | ex (c : Nat) (ρ : Env)
structure Bs (H0 Z0 Z H : Hp) : Prop where
  hh : Same H0 H
  zz : Same Z0 Z
  zh : Same Z H
  nw : ∀ a o, Z a = some o → Z0 a = some o ∨ H0 a = none
structure Rl (K : PySem.W.Frag) (T : Tb) (H0 Z0 Z H : Hp) (σ : L2.St) (ρ : Env) : Prop where
  st : Stt K T Z H σ ρ
  bs : Bs H0 Z0 Z H
  on : ∀ (i : Nat) (s : S) (a : Addr), ρ[i]? = some s → s.isOwn = true → σ[i]? = some (some (.ref a)) → H0 a = none
def Post (K : PySem.W.Frag) (T : Tb) (W : WX) (H0 Z0 : Hp) (E : Ends) : Fl → Prop
  | .nx ρ => ∀ Z H σ, Rl K T H0 Z0 Z H σ ρ → E.nx σ H
  | .bk ρ => ∀ Z H σ, Rl K T H0 Z0 Z H σ ρ → E.bk σ H
  | .ct ρ => ∀ Z H σ, Rl K T H0 Z0 Z H σ ρ → E.ct σ H
  | .rt s => ∀ Z H v, Bs H0 Z0 Z H → OwnOk K T Z H H0 v s → E.rt v H
  | .ex c ρ => ∀ Z H σ, Rl K T H0 Z0 Z H σ ρ → W (.ref (T.adr c)) none σ H
abbrev SF := Env → Option Fl
def SemS (K : PySem.W.Frag) (T : Tb) (W : WX) (ts : TS) (f : SF) : Prop := ∀ H0 Z0 Z H σ ρ, Rl K T H0 Z0 Z H σ ρ → ∀ r, f ρ = some r → ∀ E, Post K T W H0 Z0 E r → ts E σ H
structure DS (F : Fam) (T : Tb) (W : WX) (st : Stmt) (f : SF) : Prop where
  ex : ∃ ts, (∀ i, PS (F.X i) st ts) ∧ SemS F.K T W ts f
structure DSs (F : Fam) (T : Tb) (W : WX) (st : List Stmt) (f : SF) : Prop where
  ex : ∃ ts, (∀ i, PSs (F.X i) st ts) ∧ SemS F.K T W ts f
section
variable {K : PySem.W.Frag} {T : Tb} {W : WX} {H0 Z0 Z H Z' H' : Hp} {σ : L2.St} {ρ : Env}
theorem Bs.ext (b : Bs H0 Z0 Z H) (x : Ext Z H Z' H') : Bs H0 Z0 Z' H' := ⟨b.hh.trans x.hh, b.zz.trans x.zz, x.zh, fun a o h => by
  rcases x.nw a o h with h | h
  · exact b.nw a o h
  · exact .inr (same_none b.hh h)⟩
theorem Rl.ext (r : Rl K T H0 Z0 Z H σ ρ) (x : Ext Z H Z' H') : Rl K T H0 Z0 Z' H' σ ρ := ⟨r.st.ext x, r.bs.ext x, r.on⟩
theorem Rl.set (r : Rl K T H0 Z0 Z H σ ρ) (x : Ext Z H Z' H') (j : Nat) {v : V} {s : S} (h : OwnOk K T Z' H' H v s) : Rl K T H0 Z0 Z' H' (σ.set j (some v)) (ρ.set j s) := by
  refine ⟨(r.st.ext x).set1 j h.1 fun w i t a ne e e' g z => ?_, r.bs.ext x, fun i t a e w g => ?_⟩
  · obtain ⟨o, h1, h2⟩ := r.st.ok i t e
    obtain ⟨a', h3, h4, h5⟩ := own_adr h2 e'
    rw [g] at h1
    cases h1
    cases h3
    exact h4 (h.2 w a z)
  · by_cases q : i = j
    · subst q
      have hl : i < ρ.length := by
        have := (List.getElem?_eq_some_iff.mp e).1
        rwa [List.length_set] at this
      rw [List.getElem?_set_self hl] at e
      cases e
      rw [List.getElem?_set_self (by rw [r.st.len]; exact hl)] at g
      cases g
      exact same_none r.bs.hh (h.2 w a rfl)
    · rw [List.getElem?_set_ne (fun z => q z.symm)] at e g
      exact r.on i t a e w g
theorem Rl.sets : ∀ {ups : List (Nat × D)} {vps : List (Nat × V)} {σ : L2.St} {ρ : Env}, Rl K T H0 Z0 Z H σ ρ → Ups K T Z ups vps → Rl K T H0 Z0 Z H (setV σ vps) (setD ρ ups)
  | _, _, _, _, r, .nil => r
  | p :: rr, q :: t, σ, ρ, r, .cons h hr => by
    obtain ⟨h1, h2⟩ := h
    have := r.set (Ext.refl r.st.zh) q.1 (datOk (H := H) (H2 := H) h2)
    show Rl K T H0 Z0 Z H (setV (σ.set q.1 (some q.2)) t) (setD (ρ.set p.1 (.dat p.2)) rr)
    rw [h1]
    exact Rl.sets this hr
/-- one's own list changes -/
theorem Rl.mut (r : Rl K T H0 Z0 Z H σ ρ) {j : Nat} {ds ds' : List D} {a : Addr} {xs' : List V} (e : ρ[j]? = some (.own ds)) (g : σ[j]? = some (some (.ref a))) (h' : Reps K T Z ds' xs') : Rl K T H0 Z0 Z (upd H a (.lst xs')) σ (ρ.set j (.own ds')) := by
  obtain ⟨o, h1, a0, xs, h2, h3, h4, h5⟩ := r.st.ok j _ e
  rw [g] at h1
  cases h1
  cases h2
  have zh : Same Z (upd H a (.lst xs')) := fun b o hb => by
    rw [upd_ne (ne_of_none hb h4)]
    exact r.st.zh b o hb
  have hj : j < ρ.length := (List.getElem?_eq_some_iff.mp e).1
  have back : ∀ (i : Nat) (t : S), (ρ.set j (S.own ds'))[i]? = some t → ∃ t' : S, ρ[i]? = some t' ∧ t'.isOwn = t.isOwn := fun i t q => by
    by_cases z : i = j
    · subst z
      rw [List.getElem?_set_self hj] at q
      cases q
      exact ⟨_, e, rfl⟩
    · rw [List.getElem?_set_ne (fun y => z y.symm)] at q
      exact ⟨t, q, rfl⟩
  refine ⟨⟨zh, by rw [List.length_set, r.st.len], fun i t q => ?_, fun i i' t t' b ne q q' w w' k1 k2 => ?_⟩, ⟨fun b o hb => ?_, r.bs.zz, zh, r.bs.nw⟩, fun i t b q w k => ?_⟩
  · by_cases z : i = j
    · subst z
      rw [List.getElem?_set_self hj] at q
      cases q
      exact ⟨_, g, a, xs', rfl, upd_same, h4, h'⟩
    · rw [List.getElem?_set_ne (fun y => z y.symm)] at q
      obtain ⟨o, k1, k2⟩ := r.st.ok i t q
      refine ⟨o, k1, ?_⟩
      have other : ∀ b, t.isOwn = true → o = some (.ref b) → b ≠ a := fun b w ho hb => by
        subst ho hb
        exact r.st.ne i j t _ b z q e w rfl k1 g
      cases t with
      | no => exact trivial
      | dat d => exact k2
      | own es =>
        obtain ⟨b, ys, m1, m2, m3, m4⟩ := k2
        exact ⟨b, ys, m1, by rw [upd_ne (other b rfl m1)]; exact m2, m3, m4⟩
      | ownd ks es =>
        obtain ⟨b, ys, m1, m2, m3, m5, m4⟩ := k2
        exact ⟨b, ys, m1, by rw [upd_ne (other b rfl m1)]; exact m2, m3, m5, m4⟩
  · obtain ⟨s1, q1, w1⟩ := back i t q
    obtain ⟨s2, q2, w2⟩ := back i' t' q'
    exact r.st.ne i i' s1 s2 b ne q1 q2 (by rw [w1]; exact w) (by rw [w2]; exact w') k1 k2
  · have := r.on j _ a e rfl g
    rw [upd_ne (ne_of_none hb this)]
    exact r.bs.hh b o hb
  · obtain ⟨s1, q1, w1⟩ := back i t q
    exact r.on i s1 b q1 (by rw [w1]; exact w) k
/-- one's own thing becomes frozen -/
theorem Rl.frz (r : Rl K T H0 Z0 Z H σ ρ) {j : Nat} {s : S} {d : D} (e : ρ[j]? = some s) (hd : frzS s = some d) : ∃ Z2, Rl K T H0 Z0 Z2 H σ (ρ.set j (.dat d)) := by
  have hj : j < ρ.length := (List.getElem?_eq_some_iff.mp e).1
  obtain ⟨o, h1, h2⟩ := r.st.ok j _ e
  have main : ∃ Z2 v, Same Z Z2 ∧ Same Z2 H ∧ (∀ b u, Z2 b = some u → Z b = some u ∨ o = some (.ref b) ∧ s.isOwn = true) ∧ o = some v ∧ Rep K T Z2 d v := by
    cases s with
    | no => cases hd
    | dat d' =>
      cases hd
      obtain ⟨v, k1, k2⟩ := h2
      exact ⟨Z, v, Same.refl _, r.st.zh, fun b u q => .inl q, k1, k2⟩
    | own ds =>
      cases hd
      obtain ⟨a, xs, k1, k2, k3, k4⟩ := h2
      have hz : Same Z (upd Z a (.lst xs)) := same_upd k3
      refine ⟨upd Z a (.lst xs), _, hz, fun b u q => ?_, fun b u q => ?_, k1, a, xs, rfl, upd_same, Reps.mono hz ds xs k4⟩
      · by_cases z : b = a
        · subst z; rw [upd_same] at q; rw [k2]; exact q
        · rw [upd_ne z] at q; exact r.st.zh b u q
      · by_cases z : b = a
        · subst z; exact .inr ⟨k1, rfl⟩
        · rw [upd_ne z] at q; exact .inl q
    | ownd ks ds =>
      cases hd
      obtain ⟨a, xs, k1, k2, k3, k5, k4⟩ := h2
      have hz : Same Z (upd Z a (.dK xs)) := same_upd k3
      refine ⟨upd Z a (.dK xs), _, hz, fun b u q => ?_, fun b u q => ?_, k1, a, xs, rfl, .inl upd_same, k5, Reps.mono hz ds _ k4⟩
      · by_cases z : b = a
        · subst z; rw [upd_same] at q; rw [k2]; exact q
        · rw [upd_ne z] at q; exact r.st.zh b u q
      · by_cases z : b = a
        · subst z; exact .inr ⟨k1, rfl⟩
        · rw [upd_ne z] at q; exact .inl q
  obtain ⟨Z2, v, zz, zh, nw, ho, hr⟩ := main
  subst ho
  have get : ∀ (i : Nat) (t : S), (ρ.set j (S.dat d))[i]? = some t → (i = j ∧ t = .dat d) ∨ (i ≠ j ∧ ρ[i]? = some t) := fun i t q => by
    by_cases z : i = j
    · subst z
      rw [List.getElem?_set_self hj] at q
      cases q
      exact .inl ⟨rfl, rfl⟩
    · rw [List.getElem?_set_ne (fun y => z y.symm)] at q
      exact .inr ⟨z, q⟩
  refine ⟨Z2, ⟨zh, by rw [List.length_set, r.st.len], fun i t q => ?_, fun i i' t t' b ne q q' w w' k1 k2 => ?_⟩, ⟨r.bs.hh, r.bs.zz.trans zz, zh, fun b u q => ?_⟩, fun i t b q w k => ?_⟩
  · rcases get i t q with ⟨rfl, rfl⟩ | ⟨z, q⟩
    · exact ⟨_, h1, v, rfl, hr⟩
    · obtain ⟨o, k1, k2⟩ := r.st.ok i t q
      refine ⟨o, k1, ?_⟩
      have other : ∀ b, t.isOwn = true → o = some (.ref b) → Z b = none → Z2 b = none := fun b w ho hb => by
        cases y : Z2 b with
        | none => rfl
        | some u =>
          rcases nw b u y with y | ⟨y, ys⟩
          · rw [hb] at y; cases y
          · cases y
            subst ho
            exact absurd h1 (r.st.ne i j t s b z q e w ys k1)
      cases t with
      | no => exact trivial
      | dat d =>
        obtain ⟨v, m1, m2⟩ := k2
        exact ⟨v, m1, Rep.mono zz d v m2⟩
      | own es =>
        obtain ⟨b, ys, m1, m2, m3, m4⟩ := k2
        exact ⟨b, ys, m1, m2, other b rfl m1 m3, Reps.mono zz es ys m4⟩
      | ownd ks es =>
        obtain ⟨b, ys, m1, m2, m3, m5, m4⟩ := k2
        exact ⟨b, ys, m1, m2, other b rfl m1 m3, m5, Reps.mono zz es _ m4⟩
  · rcases get i t q with ⟨rfl, rfl⟩ | ⟨z, q⟩
    · cases w
    · rcases get i' t' q' with ⟨rfl, rfl⟩ | ⟨z', q'⟩
      · cases w'
      · exact r.st.ne i i' t t' b ne q q' w w' k1 k2
  · rcases nw b u q with q | ⟨q, qs⟩
    · exact r.bs.nw b u q
    · cases q
      exact .inr (r.on j s b e qs h1)
  · rcases get i t q with ⟨rfl, rfl⟩ | ⟨z, q⟩
    · cases w
    · exact r.on i t b q w k
/-- from a later ground -/
theorem Rl.ground {Zb : Hp} (b : Bs H0 Z0 Zb Z') (r : Rl K T H0 Zb Z H σ ρ) : Rl K T H0 Z0 Z H σ ρ := ⟨r.st, ⟨r.bs.hh, b.zz.trans r.bs.zz, r.bs.zh, fun a o h => by
  rcases r.bs.nw a o h with h | h
  · exact b.nw a o h
  · exact .inr h⟩, r.on⟩
theorem Rl.here (r : Rl K T H0 Z0 Z H σ ρ) : Rl K T H0 Z Z H σ ρ := ⟨r.st, ⟨r.bs.hh, Same.refl _, r.bs.zh, fun a o h => .inl h⟩, r.on⟩
theorem Post.ground {Zb : Hp} {E : Ends} (b : Bs H0 Z0 Zb Z') : ∀ {r : Fl}, Post K T W H0 Z0 E r → Post K T W H0 Zb E r
  | .nx ρ, h => fun Z H σ r => h Z H σ (r.ground b)
  | .bk ρ, h => fun Z H σ r => h Z H σ (r.ground b)
  | .ct ρ, h => fun Z H σ r => h Z H σ (r.ground b)
  | .ex c ρ, h => fun Z H σ r => h Z H σ (r.ground b)
  | .rt s, h => fun Z H v bb o => h Z H v ⟨bb.hh, b.zz.trans bb.zz, bb.zh, fun a u q => by
      rcases bb.nw a u q with q | q
      · exact b.nw a u q
      · exact .inr q⟩ o
end
/-! blocks -/
def sNext : SF := fun ρ => some (.nx ρ)
def sSeq (f g : SF) : SF := fun ρ => match f ρ with
  | some (.nx ρ') => g ρ'
  | r => r
section
variable {F : Fam} {T : Tb} {W : WX} {pos p : Pos} {st : Stmt} {rest : List Stmt} {f g : SF} {e a b : Expr} {fe : EF D} {fo : EF S} {ft : EF Bool} {k : Nat} {K : PySem.W.Frag}
theorem dss_nil : DSs F T W [] sNext := ⟨_, fun _ => pss_nil, fun H0 Z0 Z H σ ρ r x hx E q => by cases hx; exact q Z H σ r⟩
theorem dss_cons (h : DS F T W st f) (hr : DSs F T W rest g) : DSs F T W (st :: rest) (sSeq f g) := by
  obtain ⟨t, a1, a2⟩ := h.ex
  obtain ⟨u, b1, b2⟩ := hr.ex
  refine ⟨_, fun i => pss_cons (a1 i) (b1 i), fun H0 Z0 Z H σ ρ r x hx E q => ?_⟩
  unfold sSeq at hx
  cases ef : f ρ with
  | none => rw [ef] at hx; cases hx
  | some y =>
    rw [ef] at hx
    refine a2 H0 Z0 Z H σ ρ r _ ef _ ?_
    cases y with
    | nx ρ' => exact fun Z1 H1 σ1 r1 => b2 H0 Z0 Z1 H1 σ1 ρ' r1 _ hx E q
    | rt s => cases hx; exact q
    | bk ρ' => cases hx; exact q
    | ct ρ' => cases hx; exact q
    | ex c ρ' => cases hx; exact q
theorem dss_one (h : DS F T W st f) : DSs F T W [st] f := by
  obtain ⟨t, a1, a2⟩ := h.ex
  exact ⟨_, fun i => pss_one (a1 i), a2⟩
/-- a slot becomes frozen ahead of a statement -/
def frzI (j : Nat) (f : SF) : SF := fun ρ => match ρ[j]? with
  | some s => match frzS s with
    | some d => f (ρ.set j (.dat d))
    | none => none
  | none => none
theorem ds_frz (j : Nat) (h : DS F T W st f) : DS F T W st (frzI j f) := by
  obtain ⟨t, a1, a2⟩ := h.ex
  refine ⟨t, a1, fun H0 Z0 Z H σ ρ r x hx E q => ?_⟩
  unfold frzI at hx
  split at hx
  · rename_i s hs
    split at hx
    · rename_i d hd
      obtain ⟨Z2, r2⟩ := r.frz hs hd
      exact a2 H0 Z0 Z2 H σ _ r2 x hx E q
    · cases hx
  · cases hx
def errS (ρ : Env) {α : Type} (k : α → Option Fl) : Option (Except Nat α) → Option Fl
  | some (.ok x) => k x
  | some (.error c) => some (.ex c ρ)
  | none => none
theorem errS_cases {α : Type} {ρ : Env} {k : α → Option Fl} {m : Option (Except Nat α)} {r : Fl} (h : errS ρ k m = some r) : (∃ x, m = some (.ok x) ∧ k x = some r) ∨ ∃ c, m = some (.error c) ∧ r = .ex c ρ := by
  unfold errS at h
  split at h
  · exact .inl ⟨_, rfl, h⟩
  · exact .inr ⟨_, rfl, (Option.some.inj h).symm⟩
  · cases h
def sAsg (j : Nat) (f : EF S) : SF := fun ρ => errS ρ (fun s => some (.nx (ρ.set j s))) (f ρ)
theorem sem_asg {te : TE} {j : Nat} (h : SemO K T W te fo) : SemS K T W (tAsg te (gName j)) (sAsg j fo) := fun H0 Z0 Z H σ ρ r x hx E q => by
  rcases errS_cases hx with ⟨s, e1, e2⟩ | ⟨c, e1, e2⟩
  · cases e2
    exact h Z H σ ρ r.st _ e1 _ fun v Z1 H1 x1 o1 => q Z1 H1 _ (r.set x1 j o1)
  · subst e2
    exact h Z H σ ρ r.st _ e1 _ fun Z1 H1 x1 => q Z1 H1 σ (r.ext x1)
theorem ds_set (ok : FOk F W k) (j : Nat) {x : Str} {p' : Pos} (he : DO F T W e fo) (hi : F.N[j]? = some x := by rfl) (hx : ∀ i, Loc (F.X i).env.scope x := by intro _; first | exact Or.inl rfl | exact Or.inr rfl) (hs : ∀ i, swapsWith e (some (.Name x p')) pos.line (F.X i).env = pure false := by intro _; rfl)
    (hf : ∀ i, (F.X i).fn x = true ∨ (F.X i).env.scope.names.lookup x = some .local := by intro _; first | exact .inl rfl | exact .inr rfl) : DS F T W (.Assign [.Name x p'] e pos) (sAsg j fo) :=
  let ⟨te, a1, a2⟩ := he.ex; ⟨_, fun i => ps_set ok.nd hi (hx i) (a1 i) (hs i) (hf i), sem_asg a2⟩
theorem ds_setLc (ok : FOk F W k) (j : Nat) {y : Str} {py : Pos} {elt tg iter : Expr} {ifs : List Expr} {scope sc : Scope} {own : List (Str × Nat)} (hb : BlkOk F.N sc scope own) (h : DLC F T W elt tg iter ifs scope own fo) (hy : F.N[j]? = some y := by rfl)
    (hyl : ∀ i, (F.X i).env.scope.names.lookup y = some .local := by intro _; rfl) (hsw : ∀ i, swapsWith (.ListComp elt [⟨tg, iter, ifs, 0⟩] scope pos) (some (.Name y py)) p.line (F.X i).env = pure true := by intro _; exact sw_true rfl rfl rfl (by decide +kernel))
    (hsc : ∀ i, (F.X i).env.scope = sc := by intro _; rfl) (hs : ∀ i x, foldedSetIterable iter (F.X i).env x = pure x := by intro _ _; rfl) : DS F T W (.Assign [.Name y py] (.ListComp elt [⟨tg, iter, ifs, 0⟩] scope pos) p) (sAsg j fo) := by
  obtain ⟨wi, g, tt, te, a1, b1, c1, d1, s1⟩ := h.ex
  exact ⟨_, fun i => ps_setLc rfl ok.nd hy (hyl i) (hsw i) (a1 i) (by rw [hsc i]; exact hb) (fun s H C cl fp => b1 (i, s, H, C, cl, fp)) (fun s H C cl fp => c1 (i, s, H, C, cl, fp)) (fun s H C cl fp => d1 (i, s, H, C, cl, fp)) (hs i), sem_asg s1⟩
/-- a, b = e -/
def sTup (u : D → Option (List (Nat × D))) (f : EF D) : SF := fun ρ => errS ρ (fun d => (u d).map fun ups => .nx (setD ρ ups)) (f ρ)
theorem ds_tup {ix : List Nat} {tg : Expr} {u : D → Option (List (Nat × D))} (he : DE F T W e fe) (hg : DG F T ix tg u) (hs : ∀ i, swapsWithSole [tg] e pos.line (F.X i).env = pure false := by intro _; rfl) (hw : ∀ i, swappedStores [tg] e (F.X i).env = pure none := by intro _; rfl)
    (h1 : ∀ i, (assignEach [tg] (F.X i).env).map (·.2) = [assign tg (F.X i).env] := by intro _; rfl) : DS F T W (.Assign [tg] e pos) (sTup u fe) := by
  obtain ⟨te, a1, a2⟩ := he.ex
  obtain ⟨g, b1, b2⟩ := hg.ex
  refine ⟨_, fun i => ps_asg (a1 i) (b1 i) (hs i) (hw i) (h1 i), fun H0 Z0 Z H σ ρ r x hx E q => ?_⟩
  rcases errS_cases hx with ⟨d, e1, e2⟩ | ⟨c, e1, e2⟩
  · obtain ⟨ups, e3, e4⟩ := Option.map_eq_some_iff.mp e2
    subst e4
    refine a2 Z H σ ρ r.st _ e1 _ fun v Z1 H1 x1 r1 => ?_
    exact (b2 Z1 H1 σ v d ups x1.zh r1 e3).2 _ fun vps hv => q Z1 H1 _ ((r.ext x1).sets hv)
  · subst e2
    exact a2 Z H σ ρ r.st _ e1 _ fun Z1 H1 x1 => q Z1 H1 σ (r.ext x1)
/-- an expression's value is dropped -/
def sDrop (f : EF S) : SF := fun ρ => errS ρ (fun _ => some (.nx ρ)) (f ρ)
theorem ds_drop (he : DO F T W e fo) (hs : ∀ i, swapsWith e none pos.line (F.X i).env = pure false := by intro _; rfl) : DS F T W (.Expr e pos) (sDrop fo) := by
  obtain ⟨te, a1, a2⟩ := he.ex
  refine ⟨_, fun i => ps_expr (a1 i) (hs i), fun H0 Z0 Z H σ ρ r x hx E q => ?_⟩
  rcases errS_cases hx with ⟨d, e1, e2⟩ | ⟨c, e1, e2⟩
  · cases e2
    exact a2 Z H σ ρ r.st _ e1 _ fun v Z1 H1 x1 r1 => q Z1 H1 σ (r.ext x1)
  · subst e2
    exact a2 Z H σ ρ r.st _ e1 _ fun Z1 H1 x1 => q Z1 H1 σ (r.ext x1)
/-- return -/
def sRet (f : EF S) : SF := fun ρ => errS ρ (fun s => some (.rt s)) (f ρ)
theorem OwnOk.base {Z' H' H1 : Hp} {H0 : Hp} {v : V} {s : S} (e : Same H0 H1) (h : OwnOk K T Z' H' H1 v s) : OwnOk K T Z' H' H0 v s := h.back e
theorem ds_ret (he : DO F T W e fo) : DS F T W (.Return (some e) pos) (sRet fo) := by
  obtain ⟨te, a1, a2⟩ := he.ex
  refine ⟨_, fun i => ps_ret (a1 i), fun H0 Z0 Z H σ ρ r x hx E q => ?_⟩
  rcases errS_cases hx with ⟨d, e1, e2⟩ | ⟨c, e1, e2⟩
  · cases e2
    exact a2 Z H σ ρ r.st _ e1 _ fun v Z1 H1 x1 r1 => q Z1 H1 v (r.bs.ext x1) (r1.back r.bs.hh)
  · subst e2
    exact a2 Z H σ ρ r.st _ e1 _ fun Z1 H1 x1 => q Z1 H1 σ (r.ext x1)
/-- return x, x one's own -/
def eOwn (j : Nat) : SF := fun ρ => (ρ[j]?).bind fun s => match s with
  | .no => none
  | s => some (.rt s)
theorem ds_retv (j : Nat) {x : Str} (hN : F.N[j]? = some x := by rfl) (hv : ∀ i, Vis (F.X i).env.scope x := by intro _; first | exact Or.inl rfl | exact Or.inr (Or.inl rfl) | exact Or.inr (Or.inr rfl)) (hd : (x == ("__debug__" : Str)) = false := by decide)
    (hcd : (x == ("__classdict__" : Str)) = false := by decide) : DS F T W (.Return (some (.Name x p)) pos) (eOwn j) := by
  refine ⟨_, fun i => ps_ret (pe_var hN (hv i) hd hcd), fun H0 Z0 Z H σ ρ r x hx E q => ?_⟩
  obtain ⟨s, e1, e2⟩ := Option.bind_eq_some_iff.mp hx
  obtain ⟨o, h1, h2⟩ := r.st.ok j s e1
  have fin : ∀ v, o = some v → x = .rt s → tRet (tVar j) E σ H := fun v hv ex => by
    subst hv ex
    exact ⟨v, h1, q Z H v r.bs ⟨h2, fun w a ea => r.on j s a e1 w (by rw [h1, ea])⟩⟩
  cases s with
  | no => cases e2
  | dat d =>
    cases e2
    obtain ⟨v, k1, k2⟩ := id h2
    exact fin v k1 rfl
  | own ds =>
    cases e2
    obtain ⟨a, xs, k1, _⟩ := id h2
    exact fin _ k1 rfl
  | ownd ks ds =>
    cases e2
    obtain ⟨a, xs, k1, _⟩ := id h2
    exact fin _ k1 rfl
theorem ds_retN : DS F T W (.Return none pos) (fun _ => some (.rt (.dat .non))) := ⟨_, fun _ => ps_retN, fun H0 Z0 Z H σ ρ r x hx E q => by cases hx; exact q Z H .non r.bs (datOk rfl)⟩
theorem ds_pass : DS F T W (.Pass pos) sNext := ⟨_, fun _ => ps_pass, fun H0 Z0 Z H σ ρ r x hx E q => by cases hx; exact q Z H σ r⟩
theorem ds_break : DS F T W (.Break pos) (fun ρ => some (.bk ρ)) := ⟨_, fun _ => ps_break, fun H0 Z0 Z H σ ρ r x hx E q => by cases hx; exact q Z H σ r⟩
theorem ds_continue : DS F T W (.Continue pos) (fun ρ => some (.ct ρ)) := ⟨_, fun _ => ps_continue, fun H0 Z0 Z H σ ρ r x hx E q => by cases hx; exact q Z H σ r⟩
theorem ds_doc {x j p' p''} : DS F T W (.Expr (.Constant (.str x) j p') p'') sNext := ⟨_, fun _ => ps_doc, fun H0 Z0 Z H σ ρ r x hx E q => by cases hx; exact q Z H σ r⟩
def sIf (c : EF Bool) (f g : SF) : SF := fun ρ => errS ρ (fun b => match b with
  | true => f ρ
  | false => g ρ) (c ρ)
theorem ds_if {c : Expr} {xs ys : List Stmt} (hc : DT F T W c ft) (ha : DSs F T W xs f) (hb : DSs F T W ys g) : DS F T W (.If c xs ys pos) (sIf ft f g) := by
  obtain ⟨tc, c1, c2⟩ := hc.ex
  obtain ⟨ta, a1, a2⟩ := ha.ex
  obtain ⟨tb, b1, b2⟩ := hb.ex
  refine ⟨_, fun i => ps_if (c1 i) (a1 i) (b1 i), fun H0 Z0 Z H σ ρ r x hx E q => ?_⟩
  rcases errS_cases hx with ⟨d, e1, e2⟩ | ⟨c, e1, e2⟩
  · refine c2 Z H σ ρ r.st _ e1 _ fun Z1 H1 x1 => ?_
    cases d with
    | true =>
      rw [if_pos rfl]
      exact a2 H0 Z0 Z1 H1 σ ρ (r.ext x1) x e2 E q
    | false =>
      rw [if_neg Bool.false_ne_true]
      exact b2 H0 Z0 Z1 H1 σ ρ (r.ext x1) x e2 E q
  · subst e2
    exact c2 Z H σ ρ r.st _ e1 _ fun Z1 H1 x1 => q Z1 H1 σ (r.ext x1)
end
end DL

set_option Elab.async false
set_option linter.all false
set_option maxRecDepth 100000
set_option maxHeartbeats 400000
namespace DL
open PySem L2

/-! ### expressions that change one's own lists -/
abbrev MF := Env → Option (Except Nat (D × Env))
def SemM (K : PySem.W.Frag) (T : Tb) (W : WX) (te : TE) (f : MF) : Prop := ∀ H0 Z0 Z H σ ρ, Rl K T H0 Z0 Z H σ ρ → ∀ r, f ρ = some r → ∀ Q : VK, (match r with
  | .ok p => ∀ v Z' H', Rl K T H0 Z0 Z' H' σ p.2 → Rep K T Z' p.1 v → Q v H'
  | .error c => ∀ Z' H', Rl K T H0 Z0 Z' H' σ ρ → W (.ref (T.adr c)) none σ H') → te σ H Q
structure DM (F : Fam) (T : Tb) (W : WX) (e : Expr) (f : MF) : Prop where
  ex : ∃ te, (∀ i, PE (F.X i) e te) ∧ SemM F.K T W te f
def mE (f : EF D) : MF := fun ρ => bnd (f ρ) fun d => some (.ok (d, ρ))
/-- the list, the arguments: the list behind it, the answer -/
abbrev GM := List D → List D → Option (List D × D)
def RM (K : PySem.W.Frag) (T : Tb) (r : V → List V → Hp → VK → Prop) (g : GM) : Prop := ∀ Z H a xs ds vs as p, Same Z H → H a = some (.lst xs) → Z a = none → Reps K T Z ds xs → Reps K T Z as vs → g ds as = some p → ∀ Q : VK, (∀ u xs', Reps K T Z p.1 xs' → Rep K T Z p.2 u → Q u (upd H a (.lst xs'))) → r (.ref a) vs H Q
def mAt (j : Nat) (g : GM) (as : List D) (ρ : Env) : Option (Except Nat (D × Env)) := match ρ[j]? with
  | some (.own ds) => match g ds as with
    | some p => some (.ok (p.2, ρ.set j (.own p.1)))
    | none => none
  | _ => none
def mMeth0 (j : Nat) (g : GM) : MF := mAt j g []
def mMeth1 (j : Nat) (g : GM) (f : MF) : MF := fun ρ => match ρ[j]? with
  | some (.own _) => bnd (f ρ) fun p => mAt j g [p.1] p.2
  | _ => none
section
variable {F : Fam} {T : Tb} {W : WX} {pos p : Pos} {e a b : Expr} {fe : EF D} {fm : MF} {k : Nat} {K : PySem.W.Frag}
theorem DE.m (h : DE F T W e fe) : DM F T W e (mE fe) := by
  obtain ⟨te, a1, a2⟩ := h.ex
  refine ⟨te, a1, fun H0 Z0 Z H σ ρ r x hx Q q => ?_⟩
  rcases bnd_cases hx with ⟨d, e1, e2⟩ | ⟨c, e1, e2⟩
  · cases e2
    exact a2 Z H σ ρ r.st _ e1 _ fun v Z1 H1 x1 r1 => q v Z1 H1 (r.ext x1) r1
  · subst e2
    exact a2 Z H σ ρ r.st _ e1 _ fun Z1 H1 x1 => q Z1 H1 (r.ext x1)
theorem mAt_run {j : Nat} {g : GM} {r : V → List V → Hp → VK → Prop} {H0 Z0 Z H : Hp} {σ : L2.St} {ρ : Env} {as : List D} {vs : List V} {x : Except Nat (D × Env)} {v : V} (hr : RM K T r g) (rl : Rl K T H0 Z0 Z H σ ρ) (ha : Reps K T Z as vs) (hx : mAt j g as ρ = some x) (hv : σ[j]? = some (some v)) :
    ∃ p, x = .ok p ∧ ∀ Q : VK, (∀ v Z' H', Rl K T H0 Z0 Z' H' σ p.2 → Rep K T Z' p.1 v → Q v H') → r v vs H Q := by
  unfold mAt at hx
  split at hx
  · rename_i ds hd
    split at hx
    · rename_i pr hp
      cases hx
      obtain ⟨o, h1, a, xs, h2, h3, h4, h5⟩ := rl.st.ok j _ hd
      rw [hv] at h1
      cases h1
      cases h2
      exact ⟨_, rfl, fun Q q => hr Z H a xs ds vs as pr rl.st.zh h3 h4 h5 ha hp Q fun u xs' k1 k2 => q u Z _ (rl.mut hd hv k1) k2⟩
    · cases hx
  · cases hx
theorem mAt_own {j : Nat} {g : GM} {as : List D} {ρ : Env} {x : Except Nat (D × Env)} (hx : mAt j g as ρ = some x) : ∃ ds, ρ[j]? = some (.own ds) := by
  unfold mAt at hx
  split at hx
  · exact ⟨_, by assumption⟩
  · cases hx
theorem dm_meth0 (j : Nat) {x name : Str} {apos : Pos} {id : String} {r : V → List V → Hp → VK → Prop} {g : GM} (slot : Slot "list" name id) (hty : typeOf (.builtin id) = pure (.type "method_descriptor")) (hm : ∀ i, MtR (F.X i) id r) (hr : RM F.K T r g)
    (hN : F.N[j]? = some x := by rfl) (hv : ∀ i, Vis (F.X i).env.scope x := by intro _; first | exact Or.inl rfl | exact Or.inr (Or.inl rfl) | exact Or.inr (Or.inr rfl)) (hd : (x == ("__debug__" : Str)) = false := by decide)
    (hcd : (x == ("__classdict__" : Str)) = false := by decide) (hbase : ∀ i, attributeBase (.Name x p) name (F.X i).env (eval (.Name x p) (F.X i).env) = eval (.Name x p) (F.X i).env := by intro _; rfl) (hline : (apos.endLine == pos.line) = true := by rfl) :
    DM F T W (.Call (.Attribute (.Name x p) name apos) [] [] pos) (mMeth0 j g) := by
  refine ⟨tBM0 F.K "list" r (tVar j), fun i => pe_bm0 PySem.F.plainAttrs_list slot hty (hm i) (pe_var hN (hv i) hd hcd) (hbase i) hline, fun H0 Z0 Z H σ ρ rl y hy Q q => ?_⟩
  obtain ⟨ds, e1⟩ := mAt_own hy
  obtain ⟨o, h1, a, xs, h2, h3, h4, h5⟩ := rl.st.ok j _ e1
  subst h2
  obtain ⟨pr, k1, k2⟩ := mAt_run hr rl Reps.nil hy h1
  subst k1
  exact ⟨_, h1, .inl ⟨rfl, xs, SqL.of h3⟩, k2 Q q⟩
theorem dm_meth1 (j : Nat) {x name : Str} {apos : Pos} {id : String} {r : V → List V → Hp → VK → Prop} {g : GM} (slot : Slot "list" name id) (hty : typeOf (.builtin id) = pure (.type "method_descriptor")) (hm : ∀ i, MtR (F.X i) id r) (hr : RM F.K T r g) (he : DM F T W e fm)
    (hN : F.N[j]? = some x := by rfl) (hv : ∀ i, Vis (F.X i).env.scope x := by intro _; first | exact Or.inl rfl | exact Or.inr (Or.inl rfl) | exact Or.inr (Or.inr rfl)) (hd : (x == ("__debug__" : Str)) = false := by decide)
    (hcd : (x == ("__classdict__" : Str)) = false := by decide) (hbase : ∀ i, attributeBase (.Name x p) name (F.X i).env (eval (.Name x p) (F.X i).env) = eval (.Name x p) (F.X i).env := by intro _; rfl) (hline : (apos.endLine == pos.line) = true := by rfl)
    (hfew : ∀ i, ((backTo pos (starEach [e] (F.X i).env)).all (fun x => !x.1) && (backToKw pos (keywordEach [] (F.X i).env)).all (fun x => x.1.isSome)
      && decide ([e].length + ([] : List Keyword).length + (if ([] : List Keyword).isEmpty then 0 else 1) < 30)) = true := by intro _; rfl)
    (hs : ∀ i, starEach [e] (F.X i).env = (false, eval e (F.X i).env) :: starEach [] (F.X i).env := by intro _; rfl) :
    DM F T W (.Call (.Attribute (.Name x p) name apos) [e] [] pos) (mMeth1 j g fm) := by
  obtain ⟨te, a1, a2⟩ := he.ex
  refine ⟨tBM F.K "list" r (tVar j) (tCons te tNil), fun i => pe_bm PySem.F.plainAttrs_list slot hty (hm i) (pe_var hN (hv i) hd hcd) (pa_cons (a1 i) pa_nil (hs i)) (hbase i) (hfew i) hline (hs i) rfl, fun H0 Z0 Z H σ ρ rl y hy Q q => ?_⟩
  unfold mMeth1 at hy
  split at hy
  · rename_i es e4
    obtain ⟨o, h1, a, xs, h2, h3, h4, h5⟩ := rl.st.ok j _ e4
    subst h2
    refine ⟨_, h1, .inl ⟨rfl, xs, SqL.of h3⟩, ?_⟩
    rcases bnd_cases hy with ⟨pr, e1, e2⟩ | ⟨c, e1, e2⟩
    · refine a2 H0 Z0 Z H σ ρ rl _ e1 _ fun v Z1 H1 r1 w1 => ?_
      obtain ⟨pr, k1, k2⟩ := mAt_run hr r1 (Reps.cons w1 Reps.nil) e2 h1
      subst k1
      exact k2 Q q
    · subst e2
      exact a2 H0 Z0 Z H σ ρ rl _ e1 _ q
  · cases hy
/-! the methods -/
def mApp : GM := fun ds as => match as with
  | [d] => ifO (ds.length < sizeLine) (ds ++ [d], .non)
  | _ => none
theorem rm_app : RM K T rAppend mApp := by
  intro Z H a xs ds vs as pr zh ha hz hr has e Q q
  match as, has, e with
  | [d], has, e =>
    obtain ⟨c, e⟩ := ifO_some (show ifO _ _ = some pr from e)
    subst e
    obtain ⟨v, r, rfl, h1, h2⟩ := reps_cons has
    cases reps_nil h2
    exact ⟨a, xs, v, rfl, rfl, ha, by rw [← hr.length]; exact c, q _ _ (hr.append (Reps.cons h1 Reps.nil)) rfl⟩
def mExt : GM := fun ds as => match as with
  | [.lst es] => ifO (ds.length + es.length ≤ sizeLine) (ds ++ es, .non)
  | _ => none
theorem rm_ext : RM K T rExtend mExt := by
  intro Z H a xs ds vs as pr zh ha hz hr has e Q q
  unfold mExt at e
  split at e
  · rename_i es
    obtain ⟨c, e⟩ := ifO_some e
    subst e
    obtain ⟨v, r, rfl, ⟨b, ys, rfl, h1, h3⟩, h2⟩ := reps_cons has
    cases reps_nil h2
    exact ⟨a, b, xs, ys, rfl, rfl, ha, zh _ _ h1, by rw [← hr.length, ← h3.length]; exact c, q _ _ (hr.append h3) rfl⟩
  · cases e
def mPop : GM := fun ds as => match as with
  | [] => (ds[ds.length - 1]?).map fun d => (ds.dropLast, d)
  | _ => none
theorem Reps.dropLast {Z : Hp} {ds : List D} {vs : List V} (h : Reps K T Z ds vs) : Reps K T Z ds.dropLast vs.dropLast := by
  rw [List.dropLast_eq_take, List.dropLast_eq_take, h.length]
  exact h.take _
theorem rm_pop : RM K T rPop mPop := by
  intro Z H a xs ds vs as pr zh ha hz hr has e Q q
  cases as with
  | nil =>
    obtain ⟨d, h1, h2⟩ := Option.map_eq_some_iff.mp (show (ds[ds.length - 1]?).map _ = some pr from e)
    subst h2
    cases reps_nil has
    obtain ⟨v, h3, h4⟩ := hr.get h1
    exact ⟨a, xs, v, rfl, rfl, ha, by rw [← hr.length]; exact h3, q _ _ hr.dropLast h4⟩
  | cons _ _ => cases e
def mPopAt : GM := fun ds as => match as with
  | [.int i] => if i.natAbs ≤ sizeLine then (match seqIndex? i ds.length with
    | some k => (ds[k]?).map fun d => (ds.eraseIdx k, d)
    | none => none) else none
  | _ => none
theorem rm_popAt : RM K T rPopAt mPopAt := by
  intro Z H a xs ds vs as pr zh ha hz hr has e Q q
  unfold mPopAt at e
  split at e
  · rename_i i
    split at e
    · rename_i c
      split at e
      · rename_i k hk
        obtain ⟨d, h1, h2⟩ := Option.map_eq_some_iff.mp e
        subst h2
        cases (Reps.ints (ns := [i]) has)
        obtain ⟨v, h3, h4⟩ := hr.get h1
        exact ⟨a, xs, i, k, v, rfl, rfl, ha, by have := sz24 c; omega, by have := sz24 c; omega, by rw [← hr.length]; exact hk, h3, q _ _ (hr.eraseIdx k) h4⟩
      · cases e
    · cases e
  · cases e
def mRev : GM := fun ds as => match as with
  | [] => some (ds.reverse, .non)
  | _ => none
theorem rm_rev : RM K T rReverse mRev := by
  intro Z H a xs ds vs as pr zh ha hz hr has e Q q
  cases as with
  | nil =>
    cases e
    cases reps_nil has
    exact ⟨a, xs, rfl, rfl, ha, q _ _ hr.reverse rfl⟩
  | cons _ _ => cases e
def mClear : GM := fun ds as => match as with
  | [] => some ([], .non)
  | _ => none
theorem rm_clear : RM K T rClear mClear := by
  intro Z H a xs ds vs as pr zh ha hz hr has e Q q
  cases as with
  | nil =>
    cases e
    cases reps_nil has
    exact ⟨a, xs, rfl, rfl, ha, q _ _ Reps.nil rfl⟩
  | cons _ _ => cases e
/-! statements over them -/
def sDropM (f : MF) : SF := fun ρ => errS ρ (fun p => some (.nx p.2)) (f ρ)
theorem ds_dropM (he : DM F T W e fm) (hs : ∀ i, swapsWith e none pos.line (F.X i).env = pure false := by intro _; rfl) : DS F T W (.Expr e pos) (sDropM fm) := by
  obtain ⟨te, a1, a2⟩ := he.ex
  refine ⟨_, fun i => ps_expr (a1 i) (hs i), fun H0 Z0 Z H σ ρ r x hx E q => ?_⟩
  rcases errS_cases hx with ⟨d, e1, e2⟩ | ⟨c, e1, e2⟩
  · cases e2
    exact a2 H0 Z0 Z H σ ρ r _ e1 _ fun v Z1 H1 r1 w1 => q Z1 H1 σ r1
  · subst e2
    exact a2 H0 Z0 Z H σ ρ r _ e1 _ fun Z1 H1 r1 => q Z1 H1 σ r1
def sSetM (u : D → Option (List (Nat × D))) (f : MF) : SF := fun ρ => errS ρ (fun p => (u p.1).map fun ups => .nx (setD p.2 ups)) (f ρ)
theorem ds_asgM {ix : List Nat} {tg : Expr} {u : D → Option (List (Nat × D))} (he : DM F T W e fm) (hg : DG F T ix tg u) (hs : ∀ i, swapsWithSole [tg] e pos.line (F.X i).env = pure false := by intro _; rfl) (hw : ∀ i, swappedStores [tg] e (F.X i).env = pure none := by intro _; rfl)
    (h1 : ∀ i, (assignEach [tg] (F.X i).env).map (·.2) = [assign tg (F.X i).env] := by intro _; rfl) : DS F T W (.Assign [tg] e pos) (sSetM u fm) := by
  obtain ⟨te, a1, a2⟩ := he.ex
  obtain ⟨g, b1, b2⟩ := hg.ex
  refine ⟨_, fun i => ps_asg (a1 i) (b1 i) (hs i) (hw i) (h1 i), fun H0 Z0 Z H σ ρ r x hx E q => ?_⟩
  rcases errS_cases hx with ⟨d, e1, e2⟩ | ⟨c, e1, e2⟩
  · obtain ⟨ups, e3, e4⟩ := Option.map_eq_some_iff.mp e2
    subst e4
    refine a2 H0 Z0 Z H σ ρ r _ e1 _ fun v Z1 H1 r1 w1 => ?_
    exact (b2 Z1 H1 σ v d.1 ups r1.st.zh w1 e3).2 _ fun vps hv => q Z1 H1 _ (r1.sets hv)
  · subst e2
    exact a2 H0 Z0 Z H σ ρ r _ e1 _ fun Z1 H1 r1 => q Z1 H1 σ r1
/-- x[i] = v -/
def sSetI (j : Nat) (fi fv : EF D) : SF := fun ρ => match ρ[j]? with
  | some (.own ds) => errS ρ (fun v => errS ρ (fun i => match i with
    | .int n => (ixN ds.length n).map fun m => .nx (ρ.set j (.own (ds.set m v)))
    | _ => none) (fi ρ)) (fv ρ)
  | _ => none
theorem ds_setI (j : Nat) {i' v' : Expr} {fi fv : EF D} {x : Str} {p2 : Pos} (hv : DE F T W v' fv) (hi : DE F T W i' fi) (hN : F.N[j]? = some x := by rfl) (hvi : ∀ i, Vis (F.X i).env.scope x := by intro _; first | exact Or.inl rfl | exact Or.inr (Or.inl rfl) | exact Or.inr (Or.inr rfl)) (hd : (x == ("__debug__" : Str)) = false := by decide)
    (hcd : (x == ("__classdict__" : Str)) = false := by decide)
    (ha : ∀ i v, assign (.Subscript (.Name x p) i' p2) (F.X i).env v = (do
      let ov ← holding [v] (eval (.Name x p) (F.X i).env)
      let iv ← holding [v, ov] (eval i' (F.X i).env)
      standAt p2
      holding [v, ov, iv] (setItem ov iv v)
      release [v, ov, iv] []) := by intro _ _; rfl) (hs : ∀ i, swapsWithSole [.Subscript (.Name x p) i' p2] v' pos.line (F.X i).env = pure false := by intro _; rfl) (hw : ∀ i, swappedStores [.Subscript (.Name x p) i' p2] v' (F.X i).env = pure none := by intro _; rfl)
    (h1 : ∀ i, (assignEach [.Subscript (.Name x p) i' p2] (F.X i).env).map (·.2) = [assign (.Subscript (.Name x p) i' p2) (F.X i).env] := by intro _; rfl) : DS F T W (.Assign [.Subscript (.Name x p) i' p2] v' pos) (sSetI j fi fv) := by
  obtain ⟨tv, a1, a2⟩ := hv.ex
  obtain ⟨ti, b1, b2⟩ := hi.ex
  refine ⟨tAsg tv (L2.gSub (tVar j) ti rSetL), fun i => ps_asg (a1 i) (pg_sub (pe_var hN (hvi i) hd hcd) (b1 i) set_list (ha i)) (hs i) (hw i) (h1 i), fun H0 Z0 Z H σ ρ r x hx E q => ?_⟩
  unfold sSetI at hx
  split at hx
  · rename_i ds hj
    obtain ⟨o, h1, a, xs, h2, h3, h4, h5⟩ := r.st.ok j _ hj
    subst h2
    rcases errS_cases hx with ⟨d, e1, e2⟩ | ⟨c, e1, e2⟩
    · refine a2 Z H σ ρ r.st _ e1 _ fun v Z1 H1 x1 w1 => ⟨_, h1, ?_⟩
      rcases errS_cases e2 with ⟨iv, e3, e4⟩ | ⟨c, e3, e4⟩
      · refine b2 Z1 H1 σ ρ (r.ext x1).st _ e3 _ fun w Z2 H2 x2 w2 => ?_
        cases iv with
        | int n =>
          obtain ⟨m, hm, e5⟩ := Option.map_eq_some_iff.mp e4
          subst e5
          cases (show w = .int n from w2)
          have r2 := (r.ext x1).ext x2
          obtain ⟨o, k1, a', xs', k2, k3, k4, k5⟩ := r2.st.ok j _ hj
          rw [h1] at k1
          cases k1
          cases k2
          exact ⟨a, xs', n, m, rfl, rfl, k3, by rw [← k5.length]; exact hm, q Z2 _ σ (r2.mut hj h1 (k5.set m (Rep.mono x2.zz d v w1)))⟩
        | _ => cases e4
      · subst e4
        exact b2 Z1 H1 σ ρ (r.ext x1).st _ e3 _ fun Z2 H2 x2 => q Z2 H2 σ ((r.ext x1).ext x2)
    · subst e2
      exact a2 Z H σ ρ r.st _ e1 _ fun Z1 H1 x1 => q Z1 H1 σ (r.ext x1)
  · cases hx
end
end DL

set_option Elab.async false
set_option linter.all false
set_option maxRecDepth 100000
set_option maxHeartbeats 400000
namespace DL
open PySem L2

/-! ### loops -/
def forF (u : D → Option (List (Nat × D))) (b : SF) : List D → SF
  | [], ρ => some (.nx ρ)
  | d :: ds, ρ => match u d with
    | none => none
    | some ups => match b (setD ρ ups) with
      | some (.nx ρ') => forF u b ds ρ'
      | some (.ct ρ') => forF u b ds ρ'
      | some (.bk ρ') => some (.nx ρ')
      | r => r
def sFor (it : EF (List D)) (u : D → Option (List (Nat × D))) (b : SF) : SF := fun ρ => errS ρ (fun ds => forF u b ds ρ) (it ρ)
section
variable {F : Fam} {T : Tb} {W : WX} {pos p : Pos} {tg iter e : Expr} {body : List Stmt} {it : EF (List D)} {u : D → Option (List (Nat × D))} {b f : SF} {ft : EF Bool} {k : Nat} {K : PySem.W.Frag} {ix : List Nat}
theorem sem_for {wi : TI} {g : TG} {tb : TS} (hi : SemI K T W wi it) (hg : SemG K T ix g u) (hb : SemS K T W tb b) : SemS K T W (tFor wi g tb) (sFor it u b) := fun H0 Z0 Z H σ ρ r x hx E q => by
  rcases errS_cases hx with ⟨ds, e1, e2⟩ | ⟨c, e1, e2⟩
  · refine hi Z H σ ρ r.st _ e1 _ fun J Z1 H1 x1 wk => ?_
    have r1 := r.ext x1
    have bs1 := r1.bs
    have q1 := q.ground bs1
    refine ⟨fun i m σ' H' => m = ds.length - i ∧ i ≤ ds.length ∧ ∃ Z' ρ', Rl K T H0 Z1 Z' H' σ' ρ' ∧ forF u b (ds.drop i) ρ' = some x, ⟨ds.length, by simp, Nat.zero_le _, Z1, ρ, r1.here, e2⟩, ?_⟩
    rintro i m σ' H' ⟨rfl, hi', Z', ρ', r2, hf⟩
    obtain ⟨wgo, wst⟩ := wk Z' H' r2.bs.zz r2.bs.zh
    by_cases hlt : i < ds.length
    · obtain ⟨d, hd⟩ : ∃ d, ds[i]? = some d := ⟨ds[i], by simp [hlt]⟩
      have hdrop : ds.drop i = d :: ds.drop (i + 1) := by
        rw [List.drop_eq_getElem_cons hlt]
        congr 1
        exact (List.getElem?_eq_some_iff.mp hd).2
      rw [hdrop] at hf
      unfold forF at hf
      cases eu : u d with
      | none => rw [eu] at hf; cases hf
      | some ups =>
        rw [eu] at hf
        simp only at hf
        obtain ⟨go, yl⟩ := wgo i d hd
        refine .inr ⟨go, fun σ6 H6 => ∃ Z6 ρ6, Rl K T H0 Z1 Z6 H6 σ6 ρ6 ∧ forF u b (ds.drop (i + 1)) ρ6 = some x, fun σ6 H6 h6 => ⟨ds.length - (i + 1), by omega, rfl, hlt, h6⟩, fun xv H2 y => ?_⟩
        obtain ⟨Z2, x2, rx⟩ := yl xv H2 y
        refine (hg Z2 H2 σ' xv d ups x2.zh rx eu).2 _ fun vps hv => ?_
        have r3 := (r2.ext x2).sets hv
        cases eb : b (setD ρ' ups) with
        | none => rw [eb] at hf; cases hf
        | some y =>
          rw [eb] at hf
          refine hb H0 Z1 Z2 H2 _ _ r3 y eb _ ?_
          cases y with
          | nx ρ6 => exact fun Z6 H6 σ6 r6 => ⟨Z6, ρ6, r6, hf⟩
          | ct ρ6 => exact fun Z6 H6 σ6 r6 => ⟨Z6, ρ6, r6, hf⟩
          | bk ρ6 => cases hf; exact q1
          | rt s => cases hf; exact q1
          | ex c ρ6 => cases hf; exact q1
    · have e : i = ds.length := by omega
      subst e
      refine .inl ⟨wst _ (Nat.le_refl _), ?_⟩
      rw [List.drop_length] at hf
      cases hf
      exact q1 Z' H' σ' r2
  · subst e2
    exact hi Z H σ ρ r.st _ e1 _ fun Z1 H1 x1 => q Z1 H1 σ (r.ext x1)
theorem ds_for (ok : FOk F W k) (hi : DI F T W tg iter it) (hg : DG F T ix tg u) (hb : DSs F T W body b) (hs : ∀ i x, foldedSetIterable iter (F.X i).env x = pure x := by intro _ _; rfl) : DS F T W (.For tg iter body [] pos) (sFor it u b) := by
  obtain ⟨wi, a1, a2⟩ := hi.ex
  obtain ⟨g, b1, b2⟩ := hg.ex
  obtain ⟨tb, c1, c2⟩ := hb.ex
  exact ⟨_, fun i => ps_for (ok.po i) rfl (a1 i) (b1 i) (c1 i) (hs i), sem_for a2 b2 c2⟩
def whileF (c : EF Bool) (b : SF) : Nat → SF
  | 0, _ => none
  | n + 1, ρ => match c ρ with
    | some (.ok true) => match b ρ with
      | some (.nx ρ') => whileF c b n ρ'
      | some (.ct ρ') => whileF c b n ρ'
      | some (.bk ρ') => some (.nx ρ')
      | r => r
    | some (.ok false) => some (.nx ρ)
    | some (.error e) => some (.ex e ρ)
    | none => none
def fuel : Nat := 1000000000000
def sWhile (c : EF Bool) (b : SF) : SF := whileF c b fuel
theorem sem_while {tc : TT} {tb : TS} (hc : SemT K T W tc ft) (hb : SemS K T W tb b) (n : Nat) : SemS K T W (tWhile tc tb) (whileF ft b n) := fun H0 Z0 Z H σ ρ r x hx E q => by
  refine ⟨fun m σ' H' => ∃ Z' ρ', Rl K T H0 Z0 Z' H' σ' ρ' ∧ whileF ft b m ρ' = some x, ⟨n, Z, ρ, r, hx⟩, ?_⟩
  rintro m σ' H' ⟨Z', ρ', r2, hf⟩
  cases m with
  | zero => cases hf
  | succ m =>
    unfold whileF at hf
    cases ec : ft ρ' with
    | none => rw [ec] at hf; cases hf
    | some y =>
      rw [ec] at hf
      cases y with
      | error c =>
        cases hf
        exact hc Z' H' σ' ρ' r2.st _ ec _ fun Z1 H1 x1 => q Z1 H1 σ' (r2.ext x1)
      | ok bb =>
        refine hc Z' H' σ' ρ' r2.st _ ec _ fun Z1 H1 x1 => ?_
        have r3 := r2.ext x1
        cases bb with
        | false =>
          rw [if_neg Bool.false_ne_true]
          cases hf
          exact q Z1 H1 σ' r3
        | true =>
          rw [if_pos rfl]
          simp only at hf
          refine ⟨fun σ6 H6 => ∃ Z6 ρ6, Rl K T H0 Z0 Z6 H6 σ6 ρ6 ∧ whileF ft b m ρ6 = some x, fun σ6 H6 h6 => ⟨m, Nat.lt_succ_self _, h6⟩, ?_⟩
          cases eb : b ρ' with
          | none => rw [eb] at hf; cases hf
          | some y =>
            rw [eb] at hf
            refine hb H0 Z0 Z1 H1 _ _ r3 y eb _ ?_
            cases y with
            | nx ρ6 => exact fun Z6 H6 σ6 r6 => ⟨Z6, ρ6, r6, hf⟩
            | ct ρ6 => exact fun Z6 H6 σ6 r6 => ⟨Z6, ρ6, r6, hf⟩
            | bk ρ6 => cases hf; exact q
            | rt s => cases hf; exact q
            | ex c ρ6 => cases hf; exact q
theorem ds_while {c : Expr} (ok : FOk F W k) (hc : DT F T W c ft) (hb : DSs F T W body b) : DS F T W (.While c body [] pos) (sWhile ft b) := by
  obtain ⟨tc, a1, a2⟩ := hc.ex
  obtain ⟨tb, c1, c2⟩ := hb.ex
  exact ⟨_, fun i => ps_while (ok.po i) (a1 i) (c1 i), sem_while a2 c2 fuel⟩
/-! x += e, of ints -/
def sAug (g : Int → Int → Int) (j : Nat) (f : EF D) : SF := fun ρ => match ρ[j]? with
  | some (.dat (.int i)) => errS ρ (fun d => match d with
    | .int n => some (.nx (ρ.set j (.dat (.int (g i n)))))
    | _ => none) (f ρ)
  | _ => none
theorem ds_aug {op : Operator} {g : Int → Int → Int} {fe : EF D} (ok : FOk F W k) (hop : ∀ i, PIp (F.X i) op (ipI g)) (j : Nat) {x : Str} {p' : Pos} (he : DE F T W e fe) (hi : F.N[j]? = some x := by rfl) (hx : ∀ i, Loc (F.X i).env.scope x := by intro _; first | exact Or.inl rfl | exact Or.inr rfl)
    (hf : ∀ i, (F.X i).fn x = true ∨ (F.X i).env.scope.names.lookup x = some .local := by intro _; first | exact .inl rfl | exact .inr rfl) : DS F T W (.AugAssign (.Name x p') op e pos) (sAug g j fe) := by
  obtain ⟨te, a1, a2⟩ := he.ex
  refine ⟨tAug j te (ipI g), fun i => ps_aug ok.nd hi (hx i) (a1 i) (hop i) (hf i), fun H0 Z0 Z H σ ρ r y hy E q => ?_⟩
  unfold sAug at hy
  split at hy
  · rename_i n hn
    obtain ⟨v, h1, h2⟩ := r.st.var hn
    cases (show v = .int n from h2)
    rcases errS_cases hy with ⟨d, e1, e2⟩ | ⟨c, e1, e2⟩
    · cases d with
      | int m =>
        cases e2
        exact ⟨_, h1, a2 Z H σ ρ r.st _ e1 _ fun w Z1 H1 x1 w1 => ⟨n, m, rfl, w1, q Z1 H1 _ (r.set x1 j (datOk rfl))⟩⟩
      | _ => cases e2
    · subst e2
      exact ⟨_, h1, a2 Z H σ ρ r.st _ e1 _ fun Z1 H1 x1 => q Z1 H1 σ (r.ext x1)⟩
  · cases hy
theorem ds_augAdd {fe : EF D} (ok : FOk F W k) (j : Nat) {x : Str} {p' : Pos} (he : DE F T W e fe) (hi : F.N[j]? = some x := by rfl) (hx : ∀ i, Loc (F.X i).env.scope x := by intro _; first | exact Or.inl rfl | exact Or.inr rfl)
    (hf : ∀ i, (F.X i).fn x = true ∨ (F.X i).env.scope.names.lookup x = some .local := by intro _; first | exact .inl rfl | exact .inr rfl) : DS F T W (.AugAssign (.Name x p') .Add e pos) (sAug (fun i n => i + n) j fe) := ds_aug ok (fun _ => ip_add) j he hi hx hf
/-! raise X('..') -/
structure ExD (K : PySem.W.Frag) (mg : Str → Option Value) (T : Tb) (x : Str) (c : Nat) : Prop where
  ex : ∃ bmB B newId initId, ExcBaseFacts B newId initId bmB ∧ PySem.W.excIn K (T.adr c) bmB newId = true ∧ mg x = some (.ref (T.adr c)) ∧ PySem.W.keepIn K (.ref (T.adr c)) = true ∧ PySem.W.subIn K (.ref (T.adr c)) (.type "BaseException") = some true ∧ PySem.W.typeIn K (.ref (T.adr c)) = some (.type "type")
theorem ds_raise (ok : FOk F W k) {x m : Str} {c : Nat} {j : Nat} {p p2 p3 : Pos} (h : ExD F.K F.mg T x c) (hg : ∀ i, Gl (F.X i) x := by intro _; rfl) (hdb : (x == ("__debug__" : Str)) = false := by decide) :
    DS F T W (.Raise (some (.Call (.Name x p) [.Constant (.str m) j p2] [] p3)) none pos) (fun ρ => some (.ex c ρ)) := by
  obtain ⟨bmB, B, newId, initId, h1, h2, h3, h4, h5, h6⟩ := h.ex
  refine ⟨_, fun i => ps_raise rfl (ok.tk i) (pmk_own h1 h2 h3 h4 (raises_own h5 h6) (hg i) hdb), fun H0 Z0 Z H σ ρ r y hy E q => ?_⟩
  cases hy
  exact q Z H σ r
end

/-! ### a def's body gives its promise -/
def fnD (n N : Nat) (b : SF) : List D → Option (Except Nat S) := fun ds => if ds.length = n then match b (ds.map .dat ++ List.replicate (N - ds.length) .no) with
  | some (.rt s) => some (.ok s)
  | some (.nx _) => some (.ok (.dat .non))
  | some (.ex c _) => some (.error c)
  | _ => none else none
theorem fnD_len {n N : Nat} {b : SF} (ds : List D) (r) (h : fnD n N b ds = some r) : ds.length = n := by
  unfold fnD at h
  split at h
  · assumption
  · cases h
theorem fnD_run {n N : Nat} {b : SF} {ds : List D} {r} (h : fnD n N b ds = some r) : ∃ x, b (ds.map .dat ++ List.replicate (N - ds.length) .no) = some x ∧ ((∃ s, x = .rt s ∧ r = .ok s) ∨ (∃ ρ, x = .nx ρ ∧ r = .ok (.dat .non)) ∨ ∃ c ρ, x = .ex c ρ ∧ r = .error c) := by
  unfold fnD at h
  split at h
  · split at h
    · rename_i e; exact ⟨_, e, .inl ⟨_, rfl, (Option.some.inj h).symm⟩⟩
    · rename_i e; exact ⟨_, e, .inr (.inl ⟨_, rfl, (Option.some.inj h).symm⟩)⟩
    · rename_i e; exact ⟨_, e, .inr (.inr ⟨_, _, rfl, (Option.some.inj h).symm⟩)⟩
    · cases h
  · cases h
theorem start_stt {K : PySem.W.Frag} {T : Tb} {Z H : Hp} {ds : List D} {vs : List V} {N : List Str} (zh : Same Z H) (hr : Reps K T Z ds vs) : Rl K T H Z Z H (L2.start N vs) (ds.map .dat ++ List.replicate (N.length - ds.length) .no) := by
  have len := hr.length
  have get : ∀ i s, (ds.map S.dat ++ List.replicate (N.length - ds.length) S.no)[i]? = some s → (∃ d, ds[i]? = some d ∧ s = .dat d) ∨ (ds.length ≤ i ∧ i < ds.length + (N.length - ds.length) ∧ s = .no) := fun i s e => by
    by_cases h : i < ds.length
    · rw [List.getElem?_append_left (by simpa using h)] at e
      rw [List.getElem?_map] at e
      obtain ⟨d, h1, h2⟩ := Option.map_eq_some_iff.mp e
      exact .inl ⟨d, h1, h2.symm⟩
    · rw [List.getElem?_append_right (by simpa using h), List.getElem?_replicate] at e
      split at e
      · rename_i hl
        simp at hl
        exact .inr ⟨by omega, by omega, (Option.some.inj e).symm⟩
      · cases e
  refine ⟨⟨zh, by simp [L2.start, len], fun i s e => ?_, fun i j s t a _ e e' w w' _ => ?_⟩, ⟨Same.refl _, Same.refl _, zh, fun a o h => .inl h⟩, fun i s a e w _ => ?_⟩
  · rcases get i s e with ⟨d, h1, h2⟩ | ⟨h1, h2, h3⟩
    · subst h2
      obtain ⟨v, h3, h4⟩ := hr.get h1
      have hi : i < vs.length := (List.getElem?_eq_some_iff.mp h3).1
      refine ⟨some v, ?_, v, rfl, h4⟩
      unfold L2.start
      rw [List.getElem?_append_left (by simpa using hi), List.getElem?_map, h3]
      rfl
    · subst h3
      refine ⟨none, ?_, trivial⟩
      unfold L2.start
      rw [List.getElem?_append_right (by simp; omega), List.getElem?_replicate, if_pos (by simp; omega)]
  · rcases get i s e with ⟨d, h1, h2⟩ | ⟨h1, h2, h3⟩
    · subst h2; cases w
    · subst h3; cases w
  · rcases get i s e with ⟨d, h1, h2⟩ | ⟨h1, h2, h3⟩
    · subst h2; cases w
    · subst h3; cases w
section
variable {P : Program} {w : World} {K : PySem.W.Frag} {mg : Str → Option Value} {base : Heap} {T : Tb}
/-- the body's contexts -/
def BodyOk (P : Program) (w : World) (K : PySem.W.Frag) (mg : Str → Option Value) (base : Heap) (T : Tb) (N : List Str) (qual : Str) (st : Stmt) (k : Nat) (b : SF) : Prop :=
  ∀ (f : Addr) (cdv : Value) (A : Around) (outer : List PySem.Env) (s : Shared) (H : Hp) (E : XK), FOk (Fam.of (cxOf (L2.CX P w) P w K mg base N qual (defScope st) f cdv A outer s H E)) (fun cls d _ H => E cls d H) k →
    DSs (Fam.of (cxOf (L2.CX P w) P w K mg base N qual (defScope st) f cdv A outer s H E)) T (fun cls d _ H => E cls d H) (defBody st) b
theorem fn_ok {x qual : Str} {st : Stmt} {f : Addr} {fd : FuncData} {N ps : List Str} {k n : Nat} {b : SF} (Fn : Fun K x qual st f fd) (Sc : FnScope N ps (defScope st)) (hn : ps.length = n) (hb : BodyOk P w K mg base T N qual st k b) :
    FnOk P w K mg base (L2.CX P w) (k + 1) f fd ps (spD K T n (fnD n N.length b)) := by
  refine Fn.okX Sc (fun vs H Q E h => ?_) (fun cdv A outer s H vs Q E hr h => ?_)
  · obtain ⟨Z, ds, r, h1, _⟩ := h
    rw [h1, hn]
  · obtain ⟨Z, ds, r, h1, h2, h3, h4, h5⟩ := h
    have ok : FOk (Fam.of (cxOf (L2.CX P w) P w K mg base N qual (defScope st) f cdv A outer s H E)) (fun cls d _ H => E cls d H) k :=
      ⟨Sc.nd, fun _ => takes_of rfl rfl rfl rfl, fun _ => passes_of rfl, fun _ => hr⟩
    obtain ⟨ts, a1, a2⟩ := (hb f cdv A outer s H E ok).ex
    refine ⟨ts, a1 (), ?_⟩
    obtain ⟨x, e1, e2⟩ := fnD_run h4
    have rl := start_stt (N := N) h2 h3
    have ends : ∀ {Z' H' : Hp}, Bs H Z Z' H' → Ext Z H Z' H' := fun {Z' H'} b => ⟨b.zz, b.hh, b.zh, b.nw⟩
    refine a2 H Z Z H _ _ rl x e1 _ ?_
    rcases e2 with ⟨s, rfl, rfl⟩ | ⟨ρ, rfl, rfl⟩ | ⟨c, ρ, rfl, rfl⟩
    · exact fun Z' H' v b o => h5 v Z' H' (ends b) o
    · exact fun Z' H' σ r' => h5 .non Z' H' (ends r'.bs) (datOk rfl)
    · exact fun Z' H' σ r' => h5 Z' H' (ends r'.bs)
theorem fn_d {x qual : Str} {st : Stmt} {f : Addr} {fd : FuncData} {N ps : List Str} {k n : Nat} {b : SF} (Fn : Fun K x qual st f fd) (Sc : FnScope N ps (defScope st)) (hn : ps.length = n) (hm : mg x = some (.ref f)) (hbi : Binds K fd ps []) (hb : BodyOk P w K mg base T N qual st k b) :
    FnD P w K mg base T (k + 1) x n (fnD n N.length b) := ⟨⟨f, fd, ps, fn_ok Fn Sc hn hb, hm, Fn.kp, hbi⟩, fnD_len⟩
end
end DL

set_option Elab.async false
set_option linter.all false
set_option maxRecDepth 100000
set_option maxHeartbeats 400000
namespace DL
open PySem L2
section
variable {F : Fam} {T : Tb} {W : WX} {pos p p' : Pos} {e a b : Expr} {fe fa fb : EF D} {k : Nat} {K : PySem.W.Frag}
/-! list(range(..)) -/
def gRg (i j : Int) : Option (List D) := ifO (i.natAbs ≤ sizeLine ∧ j.natAbs ≤ sizeLine ∧ (j - i).toNat ≤ sizeLine) (rngD i j)
def eLRg1 (f : EF D) : EF S := fun ρ => bnd (f ρ) fun d => match d with
  | .int j => okO ((gRg 0 j).map .own)
  | _ => none
def eLRg2 (f g : EF D) : EF S := fun ρ => bnd (f ρ) fun d => bnd (g ρ) fun d' => match d, d' with
  | .int i, .int j => okO ((gRg i j).map .own)
  | _, _ => none
theorem rgV_rep {Z : Hp} (i j : Int) : Reps K T Z (rngD i j) (rgV i j) := by
  unfold rngD rgV
  generalize (j - i).toNat = n
  have : ∀ l : List Nat, Reps K T Z (l.map fun m => D.int (i + (m : Nat))) (l.map fun m => V.int (i + (m : Nat))) := fun l => by
    induction l with
    | nil => exact Reps.nil
    | cons x r ih => exact Reps.cons rfl ih
  exact this _
theorem gRg_of {i j : Int} {ds : List D} (h : gRg i j = some ds) : RgOk i j ∧ ds = rngD i j := by
  obtain ⟨c, e⟩ := ifO_some h
  have c1 := sz24 c.1
  have c2 := sz24 c.2.1
  have c3 := sz24 c.2.2
  exact ⟨⟨by omega, by omega, by omega, by omega, by omega⟩, e.symm⟩
theorem do_listRg1 (ha : DE F T W a fa) (hm : F.mg "list" = none) (hm2 : F.mg "range" = none) (hg : ∀ i, Gl (F.X i) "list" := by intro _; rfl) (hg2 : ∀ i, Gl (F.X i) "range" := by intro _; rfl) (na : ∀ i, starEach [a] (F.X i).env = (false, eval a (F.X i).env) :: starEach [] (F.X i).env := by intro _; rfl)
    (na2 : ∀ i, starEach [.Call (.Name "range" p') [a] [] p] (F.X i).env = (false, eval (.Call (.Name "range" p') [a] [] p) (F.X i).env) :: starEach [] (F.X i).env := by intro _; rfl) {p3 pos : Pos} : DO F T W (.Call (.Name "list" p3) [.Call (.Name "range" p') [a] [] p] [] pos) (eLRg1 fa) := by
  obtain ⟨ta, a1, a2⟩ := ha.ex
  refine ⟨_, fun i => pe_listRg rfl (hg i) hm (prg_1 (hg2 i) hm2 (a1 i) (na i)) (na2 i), fun Z H σ ρ st r hr Q q => ?_⟩
  rcases bnd_cases hr with ⟨d, e1, e2⟩ | ⟨c, e1, e2⟩
  · cases d with
    | int j =>
      obtain ⟨s, e3, e4⟩ := okO_cases e2
      obtain ⟨ds, e5, e6⟩ := Option.map_eq_some_iff.mp e3
      subst e4 e6
      obtain ⟨c, rfl⟩ := gRg_of e5
      exact a2 Z H σ ρ st _ e1 _ fun v Z1 H1 x1 r1 => ⟨j, r1, c, fun l hl => q _ Z1 _ (x1.trans (Ext.mine x1.zh hl)) ((newOk x1.zh hl (rgV_rep 0 j)).back x1.hh)⟩
    | _ => cases e2
  · subst e2
    exact a2 Z H σ ρ st _ e1 _ q
theorem do_listRg2 (ha : DE F T W a fa) (hb : DE F T W b fb) (hm : F.mg "list" = none) (hm2 : F.mg "range" = none) (hg : ∀ i, Gl (F.X i) "list" := by intro _; rfl) (hg2 : ∀ i, Gl (F.X i) "range" := by intro _; rfl)
    (na : ∀ i, starEach [a, b] (F.X i).env = (false, eval a (F.X i).env) :: starEach [b] (F.X i).env := by intro _; rfl) (nb : ∀ i, starEach [b] (F.X i).env = (false, eval b (F.X i).env) :: starEach [] (F.X i).env := by intro _; rfl)
    (hp : ∀ i, (backTo p (starEach [b] (F.X i).env)).any (·.1) = false := by intro _; rfl)
    (na2 : ∀ i, starEach [.Call (.Name "range" p') [a, b] [] p] (F.X i).env = (false, eval (.Call (.Name "range" p') [a, b] [] p) (F.X i).env) :: starEach [] (F.X i).env := by intro _; rfl) {p3 pos : Pos} : DO F T W (.Call (.Name "list" p3) [.Call (.Name "range" p') [a, b] [] p] [] pos) (eLRg2 fa fb) := by
  obtain ⟨ta, a1, a2⟩ := ha.ex
  obtain ⟨tb, b1, b2⟩ := hb.ex
  refine ⟨_, fun i => pe_listRg rfl (hg i) hm (prg_2 (hg2 i) hm2 (a1 i) (b1 i) (na i) (nb i) (hp i)) (na2 i), fun Z H σ ρ st r hr Q q => ?_⟩
  rcases bnd_cases hr with ⟨d, e1, e2⟩ | ⟨c, e1, e2⟩
  · refine a2 Z H σ ρ st _ e1 _ fun v Z1 H1 x1 r1 => ?_
    rcases bnd_cases e2 with ⟨d', e3, e4⟩ | ⟨c, e3, e4⟩
    · refine b2 Z1 H1 σ ρ (st.ext x1) _ e3 _ fun w Z2 H2 x2 r2 => ?_
      cases d with
      | int i =>
        cases d' with
        | int j =>
          obtain ⟨s, e5, e6⟩ := okO_cases e4
          obtain ⟨ds, e7, e8⟩ := Option.map_eq_some_iff.mp e5
          subst e6 e8
          obtain ⟨c, rfl⟩ := gRg_of e7
          exact ⟨i, j, r1, r2, c, fun l hl => q _ Z2 _ ((x1.trans x2).trans (Ext.mine x2.zh hl)) ((newOk x2.zh hl (rgV_rep i j)).back (x1.trans x2).hh)⟩
        | _ => cases e4
      | _ => cases e4
    · subst e4
      exact b2 Z1 H1 σ ρ (st.ext x1) _ e3 _ fun Z2 H2 x2 => q Z2 H2 (x1.trans x2)
  · subst e2
    exact a2 Z H σ ρ st _ e1 _ q
/-! isinstance -/
def kindD : D → Option String
  | .non => some "NoneType"
  | .bl _ => some "bool"
  | .int _ => some "int"
  | .str _ => some "str"
  | .tup _ => some "tuple"
  | .lst _ => some "list"
  | .lsr _ => some "list"
  | .dct _ _ => some "dict"
  | .ins _ _ => none
theorem Pk.tyX {Z H : Hp} {d : D} {v : V} {n : String} (h : Pk K T Z H d v) (zh : Same Z H) (e : kindD d = some n) : TyX K H v (.type n) := by
  have base : ∀ {x : V} {m : String}, TyOf K H x (.type m) → m = n → TyX K H x (.type n) := fun {x m} t e => by subst e; exact .base t
  have seqL : ∀ {a : Addr} {xs : List V}, SqL K H a xs → TyX K H (.ref a) (.type "list") := fun {a xs} h => by
    rcases h with (h | ⟨o, h⟩) | ⟨o, its, m, h1, h2, _⟩
    · exact .base (.lst h)
    · exact .base (.frz h)
    · exact .kList h1 h2
  cases d with
  | non => cases e; cases (show v = .non from h.rep (by simp) (by simp)); exact .base .non
  | bl b => cases e; cases (show v = .bl b from h.rep (by simp) (by simp)); exact .base (.bl b)
  | int b => cases e; cases (show v = .int b from h.rep (by simp) (by simp)); exact .base (.int b)
  | str b => cases e; cases (show v = .str b from h.rep (by simp) (by simp)); exact .base (.str b)
  | tup ds =>
    cases e
    obtain ⟨a, xs, rfl, h2, _⟩ := h.rep (by simp) (by simp)
    rcases Same.sqT zh h2 with (h | ⟨o, h⟩) | ⟨o, its, m, h1, h2, _⟩
    · exact .base (.tup h)
    · exact .fTuple h
    · exact .kTuple h1 h2
  | lst ds =>
    cases e
    obtain ⟨a, xs, rfl, h2, _⟩ := h.lst zh
    exact .base (.lst h2)
  | lsr ds =>
    cases e
    obtain ⟨a, xs, rfl, h2, _⟩ := h.rep (by simp) (by simp)
    exact seqL (Same.sqL zh h2)
  | dct ks ds =>
    cases e
    obtain ⟨a, kvs, rfl, h2, _⟩ := h.dct zh
    rcases h2 with h2 | ⟨o, h2⟩
    · exact .base (.dK h2)
    · exact .fDict h2
  | ins c ds => cases e
/-- whether data of that kind are of the class n -/
def isiF (tab : String → Option Bool) (d : D) : Option Bool := (kindD d).bind tab
def eIsi (tab : String → Option Bool) (f : EF D) : EF D := fun ρ => bnd (f ρ) fun d => okO ((isiF tab d).map .bl)
theorem de_isi (n : String) {x : Str} {p3 p4 : Pos} (tab : String → Option Bool) (ha : DP F T W a fa) (ht : ∀ m b, tab m = some b → kitB m n = some b) (hm : F.mg "isinstance" = none) (hm2 : F.mg x = none) (hv2 : bootBuiltins x = some (.type n)) (hg : ∀ i, Gl (F.X i) "isinstance" := by intro _; rfl) (hg2 : ∀ i, Gl (F.X i) x := by intro _; rfl)
    (hn : x ≠ "__name__" := by decide) (hdb : (x == ("__debug__" : Str)) = false := by decide)
    (he : ∀ i, starEach [a, .Name x p4] (F.X i).env = (false, eval a (F.X i).env) :: starEach [.Name x p4] (F.X i).env := by intro _; rfl) (he2 : ∀ i, starEach [.Name x p4] (F.X i).env = (false, eval (.Name x p4) (F.X i).env) :: starEach [] (F.X i).env := by intro _; rfl)
    (hpl : ∀ i, (backTo pos (starEach [.Name x p4] (F.X i).env)).any (·.1) = false := by intro _; rfl) : DE F T W (.Call (.Name "isinstance" p3) [a, .Name x p4] [] pos) (eIsi tab fa) := by
  obtain ⟨ta, a1, a2⟩ := ha.ex
  refine ⟨tCB (rIsi F.K) (tCons ta (tCons (tC (.ty n)) tNil)), fun i => pe_callB call_isi (hg i) hm (by decide +kernel) (pa_cons (a1 i) (pa_cons (pe_bltn (v := .ty n) (hg2 i) hm2 hv2 rfl hn hdb) pa_nil (he2 i)) (he i)) (by decide) (by decide) (he i) (hpl i), fun Z H σ ρ st r hr Q q => ?_⟩
  rcases bnd_cases hr with ⟨d, e1, e2⟩ | ⟨c, e1, e2⟩
  · obtain ⟨s, e3, e4⟩ := okO_cases e2
    obtain ⟨bb, e5, e6⟩ := Option.map_eq_some_iff.mp e3
    subst e4 e6
    obtain ⟨m, e7, e8⟩ := Option.bind_eq_some_iff.mp (show (kindD d).bind tab = some bb from e5)
    exact a2 Z H σ ρ st _ e1 _ fun v Z1 H1 x1 r1 => ⟨v, .ty n, .type m, .type n, bb, rfl, .ty n, r1.tyX x1.zh e7, kit_ty (ht m bb e8), q _ Z1 H1 x1 rfl⟩
  · subst e2
    exact a2 Z H σ ρ st _ e1 _ q
end
def tabInt : String → Option Bool
  | "int" => some true
  | "bool" => some true
  | "NoneType" => some false
  | "str" => some false
  | "tuple" => some false
  | "list" => some false
  | "dict" => some false
  | _ => none
def tabOf (n : String) : String → Option Bool := fun m => if m = n then some true else if m = "int" ∨ m = "bool" ∨ m = "NoneType" ∨ m = "str" ∨ m = "tuple" ∨ m = "list" ∨ m = "dict" then some false else none
theorem tabInt_ok : ∀ m b, tabInt m = some b → kitB m "int" = some b := fun m b h => by
  unfold tabInt at h
  split at h <;> first | (cases h; decide +kernel) | cases h
theorem tab_ok {n : String} (h : kitB n n = some true ∧ (n = "int" ∨ kitB "int" n = some false) ∧ (n = "bool" ∨ kitB "bool" n = some false) ∧ (n = "NoneType" ∨ kitB "NoneType" n = some false) ∧ (n = "str" ∨ kitB "str" n = some false) ∧ (n = "tuple" ∨ kitB "tuple" n = some false) ∧ (n = "list" ∨ kitB "list" n = some false) ∧ (n = "dict" ∨ kitB "dict" n = some false)) :
    ∀ m b, tabOf n m = some b → kitB m n = some b := fun m b q => by
  obtain ⟨h0, h1, h2, h3, h4, h5, h6, h7⟩ := h
  unfold tabOf at q
  split at q
  · rename_i e; cases q; subst e; exact h0
  · rename_i ne
    split at q
    · rename_i o
      cases q
      have no : ∀ {x : String}, m = x → (n = x ∨ kitB x n = some false) → kitB m n = some false := fun {x} e k => by
        subst e
        rcases k with k | k
        · exact absurd k.symm ne
        · exact k
      rcases o with o | o | o | o | o | o | o
      · exact no o h1
      · exact no o h2
      · exact no o h3
      · exact no o h4
      · exact no o h5
      · exact no o h6
      · exact no o h7
    · cases q
theorem tab_list : ∀ m b, tabOf "list" m = some b → kitB m "list" = some b := tab_ok (by decide +kernel)
theorem tab_tuple : ∀ m b, tabOf "tuple" m = some b → kitB m "tuple" = some b := tab_ok (by decide +kernel)
theorem tab_bool : ∀ m b, tabOf "bool" m = some b → kitB m "bool" = some b := tab_ok (by decide +kernel)
theorem tab_str : ∀ m b, tabOf "str" m = some b → kitB m "str" = some b := tab_ok (by decide +kernel)
end DL

set_option Elab.async false
set_option linter.all false
set_option maxRecDepth 100000
set_option maxHeartbeats 400000
namespace DL
open PySem L2
/-! ### evaluating denotations -/
theorem nr {α : Sort _} {a b : α} (h : a = b) : a = b := h
abbrev LI (l : List Int) : D := .lst (l.map .int)
abbrev TI (l : List Int) : D := .tup (l.map .int)
def nD (x : Nat) : D := .int x
abbrev LN (l : List Nat) : D := .lst (l.map nD)
abbrev TN (l : List Nat) : D := .tup (l.map nD)
theorem atI_natE {α : Type} (xs : List α) (i : Nat) : atI xs (i : Int) = xs[i]? := by
  unfold atI ixN
  rw [if_pos (by omega)]
  by_cases h : (i : Int) < xs.length
  · rw [if_pos h]; simp
  · rw [if_neg h]
    have : xs.length ≤ i := by omega
    simp [this]
theorem atI_map {α β : Type} (f : α → β) (xs : List α) (i : Int) : atI (xs.map f) i = (atI xs i).map f := by
  unfold atI
  rw [List.length_map]
  cases ixN xs.length i with
  | none => rfl
  | some j => simp
theorem atI_pos {xs : List Int} {i : Int} (h0 : 0 ≤ i) (h1 : i < xs.length) : atI xs i = some (xs.getD i.toNat 0) := by
  obtain ⟨n, rfl⟩ := Int.eq_ofNat_of_zero_le h0
  rw [atI_natE]
  have : n < xs.length := by omega
  simp [this]
@[simp] theorem seqOf_tup (l) : seqOf (.tup l) = some l := nr rfl
@[simp] theorem seqOf_lst (l) : seqOf (.lst l) = some l := nr rfl
@[simp] theorem seqOf_lsr (l) : seqOf (.lsr l) = some l := nr rfl
@[simp] theorem gIx_lst (l : List D) (i : Int) : gIx (.lst l) (.int i) = atI l i := nr rfl
@[simp] theorem gIx_tup (l : List D) (i : Int) : gIx (.tup l) (.int i) = atI l i := nr rfl
@[simp] theorem gIx_lsr (l : List D) (i : Int) : gIx (.lsr l) (.int i) = atI l i := nr rfl
theorem beqInt (i j : Int) : (i == j) = decide (i = j) := Bool.eq_iff_iff.mpr (by simp)
theorem gEqB_int (i j : Int) : gEqB (.int i) (.int j) = some (i == j) := rfl
theorem gEqB_bl (i j : Bool) : gEqB (.bl i) (.bl j) = some (i == j) := rfl
@[simp] theorem gEq_int (i j : Int) : gEq (.int i) (.int j) = some (.bl (decide (i = j))) := by
  rw [show gEq (.int i) (.int j) = some (.bl (i == j)) from rfl, beqInt]
@[simp] theorem gNe_int (i j : Int) : gNe (.int i) (.int j) = some (.bl (!decide (i = j))) := by
  rw [show gNe (.int i) (.int j) = some (.bl (!(i == j))) from rfl, beqInt]
@[simp] theorem gLt_int (i j : Int) : gLt (.int i) (.int j) = some (.bl (decide (i < j))) := nr rfl
@[simp] theorem gLe_int (i j : Int) : gLe (.int i) (.int j) = some (.bl (decide (i ≤ j))) := nr rfl
@[simp] theorem gGt_int (i j : Int) : gGt (.int i) (.int j) = some (.bl (decide (j < i))) := nr rfl
@[simp] theorem gGe_int (i j : Int) : gGe (.int i) (.int j) = some (.bl (decide (j ≤ i))) := nr rfl
@[simp] theorem gSub_int (i j : Int) : DL.gSub (.int i) (.int j) = some (.int (i - j)) := nr rfl
@[simp] theorem gAdd_int (i j : Int) : gAdd (.int i) (.int j) = some (.dat (.int (i + j))) := nr rfl
theorem gMod_int {i j : Int} (h : 0 < j) : gMod (.int i) (.int j) = some (.int (i % j)) := ifO_pos h
theorem gFdiv_int {i j : Int} (h : CDivW i j) : gFdiv (.int i) (.int j) = some (.int (i / j)) := ifO_pos h
theorem gMulO_int {i j : Int} (h : CMulW i j) : gMulO (.int i) (.int j) = some (.dat (.int (i * j))) := ifO_pos h
/-- a loop by what holds -/
theorem for_run {u : D → Option (List (Nat × D))} {b : SF} (I : Nat → Env → Prop) {ds : List D} {ρ : Env} (h0 : I 0 ρ) (hs : ∀ i d ρ, ds[i]? = some d → I i ρ → ∃ ups, u d = some ups ∧ ∃ ρ', (b (setD ρ ups) = some (.nx ρ') ∨ b (setD ρ ups) = some (.ct ρ')) ∧ I (i + 1) ρ') :
    ∃ ρ', forF u b ds ρ = some (.nx ρ') ∧ I ds.length ρ' := by
  have main : ∀ (k : Nat) (ρ : Env), k ≤ ds.length → I k ρ → ∃ ρ', forF u b (ds.drop k) ρ = some (.nx ρ') ∧ I ds.length ρ' := by
    intro k
    generalize hm : ds.length - k = m
    induction m generalizing k with
    | zero =>
      intro ρ hk hi
      have : k = ds.length := by omega
      subst this
      rw [List.drop_length]
      exact ⟨ρ, rfl, hi⟩
    | succ m ih =>
      intro ρ hk hi
      have hlt : k < ds.length := by omega
      rw [List.drop_eq_getElem_cons hlt]
      obtain ⟨ups, h1, ρ', h2, h3⟩ := hs k ds[k] ρ (by simp [hlt]) hi
      obtain ⟨ρ2, h4, h5⟩ := ih (k + 1) (by omega) ρ' hlt h3
      refine ⟨ρ2, ?_, h5⟩
      unfold forF
      rw [h1]
      rcases h2 with h2 | h2 <;> (simp only [h2]; exact h4)
  have := main 0 ρ (Nat.zero_le _) h0
  rwa [List.drop_zero] at this
/-- a loop that may be left -/
theorem for_find {u : D → Option (List (Nat × D))} {b : SF} (I : Nat → Env → Prop) (X : Fl → Prop) {ds : List D} {ρ : Env} (h0 : I 0 ρ)
    (hs : ∀ i d ρ, ds[i]? = some d → I i ρ → ∃ ups, u d = some ups ∧ ((∃ ρ', (b (setD ρ ups) = some (.nx ρ') ∨ b (setD ρ ups) = some (.ct ρ')) ∧ I (i + 1) ρ') ∨ (∃ s, b (setD ρ ups) = some (.rt s) ∧ X (.rt s)) ∨ (∃ c ρ', b (setD ρ ups) = some (.ex c ρ') ∧ X (.ex c ρ')) ∨ ∃ ρ', b (setD ρ ups) = some (.bk ρ') ∧ X (.nx ρ'))) :
    (∃ ρ', forF u b ds ρ = some (.nx ρ') ∧ I ds.length ρ') ∨ ∃ r, forF u b ds ρ = some r ∧ X r := by
  have main : ∀ (k : Nat) (ρ : Env), k ≤ ds.length → I k ρ → (∃ ρ', forF u b (ds.drop k) ρ = some (.nx ρ') ∧ I ds.length ρ') ∨ ∃ r, forF u b (ds.drop k) ρ = some r ∧ X r := by
    intro k
    generalize hm : ds.length - k = m
    induction m generalizing k with
    | zero =>
      intro ρ hk hi
      have : k = ds.length := by omega
      subst this
      rw [List.drop_length]
      exact .inl ⟨ρ, rfl, hi⟩
    | succ m ih =>
      intro ρ hk hi
      have hlt : k < ds.length := by omega
      rw [List.drop_eq_getElem_cons hlt]
      unfold forF
      obtain ⟨ups, h1, h⟩ := hs k ds[k] ρ (by simp [hlt]) hi
      rw [h1]
      rcases h with ⟨ρ', h2, h3⟩ | ⟨s, h2, h3⟩ | ⟨c, ρ', h2, h3⟩ | ⟨ρ', h2, h3⟩
      · have := ih (k + 1) (by omega) ρ' hlt h3
        rcases h2 with h2 | h2 <;> (simp only [h2]; exact this)
      · simp only [h2]; exact .inr ⟨_, rfl, h3⟩
      · simp only [h2]; exact .inr ⟨_, rfl, h3⟩
      · simp only [h2]; exact .inr ⟨_, rfl, h3⟩
  have := main 0 ρ (Nat.zero_le _) h0
  rwa [List.drop_zero] at this
theorem while_run {c : EF Bool} {b : SF} (I : Env → Prop) (μ : Env → Nat) (hs : ∀ ρ, I ρ → (c ρ = some (.ok false)) ∨ (c ρ = some (.ok true) ∧ ∃ ρ', (b ρ = some (.nx ρ') ∨ b ρ = some (.ct ρ')) ∧ I ρ' ∧ μ ρ' < μ ρ)) :
    ∀ (n : Nat) (ρ : Env), I ρ → μ ρ < n → ∃ ρ', whileF c b n ρ = some (.nx ρ') ∧ I ρ' ∧ c ρ' = some (.ok false)
  | 0, ρ, _, h => by omega
  | n + 1, ρ, hi, hn => by
    unfold whileF
    rcases hs ρ hi with h | ⟨h, ρ', h2, h3, h4⟩
    · rw [h]
      exact ⟨ρ, rfl, hi, h⟩
    · rw [h]
      obtain ⟨ρ2, h5, h6⟩ := while_run I μ hs n ρ' h3 (by omega)
      refine ⟨ρ2, ?_, h6⟩
      rcases h2 with h2 | h2 <;> (simp only [h2]; exact h5)
/-- a comprehension without a test -/
theorem comp_map {u : D → Option (List (Nat × D))} {el : EF D} {ρ : Env} {α : Type} (g : α → D) (f : α → D) : ∀ (l : List α), (∀ x ∈ l, ∃ ups, u (g x) = some ups ∧ el (setD ρ ups) = some (.ok (f x))) → compF u tYesF el ρ (l.map g) = some (l.map f)
  | [], _ => rfl
  | x :: r, h => by
    obtain ⟨ups, h1, h2⟩ := h x List.mem_cons_self
    rw [List.map_cons]
    unfold compF
    rw [h1]
    simp only [tYesF, h2, comp_map g f r fun y hy => h y (List.mem_cons_of_mem _ hy)]
    rfl
/-- .. with one -/
theorem comp_filter {u : D → Option (List (Nat × D))} {tt : EF Bool} {el : EF D} {ρ : Env} {α : Type} (g : α → D) (p : α → Bool) (f : α → D) : ∀ (l : List α), (∀ x ∈ l, ∃ ups, u (g x) = some ups ∧ tt (setD ρ ups) = some (.ok (p x)) ∧ (p x = true → el (setD ρ ups) = some (.ok (f x)))) → compF u tt el ρ (l.map g) = some ((l.filter p).map f)
  | [], _ => rfl
  | x :: r, h => by
    obtain ⟨ups, h1, h2, h3⟩ := h x List.mem_cons_self
    rw [List.map_cons]
    unfold compF
    rw [h1]
    have ih := comp_filter g p f r fun y hy => h y (List.mem_cons_of_mem _ hy)
    cases hp : p x with
    | true => simp only [h2, hp, h3 hp, ih, List.filter_cons, if_true]; rfl
    | false => simp [h2, hp, ih]
theorem rngD_nat (n : Nat) : rngD 0 n = (List.range n).map nD := by
  simp [rngD, nD]
end DL

set_option Elab.async false
set_option linter.all false
set_option maxRecDepth 100000
set_option maxHeartbeats 400000
namespace DL
open PySem L2
theorem sz6 {n : Nat} (h : n ≤ 1000000) : n ≤ sizeLine := Nat.le_trans h (by decide)
theorem sz6' {n : Nat} (h : n ≤ 2000000) : n ≤ sizeLine := Nat.le_trans h (by decide)
section
variable {ρ : Env} {f g : SF} {fa fb fc : EF D} {fo : EF S} {ga gb : EF Bool} {fs : EF (List D)} {j : Nat} {d x y : D} {ds : List D} {fm : MF}
@[simp] theorem eVar_ap : eVar j ρ = match ρ[j]? with | some (.dat d) => some (.ok d) | _ => none := nr rfl
@[simp] theorem eVarP_ap : eVarP j ρ = match ρ[j]? with | some (.dat d) => some (.ok d) | some (.own ds) => some (.ok (.lst ds)) | some (.ownd ks ds) => some (.ok (.dct ks ds)) | _ => none := nr rfl
@[simp] theorem eC_ap : eC d ρ = some (.ok d) := nr rfl
@[simp] theorem eBin_ap {h : D → D → Option D} : eBin h fa fb ρ = bnd (fa ρ) fun x => bnd (fb ρ) fun y => okO (h x y) := nr rfl
@[simp] theorem eBinO_ap {h : D → D → Option S} : eBinO h fa fb ρ = bnd (fa ρ) fun x => bnd (fb ρ) fun y => okO (h x y) := nr rfl
@[simp] theorem eNeg_ap : eNeg fa ρ = bnd (fa ρ) fun x => match x with | .int i => some (.ok (.int (-i))) | _ => none := nr rfl
@[simp] theorem toB_ap : toB fa ρ = bnd (fa ρ) fun d => match d with | .bl b => some (.ok b) | _ => none := nr rfl
@[simp] theorem eAnd_ap : eAnd fa fb ρ = bnd (fa ρ) fun x => match x with | .bl true => fb ρ | .bl false => some (.ok (.bl false)) | _ => none := nr rfl
@[simp] theorem eOr_ap : eOr fa fb ρ = bnd (fa ρ) fun x => match x with | .bl true => some (.ok (.bl true)) | .bl false => fb ρ | _ => none := nr rfl
@[simp] theorem eNot_ap : eNot fa ρ = bnd (fa ρ) fun x => match x with | .bl b => some (.ok (.bl !b)) | _ => none := nr rfl
@[simp] theorem eIf_ap : eIf ga fa fb ρ = bnd (ga ρ) fun x => match x with | true => fa ρ | false => fb ρ := nr rfl
@[simp] theorem bAnd_ap : bAnd ga gb ρ = bnd (ga ρ) fun x => match x with | true => gb ρ | false => some (.ok false) := nr rfl
@[simp] theorem bOr_ap : bOr ga gb ρ = bnd (ga ρ) fun x => match x with | true => some (.ok true) | false => gb ρ := nr rfl
@[simp] theorem bNot_ap : bNot ga ρ = bnd (ga ρ) fun x => some (.ok (!x)) := nr rfl
@[simp] theorem pNo_ap : pNo ρ = some (.ok none) := nr rfl
@[simp] theorem pAt_ap : pAt fa ρ = bnd (fa ρ) fun d => match d with | .int i => some (.ok (some i)) | _ => none := nr rfl
@[simp] theorem eSl_ap {lo hi : EF (Option Int)} : eSl fa lo hi ρ = bnd (fa ρ) fun x => bnd (lo ρ) fun l => bnd (hi ρ) fun h => okO (gSl x l h) := nr rfl
@[simp] theorem aNil_ap : aNil ρ = some (.ok []) := nr rfl
@[simp] theorem aCons_ap : aCons fa fs ρ = bnd (fa ρ) fun x => bnd (fs ρ) fun xs => some (.ok (x :: xs)) := nr rfl
@[simp] theorem eTup_ap : eTup fs ρ = bnd (fs ρ) fun ds => okO (ifO (ds.length ≤ sizeLine) (.tup ds)) := nr rfl
@[simp] theorem eLst_ap : eLst fs ρ = bnd (fs ρ) fun ds => okO (ifO (ds.length ≤ sizeLine) (.own ds)) := nr rfl
@[simp] theorem eFn_ap {h : List D → Option D} : eFn h fs ρ = bnd (fs ρ) fun ds => okO (h ds) := nr rfl
@[simp] theorem eFnO_ap {h : List D → Option S} : eFnO h fs ρ = bnd (fs ρ) fun ds => okO (h ds) := nr rfl
@[simp] theorem eCall_ap {G : List D → Option (Except Nat S)} : eCall G fs ρ = bnd (fs ρ) G := nr rfl
@[simp] theorem ofLst_ap : ofLst fa ρ = bnd (fa ρ) fun d => okO (lstOf d) := nr rfl
@[simp] theorem ofTup_ap : ofTup fa ρ = bnd (fa ρ) fun d => match d with | .tup ds => some (.ok ds) | _ => none := nr rfl
@[simp] theorem iFn_ap {h : List D → Option (List D)} : iFn h fs ρ = bnd (fs ρ) fun ds => okO (h ds) := nr rfl
@[simp] theorem datE_ap : datE fa ρ = bnd (fa ρ) fun d => some (.ok (.dat d)) := nr rfl
@[simp] theorem frzF_ap : frzF fo ρ = bnd (fo ρ) fun s => okO (frzS s) := nr rfl
@[simp] theorem frzS_dat : frzS (.dat d) = some d := nr rfl
@[simp] theorem frzS_own : frzS (.own ds) = some (.lst ds) := nr rfl
@[simp] theorem uName_ap : uName j d = some [(j, d)] := nr rfl
@[simp] theorem uNil_ap : uNil [] = some [] := nr rfl
@[simp] theorem uCons_ap {u : D → Option (List (Nat × D))} {us : List D → Option (List (Nat × D))} : uCons u us (d :: ds) = (u d).bind fun p => (us ds).map fun q => p ++ q := nr rfl
@[simp] theorem uTup_ap {us : List D → Option (List (Nat × D))} : uTup us (.tup ds) = us ds := nr rfl
@[simp] theorem setD_nil : setD ρ [] = ρ := nr rfl
@[simp] theorem setD_cons {p : Nat × D} {r : List (Nat × D)} : setD ρ (p :: r) = setD (ρ.set p.1 (.dat p.2)) r := nr rfl
@[simp] theorem wipeD_nil : wipeD ρ [] = ρ := nr rfl
@[simp] theorem wipeD_cons {v : Nat} {vs : List Nat} : wipeD ρ (v :: vs) = (wipeD ρ vs).set v .no := nr rfl
@[simp] theorem sNext_ap : sNext ρ = some (.nx ρ) := nr rfl
@[simp] theorem sSeq_ap : sSeq f g ρ = match f ρ with | some (.nx ρ') => g ρ' | r => r := nr rfl
@[simp] theorem frzI_ap : frzI j f ρ = match ρ[j]? with | some s => (match frzS s with | some d => f (ρ.set j (.dat d)) | none => none) | none => none := nr rfl
@[simp] theorem errS_ok {α : Type} {k : α → Option Fl} {x : α} : errS ρ k (some (.ok x)) = k x := nr rfl
@[simp] theorem errS_er {α : Type} {k : α → Option Fl} {c : Nat} : errS ρ k (some (.error c)) = some (.ex c ρ) := nr rfl
@[simp] theorem sAsg_ap : sAsg j fo ρ = errS ρ (fun s => some (.nx (ρ.set j s))) (fo ρ) := nr rfl
@[simp] theorem sTup_ap {u : D → Option (List (Nat × D))} : sTup u fa ρ = errS ρ (fun d => (u d).map fun ups => .nx (setD ρ ups)) (fa ρ) := nr rfl
@[simp] theorem sDrop_ap : sDrop fo ρ = errS ρ (fun _ => some (.nx ρ)) (fo ρ) := nr rfl
@[simp] theorem sRet_ap : sRet fo ρ = errS ρ (fun s => some (.rt s)) (fo ρ) := nr rfl
@[simp] theorem eOwn_ap : eOwn j ρ = (ρ[j]?).bind fun s => match s with | .no => none | s => some (.rt s) := nr rfl
@[simp] theorem sIf_ap : sIf ga f g ρ = errS ρ (fun b => match b with | true => f ρ | false => g ρ) (ga ρ) := nr rfl
@[simp] theorem mE_ap : mE fa ρ = bnd (fa ρ) fun d => some (.ok (d, ρ)) := nr rfl
@[simp] theorem mAt_ap {h : GM} : mAt j h ds ρ = match ρ[j]? with | some (.own es) => (match h es ds with | some p => some (.ok (p.2, ρ.set j (.own p.1))) | none => none) | _ => none := nr rfl
@[simp] theorem mMeth0_ap {h : GM} : mMeth0 j h ρ = mAt j h [] ρ := nr rfl
@[simp] theorem mMeth1_ap {h : GM} : mMeth1 j h fm ρ = match ρ[j]? with | some (.own _) => bnd (fm ρ) fun p => mAt j h [p.1] p.2 | _ => none := nr rfl
@[simp] theorem sDropM_ap : sDropM fm ρ = errS ρ (fun p => some (.nx p.2)) (fm ρ) := nr rfl
@[simp] theorem sSetM_ap {u : D → Option (List (Nat × D))} : sSetM u fm ρ = errS ρ (fun p => (u p.1).map fun ups => .nx (setD p.2 ups)) (fm ρ) := nr rfl
@[simp] theorem sSetI_ap : sSetI j fa fb ρ = match ρ[j]? with | some (.own ds) => errS ρ (fun v => errS ρ (fun i => match i with | .int n => (ixN ds.length n).map fun m => .nx (ρ.set j (.own (ds.set m v))) | _ => none) (fa ρ)) (fb ρ) | _ => none := nr rfl
@[simp] theorem sFor_ap {u : D → Option (List (Nat × D))} : sFor fs u f ρ = errS ρ (fun ds => forF u f ds ρ) (fs ρ) := nr rfl
@[simp] theorem sWhile_ap : sWhile ga f ρ = whileF ga f fuel ρ := nr rfl
@[simp] theorem sAug_ap {h : Int → Int → Int} : sAug h j fa ρ = match ρ[j]? with | some (.dat (.int i)) => errS ρ (fun d => match d with | .int n => some (.nx (ρ.set j (.dat (.int (h i n))))) | _ => none) (fa ρ) | _ => none := nr rfl
@[simp] theorem eLRg1_ap : eLRg1 fa ρ = bnd (fa ρ) fun d => match d with | .int j => okO ((gRg 0 j).map .own) | _ => none := nr rfl
@[simp] theorem eLRg2_ap : eLRg2 fa fb ρ = bnd (fa ρ) fun d => bnd (fb ρ) fun d' => match d, d' with | .int i, .int j => okO ((gRg i j).map .own) | _, _ => none := nr rfl
@[simp] theorem eIsi_ap {tab : String → Option Bool} : eIsi tab fa ρ = bnd (fa ρ) fun d => okO ((isiF tab d).map .bl) := nr rfl
@[simp] theorem gLen_ap : gLen [d] = lenD d := nr rfl
@[simp] theorem lenD_lst : lenD (.lst ds) = some (.int ds.length) := nr rfl
@[simp] theorem lenD_lsr : lenD (.lsr ds) = some (.int ds.length) := nr rfl
@[simp] theorem lenD_tup : lenD (.tup ds) = some (.int ds.length) := nr rfl
@[simp] theorem gTuple_ap : gTuple [d] = (seqOf d).map .tup := nr rfl
@[simp] theorem gList_ap : gList [d] = (seqOf d).map .own := nr rfl
@[simp] theorem gMin_ap {i k : Int} : gMin [.int i, .int k] = some (.int (if k < i then k else i)) := nr rfl
@[simp] theorem gMax_ap {i k : Int} : gMax [.int i, .int k] = some (.int (if k > i then k else i)) := nr rfl
theorem gDivmod_ap {i k : Int} (h : 0 < k) (h' : k ≤ 1000000) : gDivmod [.int i, .int k] = some (.tup [.int (i / k), .int (i % k)]) := ifO_pos ⟨h, Nat.le_trans (show k.natAbs ≤ 1000000 by omega) (by decide)⟩
theorem mApp_ap {es : List D} (h : es.length < sizeLine) : mApp es [d] = some (es ++ [d], .non) := ifO_pos h
@[simp] theorem lstOf_lst : lstOf (.lst ds) = some ds := nr rfl
@[simp] theorem lstOf_lsr : lstOf (.lsr ds) = some ds := nr rfl
theorem gAll_ap {bs : List Bool} : gAll [.lst (bs.map .bl)] = some (.bl (bs.all id)) := by
  unfold gAll g1
  simp
theorem gRg_ap {i k : Int} (h : -1000000 ≤ i ∧ i ≤ 1000000 ∧ -1000000 ≤ k ∧ k ≤ 1000000) : gRg i k = some (rngD i k) := ifO_pos ⟨sz6 (by omega), sz6 (by omega), sz6' (by omega)⟩
theorem rng1_ap {k : Int} (h : -1000000 ≤ k ∧ k ≤ 1000000) : rng1 [.int k] = some (rngD 0 k) := ifO_pos (sz6 (by omega))
theorem rng2_ap {i k : Int} (h : -1000000 ≤ i ∧ i ≤ 1000000 ∧ -1000000 ≤ k ∧ k ≤ 1000000) : rng2 [.int i, .int k] = some (rngD i k) := ifO_pos ⟨sz6 (by omega), sz6 (by omega)⟩
end
theorem fnD_ap {n N : Nat} {b : SF} {ds : List D} (h : ds.length = n) : fnD n N b ds = match b (ds.map .dat ++ List.replicate (N - ds.length) .no) with
  | some (.rt s) => some (.ok s)
  | some (.nx _) => some (.ok (.dat .non))
  | some (.ex c _) => some (.error c)
  | _ => none := if_pos h
theorem size9 {n : Nat} (h : n ≤ 1000000) : n < sizeLine := Nat.lt_of_le_of_lt h (by decide)
theorem size10 {n : Nat} (h : n ≤ 1000000) : n ≤ sizeLine := Nat.le_of_lt (size9 h)
end DL

set_option Elab.async false
set_option linter.all false
set_option maxRecDepth 100000
set_option maxHeartbeats 400000
namespace DL
open PySem L2
/-! ### data that compare -/
structure Plain (k : Nat) (d : D) : Prop where
  ex : ∃ p, toPy d = some p ∧ p.canLay0 = true ∧ p.depth ≤ k
theorem plain_int {k : Nat} (i : Int) : Plain k (.int i) := ⟨⟨.int i, rfl, rfl, Nat.zero_le _⟩⟩
theorem plain_bl {k : Nat} (i : Bool) : Plain k (.bl i) := ⟨⟨.bool i, rfl, rfl, Nat.zero_le _⟩⟩
theorem plain_all {k : Nat} : ∀ (ds : List D), (∀ d ∈ ds, Plain k d) → ∃ ps, toPys ds = some ps ∧ PyData.canLayAll0 ps = true ∧ PyData.depthAll ps ≤ k
  | [], _ => ⟨[], rfl, rfl, Nat.zero_le _⟩
  | d :: ds, h => by
    obtain ⟨p, h1, h2, h3⟩ := (h d List.mem_cons_self).ex
    obtain ⟨ps, h4, h5, h6⟩ := plain_all ds fun e he => h e (List.mem_cons_of_mem _ he)
    refine ⟨p :: ps, ?_, ?_, ?_⟩
    · unfold toPys
      rw [h1, h4]
    · unfold PyData.canLayAll0
      rw [h2, h5]
      rfl
    · unfold PyData.depthAll
      exact Nat.max_le.mpr ⟨h3, h6⟩
theorem plain_lst {k : Nat} {ds : List D} (h : ∀ d ∈ ds, Plain k d) : Plain (k + 1) (.lst ds) := by
  obtain ⟨ps, h1, h2, h3⟩ := plain_all ds h
  refine ⟨⟨.list ps, ?_, ?_, ?_⟩⟩
  · unfold toPy
    rw [h1]
    rfl
  · unfold PyData.canLay0
    exact h2
  · unfold PyData.depth
    omega
theorem plain_tup {k : Nat} {ds : List D} (h : ∀ d ∈ ds, Plain k d) : Plain (k + 1) (.tup ds) := by
  obtain ⟨ps, h1, h2, h3⟩ := plain_all ds h
  refine ⟨⟨.tuple ps, ?_, ?_, ?_⟩⟩
  · unfold toPy
    rw [h1]
    rfl
  · unfold PyData.canLay0
    exact h2
  · unfold PyData.depth
    omega
theorem gEqB_refl {k : Nat} {d : D} (h : Plain k d) (hk : k ≤ 64) : gEqB d d = some true := by
  obtain ⟨p, h1, h2, h3⟩ := h.ex
  unfold gEqB
  rw [h1]
  have sh : SeqAt.shaped p = true := by
    unfold SeqAt.shaped
    rw [h2]
    simp
    omega
  simp only [sh, and_self, ifO_pos]
  rw [PySem.SeqAt.eqv_refl p h2]
theorem plain_LN (l : List Nat) : Plain 1 (LN l) := plain_lst (k := 0) fun d hd => by
  obtain ⟨x, _, rfl⟩ := List.mem_map.mp hd
  exact plain_int _
theorem plain_TN (l : List Nat) : Plain 1 (TN l) := plain_tup (k := 0) fun d hd => by
  obtain ⟨x, _, rfl⟩ := List.mem_map.mp hd
  exact plain_int _
theorem mPopAt_nat {es : List D} {a : Nat} {d : D} (h : es[a]? = some d) (hl : es.length ≤ 1000000) : mPopAt es [nD a] = some (es.eraseIdx a, d) := by
  have ha : a < es.length := (List.getElem?_eq_some_iff.mp h).1
  unfold mPopAt nD
  simp only
  rw [if_pos (sz6 (by omega))]
  have e : seqIndex? (a : Int) es.length = some a := by
    unfold seqIndex?
    have h1 : ¬ ((a : Int) < 0) := by omega
    simp [h1, ha]
  rw [e]
  simp [h]
theorem gIx_nat {f : Nat → D} {l : List Nat} {a : Nat} (h : a < l.length) : atI (l.map f) (a : Int) = some (f (l.getD a 0)) := by
  rw [atI_natE]
  simp [h]
theorem ixN_nat {n a : Nat} (h : a < n) : ixN n (a : Int) = some a := by
  unfold ixN
  rw [if_pos (by omega), if_pos (by omega)]
  rfl
theorem mem_set_lt {l : List Nat} {i v n : Nat} (h : ∀ x ∈ l, x < n) (hv : v < n) : ∀ x ∈ l.set i v, x < n := fun x hx => by
  rcases List.mem_or_eq_of_mem_set hx with h1 | h1
  · exact h x h1
  · exact h1 ▸ hv
theorem getD_lt {l : List Nat} {n a : Nat} (h : ∀ x ∈ l, x < n) (ha : a < l.length) : l.getD a 0 < n := by
  have : l.getD a 0 = l[a] := by simp [ha]
  rw [this]
  exact h _ (List.getElem_mem _)
/-- cells -/
theorem cellBits {c b : Int} (hb : 0 < b) : 0 ≤ c % b ∧ c % b < b := ⟨Int.emod_nonneg _ (by omega), Int.emod_lt_of_pos _ hb⟩
theorem eraseIdx_map' {α β : Type} (f : α → β) : ∀ (l : List α) (i : Nat), (l.map f).eraseIdx i = (l.eraseIdx i).map f
  | [], _ => rfl
  | x :: r, 0 => rfl
  | x :: r, i + 1 => by simp [eraseIdx_map' f r i]
theorem set_map' {α β : Type} (f : α → β) (l : List α) (i : Nat) (x : α) : (l.map f).set i (f x) = (l.set i x).map f := by rw [List.map_set]
theorem pow_ex {i j : Int} {n : Nat} (h : CPow i j) (h0 : 0 < i ^ j.toNat) (hb : (i ^ j.toNat).natAbs < 2 ^ n) : ∃ b, gPow (.int i) (.int j) = some (.int b) ∧ 0 < b ∧ b.natAbs < 2 ^ n :=
  ⟨i ^ j.toNat, (show ifO (CPow i j) (D.int (i ^ j.toNat)) = _ from ifO_pos h), h0, hb⟩
theorem mul_ex {i j : Int} {a b : Nat} (hi : i.natAbs < 2 ^ a) (hj : j.natAbs < 2 ^ b) (ha : 0 < a) (hb : 0 < b) (h : a + b ≤ 1000000) : gMulO (.int i) (.int j) = some (.dat (.int (i * j))) := gMulO_int (wide_mul hi hj ha hb h)
theorem gMulO_small {i j : Int} (hi : i.natAbs < 4294967296) (hj : j.natAbs < 4294967296) : gMulO (.int i) (.int j) = some (.dat (.int (i * j))) := mul_ex (a := 32) (b := 32) hi hj (by decide) (by decide) (by decide)
theorem gFdiv_small {i j : Int} (h0 : 0 < j) (h : j.natAbs < 4294967296) : gFdiv (.int i) (.int j) = some (.int (i / j)) := gFdiv_int (wide_div (b := 32) h0 h (by decide) (by decide))
theorem lin_lt {m h w a : Int} (h0 : 0 ≤ m) (h1 : m < h) (h2 : 0 ≤ a) (h3 : a < w) : 0 ≤ m * w + a ∧ m * w + a < h * w := by
  have e1 : (m + 1) * w ≤ h * w := Int.mul_le_mul_of_nonneg_right (by omega) (by omega)
  have e2 : 0 ≤ m * w := Int.mul_nonneg h0 (by omega)
  rw [Int.add_mul, Int.one_mul] at e1
  omega
theorem toNat_ex {i : Int} {n : Nat} (h0 : 0 ≤ i) (h1 : i < n) : ∃ r : Nat, r < n ∧ D.int i = nD r := by
  obtain ⟨r, rfl⟩ := Int.eq_ofNat_of_zero_le h0
  exact ⟨r, by omega, rfl⟩
theorem mod_bits {c b : Int} {n : Nat} (h0 : 0 < b) (hb : b.natAbs < 2 ^ n) : (c % b).natAbs < 2 ^ n := by
  have h1 := Int.emod_nonneg c (b := b) (by omega)
  have h2 := Int.emod_lt_of_pos c h0
  omega
end DL

set_option Elab.async false
set_option linter.all false
set_option maxRecDepth 100000
set_option maxHeartbeats 400000
namespace DL
open PySem L2
section
variable {X : Cx} {e : Expr} {te : TE} {p pos apos cpos : Pos}
def tListVals (te : TE) : TE := fun σ H Q => te σ H fun x H1 => ∃ (d : Addr) (kvs : List (Key × V)), x = .ref d ∧ H1 d = some (.dK kvs) ∧ ∀ q, H1 q = none → Q (.ref q) (upd H1 q (.lst (kvs.map (·.2))))
/-- list(e.values()) -/
theorem pe_listVals (hc : X.calm = true) (he : PE X e te) (hg : Gl X "list") (hm : X.mg "list" = none) (hbase : attributeBase e "values" X.env (eval e X.env) = eval e X.env := by rfl) (hline : (apos.endLine == cpos.line) = true := by rfl)
    (hs : starEach [.Call (.Attribute e "values" apos) [] [] cpos] X.env = (false, eval (.Call (.Attribute e "values" apos) [] [] cpos) X.env) :: starEach [] X.env := by rfl) :
    PE X (.Call (.Name "list" p) [.Call (.Attribute e "values" apos) [] [] cpos] [] pos) (tListVals te) := by
  refine ⟨fun pins s σ H Q I hq => ?_⟩
  refine wpAny_Call_Name_kw (ld_blt I hg hm (show bootBuiltins "list" = some (.type "list") by decide +kernel) ?_)
  refine PyProof.Rows.callWith_type1 ?_ hs rfl
  rw [hs]
  show wpAny _ _ (spliced ((false, eval (.Call (.Attribute e "values" apos) [] [] cpos) X.env) :: backTo pos (starEach [] X.env))) _ _ s
  refine Calls.spliced_cons ?_
  refine wpAny_Call_method (T := "dict") (id := "dict.values") hbase rfl hline F.plainAttrs_dict F.slot_dict_values F.type_dict_values (thn (he.run pins s σ H _ I hq) fun u s1 ⟨x, H1, I1, rx, d, kvs, ex, hd, q⟩ => ?_)
  subst ex
  obtain rfl : u = Value.ref d := rx
  obtain ⟨hz, hs0, vs, kv, hdo⟩ := I1.hok d _ hd
  obtain ⟨ep, hat⟩ := hdo.dictAt
  have lk : kvs.length = vs.length := Paired.length kv
  have I2 : Inv X pins σ H1 { s1 with heap := s1.heap.push { cls := .type "dict_values", data := .fields #[.ref d] } } := I1.kept (t' := s1.toks) fun b ob q => Heap.get?_push_of_some _ q
  refine ⟨hdo.typeIs, hdo.mapOf.noDict, ?_⟩
  show wpAny _ _ (callWith cpos (.builtin "dict.values") [.ref d] [] []) _ X.xe s1
  refine method_meetsIn F.slot_dict_values F.entry_dict_values rfl (PySem.evalArgs_none ⟨rfl, hdo.typeIs, F.args_dict_values_1 _, _, meets_dict_values (mixKind X.prog X.w) d hs0, ⟨vs, hdo⟩, ?_⟩)
  refine Calls.spliced_nil ?_
  refine PySem.W.kdl_call (PySem.W.kdl_values (knd := mixKind X.prog X.w) (kvs := vs) (ep := ep)) (I1.ok.hd hc) ⟨⟨_, Heap.get?_push_size _ rfl, rfl, rfl⟩, hat.push _⟩ (by rw [← lk]; exact hz) fun h' tk acc c hk hS hacc => ?_
  refine ⟨.ref (s1.heap.push { cls := .type "dict_values", data := .fields #[.ref d] }).objs.size, upd H1 (s1.heap.push { cls := .type "dict_values", data := .fields #[.ref d] }).objs.size (.lst (kvs.map (·.2))), I2.laid hk (Nat.le_refl _) (show ObjOk X.prog X.w _ _ _ (.lst (kvs.map (·.2))) from ⟨?_, acc.toList, c, ?_, ?_⟩), rfl, q _ (I2.hok.fresh (Nat.le_refl _))⟩
  · rw [List.length_map]; exact hz
  · have el : acc.toList.length = acc.size := by simp
    refine vals_of_at (by rw [List.length_map, el, hacc.1, lk]) fun j x w h1 h2 => ?_
    obtain ⟨k, hky⟩ := hacc.2 j w (by rw [← Array.getElem?_toList]; exact h2)
    rw [List.getElem?_map] at h1
    obtain ⟨pr, h3, h4⟩ := Option.map_eq_some_iff.mp h1
    subst h4
    obtain ⟨y, h5, h6⟩ := LiI.paired_get kv h3
    rw [hky] at h5
    cases h5
    exact h6.2
  · rw [Array.toArray_toList]; exact hS
end
end DL

set_option Elab.async false
set_option linter.all false
set_option maxRecDepth 100000
set_option maxHeartbeats 4000000
namespace G
open PySem L2 DL
def top (i : Nat) : Stmt := PySem.Challenge.pw_turnbase_k28_whole_finest_parting.main.body.getD i (.Pass ⟨0, 0, 0, 0⟩)
structure Bl (K : PySem.W.Frag) (mg : Str → Option Value) (T : Tb) : Prop where
  m_all : mg "all" = none
  m_bool : mg "bool" = none
  m_divmod : mg "divmod" = none
  m_int : mg "int" = none
  m_isinstance : mg "isinstance" = none
  m_len : mg "len" = none
  m_list : mg "list" = none
  m_max : mg "max" = none
  m_min : mg "min" = none
  m_range : mg "range" = none
  m_tuple : mg "tuple" = none
variable {P : Program} {w : World} {K : PySem.W.Frag} {mg : Str → Option Value} {base : Heap} {T : Tb}

abbrev st_finest : Stmt := top 2
abbrev N_finest : List Str := ["many", "makers", "pairs", "marks", "tasks", "at", "kept", "gone", "one", "other", "mark", "maker"]
theorem sc_finest : FnScope N_finest ["many", "makers", "pairs"] (defScope st_finest) := ⟨rfl, rfl, rfl, by decide +kernel, rfl, by decide +kernel, by decide +kernel⟩

abbrev st__law_cell_at : Stmt := top 4
abbrev N__law_cell_at : List Str := ["_law_script", "_law_k"]
theorem sc__law_cell_at : FnScope N__law_cell_at ["_law_script", "_law_k"] (defScope st__law_cell_at) := ⟨rfl, rfl, rfl, by decide +kernel, rfl, by decide +kernel, by decide +kernel⟩
def B__law_cell_at : SF :=
 (sSeq (sIf (toB (eBin gLt (eVarP 1) (eFn gLen (aCons (eVarP 0) aNil))))
 (sRet (datE (eBin gIx (eVarP 0) (eVarP 1))))
 sNext)
 (sRet (datE (eC (.int 0)))))
def F__law_cell_at : List D → Option (Except Nat S) := fnD 2 2 B__law_cell_at
theorem body__law_cell_at (X : Bl K mg T)  : BodyOk P w K mg base T N__law_cell_at "_law_cell_at" st__law_cell_at 0 B__law_cell_at := fun f cdv A outer s H E ok =>
 (dss_cons (ds_if (dt_lt (dp_var 1) ((de_len (dap_cons (dp_var 0) dap_nil) X.m_len)).p)
 (dss_one (ds_ret ((de_ix (dp_var 0) (dp_var 1))).o))
 dss_nil)
 (dss_one (ds_ret (de_int).o)))

abbrev st__law_turning : Stmt := top 5
abbrev N__law_turning : List Str := ["_law_cell", "_law_many", "_law_bound", "_law_number", "_law_left", "_law_found", "_law_k", "_law_at"]
theorem sc__law_turning : FnScope N__law_turning ["_law_cell", "_law_many"] (defScope st__law_turning) := ⟨rfl, rfl, rfl, by decide +kernel, rfl, by decide +kernel, by decide +kernel⟩
def B__law_turning : SF :=
 (sSeq (sAsg 2 (eBinO gMulO (eBin gPow (eC (.int 10)) (eC (.int 60))) (eBin gPow (eC (.int 10)) (eC (.int 24)))))
 (sSeq (sAsg 3 (datE (eBin gMod (frzF (eBinO gMulO (eBin gMod (eVarP 0) (eVarP 2)) (eBin gPow (eC (.int 23)) (eC (.int 64))))) (eVarP 2))))
 (sSeq (sAsg 4 (eLRg1 (eVar 1)))
 (sSeq (sAsg 5 (eLst aNil))
 (sSeq (sFor (iFn rng1 (aCons (eVar 1) aNil)) (uName 6)
 (sSeq (sTup (uTup (uCons (uName 3) (uCons (uName 7) uNil))) (eFn gDivmod (aCons (eVarP 3) (aCons (eBin DL.gSub (eVarP 1) (eVarP 6)) aNil))))
 (sDropM (mMeth1 5 mApp (mMeth1 4 mPopAt (mE (eVar 7)))))))
 (sRet (datE (eFn gTuple (aCons (eVarP 5) aNil)))))))))
def F__law_turning : List D → Option (Except Nat S) := fnD 2 8 B__law_turning
theorem body__law_turning (X : Bl K mg T)  : BodyOk P w K mg base T N__law_turning "_law_turning" st__law_turning 0 B__law_turning := fun f cdv A outer s H E ok =>
 (dss_cons (ds_set ok 2 (do_mul ((de_pow (de_int).p (de_int).p)).p ((de_pow (de_int).p (de_int).p)).p))
 (dss_cons (ds_set ok 3 ((de_mod (((do_mul ((de_mod (dp_var 0) (dp_var 2))).p ((de_pow (de_int).p (de_int).p)).p)).frz).p (dp_var 2))).o)
 (dss_cons (ds_set ok 4 (do_listRg1 (de_var 1) X.m_list X.m_range))
 (dss_cons (ds_set ok 5 (do_lst da_nil))
 (dss_cons (ds_for ok (di_rng1 (da_cons (de_var 1) da_nil) X.m_range) (dg_name ok 6)
 (dss_cons (ds_tup (de_divmod (dap_cons (dp_var 3) (dap_cons ((de_sub (dp_var 1) (dp_var 6))).p dap_nil)) X.m_divmod) (dg_tup (dgs_cons (dg_name ok 3) (dgs_cons (dg_name ok 7) dgs_nil)) (uCons_len (uCons_len uNil_len))))
 (dss_one (ds_dropM (dm_meth1 5 PySem.F.slot_list_append PySem.F.type_list_append (fun _ => mt_append) rm_app (dm_meth1 4 PySem.F.slot_list_pop PySem.F.type_list_pop (fun _ => mt_popAt) rm_popAt ((de_var 7)).m))))))
 (dss_one (ds_ret ((de_tuple (dap_cons (dp_var 5) dap_nil) X.m_tuple)).o)))))))

abbrev st__law_home : Stmt := top 6
abbrev N__law_home : List Str := ["_law_x", "_law_wide", "_law_high", "_law_kind", "_law_number", "_law_field", "_law_at"]
theorem sc__law_home : FnScope N__law_home ["_law_x", "_law_wide", "_law_high", "_law_kind", "_law_number"] (defScope st__law_home) := ⟨rfl, rfl, rfl, by decide +kernel, rfl, by decide +kernel, by decide +kernel⟩
def B__law_home : SF :=
 (sSeq (sIf (toB (eBin gGe (eVarP 0) (frzF (eBinO gMulO (eVarP 1) (eVarP 2)))))
 (eOwn 0)
 sNext)
 (sSeq (sTup (uTup (uCons (uName 5) (uCons (uName 6) uNil))) (eFn gDivmod (aCons (eVarP 0) (aCons (eVarP 1) aNil))))
 (sSeq (sIf (toB (eBin gEq (eVarP 3) (eC (.int 0))))
 (sSeq (sIf (toB (eBin gEq (eVarP 5) (eBin gMod (eVarP 4) (eVarP 2))))
 (sAsg 6 (datE (eBin gMod (frzF (eBinO gAdd (frzF (eBinO gAdd (eVarP 6) (eC (.int 1)))) (eBin gFdiv (eVarP 4) (eC (.int 8))))) (eVarP 1))))
 sNext)
 (sRet (eBinO gAdd (frzF (eBinO gMulO (eBin gMod (frzF (eBinO gAdd (eVarP 5) (eBin gFdiv (eVarP 4) (eC (.int 64))))) (eVarP 2)) (eVarP 1))) (eVarP 6))))
 sNext)
 (sSeq (sIf (bAnd (toB (eBin gEq (eVarP 5) (eBin gMod (eBin gFdiv (eVarP 4) (eC (.int 8))) (eVarP 2)))) (toB (eBin gEq (eVarP 6) (eBin gMod (eVarP 4) (eVarP 1)))))
 (sRet (eBinO gAdd (frzF (eBinO gMulO (eVarP 5) (eVarP 1))) (eBin gMod (frzF (eBinO gAdd (eVarP 6) (eC (.int 1)))) (eVarP 1))))
 sNext)
 (sSeq (sIf (bAnd (toB (eBin gEq (eVarP 5) (eBin gMod (eBin gFdiv (eVarP 4) (eC (.int 8))) (eVarP 2)))) (toB (eBin gEq (eVarP 6) (eBin gMod (frzF (eBinO gAdd (eVarP 4) (eC (.int 1)))) (eVarP 1)))))
 (sRet (eBinO gAdd (frzF (eBinO gMulO (eVarP 5) (eVarP 1))) (eBin gMod (eVarP 4) (eVarP 1))))
 sNext)
 (eOwn 0))))))
def F__law_home : List D → Option (Except Nat S) := fnD 5 7 B__law_home
theorem body__law_home (X : Bl K mg T)  : BodyOk P w K mg base T N__law_home "_law_home" st__law_home 0 B__law_home := fun f cdv A outer s H E ok =>
 (dss_cons (ds_if (dt_ge (dp_var 0) (((do_mul (dp_var 1) (dp_var 2))).frz).p)
 (dss_one (ds_retv 0))
 dss_nil)
 (dss_cons (ds_tup (de_divmod (dap_cons (dp_var 0) (dap_cons (dp_var 1) dap_nil)) X.m_divmod) (dg_tup (dgs_cons (dg_name ok 5) (dgs_cons (dg_name ok 6) dgs_nil)) (uCons_len (uCons_len uNil_len))))
 (dss_cons (ds_if (dt_eq ok (dp_var 3) (de_int).p)
 (dss_cons (ds_if (dt_eq ok (dp_var 5) ((de_mod (dp_var 4) (dp_var 2))).p)
 (dss_one (ds_set ok 6 ((de_mod (((do_add (((do_add (dp_var 6) (de_int).p)).frz).p ((de_fdiv (dp_var 4) (de_int).p)).p)).frz).p (dp_var 1))).o))
 dss_nil)
 (dss_one (ds_ret (do_add (((do_mul ((de_mod (((do_add (dp_var 5) ((de_fdiv (dp_var 4) (de_int).p)).p)).frz).p (dp_var 2))).p (dp_var 1))).frz).p (dp_var 6)))))
 dss_nil)
 (dss_cons (ds_if ((dw_and (dt_eq ok (dp_var 5) ((de_mod ((de_fdiv (dp_var 4) (de_int).p)).p (dp_var 2))).p) (dw_and1 (dt_eq ok (dp_var 6) ((de_mod (dp_var 4) (dp_var 1))).p)))).pt
 (dss_one (ds_ret (do_add (((do_mul (dp_var 5) (dp_var 1))).frz).p ((de_mod (((do_add (dp_var 6) (de_int).p)).frz).p (dp_var 1))).p)))
 dss_nil)
 (dss_cons (ds_if ((dw_and (dt_eq ok (dp_var 5) ((de_mod ((de_fdiv (dp_var 4) (de_int).p)).p (dp_var 2))).p) (dw_and1 (dt_eq ok (dp_var 6) ((de_mod (((do_add (dp_var 4) (de_int).p)).frz).p (dp_var 1))).p)))).pt
 (dss_one (ds_ret (do_add (((do_mul (dp_var 5) (dp_var 1))).frz).p ((de_mod (dp_var 4) (dp_var 1))).p)))
 dss_nil)
 (dss_one (ds_retv 0)))))))

abbrev st__law_maker : Stmt := top 7
abbrev N__law_maker : List Str := ["_law_cell", "_law_wide", "_law_high", "_law_spare", "_law_way", "_law_number", "_law_many", "_law_x"]
theorem sc__law_maker : FnScope N__law_maker ["_law_cell", "_law_wide", "_law_high", "_law_spare", "_law_way"] (defScope st__law_maker) := ⟨rfl, rfl, rfl, by decide +kernel, rfl, by decide +kernel, by decide +kernel⟩
def B__law_maker : SF :=
 (sSeq (sAsg 5 (datE (eBin gMod (frzF (eBinO gMulO (eBin gMod (eVarP 0) (eBin gPow (eC (.int 10)) (eC (.int 60)))) (eC (.int 48271)))) (eC (.int 2147483647)))))
 (sSeq (sAsg 6 (eBinO gAdd (frzF (eBinO gMulO (eVarP 1) (eVarP 2))) (eVarP 3)))
 (sSeq (sIf (toB (eBin gEq (eVarP 4) (eC (.int 2))))
 (frzI 6 (sRet (eComp [7] (iFn rng1 (aCons (eVar 6) aNil)) (uName 7) tYesF (eBin gMod (frzF (eBinO gAdd (eVarP 7) (eVarP 5))) (eVarP 6)))))
 sNext)
 (sSeq (sIf (toB (eBin gEq (eVarP 4) (eC (.int 3))))
 (frzI 6 (sRet (eFnO gList (aCons (frzF (eCall F__law_turning (aCons (eVar 0) (aCons (eVar 6) aNil)))) aNil))))
 sNext)
 (frzI 6 (sRet (eComp [7] (iFn rng1 (aCons (eVar 6) aNil)) (uName 7) tYesF (frzF (eCall F__law_home (aCons (eVar 7) (aCons (eVar 1) (aCons (eVar 2) (aCons (eBin gMod (eVarP 5) (eC (.int 2))) (aCons (eBin gFdiv (eVarP 5) (eC (.int 2))) aNil))))))))))))))
def F__law_maker : List D → Option (Except Nat S) := fnD 5 8 B__law_maker
theorem body__law_maker (X : Bl K mg T) (h__law_turning : FnD P w K mg base T 1 "_law_turning" 2 F__law_turning) (h__law_home : FnD P w K mg base T 1 "_law_home" 5 F__law_home) : BodyOk P w K mg base T N__law_maker "_law_maker" st__law_maker 1 B__law_maker := fun f cdv A outer s H E ok =>
 (dss_cons (ds_set ok 5 ((de_mod (((do_mul ((de_mod (dp_var 0) ((de_pow (de_int).p (de_int).p)).p)).p (de_int).p)).frz).p (de_int).p)).o)
 (dss_cons (ds_set ok 6 (do_add (((do_mul (dp_var 1) (dp_var 2))).frz).p (dp_var 3)))
 (dss_cons (ds_if (dt_eq ok (dp_var 4) (de_int).p)
 (dss_one (ds_frz 6 (ds_ret (do_lc ok (blkOk_by (N := N__law_maker) (sc := defScope st__law_maker) (own := [("_law_x", 7)]) (by decide +kernel)) (dlc [("_law_x", 7)] (di_rng1 (da_cons (de_var 6) da_nil) X.m_range).j (dg_name (ok.blk _) 7) (by decide) dts_nil (de_mod (((do_add (dp_var 7) (dp_var 5))).frz).p (dp_var 6)))))))
 dss_nil)
 (dss_cons (ds_if (dt_eq ok (dp_var 4) (de_int).p)
 (dss_one (ds_frz 6 (ds_ret (do_list (dap_cons (((do_call ok h__law_turning (by decide) (da_cons (de_var 0) (da_cons (de_var 6) da_nil)))).frz).p dap_nil) X.m_list))))
 dss_nil)
 (dss_one (ds_frz 6 (ds_ret (do_lc ok (blkOk_by (N := N__law_maker) (sc := defScope st__law_maker) (own := [("_law_x", 7)]) (by decide +kernel)) (dlc [("_law_x", 7)] (di_rng1 (da_cons (de_var 6) da_nil) X.m_range).j (dg_name (ok.blk _) 7) (by decide) dts_nil ((do_call (ok.blk _) h__law_home (by decide) (da_cons (de_var 7) (da_cons (de_var 1) (da_cons (de_var 2) (da_cons (de_mod (dp_var 5) (de_int).p) (da_cons (de_fdiv (dp_var 5) (de_int).p) da_nil))))))).frz)))))))))

abbrev st__law_strewn : Stmt := top 8
abbrev N__law_strewn : List Str := ["_law_maker_here", "_law_by", "_law_found", "_law_x"]
theorem sc__law_strewn : FnScope N__law_strewn ["_law_maker_here", "_law_by"] (defScope st__law_strewn) := ⟨rfl, rfl, rfl, by decide +kernel, rfl, by decide +kernel, by decide +kernel⟩
def B__law_strewn : SF :=
 (sSeq (sAsg 2 (eFnO gList (aCons (eVarP 0) aNil)))
 (sSeq (sFor (iFn rng1 (aCons (eFn gLen (aCons (eVarP 0) aNil)) aNil)) (uName 3)
 (sSetI 2 (eBin gIx (eVarP 1) (eVarP 3)) (eBin gIx (eVarP 1) (eBin gIx (eVarP 0) (eVarP 3)))))
 (sRet (datE (eFn gTuple (aCons (eVarP 2) aNil))))))
def F__law_strewn : List D → Option (Except Nat S) := fnD 2 4 B__law_strewn
theorem body__law_strewn (X : Bl K mg T)  : BodyOk P w K mg base T N__law_strewn "_law_strewn" st__law_strewn 0 B__law_strewn := fun f cdv A outer s H E ok =>
 (dss_cons (ds_set ok 2 (do_list (dap_cons (dp_var 0) dap_nil) X.m_list))
 (dss_cons (ds_for ok (di_rng1 (da_cons (de_len (dap_cons (dp_var 0) dap_nil) X.m_len) da_nil) X.m_range) (dg_name ok 3)
 (dss_one (ds_setI 2 (de_ix (dp_var 1) ((de_ix (dp_var 0) (dp_var 3))).p) (de_ix (dp_var 1) (dp_var 3)))))
 (dss_one (ds_ret ((de_tuple (dap_cons (dp_var 2) dap_nil) X.m_tuple)).o))))

abbrev st__law_pair : Stmt := top 9
abbrev N__law_pair : List Str := ["_law_cell", "_law_wide", "_law_many", "_law_near", "_law_by", "_law_number", "_law_one", "_law_other"]
theorem sc__law_pair : FnScope N__law_pair ["_law_cell", "_law_wide", "_law_many", "_law_near", "_law_by"] (defScope st__law_pair) := ⟨rfl, rfl, rfl, by decide +kernel, rfl, by decide +kernel, by decide +kernel⟩
def B__law_pair : SF :=
 (sSeq (sAsg 5 (datE (eBin gMod (frzF (eBinO gMulO (eBin gMod (eVarP 0) (eBin gPow (eC (.int 10)) (eC (.int 60)))) (eC (.int 69621)))) (eC (.int 2147483629)))))
 (sSeq (sAsg 6 (datE (eBin gMod (eVarP 5) (eVarP 2))))
 (sSeq (sAsg 7 (datE (eBin gMod (eBin gFdiv (eVarP 5) (eC (.int 60))) (eVarP 2))))
 (sSeq (sIf (toB (eVar 3))
 (sAsg 7 (datE (eFn gMin (aCons (frzF (eBinO gAdd (frzF (eBinO gMulO (eBin gFdiv (eVarP 6) (eVarP 1)) (eVarP 1))) (eBin gMod (eBin gFdiv (eVarP 5) (eC (.int 60))) (eVarP 1)))) (aCons (eBin DL.gSub (eVarP 2) (eC (.int 1))) aNil)))))
 sNext)
 (sRet (datE (eTup (aCons (eBin gIx (eVarP 4) (eVarP 6)) (aCons (eBin gIx (eVarP 4) (eVarP 7)) aNil)))))))))
def F__law_pair : List D → Option (Except Nat S) := fnD 5 8 B__law_pair
theorem body__law_pair (X : Bl K mg T)  : BodyOk P w K mg base T N__law_pair "_law_pair" st__law_pair 0 B__law_pair := fun f cdv A outer s H E ok =>
 (dss_cons (ds_set ok 5 ((de_mod (((do_mul ((de_mod (dp_var 0) ((de_pow (de_int).p (de_int).p)).p)).p (de_int).p)).frz).p (de_int).p)).o)
 (dss_cons (ds_set ok 6 ((de_mod (dp_var 5) (dp_var 2))).o)
 (dss_cons (ds_set ok 7 ((de_mod ((de_fdiv (dp_var 5) (de_int).p)).p (dp_var 2))).o)
 (dss_cons (ds_if (dt_val (de_var 3))
 (dss_one (ds_set ok 7 ((de_min2 (dap_cons (((do_add (((do_mul ((de_fdiv (dp_var 6) (dp_var 1))).p (dp_var 1))).frz).p ((de_mod ((de_fdiv (dp_var 5) (de_int).p)).p (dp_var 1))).p)).frz).p (dap_cons ((de_sub (dp_var 2) (de_int).p)).p dap_nil)) X.m_min)).o))
 dss_nil)
 (dss_one (ds_ret ((de_tup (da_cons (de_ix (dp_var 4) (dp_var 6)) (da_cons (de_ix (dp_var 4) (dp_var 7)) da_nil)))).o))))))

abbrev st__law_put : Stmt := top 10
abbrev N__law_put : List Str := ["_law_mark", "_law_one", "_law_other", "_law_low", "_law_high", "_law_y"]
theorem sc__law_put : FnScope N__law_put ["_law_mark", "_law_one", "_law_other"] (defScope st__law_put) := ⟨rfl, rfl, rfl, by decide +kernel, rfl, by decide +kernel, by decide +kernel⟩
def B__law_put : SF :=
 (sSeq (sAsg 3 (datE (eFn gMin (aCons (eBin gIx (eVarP 0) (eVarP 1)) (aCons (eBin gIx (eVarP 0) (eVarP 2)) aNil)))))
 (sSeq (sAsg 4 (datE (eFn gMax (aCons (eBin gIx (eVarP 0) (eVarP 1)) (aCons (eBin gIx (eVarP 0) (eVarP 2)) aNil)))))
 (sRet (eComp [5] (ofLst (eVarP 0)) (uName 5) tYesF (eIf (toB (eBin gEq (eVarP 5) (eVarP 4))) (eVar 3) (eVar 5))))))
def F__law_put : List D → Option (Except Nat S) := fnD 3 6 B__law_put
theorem body__law_put (X : Bl K mg T)  : BodyOk P w K mg base T N__law_put "_law_put" st__law_put 0 B__law_put := fun f cdv A outer s H E ok =>
 (dss_cons (ds_set ok 3 ((de_min2 (dap_cons ((de_ix (dp_var 0) (dp_var 1))).p (dap_cons ((de_ix (dp_var 0) (dp_var 2))).p dap_nil)) X.m_min)).o)
 (dss_cons (ds_set ok 4 ((de_max2 (dap_cons ((de_ix (dp_var 0) (dp_var 1))).p (dap_cons ((de_ix (dp_var 0) (dp_var 2))).p dap_nil)) X.m_max)).o)
 (dss_one (ds_ret (do_lc ok (blkOk_by (N := N__law_put) (sc := defScope st__law_put) (own := [("_law_y", 5)]) (by decide +kernel)) (dlc [("_law_y", 5)] (dj_lst (dp_var 0)) (dg_name (ok.blk _) 5) (by decide) dts_nil (de_if (dt_eq (ok.blk _) (dp_var 5) (dp_var 4)) (de_var 3) (de_var 5))))))))

abbrev st__law_parts : Stmt := top 11
abbrev N__law_parts : List Str := ["_law_many", "_law_makers", "_law_pairs", "_law_mark", "_law_more", "_law_found", "_law_x", "_law_one", "_law_other", "_law_maker_here", "_law_y"]
theorem sc__law_parts : FnScope N__law_parts ["_law_many", "_law_makers", "_law_pairs"] (defScope st__law_parts) := ⟨rfl, rfl, rfl, by decide +kernel, rfl, by decide +kernel, by decide +kernel⟩
def B__law_parts : SF :=
 (sSeq (sAsg 3 (eLRg1 (eVar 0)))
 (sSeq (sFor (ofLst (eVar 2)) (uTup (uCons (uName 7) (uCons (uName 8) uNil)))
 (frzI 3 (sAsg 3 (eCall F__law_put (aCons (eVar 3) (aCons (eVar 7) (aCons (eVar 8) aNil)))))))
 (sSeq (sAsg 4 (datE (eC (.bl true))))
 (sSeq (sWhile (toB (eVar 4))
 (sSeq (sAsg 4 (datE (eC (.bl false))))
 (sFor (ofLst (eVar 1)) (uName 9)
 (sFor (iFn rng1 (aCons (eVar 0) aNil)) (uName 6)
 (sIf (toB (eBin gNe (eBin gIx (eVarP 3) (eBin gIx (eVarP 9) (eVarP 6))) (eBin gIx (eVarP 3) (eBin gIx (eVarP 9) (eBin gIx (eVarP 3) (eVarP 6))))))
 (sSeq (frzI 3 (sAsg 3 (eCall F__law_put (aCons (eVar 3) (aCons (eBin gIx (eVarP 9) (eVarP 6)) (aCons (eBin gIx (eVarP 9) (eBin gIx (eVarP 3) (eVarP 6))) aNil))))))
 (sAsg 4 (datE (eC (.bl true)))))
 sNext)))))
 (sSeq (sAsg 5 (eLst aNil))
 (sSeq (sFor (iFn rng1 (aCons (eVar 0) aNil)) (uName 6)
 (sIf (toB (eBin gEq (eBin gIx (eVarP 3) (eVarP 6)) (eVarP 6)))
 (sDropM (mMeth1 5 mApp (mE (frzF (eComp [10] (iFn rng1 (aCons (eVar 0) aNil)) (uName 10) (toB (eBin gEq (eBin gIx (eVarP 3) (eVarP 10)) (eVarP 6))) (eVar 10))))))
 sNext))
 (eOwn 5)))))))
def F__law_parts : List D → Option (Except Nat S) := fnD 3 11 B__law_parts
theorem body__law_parts (X : Bl K mg T) (h__law_put : FnD P w K mg base T 1 "_law_put" 3 F__law_put) : BodyOk P w K mg base T N__law_parts "_law_parts" st__law_parts 1 B__law_parts := fun f cdv A outer s H E ok =>
 (dss_cons (ds_set ok 3 (do_listRg1 (de_var 0) X.m_list X.m_range))
 (dss_cons (ds_for ok (di_lst (de_var 2)) (dg_tup (dgs_cons (dg_name ok 7) (dgs_cons (dg_name ok 8) dgs_nil)) (uCons_len (uCons_len uNil_len)))
 (dss_one (ds_frz 3 (ds_set ok 3 (do_call ok h__law_put (by decide) (da_cons (de_var 3) (da_cons (de_var 7) (da_cons (de_var 8) da_nil))))))))
 (dss_cons (ds_set ok 4 (de_bl).o)
 (dss_cons (ds_while ok (dt_val (de_var 4))
 (dss_cons (ds_set ok 4 (de_bl).o)
 (dss_one (ds_for ok (di_lst (de_var 1)) (dg_name ok 9)
 (dss_one (ds_for ok (di_rng1 (da_cons (de_var 0) da_nil) X.m_range) (dg_name ok 6)
 (dss_one (ds_if (dt_ne ok ((de_ix (dp_var 3) ((de_ix (dp_var 9) (dp_var 6))).p)).p ((de_ix (dp_var 3) ((de_ix (dp_var 9) ((de_ix (dp_var 3) (dp_var 6))).p)).p)).p)
 (dss_cons (ds_frz 3 (ds_set ok 3 (do_call ok h__law_put (by decide) (da_cons (de_var 3) (da_cons (de_ix (dp_var 9) (dp_var 6)) (da_cons (de_ix (dp_var 9) ((de_ix (dp_var 3) (dp_var 6))).p) da_nil))))))
 (dss_one (ds_set ok 4 (de_bl).o)))
 dss_nil))))))))
 (dss_cons (ds_set ok 5 (do_lst da_nil))
 (dss_cons (ds_for ok (di_rng1 (da_cons (de_var 0) da_nil) X.m_range) (dg_name ok 6)
 (dss_one (ds_if (dt_eq ok ((de_ix (dp_var 3) (dp_var 6))).p (dp_var 6))
 (dss_one (ds_dropM (dm_meth1 5 PySem.F.slot_list_append PySem.F.type_list_append (fun _ => mt_append) rm_app (((do_lc ok (blkOk_by (N := N__law_parts) (sc := defScope st__law_parts) (own := [("_law_y", 10)]) (by decide +kernel)) (dlc [("_law_y", 10)] (di_rng1 (da_cons (de_var 0) da_nil) X.m_range).j (dg_name (ok.blk _) 10) (by decide) (dts_one (dt_eq (ok.blk _) ((de_ix (dp_var 3) (dp_var 10))).p (dp_var 6))) (de_var 10)))).frz).m)))
 dss_nil)))
 (dss_one (ds_retv 5))))))))

abbrev st__law_alike : Stmt := top 12
abbrev N__law_alike : List Str := ["_law_found", "_law_due", "_law_part", "_law_x"]
theorem sc__law_alike : FnScope N__law_alike ["_law_found", "_law_due"] (defScope st__law_alike) := ⟨rfl, rfl, rfl, by decide +kernel, rfl, by decide +kernel, by decide +kernel⟩
def B__law_alike : SF :=
 (sSeq (sIf (bOr (bNot (toB (eIsi (tabOf "list") (eVarP 0)))) (toB (eBin gNe (eVarP 0) (eVarP 1))))
 (sRet (datE (eC (.bl false))))
 sNext)
 (sSeq (sFor (ofLst (eVar 0)) (uName 2)
 (sIf (bOr (bNot (toB (eIsi (tabOf "list") (eVarP 2)))) (bNot (toB (eFn gAll (aCons (frzF (eComp [3] (ofLst (eVarP 2)) (uName 3) tYesF (eAnd (eIsi tabInt (eVarP 3)) (eNot (eIsi (tabOf "bool") (eVarP 3)))))) aNil)))))
 (sRet (datE (eC (.bl false))))
 sNext))
 (sRet (datE (eC (.bl true))))))
def F__law_alike : List D → Option (Except Nat S) := fnD 2 4 B__law_alike
theorem body__law_alike (X : Bl K mg T)  : BodyOk P w K mg base T N__law_alike "_law_alike" st__law_alike 0 B__law_alike := fun f cdv A outer s H E ok =>
 (dss_cons (ds_if ((dw_or (dt_not (dt_val (de_isi "list" (tabOf "list") (dp_var 0) tab_list X.m_isinstance X.m_list (by decide +kernel)))) (dw_or1 (dt_ne ok (dp_var 0) (dp_var 1))))).pt
 (dss_one (ds_ret (de_bl).o))
 dss_nil)
 (dss_cons (ds_for ok (di_lst (de_var 0)) (dg_name ok 2)
 (dss_one (ds_if ((dw_or (dt_not (dt_val (de_isi "list" (tabOf "list") (dp_var 2) tab_list X.m_isinstance X.m_list (by decide +kernel)))) (dw_or1 (dt_not (dt_val (de_all (dap_cons (((do_lc ok (blkOk_by (N := N__law_alike) (sc := defScope st__law_alike) (own := [("_law_x", 3)]) (by decide +kernel)) (dlc [("_law_x", 3)] (dj_lst (dp_var 2)) (dg_name (ok.blk _) 3) (by decide) dts_nil (de_and (de_isi "int" tabInt (dp_var 3) tabInt_ok X.m_isinstance X.m_int (by decide +kernel)) (de_one (de_not (de_isi "bool" (tabOf "bool") (dp_var 3) tab_bool X.m_isinstance X.m_bool (by decide +kernel)))))))).frz).p dap_nil) X.m_all)))))).pt
 (dss_one (ds_ret (de_bl).o))
 dss_nil)))
 (dss_one (ds_ret (de_bl).o))))

abbrev st__law_kept : Stmt := top 13
abbrev N__law_kept : List Str := ["_law_parts_here", "_law_maker_here", "_law_at", "_law_k", "_law_part", "_law_x"]
theorem sc__law_kept : FnScope N__law_kept ["_law_parts_here", "_law_maker_here"] (defScope st__law_kept) := ⟨rfl, rfl, rfl, by decide +kernel, rfl, by decide +kernel, by decide +kernel⟩
def B__law_kept : SF :=
 (sSeq (sAsg 2 (eLRg1 (eFn gLen (aCons (eVarP 1) aNil))))
 (sSeq (sFor (iFn rng1 (aCons (eFn gLen (aCons (eVarP 0) aNil)) aNil)) (uName 3)
 (sFor (ofLst (eBin gIx (eVarP 0) (eVarP 3))) (uName 5)
 (sSetI 2 (eVar 5) (eVar 3))))
 (sSeq (sFor (ofLst (eVar 0)) (uName 4)
 (sIf (bNot (toB (eFn gAll (aCons (frzF (eComp [5] (ofLst (eVarP 4)) (uName 5) tYesF (eBin gEq (eBin gIx (eVarP 2) (eBin gIx (eVarP 1) (eVarP 5))) (eBin gIx (eVarP 2) (eBin gIx (eVarP 1) (eBin gIx (eVarP 4) (eC (.int 0)))))))) aNil))))
 (sRet (datE (eC (.bl false))))
 sNext))
 (sRet (datE (eC (.bl true)))))))
def F__law_kept : List D → Option (Except Nat S) := fnD 2 6 B__law_kept
theorem body__law_kept (X : Bl K mg T)  : BodyOk P w K mg base T N__law_kept "_law_kept" st__law_kept 0 B__law_kept := fun f cdv A outer s H E ok =>
 (dss_cons (ds_set ok 2 (do_listRg1 (de_len (dap_cons (dp_var 1) dap_nil) X.m_len) X.m_list X.m_range))
 (dss_cons (ds_for ok (di_rng1 (da_cons (de_len (dap_cons (dp_var 0) dap_nil) X.m_len) da_nil) X.m_range) (dg_name ok 3)
 (dss_one (ds_for ok (di_lst (de_ix (dp_var 0) (dp_var 3))) (dg_name ok 5)
 (dss_one (ds_setI 2 (de_var 3) (de_var 5))))))
 (dss_cons (ds_for ok (di_lst (de_var 0)) (dg_name ok 4)
 (dss_one (ds_if (dt_not (dt_val (de_all (dap_cons (((do_lc ok (blkOk_by (N := N__law_kept) (sc := defScope st__law_kept) (own := [("_law_x", 5)]) (by decide +kernel)) (dlc [("_law_x", 5)] (dj_lst (dp_var 4)) (dg_name (ok.blk _) 5) (by decide) dts_nil (de_eq (ok.blk _) ((de_ix (dp_var 2) ((de_ix (dp_var 1) (dp_var 5))).p)).p ((de_ix (dp_var 2) ((de_ix (dp_var 1) ((de_ix (dp_var 4) (de_int).p)).p)).p)).p)))).frz).p dap_nil) X.m_all)))
 (dss_one (ds_ret (de_bl).o))
 dss_nil)))
 (dss_one (ds_ret (de_bl).o)))))

end G

set_option Elab.async false
set_option linter.all false
set_option maxRecDepth 100000
set_option maxHeartbeats 4000000
namespace G
open PySem L2 DL
/-! ### parts_by, by hand -/
theorem small5 {n : Nat} (h : n ≤ 100000) : n < sizeLine := Nat.lt_of_le_of_lt h (by decide)
/-- a place is put to its mark's group -/
def addG (k p : Int) : List (Int × List Int) → List (Int × List Int)
  | [] => [(k, [p])]
  | g :: r => if g.1 = k then (g.1, g.2 ++ [p]) :: r else g :: addG k p r
def groups (ms : List Int) : Nat → List (Int × List Int)
  | 0 => []
  | i + 1 => addG (ms.getD i 0) i (groups ms i)
/-- groups that stand in the heap -/
inductive GAt (H : Hp) : List (Int × List Int) → List (Key × V) → List Addr → Prop where
  | nil : GAt H [] [] []
  | cons {k : Int} {l : List Int} {gs : List (Int × List Int)} {kvs : List (Key × V)} {as : List Addr} {a : Addr} : H a = some (.lst (l.map V.int)) → a ∉ as → GAt H gs kvs as → GAt H ((k, l) :: gs) ((.inl k, .ref a) :: kvs) (a :: as)
theorem GAt.keep {H H' : Hp} {gs : List (Int × List Int)} {kvs : List (Key × V)} {as : List Addr} (h : GAt H gs kvs as) (k : ∀ a ∈ as, H' a = H a) : GAt H' gs kvs as := by
  induction h with
  | nil => exact .nil
  | cons h1 h2 h3 ih => exact .cons (by rw [k _ List.mem_cons_self]; exact h1) h2 (ih fun b hb => k b (List.mem_cons_of_mem _ hb))
theorem GAt.len {H : Hp} {gs : List (Int × List Int)} {kvs : List (Key × V)} {as : List Addr} (h : GAt H gs kvs as) : kvs.length = gs.length := by
  induction h with
  | nil => rfl
  | cons h1 h2 h3 ih => simp [ih]
theorem GAt.has {H : Hp} {gs : List (Int × List Int)} {kvs : List (Key × V)} {as : List Addr} (h : GAt H gs kvs as) : ∀ a ∈ as, ∃ l : List Int, H a = some (.lst (l.map V.int)) := by
  induction h with
  | nil => intro a ha; cases ha
  | cons h1 h2 h3 ih =>
    intro a ha
    rcases List.mem_cons.mp ha with rfl | ha
    · exact ⟨_, h1⟩
    · exact ih a ha
/-- where a mark's group stands -/
theorem GAt.find {H : Hp} {gs : List (Int × List Int)} {kvs : List (Key × V)} {as : List Addr} (h : GAt H gs kvs as) (k : Int) : (valV kvs (Sum.inl k : Key) = none ∧ ∀ p, addG k p gs = gs ++ [(k, [p])]) ∨
    ∃ (a : Addr) (l : List Int), a ∈ as ∧ valV kvs (Sum.inl k : Key) = some (.ref a) ∧ H a = some (.lst (l.map V.int)) ∧ l.length ≤ (gs.map fun g => g.2.length).sum ∧ ∀ p, GAt (upd H a (.lst ((l ++ [p]).map V.int))) (addG k p gs) kvs as := by
  induction h with
  | nil => exact .inl ⟨rfl, fun p => rfl⟩
  | @cons k0 l0 gs kvs as a h1 h2 h3 ih =>
    by_cases e : k0 = k
    · subst e
      refine .inr ⟨a, l0, List.mem_cons_self, valV_pos rfl, h1, by simp, fun p => ?_⟩
      unfold addG
      rw [if_pos rfl]
      refine .cons upd_same h2 (h3.keep fun b hb => upd_ne fun z => h2 (by rw [← z]; exact hb))
    · have ne : ¬ (Sum.inl k0 : Key) = Sum.inl k := fun z => e (Sum.inl.inj z)
      rw [valV_neg (p := ((Sum.inl k0 : Key), V.ref a)) ne]
      rcases ih with ⟨q1, q2⟩ | ⟨b, l, q1, q2, q3, q5, q4⟩
      · refine .inl ⟨q1, fun p => ?_⟩
        unfold addG
        rw [if_neg e, q2 p]
        rfl
      · refine .inr ⟨b, l, List.mem_cons_of_mem _ q1, q2, q3, by simp; omega, fun p => ?_⟩
        unfold addG
        rw [if_neg e]
        exact .cons (by rw [upd_ne fun z => h2 (by rw [z]; exact q1)]; exact h1) h2 (q4 p)
theorem addG_sum (k p : Int) : ∀ gs : List (Int × List Int), ((addG k p gs).map fun g => g.2.length).sum = (gs.map fun g => g.2.length).sum + 1
  | [] => by simp [addG]
  | g :: r => by
    unfold addG
    split
    · simp; omega
    · simp [addG_sum k p r]; omega
theorem addG_len (k p : Int) : ∀ gs : List (Int × List Int), (addG k p gs).length ≤ gs.length + 1
  | [] => by simp [addG]
  | g :: r => by
    unfold addG
    split
    · simp
    · have := addG_len k p r
      simp; omega
theorem groups_sum (ms : List Int) : ∀ i, ((groups ms i).map fun g => g.2.length).sum = i
  | 0 => rfl
  | i + 1 => by rw [groups, addG_sum, groups_sum ms i]
theorem groups_len (ms : List Int) : ∀ i, (groups ms i).length ≤ i
  | 0 => Nat.le_refl _
  | i + 1 => by have := addG_len (ms.getD i 0) i (groups ms i); have := groups_len ms i; rw [groups]; omega
theorem GAt.snoc {H : Hp} {gs : List (Int × List Int)} {kvs : List (Key × V)} {as : List Addr} (h : GAt H gs kvs as) {a : Addr} {k : Int} {l : List Int} (ha : H a = some (.lst (l.map V.int))) (hn : a ∉ as) : GAt H (gs ++ [(k, l)]) (kvs ++ [(.inl k, .ref a)]) (as ++ [a]) := by
  induction h with
  | nil => exact .cons ha (by simp) .nil
  | @cons k0 l0 gs kvs as b h1 h2 h3 ih =>
    have h4 : a ≠ b ∧ a ∉ as := by simpa [not_or] using hn
    exact .cons h1 (by simp [h2]; exact fun z => h4.1 z.symm) (ih h4.2)
/-- the promise: a list of lists, all new -/
def spN (K : PySem.W.Frag) (T : Tb) (n : Nat) (G : List D → Option D) : Sp := fun vs H Q E => ∃ Z ds d, vs.length = n ∧ Same Z H ∧ Reps K T Z ds vs ∧ G ds = some d ∧ ∀ v Z' H' Zn, Ext Z H Z' H' → Same Zn Z' → (∀ a o, Zn a = some o → H a = none) → Rep K T Zn d v → Q v H'
def G_parts_by : List D → Option D
  | [.lst ds] => (intsOf ds).bind fun ms => ifO (ms.length ≤ 100000) (.lst ((groups ms ms.length).map fun g => .lst (g.2.map .int)))
  | _ => none
theorem GAt.reps {K : PySem.W.Frag} {T : Tb} {H : Hp} {gs : List (Int × List Int)} {kvs : List (Key × V)} {as : List Addr} (h : GAt H gs kvs as) (Zn : Hp) (hz : ∀ a ∈ as, Zn a = H a) : Reps K T Zn (gs.map fun g => .lst (g.2.map .int)) (kvs.map (·.2)) := by
  induction h with
  | nil => exact Reps.nil
  | @cons k l gs kvs as a h1 h2 h3 ih => exact Reps.cons ⟨a, _, rfl, by rw [hz a List.mem_cons_self]; exact h1, Reps.ofInts l⟩ (ih fun b hb => hz b (List.mem_cons_of_mem _ hb))
abbrev st_parts_by : Stmt := top 1
theorem sc_parts_by : FnScope ["marks", "parts", "place"] ["marks"] (defScope st_parts_by) := ⟨rfl, rfl, rfl, by decide +kernel, rfl, by decide +kernel, by decide +kernel⟩
variable {P : Program} {w : World} {K : PySem.W.Frag} {mg : Str → Option Value} {base : Heap} {T : Tb}
theorem ok_parts_by {f : Addr} {fd : FuncData} (Fn : Fun K "parts_by" "parts_by" st_parts_by f fd) (X : Bl K mg T) : FnOk P w K mg base (L2.CX P w) 1 f fd ["marks"] (spN K T 1 G_parts_by) := by
  refine Fn.okX sc_parts_by (fun vs H Q E h => ?_) (fun cdv A outer s H vs Q E hr h => ?_)
  · obtain ⟨Z, ds, d, h1, _⟩ := h
    exact h1
  · obtain ⟨Z, ds, d, h1, zh, h3, h4, h5⟩ := h
    have hu := hu_of hr
    have nd := sc_parts_by.nd
    -- the argument
    have arg : ∃ ms, ds = [.lst (ms.map .int)] ∧ ms.length ≤ 100000 ∧ d = .lst ((groups ms ms.length).map fun g => .lst (g.2.map .int)) := by
      unfold G_parts_by at h4
      split at h4
      · rename_i es
        obtain ⟨ms, e1, e2⟩ := Option.bind_eq_some_iff.mp h4
        obtain ⟨c, e3⟩ := ifO_some e2
        exact ⟨ms, by rw [intsOf_eq e1], c, e3.symm⟩
      · cases h4
    obtain ⟨ms, rfl, hl, rfl⟩ := arg
    obtain ⟨v0, r0, rfl, ⟨m, xs, rfl, hm, hxs⟩, hr0⟩ := reps_cons h3
    cases reps_nil hr0
    cases hxs.ints
    have hmH : H m = some (.lst (ms.map V.int)) := zh _ _ hm
    refine ⟨_, pss_cons (ps_set (i := 1) nd rfl (.inl rfl) pe_dnewK)
      (pss_cons (ps_for (passes_of rfl) rfl (pi_range1 rfl X.m_range (pa_cons (pe_callB call_len_seq (by rfl) X.m_len PySem.boot_len (pa_cons (pv 0) pa_nil)) pa_nil)) (pg_name (i := 2) nd rfl (.inl rfl))
        (pss_one (ps_if (pt_cmp (pc_din hu (pe_ix ix_list (pv 0) (pv 2) (fun _ _ => rfl)) (pv 1)))
          (pss_one (ps_expr (pe_bm PySem.F.plainAttrs_list PySem.F.slot_list_append PySem.F.type_list_append mt_append (pe_dget hu (pv 1) (pe_ix ix_list (pv 0) (pv 2) (fun _ _ => rfl)) (fun _ _ => rfl)) (pa_cons (pv 2) pa_nil))))
          (pss_one (ps_dput hu (pv 1) (pe_ix ix_list (pv 0) (pv 2) (fun _ _ => rfl)) (pe_lst (pa_cons (pv 2) pa_nil)) rfl)))))
      (pss_one (ps_ret (pe_listVals rfl (pv 1) rfl X.m_list)))), ?_⟩
    intro d hd
    have nmd : m ≠ d := ne_of_none hmH hd
    refine ⟨_, rfl, m, _, rfl, .inl (SqL.of (by rw [upd_ne nmd]; exact hmH)), (ms.map V.int).length, rfl, by simp <;> omega, by simp <;> omega, ?_⟩
    have hn : ((((ms.map V.int).length : Nat) : Int)).toNat = ms.length := by simp
    rw [hn]
    refine for_range (lo := 0) (n := ms.length) (fun i σ' H' => ∃ (kvs : List (Key × V)) (as : List Addr) (z : Option V), σ' = [some (.ref m), some (.ref d), z] ∧ Same H H' ∧ H' d = some (.dK kvs) ∧ GAt H' (groups ms i) kvs as ∧ d ∉ as ∧ ∀ a ∈ as, H a = none) ?_ ?_ ?_
    · exact ⟨[], [], none, rfl, same_upd hd, upd_same, .nil, by simp, by simp⟩
    · rintro i σ' H' hi ⟨kvs, as, z, rfl, sm, hdk, ga, hda, hna⟩
      have hx : (ms.map V.int)[i]? = some (.int (ms.getD i 0)) := by
        simp [List.getElem?_map, hi]
      have hat : atI (ms.map V.int) (0 + (i : Int)) = some (.int (ms.getD i 0)) := by
        rw [Int.zero_add]
        exact atI_nat hx
      have hm' : H' m = some (.lst (ms.map V.int)) := sm _ _ hmH
      refine ⟨_, rfl, _, rfl, m, _, _, _, rfl, rfl, SqL.of hm', hat, _, rfl, d, _, rfl, DGet.k (k := Sum.inl (ms.getD i 0)) hdk, _, rfl, ?_⟩
      have hgl := groups_len ms i
      rcases ga.find (ms.getD i 0) with ⟨q1, q2⟩ | ⟨a, l, q1, q2, q3, q5, q4⟩
      · rw [q1]
        refine iteF ?_
        refine ⟨_, rfl, by show 1 ≤ sizeLine; decide, fun p hp => ?_⟩
        have npm : m ≠ p := ne_of_none hm' hp
        have npd : d ≠ p := ne_of_none hdk hp
        refine ⟨_, rfl, _, rfl, _, rfl, m, _, _, _, rfl, rfl, SqL.of (by rw [upd_ne npm]; exact hm'), hat, d, _, rfl, DPut.k (k := Sum.inl (ms.getD i 0)) (by rw [upd_ne npd]; exact hdk) (by rw [ga.len]; exact small5 (by omega)), ?_⟩
        have hpa : p ∉ as := fun z => by
          obtain ⟨l, e⟩ := ga.has p z
          rw [hp] at e; cases e
        refine ⟨putK kvs (Sum.inl (ms.getD i 0)) (.ref p), as ++ [p], _, rfl, fun b o hb => ?_, upd_same, ?_, by simp [hda, npd], fun a ha => ?_⟩
        · have nb : b ≠ d := ne_of_none hb hd
          have nbp : b ≠ p := ne_of_none (sm _ _ hb) hp
          rw [upd_ne nb, upd_ne nbp]
          exact sm _ _ hb
        · have epk : putK kvs (Sum.inl (ms.getD i 0) : Key) (V.ref p) = kvs ++ [(Sum.inl (ms.getD i 0), V.ref p)] := putK_new _ q1
          rw [epk, groups, q2]
          have ga2 : GAt (upd (upd H' p (.lst [.int (0 + (i : Int))])) d (.dK (kvs ++ [(Sum.inl (ms.getD i 0), V.ref p)]))) (groups ms i) kvs as := ga.keep fun a ha => by
            rw [upd_ne (fun z => hda (by rw [← z]; exact ha)), upd_ne (fun z => hpa (by rw [← z]; exact ha))]
          refine ga2.snoc ?_ hpa
          rw [upd_ne npd.symm, upd_same, Int.zero_add]
          rfl
        · rcases List.mem_append.mp ha with ha | ha
          · exact hna a ha
          · rw [List.mem_singleton.mp ha]
            exact same_none sm hp
      · rw [q2]
        refine iteT ?_
        refine ⟨_, rfl, _, rfl, _, rfl, m, _, _, _, rfl, rfl, SqL.of hm', hat, d, V.ref a, rfl, ?_, Or.inl ⟨rfl, _, SqL.of q3⟩, _, rfl, a, _, _, rfl, rfl, q3, small5 (by have := groups_sum ms i; simp only [List.length_map]; omega), ?_⟩
        · have := DGet.k (k := Sum.inl (ms.getD i 0)) hdk
          rw [q2] at this
          exact this
        · have nda : d ≠ a := fun z => hda (by rw [z]; exact q1)
          refine ⟨kvs, as, _, rfl, fun b o hb => ?_, by rw [upd_ne nda]; exact hdk, ?_, hda, hna⟩
          · rw [upd_ne (ne_of_none hb (hna a q1))]
            exact sm _ _ hb
          · have := q4 (i : Int)
            rw [List.map_append] at this
            rw [groups, Int.zero_add]
            exact this
    · rintro σ' H' ⟨kvs, as, z, rfl, sm, hdk, ga, hda, hna⟩
      refine ⟨_, rfl, d, kvs, rfl, hdk, fun q hq => ?_⟩
      have nq : ∀ a ∈ as, a ≠ q := fun a ha z => by
        obtain ⟨l, e⟩ := ga.has a ha
        rw [z, hq] at e; cases e
      -- the new part of the heap
      let Zn : Hp := fun a => if a = q ∨ a ∈ as then upd H' q (.lst (kvs.map (·.2))) a else none
      have zn : ∀ a o, Zn a = some o → (a = q ∨ a ∈ as) ∧ upd H' q (.lst (kvs.map (·.2))) a = some o := fun a o e => by
        by_cases c : a = q ∨ a ∈ as
        · refine ⟨c, ?_⟩
          have : Zn a = upd H' q (.lst (kvs.map (·.2))) a := if_pos c
          rw [← this]; exact e
        · have : Zn a = none := if_neg c
          rw [this] at e; cases e
      have new : ∀ a, (a = q ∨ a ∈ as) → H a = none := fun a c => by
        rcases c with rfl | c
        · exact same_none sm hq
        · exact hna a c
      let Z' : Hp := fun a => match Zn a with
        | some o => some o
        | none => Z a
      have zs : Same Zn Z' := fun a o e => by
        show (match Zn a with | some o => some o | none => Z a) = some o
        rw [e]
      have zz : ∀ a o, Z' a = some o → Zn a = some o ∨ Z a = some o := fun a o e => by
        have e : (match Zn a with | some o => some o | none => Z a) = some o := e
        cases q : Zn a with
        | none => rw [q] at e; exact .inr e
        | some u => rw [q] at e; cases e; exact .inl rfl
      have sq : Same H (upd H' q (.lst (kvs.map (·.2)))) := sm.trans (same_upd hq)
      refine h5 (.ref q) Z' (upd H' q (.lst (kvs.map (·.2)))) Zn ⟨fun a o e => ?_, sq, fun a o e => ?_, fun a o e => ?_⟩ zs (fun a o e => new a (zn a o e).1) ⟨q, kvs.map (·.2), rfl, ?_, ?_⟩
      · show (match Zn a with | some o => some o | none => Z a) = some o
        cases y : Zn a with
        | none => exact e
        | some u =>
          have := new a (zn a u y).1
          rw [zh a o e] at this
          cases this
      · rcases zz a o e with e | e
        · exact (zn a o e).2
        · exact sq _ _ (zh _ _ e)
      · rcases zz a o e with e | e
        · exact .inr (new a (zn a o e).1)
        · exact .inl e
      · have : Zn q = upd H' q (.lst (kvs.map (·.2))) q := if_pos (.inl rfl)
        rw [this, upd_same]
      · refine ga.reps Zn fun a ha => ?_
        have : Zn a = upd H' q (.lst (kvs.map (·.2))) a := if_pos (.inr ha)
        rw [this, upd_ne (nq a ha)]
end G

set_option Elab.async false
set_option linter.all false
set_option maxRecDepth 100000
set_option maxHeartbeats 1000000
namespace G
open PySem L2 DL
def cellAt (ns : List Int) (k : Nat) : Int := ns.getD k 0
theorem ev_cell_at (ns : List Int) (k : Nat) : F__law_cell_at [.lsr (ns.map .int), .int (k : Nat)] = some (.ok (.dat (.int (cellAt ns k)))) := by
  unfold F__law_cell_at
  rw [fnD_ap (by rfl)]
  unfold B__law_cell_at
  by_cases h : k < ns.length
  · simp [h, atI_natE, cellAt]
  · simp [h, cellAt]
/-- a row of n places -/
def RowOf (n : Nat) (l : List Nat) : Prop := l.length = n ∧ ∀ x ∈ l, x < n
theorem ev_turning (c : Int) (n : Nat) (hn : n ≤ 60) : ∃ l, RowOf n l ∧ F__law_turning [.int c, nD n] = some (.ok (.dat (TN l))) := by
  unfold F__law_turning
  rw [fnD_ap (by rfl)]
  unfold B__law_turning
  obtain ⟨b60, p60, o60, l60⟩ := pow_ex (i := 10) (j := 60) (n := 200) (by decide) (by decide +kernel) (by decide +kernel)
  obtain ⟨b24, p24, o24, l24⟩ := pow_ex (i := 10) (j := 24) (n := 80) (by decide) (by decide +kernel) (by decide +kernel)
  obtain ⟨b23, p23, o23, l23⟩ := pow_ex (i := 23) (j := 64) (n := 290) (by decide) (by decide +kernel) (by decide +kernel)
  have m1 := mul_ex l60 l24 (by decide) (by decide) (by decide)
  have l1 := wide_lt l60 l24
  have o1 : 0 < b60 * b24 := Int.mul_pos o60 o24
  generalize hbd : b60 * b24 = bd at *
  have m2 := mul_ex (mod_bits (c := c) o1 l1) l23 (by decide) (by decide) (by decide)
  have hloop : ∀ (num : Int) (bd : D), ∃ ρ', forF (uName 6) (sSeq (sTup (uTup (uCons (uName 3) (uCons (uName 7) uNil))) (eFn gDivmod (aCons (eVarP 3) (aCons (eBin DL.gSub (eVarP 1) (eVarP 6)) aNil))))
      (sDropM (mMeth1 5 mApp (mMeth1 4 mPopAt (mE (eVar 7)))))) ((List.range n).map nD) [.dat (.int c), .dat (nD n), .dat bd, .dat (.int num), .own ((List.range n).map nD), .own [], .no, .no] = some (.nx ρ') ∧
      ∃ l z3 z4 z6 z7, RowOf n l ∧ ρ' = [.dat (.int c), .dat (nD n), .dat bd, z3, z4, .own (l.map nD), z6, z7] := fun num bd => by
    obtain ⟨ρ', h1, h2⟩ := for_run (u := uName 6) (b := sSeq (sTup (uTup (uCons (uName 3) (uCons (uName 7) uNil))) (eFn gDivmod (aCons (eVarP 3) (aCons (eBin DL.gSub (eVarP 1) (eVarP 6)) aNil)))) (sDropM (mMeth1 5 mApp (mMeth1 4 mPopAt (mE (eVar 7))))))
      (fun k ρ => ∃ (num : Int) (left found : List Nat) (z6 z7 : S), ρ = [.dat (.int c), .dat (nD n), .dat bd, .dat (.int num), .own (left.map nD), .own (found.map nD), z6, z7] ∧ left.length + k = n ∧ found.length = k ∧ (∀ x ∈ left, x < n) ∧ ∀ x ∈ found, x < n)
      (ds := (List.range n).map nD) (ρ := [.dat (.int c), .dat (nD n), .dat bd, .dat (.int num), .own ((List.range n).map nD), .own [], .no, .no])
      ⟨num, List.range n, [], .no, .no, rfl, by simp, rfl, fun x hx => List.mem_range.mp hx, fun x hx => by cases hx⟩ (by
        rintro i d ρ hd ⟨num, left, found, z6, z7, rfl, h1, h2, h3, h4⟩
        have hi : i < n := by
          have := (List.getElem?_eq_some_iff.mp hd).1
          simpa using this
        have ed : d = nD i := by
          simp [List.getElem?_map, hi] at hd
          exact hd.symm
        subst ed
        refine ⟨_, rfl, ?_⟩
        have hj : (0 : Int) < (n : Int) - (i : Int) := by omega
        have hdv : gDivmod [.int num, .int ((n : Int) - (i : Int))] = some (.tup [.int (num / ((n : Int) - (i : Int))), .int (num % ((n : Int) - (i : Int)))]) := gDivmod_ap hj (by omega)
        obtain ⟨a, ha⟩ := Int.eq_ofNat_of_zero_le (Int.emod_nonneg num (b := (n : Int) - (i : Int)) (by omega))
        have hal : a < left.length := by
          have := Int.emod_lt_of_pos num hj
          omega
        have hpop : mPopAt (left.map nD) [.int (a : Int)] = some ((left.map nD).eraseIdx a, nD (left.getD a 0)) := mPopAt_nat (by simp [hal]) (by simp; omega)
        have happ : mApp (found.map nD) [nD (left.getD a 0)] = some (found.map nD ++ [nD (left.getD a 0)], .non) := mApp_ap (size9 (by simp; omega))
        refine ⟨_, .inl ?_, num / ((n : Int) - (i : Int)), left.eraseIdx a, found ++ [left.getD a 0], .dat (nD i), .dat (.int (a : Int)), rfl, ?_, by simp [h2], fun x hx => h3 x (List.mem_of_mem_eraseIdx hx), fun x hx => ?_⟩
        · simp [nD, hdv, ha]
          simp only [nD] at hpop happ
          rw [hpop]
          simp only [List.getD_eq_getElem?_getD] at happ
          simp [happ, nD, eraseIdx_map']
        · rw [List.length_eraseIdx_of_lt hal]
          omega
        · rcases List.mem_append.mp hx with hx | hx
          · exact h4 x hx
          · rw [List.mem_singleton.mp hx]
            exact getD_lt h3 hal)
    obtain ⟨num', left, found, z6, z7, e, g1, g2, g3, g4⟩ := h2
    exact ⟨ρ', h1, found, _, _, z6, z7, ⟨by simpa using g2, g4⟩, e⟩
  obtain ⟨ρ', h1, l, z3, z4, z6, z7, hl, rfl⟩ := hloop (c % bd * b23 % bd) (.int bd)
  refine ⟨l, hl, ?_⟩
  have r1 : gRg 0 (n : Int) = some (rngD 0 n) := gRg_ap (by omega)
  have r2 : rng1 [.int (n : Int)] = some (rngD 0 n) := rng1_ap (by omega)
  have md : ∀ x : Int, gMod (.int x) (.int bd) = some (.int (x % bd)) := fun x => gMod_int o1
  simp only [nD] at h1 ⊢
  simp [p60, p24, p23, m1, m2, r1, r2, md, rngD_nat, nD, h1]
end G

set_option Elab.async false
set_option linter.all false
set_option maxRecDepth 100000
set_option maxHeartbeats 1000000
namespace G
open PySem L2 DL
theorem ev_home (x wide high spare : Nat) (kind num : Int) (hw : 1 ≤ wide ∧ wide ≤ 7) (hh : 1 ≤ high ∧ high ≤ 8) (hx : x < wide * high + spare) (hs : spare ≤ 10) : ∃ r, r < wide * high + spare ∧ F__law_home [nD x, nD wide, nD high, .int kind, .int num] = some (.ok (.dat (nD r))) := by
  have hw7 : wide * high ≤ 56 := Nat.mul_le_mul hw.2 hh.2
  unfold F__law_home
  simp only [fnD_ap (ds := [nD x, nD wide, nD high, .int kind, .int num]) (n := 5) rfl]
  unfold B__law_home
  have hm1 : gMulO (.int (wide : Int)) (.int (high : Int)) = some (.dat (.int ((wide : Int) * (high : Int)))) := gMulO_small (by omega) (by omega)
  have hdv : gDivmod [.int (x : Int), .int (wide : Int)] = some (.tup [.int ((x : Int) / wide), .int ((x : Int) % wide)]) := gDivmod_ap (by omega) (by omega)
  have gmh : ∀ z : Int, gMod (.int z) (.int (high : Int)) = some (.int (z % high)) := fun z => gMod_int (by omega)
  have gmw : ∀ z : Int, gMod (.int z) (.int (wide : Int)) = some (.int (z % wide)) := fun z => gMod_int (by omega)
  have gd8 : ∀ z : Int, gFdiv (.int z) (.int 8) = some (.int (z / 8)) := fun z => gFdiv_small (by decide) (by decide)
  have gd64 : ∀ z : Int, gFdiv (.int z) (.int 64) = some (.int (z / 64)) := fun z => gFdiv_small (by decide) (by decide)
  by_cases c0 : (wide : Int) * high ≤ x
  · exact ⟨x, hx, by simp [nD, hm1, c0]⟩
  · have hxlt : (x : Int) < (wide : Int) * high := by omega
    have f0 : 0 ≤ (x : Int) / wide := Int.ediv_nonneg (by omega) (by omega)
    have f1 : (x : Int) / wide < high := Int.ediv_lt_of_lt_mul (by omega) (by rw [Int.mul_comm]; exact hxlt)
    have a0 : 0 ≤ (x : Int) % wide := Int.emod_nonneg _ (by omega)
    have a1 : (x : Int) % wide < wide := Int.emod_lt_of_pos _ (by omega)
    have hmf : ∀ z : Int, 0 ≤ z → z < high → gMulO (.int z) (.int (wide : Int)) = some (.dat (.int (z * wide))) := fun z h0 h1 => gMulO_small (by omega) (by omega)
    have fin : ∀ m a : Int, 0 ≤ m → m < high → 0 ≤ a → a < wide → ∃ r, r < wide * high + spare ∧ D.int (m * wide + a) = nD r := fun m a h0 h1 h2 h3 => by
      obtain ⟨l1, l2⟩ := lin_lt h0 h1 h2 h3
      rw [Int.mul_comm (high : Int)] at l2
      obtain ⟨r, h4, h5⟩ := toNat_ex (n := wide * high + spare) l1 (by simp; omega)
      exact ⟨r, h4, h5⟩
    have em : ∀ z : Int, 0 ≤ z % high ∧ z % high < high := fun z => ⟨Int.emod_nonneg _ (by omega), Int.emod_lt_of_pos _ (by omega)⟩
    have ew : ∀ z : Int, 0 ≤ z % wide ∧ z % wide < wide := fun z => ⟨Int.emod_nonneg _ (by omega), Int.emod_lt_of_pos _ (by omega)⟩
    by_cases c1 : kind = 0
    · by_cases c2 : (x : Int) / wide = num % high
      · obtain ⟨r, h1, h2⟩ := fin ((num % high + num / 64) % high) (((x : Int) % wide + 1 + num / 8) % wide) (em _).1 (em _).2 (ew _).1 (ew _).2
        refine ⟨r, h1, ?_⟩
        rw [← h2]
        simp [nD, hm1, c0, hdv, c1, gmh, c2, gmw, gd8, gd64, hmf _ (em _).1 (em _).2]
      · obtain ⟨r, h1, h2⟩ := fin (((x : Int) / wide + num / 64) % high) ((x : Int) % wide) (em _).1 (em _).2 a0 a1
        refine ⟨r, h1, ?_⟩
        rw [← h2]
        simp [nD, hm1, c0, hdv, c1, gmh, c2, gmw, gd8, gd64, hmf _ (em _).1 (em _).2]
    · by_cases c3 : (x : Int) / wide = num / 8 % high ∧ (x : Int) % wide = num % wide
      · obtain ⟨r, h1, h2⟩ := fin ((x : Int) / wide) (((x : Int) % wide + 1) % wide) f0 f1 (ew _).1 (ew _).2
        refine ⟨r, h1, ?_⟩
        rw [← h2]
        have hmm := hmf _ f0 f1
        rw [c3.1] at hmm
        simp [nD, hm1, c0, hdv, c1, gmh, c3.1, c3.2, gmw, gd8, gd64, hmm]
      · by_cases c4 : (x : Int) / wide = num / 8 % high ∧ (x : Int) % wide = (num + 1) % wide
        · obtain ⟨r, h1, h2⟩ := fin ((x : Int) / wide) (num % wide) f0 f1 (ew _).1 (ew _).2
          refine ⟨r, h1, ?_⟩
          rw [← h2]
          have hmm := hmf _ f0 f1
          have c5 : ¬ (num + 1) % (wide : Int) = num % wide := fun z => c3 ⟨c4.1, by rw [c4.2, z]⟩
          rw [c4.1] at hmm
          simp [nD, hm1, c0, hdv, c1, gmh, c4.1, c4.2, c5, gmw, gd8, gd64, hmm]
        · refine ⟨x, hx, ?_⟩
          by_cases c6 : (x : Int) / wide = num / 8 % high
          · have c7 : ¬ (x : Int) % wide = num % wide := fun z => c3 ⟨c6, z⟩
            have c8 : ¬ (x : Int) % wide = (num + 1) % wide := fun z => c4 ⟨c6, z⟩
            simp [nD, hm1, c0, hdv, c1, gmh, c6, c7, c8, gmw, gd8, gd64]
          · simp [nD, hm1, c0, hdv, c1, gmh, c6, gmw, gd8, gd64]
theorem ev_map_row {u : D → Option (List (Nat × D))} {el : EF D} {ρ : DL.Env} (n : Nat) (l : List Nat) (h : ∀ x ∈ l, ∃ ups r, r < n ∧ u (nD x) = some ups ∧ el (setD ρ ups) = some (.ok (nD r))) : ∃ l' : List Nat, l'.length = l.length ∧ (∀ x ∈ l', x < n) ∧ compF u tYesF el ρ (l.map nD) = some (l'.map nD) := by
  induction l with
  | nil => exact ⟨[], rfl, fun x hx => (by cases hx), rfl⟩
  | cons a r ih =>
    obtain ⟨ups, v, h1, h2, h3⟩ := h a List.mem_cons_self
    obtain ⟨l', h4, h5, h6⟩ := ih fun x hx => h x (List.mem_cons_of_mem _ hx)
    refine ⟨v :: l', by simp [h4], fun x hx => ?_, ?_⟩
    · rcases List.mem_cons.mp hx with rfl | hx
      · exact h1
      · exact h5 x hx
    · rw [List.map_cons]
      unfold compF
      rw [h2]
      simp only [tYesF, h3, h6]
      rfl
theorem ev_maker (c : Int) (wide high spare : Nat) (way : Int) (hw : 1 ≤ wide ∧ wide ≤ 7) (hh : 1 ≤ high ∧ high ≤ 8) (hs : spare ≤ 4) : ∃ l, RowOf (wide * high + spare) l ∧ F__law_maker [.int c, nD wide, nD high, nD spare, .int way] = some (.ok (.own (l.map nD))) := by
  have hw7 : wide * high ≤ 56 := Nat.mul_le_mul hw.2 hh.2
  have hn0 : 1 ≤ wide * high := Nat.mul_le_mul hw.1 hh.1
  generalize hn : wide * high + spare = n
  have hcast : (wide : Int) * (high : Int) + (spare : Int) = (n : Int) := by rw [← hn]; simp
  unfold F__law_maker
  simp only [fnD_ap (ds := [.int c, nD wide, nD high, nD spare, .int way]) (n := 5) rfl]
  unfold B__law_maker
  obtain ⟨b60, p60, o60, l60⟩ := pow_ex (i := 10) (j := 60) (n := 200) (by decide) (by decide +kernel) (by decide +kernel)
  have m60 : gMod (.int c) (.int b60) = some (.int (c % b60)) := gMod_int o60
  have m1 := mul_ex (mod_bits (c := c) o60 l60) (show (48271 : Int).natAbs < 2 ^ 16 by decide) (by decide) (by decide) (by decide)
  have m2 : ∀ z : Int, gMod (.int z) (.int 2147483647) = some (.int (z % 2147483647)) := fun z => gMod_int (by decide)
  have hm1 : gMulO (.int (wide : Int)) (.int (high : Int)) = some (.dat (.int ((wide : Int) * (high : Int)))) := gMulO_small (by omega) (by omega)
  have r2 : rng1 [.int (n : Int)] = some (rngD 0 n) := rng1_ap (by omega)
  have md : ∀ z : Int, gMod (.int z) (.int (n : Int)) = some (.int (z % n)) := fun z => gMod_int (by omega)
  have em : ∀ z : Int, 0 ≤ z % (n : Int) ∧ z % (n : Int) < n := fun z => ⟨Int.emod_nonneg _ (by omega), Int.emod_lt_of_pos _ (by omega)⟩
  have gd2 : ∀ z : Int, gFdiv (.int z) (.int 2) = some (.int (z / 2)) := fun z => gFdiv_small (by decide) (by decide)
  have gm2 : ∀ z : Int, gMod (.int z) (.int 2) = some (.int (z % 2)) := fun z => gMod_int (by decide)
  generalize hnum : c % b60 * 48271 % 2147483647 = num
  have hsz : ifO (n ≤ sizeLine) () = some () := ifO_pos (size10 (by omega))
  by_cases c2 : way = 2
  · obtain ⟨l', h1, h2, h3⟩ := ev_map_row (u := uName 7) (el := eBin gMod (frzF (eBinO gAdd (eVarP 7) (eVarP 5))) (eVarP 6)) (ρ := [.dat (.int c), .dat (nD wide), .dat (nD high), .dat (nD spare), .dat (.int way), .dat (.int num), .dat (nD n), .no]) n (List.range n) fun x hx => by
      obtain ⟨r, h4, h5⟩ := toNat_ex (em ((x : Int) + num)).1 (em ((x : Int) + num)).2
      exact ⟨_, r, h4, rfl, by rw [← h5]; simp [nD, md]⟩
    refine ⟨l', ⟨by simpa using h1, h2⟩, ?_⟩
    simp only [nD] at h3 ⊢
    simp [nD, p60, m60, m1, m2, hnum, hm1, hcast, c2, r2, eComp, rngD_nat, hsz] at h3 ⊢
    rw [h3]
    rfl
  · by_cases c3 : way = 3
    · obtain ⟨l, hl, h1⟩ := ev_turning c n (by omega)
      refine ⟨l, hl, ?_⟩
      simp only [nD] at h1 ⊢
      simp [nD, p60, m60, m1, m2, hnum, hm1, hcast, c3, h1]
    · obtain ⟨l', h1, h2, h3⟩ := ev_map_row (u := uName 7) (el := frzF (eCall F__law_home (aCons (eVar 7) (aCons (eVar 1) (aCons (eVar 2) (aCons (eBin gMod (eVarP 5) (eC (.int 2))) (aCons (eBin gFdiv (eVarP 5) (eC (.int 2))) aNil))))))) (ρ := [.dat (.int c), .dat (nD wide), .dat (nD high), .dat (nD spare), .dat (.int way), .dat (.int num), .dat (nD n), .no]) n (List.range n) fun x hx => by
        obtain ⟨r, h4, h5⟩ := ev_home x wide high spare (num % 2) (num / 2) hw hh (by rw [hn]; exact List.mem_range.mp hx) (by omega)
        exact ⟨_, r, by omega, rfl, by simp only [nD] at h5 ⊢; simp [gm2, gd2, h5]⟩
      refine ⟨l', ⟨by simpa using h1, h2⟩, ?_⟩
      simp only [nD] at h3 ⊢
      simp [nD, p60, m60, m1, m2, hnum, hm1, hcast, c2, c3, r2, eComp, rngD_nat, hsz] at h3 ⊢
      rw [h3]
      rfl
end G

set_option Elab.async false
set_option linter.all false
set_option maxRecDepth 100000
set_option maxHeartbeats 1000000
namespace G
open PySem L2 DL
theorem natAt {l : List Nat} {a : Nat} (h : a < l.length) : atI (l.map nD) (a : Int) = some (nD (l.getD a 0)) := gIx_nat h
theorem ev_strewn (n : Nat) (hn : n ≤ 100) (m by_ : List Nat) (hm : RowOf n m) (hb : RowOf n by_) : ∃ l, RowOf n l ∧ F__law_strewn [LN m, TN by_] = some (.ok (.dat (TN l))) := by
  unfold F__law_strewn
  simp only [fnD_ap (ds := [LN m, TN by_]) (n := 2) rfl]
  unfold B__law_strewn
  obtain ⟨ρ', h1, f, z, ef, h2, h3⟩ := for_run (u := uName 3) (b := sSetI 2 (eBin gIx (eVarP 1) (eVarP 3)) (eBin gIx (eVarP 1) (eBin gIx (eVarP 0) (eVarP 3))))
    (fun k ρ => ∃ (f : List Nat) (z : S), ρ = [.dat (LN m), .dat (TN by_), .own (f.map nD), z] ∧ f.length = n ∧ ∀ x ∈ f, x < n)
    (ds := (List.range n).map nD) (ρ := [.dat (LN m), .dat (TN by_), .own (m.map nD), .no]) ⟨m, .no, rfl, hm.1, hm.2⟩ (by
      rintro i d ρ hd ⟨f, z, rfl, h1, h2⟩
      have hi : i < n := by
        have := (List.getElem?_eq_some_iff.mp hd).1
        simpa using this
      have ed : d = nD i := by
        simp [List.getElem?_map, hi] at hd
        exact hd.symm
      subst ed
      have g1 : by_.getD i 0 < n := getD_lt hb.2 (by rw [hb.1]; exact hi)
      have g2 : m.getD i 0 < n := getD_lt hm.2 (by rw [hm.1]; exact hi)
      have g3 : by_.getD (m.getD i 0) 0 < n := getD_lt hb.2 (by rw [hb.1]; exact g2)
      have a1 := natAt (l := by_) (a := i) (by rw [hb.1]; exact hi)
      have a2 := natAt (l := m) (a := i) (by rw [hm.1]; exact hi)
      have a3 := natAt (l := by_) (a := m.getD i 0) (by rw [hb.1]; exact g2)
      have a4 : ixN n ((by_.getD i 0 : Nat) : Int) = some (by_.getD i 0) := ixN_nat g1
      refine ⟨_, rfl, _, .inl ?_, f.set (by_.getD i 0) (by_.getD (m.getD i 0) 0), .dat (nD i), rfl, by simp [h1], mem_set_lt h2 g3⟩
      simp only [nD] at a1 a2 a3 ⊢
      simp only [uName_ap, setD_cons, setD_nil, sSetI_ap, eBin_ap, eVarP_ap, List.set_cons_succ, List.set_cons_zero, List.getElem?_cons_zero, List.getElem?_cons_succ, bnd_ok, gIx_lst, gIx_tup, a1, a2, a3, okO_some, errS_ok, List.length_map, h1, a4, Option.map_some]
      rw [show D.int ((by_.getD (m.getD i 0) 0 : Nat) : Int) = nD (by_.getD (m.getD i 0) 0) from rfl, set_map'])
  subst ef
  refine ⟨f, ⟨h2, h3⟩, ?_⟩
  have r2 : rng1 [.int (n : Int)] = some (rngD 0 n) := rng1_ap (by omega)
  have hl := hm.1
  simp [hl, r2, rngD_nat, h1]
theorem ev_pair (c : Int) (wide n : Nat) (near : Bool) (by_ : List Nat) (hn : 1 ≤ n ∧ n ≤ 100) (hw : 1 ≤ wide ∧ wide ≤ 7) (hb : RowOf n by_) : ∃ a b, a < n ∧ b < n ∧ F__law_pair [.int c, nD wide, nD n, .bl near, TN by_] = some (.ok (.dat (TN [a, b]))) := by
  unfold F__law_pair
  simp only [fnD_ap (ds := [.int c, nD wide, nD n, .bl near, TN by_]) (n := 5) rfl]
  unfold B__law_pair
  obtain ⟨b60, p60, o60, l60⟩ := pow_ex (i := 10) (j := 60) (n := 200) (by decide) (by decide +kernel) (by decide +kernel)
  have m60 : gMod (.int c) (.int b60) = some (.int (c % b60)) := gMod_int o60
  have m1 := mul_ex (mod_bits (c := c) o60 l60) (show (69621 : Int).natAbs < 2 ^ 17 by decide) (by decide) (by decide) (by decide)
  have m2 : ∀ z : Int, gMod (.int z) (.int 2147483629) = some (.int (z % 2147483629)) := fun z => gMod_int (by decide)
  have md : ∀ z : Int, gMod (.int z) (.int (n : Int)) = some (.int (z % n)) := fun z => gMod_int (by omega)
  have mw : ∀ z : Int, gMod (.int z) (.int (wide : Int)) = some (.int (z % wide)) := fun z => gMod_int (by omega)
  have d60 : ∀ z : Int, gFdiv (.int z) (.int 60) = some (.int (z / 60)) := fun z => gFdiv_small (by decide) (by decide)
  have dw : ∀ z : Int, gFdiv (.int z) (.int (wide : Int)) = some (.int (z / wide)) := fun z => gFdiv_small (by omega) (by omega)
  have em : ∀ z : Int, ∃ r : Nat, r < n ∧ z % (n : Int) = r := fun z => ⟨(z % (n : Int)).toNat, by have := Int.emod_nonneg z (b := (n : Int)) (by omega); have := Int.emod_lt_of_pos z (b := (n : Int)) (by omega); omega, by have := Int.emod_nonneg z (b := (n : Int)) (by omega); omega⟩
  generalize hnum : c % b60 * 69621 % 2147483629 = num
  obtain ⟨r1, h1, e1⟩ := em num
  have a1 := natAt (l := by_) (a := r1) (by rw [hb.1]; exact h1)
  have g1 : by_.getD r1 0 < n := getD_lt hb.2 (by rw [hb.1]; exact h1)
  have fin : ∀ z : Int, (∃ r2 : Nat, r2 < n ∧ z = r2) → ∃ b, b < n ∧ atI (by_.map nD) z = some (nD b) := by
    rintro _ ⟨r2, h2, rfl⟩
    exact ⟨_, getD_lt hb.2 (by rw [hb.1]; exact h2), natAt (by rw [hb.1]; exact h2)⟩
  cases near with
  | false =>
    obtain ⟨b, hb1, hb2⟩ := fin (num / 60 % n) (em _)
    refine ⟨_, b, g1, hb1, ?_⟩
    simp only [nD] at a1 hb2 ⊢
    have s2 : ifO (2 ≤ sizeLine) (D.tup [.int (by_.getD r1 0 : Nat), .int (b : Nat)]) = some (.tup [.int (by_.getD r1 0 : Nat), .int (b : Nat)]) := ifO_pos (by decide)
    simp only [List.getD_eq_getElem?_getD] at a1 s2
    simp [p60, m60, m1, m2, hnum, md, e1, d60, a1, hb2, s2]
    exact ⟨rfl, rfl⟩
  | true =>
    have hq : 0 ≤ (r1 : Int) / wide := Int.ediv_nonneg (by omega) (by omega)
    have hq2 : (r1 : Int) / wide * wide ≤ r1 := Int.ediv_mul_le _ (by omega)
    have hq3 : 0 ≤ (r1 : Int) / wide * wide := Int.mul_nonneg hq (by omega)
    have hr0 : 0 ≤ num / 60 % (wide : Int) := Int.emod_nonneg _ (by omega)
    have hr1 : num / 60 % (wide : Int) < wide := Int.emod_lt_of_pos _ (by omega)
    have hmul : gMulO (.int ((r1 : Int) / wide)) (.int (wide : Int)) = some (.dat (.int ((r1 : Int) / wide * wide))) := gMulO_small (by
      have : (r1 : Int) / wide ≤ r1 := Int.ediv_le_self _ (by omega)
      omega) (by omega)
    obtain ⟨b, hb1, hb2⟩ := fin (if (n : Int) - 1 < (r1 : Int) / wide * wide + num / 60 % wide then (n : Int) - 1 else (r1 : Int) / wide * wide + num / 60 % wide) (by
      split
      · exact ⟨n - 1, by omega, by omega⟩
      · exact ⟨((r1 : Int) / wide * wide + num / 60 % wide).toNat, by omega, by omega⟩)
    refine ⟨_, b, g1, hb1, ?_⟩
    simp only [nD] at a1 hb2 ⊢
    have s2 : ifO (2 ≤ sizeLine) (D.tup [.int (by_.getD r1 0 : Nat), .int (b : Nat)]) = some (.tup [.int (by_.getD r1 0 : Nat), .int (b : Nat)]) := ifO_pos (by decide)
    simp only [List.getD_eq_getElem?_getD] at a1 s2
    simp [p60, m60, m1, m2, hnum, md, e1, d60, a1, hb2, s2, dw, mw, hmul]
    exact ⟨rfl, rfl⟩
/-- the marks after two places are put together -/
def putM (ms : List Nat) (a b : Nat) : List Nat := ms.map fun y => if y = max (ms.getD a 0) (ms.getD b 0) then min (ms.getD a 0) (ms.getD b 0) else y
theorem ev_put (ms : List Nat) (a b : Nat) (hl : ms.length ≤ 100) (ha : a < ms.length) (hb : b < ms.length) : F__law_put [LN ms, nD a, nD b] = some (.ok (.own ((putM ms a b).map nD))) := by
  unfold F__law_put
  simp only [fnD_ap (ds := [LN ms, nD a, nD b]) (n := 3) rfl]
  unfold B__law_put
  have a1 := natAt ha
  have a2 := natAt hb
  have hs : ifO (ms.length ≤ sizeLine) () = some () := ifO_pos (size10 (by omega))
  have lo : (if ((ms.getD b 0 : Nat) : Int) < (ms.getD a 0 : Nat) then ((ms.getD b 0 : Nat) : Int) else ((ms.getD a 0 : Nat) : Int)) = ((min (ms.getD a 0) (ms.getD b 0) : Nat) : Int) := by
    split <;> omega
  have hi : (if ((ms.getD b 0 : Nat) : Int) > (ms.getD a 0 : Nat) then ((ms.getD b 0 : Nat) : Int) else ((ms.getD a 0 : Nat) : Int)) = ((max (ms.getD a 0) (ms.getD b 0) : Nat) : Int) := by
    split <;> omega
  have hc := comp_map (u := uName 5) (el := eIf (toB (eBin gEq (eVarP 5) (eVarP 4))) (eVar 3) (eVar 5)) (ρ := [.dat (LN ms), .dat (nD a), .dat (nD b), .dat (nD (min (ms.getD a 0) (ms.getD b 0))), .dat (nD (max (ms.getD a 0) (ms.getD b 0))), .no]) nD (fun y => nD (if y = max (ms.getD a 0) (ms.getD b 0) then min (ms.getD a 0) (ms.getD b 0) else y)) ms (fun x hx => ⟨_, rfl, by
    by_cases c : x = max (ms.getD a 0) (ms.getD b 0)
    · simp only [nD, c]
      simp
    · have c' : ¬ (x : Int) = ((max (ms.getD a 0) (ms.getD b 0) : Nat) : Int) := fun z => c (by omega)
      rw [if_neg c]
      simp only [nD]
      simp only [setD_cons, setD_nil, eIf_ap, toB_ap, eBin_ap, eVarP_ap, eVar_ap, List.set_cons_succ, List.set_cons_zero, List.getElem?_cons_zero, List.getElem?_cons_succ, bnd_ok, gEq_int, okO_some, c', decide_false]⟩)
  simp only [nD] at a1 a2 hc ⊢
  simp only [List.map_cons, List.map_nil, List.length_cons, List.length_nil, List.replicate, List.cons_append, List.nil_append, sSeq_ap, sAsg_ap, datE_ap, eFn_ap, aCons_ap, aNil_ap, eBin_ap, eVarP_ap, List.getElem?_cons_zero, List.getElem?_cons_succ, List.set_cons_succ, List.set_cons_zero, bnd_ok, gIx_lst, a1, a2, okO_some, gMin_ap, gMax_ap, errS_ok, lo, hi, sRet_ap, eComp, ofLst_ap, lstOf_lst, List.length_map, hs, Option.bind_some, wipeD_cons, wipeD_nil, hc, Option.map_some, putM, List.map_map, Function.comp_def, List.length_cons, Nat.reduceAdd, Nat.reduceSub, Nat.zero_add]
  rfl
end G

set_option Elab.async false
set_option linter.all false
set_option maxHeartbeats 1000000
namespace G
open PySem L2 DL
/-! ### partings, in plain Lean -/
def gd (l : List Nat) (x : Nat) : Nat := l.getD x 0
structure Clo (n : Nat) (mk : List (List Nat)) (ps : List (Nat × Nat)) (E : Nat → Nat → Prop) : Prop where
  refl : ∀ x, E x x
  symm : ∀ {x y}, E x y → E y x
  trans : ∀ {x y z}, E x y → E y z → E x z
  pairs : ∀ p ∈ ps, E p.1 p.2
  makers : ∀ m ∈ mk, ∀ x y, x < n → y < n → E x y → E (gd m x) (gd m y)
theorem atG {l : List Nat} {a : Nat} (h : a < l.length) : L2.atI (l.map DL.nD) (a : Int) = some (DL.nD (gd l a)) := natAt h
theorem gd_lt {l : List Nat} {n a : Nat} (h : ∀ x ∈ l, x < n) (ha : a < l.length) : gd l a < n := DL.getD_lt h ha
def ker (ms : List Nat) (x y : Nat) : Prop := gd ms x = gd ms y
structure Good (n : Nat) (mk : List (List Nat)) (ps : List (Nat × Nat)) (ms : List Nat) : Prop where
  clo : Clo n mk ps (ker ms)
  least : ∀ E, Clo n mk ps E → ∀ x y, x < n → y < n → ker ms x y → E x y
theorem Good.same {n : Nat} {mk : List (List Nat)} {ps : List (Nat × Nat)} {a b : List Nat} (ha : Good n mk ps a) (hb : Good n mk ps b) {x y : Nat} (hx : x < n) (hy : y < n) : gd a x = gd a y ↔ gd b x = gd b y :=
  ⟨fun h => ha.least _ hb.clo x y hx hy h, fun h => hb.least _ ha.clo x y hx hy h⟩
def fst1 (ms : List Nat) (x : Nat) : Bool := (List.range x).all fun y => decide (gd ms y ≠ gd ms x)
def canon (n : Nat) (ms : List Nat) : List (List Nat) := ((List.range n).filter (fst1 ms)).map fun x => (List.range n).filter fun y => decide (gd ms y = gd ms x)
theorem filter_ext {α : Type} {p q : α → Bool} : ∀ {l : List α}, (∀ x ∈ l, p x = q x) → l.filter p = l.filter q
  | [], _ => rfl
  | a :: r, h => by
    rw [List.filter_cons, List.filter_cons, h a List.mem_cons_self, filter_ext (l := r) fun x hx => h x (List.mem_cons_of_mem _ hx)]
theorem map_ext {α β : Type} {f g : α → β} : ∀ {l : List α}, (∀ x ∈ l, f x = g x) → l.map f = l.map g
  | [], _ => rfl
  | a :: r, h => by
    rw [List.map_cons, List.map_cons, h a List.mem_cons_self, map_ext (l := r) fun x hx => h x (List.mem_cons_of_mem _ hx)]
theorem canon_ext {n : Nat} {a b : List Nat} (h : ∀ x y, x < n → y < n → (gd a x = gd a y ↔ gd b x = gd b y)) : canon n a = canon n b := by
  have h1 : (List.range n).filter (fst1 a) = (List.range n).filter (fst1 b) := filter_ext fun x hx => by
    have hx := List.mem_range.mp hx
    unfold fst1
    rw [Bool.eq_iff_iff]
    simp only [List.all_eq_true, List.mem_range, decide_eq_true_eq]
    exact ⟨fun k y hy e => k y hy ((h y x (by omega) hx).mpr e), fun k y hy e => k y hy ((h y x (by omega) hx).mp e)⟩
  unfold canon
  rw [h1]
  refine map_ext fun x hx => ?_
  have hx := List.mem_range.mp (List.mem_filter.mp hx).1
  refine filter_ext fun y hy => ?_
  have hy := List.mem_range.mp hy
  exact decide_eq_decide.mpr (h y x hy hx)
/-! the groups of parts_by -/
theorem addG_map {α : Type} (f : α → Int) (L : α → List Int) (k p : Int) : ∀ l : List α, (l.map f).Nodup → addG k p (l.map fun x => (f x, L x)) = (l.map fun x => (f x, if f x = k then L x ++ [p] else L x)) ++ (if k ∈ l.map f then [] else [(k, [p])])
  | [], _ => by simp [addG]
  | a :: r, h => by
    simp only [List.map_cons, List.nodup_cons] at h
    have ih := addG_map f L k p r h.2
    rw [List.map_cons]
    unfold addG
    by_cases c : f a = k
    · subst c
      simp only [if_true, List.map_cons, List.mem_cons, true_or, if_true, List.append_nil]
      congr 1
      refine map_ext fun x hx => ?_
      have : ¬ f x = f a := fun z => h.1 (by rw [← z]; exact List.mem_map_of_mem hx)
      simp [this]
    · have c' : ¬ k = f a := fun z => c z.symm
      simp only [c, if_false, ih, List.map_cons, List.mem_cons, c', false_or, List.cons_append]
def gI (ms : List Nat) (x : Nat) : Int := gd ms x
theorem groups_eq (ms : List Nat) : ∀ i, i ≤ ms.length → groups (ms.map Int.ofNat) i = ((List.range i).filter (fst1 ms)).map fun x => (gI ms x, ((List.range i).filter fun y => decide (gd ms y = gd ms x)).map Int.ofNat)
  | 0, _ => rfl
  | i + 1, h => by
    have e : (ms.map Int.ofNat).getD i 0 = gI ms i := by
      unfold gI gd
      have : i < ms.length := h
      simp [List.getD_eq_getElem?_getD, this]
    have nd : (((List.range i).filter (fst1 ms)).map (gI ms)).Nodup := by
      refine List.pairwise_map.mpr ?_
      refine List.Pairwise.imp_of_mem ?_ ((List.pairwise_lt_range (n := i)).filter _)
      intro a b ha hb hab z
      have hb := (List.mem_filter.mp hb).2
      unfold fst1 at hb
      simp only [List.all_eq_true, List.mem_range, decide_eq_true_eq] at hb
      refine hb a hab ?_
      unfold gI at z
      omega
    rw [groups, groups_eq ms i (by omega), e, addG_map _ _ _ _ _ nd, List.range_succ, List.filter_append, List.map_append]
    have mem : (gI ms i ∈ ((List.range i).filter (fst1 ms)).map (gI ms)) ↔ fst1 ms i = false := by
      constructor
      · intro hm
        obtain ⟨x, hx, ex⟩ := List.mem_map.mp hm
        have hx := List.mem_range.mp (List.mem_filter.mp hx).1
        cases hf : fst1 ms i with
        | false => rfl
        | true =>
          unfold fst1 at hf
          simp only [List.all_eq_true, List.mem_range, decide_eq_true_eq] at hf
          exact absurd (by unfold gI at ex; omega) (hf x hx)
      · intro hf
        -- the least place of that mark
        have : ∃ x, x < i ∧ gd ms x = gd ms i ∧ fst1 ms x = true := by
          have ex : ∃ x, x < i ∧ gd ms x = gd ms i := by
            unfold fst1 at hf
            have := (List.all_eq_false).mp hf
            obtain ⟨x, hx, h2⟩ := this
            exact ⟨x, List.mem_range.mp hx, by simpa using h2⟩
          have main : ∀ x, x < i → gd ms x = gd ms i → ∃ x, x < i ∧ gd ms x = gd ms i ∧ fst1 ms x = true := by
            intro x
            induction x using Nat.strongRecOn with
            | _ x ih =>
              intro hx h2
              cases hf : fst1 ms x with
              | true => exact ⟨x, hx, h2, hf⟩
              | false =>
                unfold fst1 at hf
                obtain ⟨y, hy, h3⟩ := (List.all_eq_false).mp hf
                have hy := List.mem_range.mp hy
                exact ih y hy (by omega) (by rw [← h2]; simpa using h3)
          obtain ⟨x, hx, h2⟩ := ex
          exact main x hx h2
        obtain ⟨x, hx, h2, h3⟩ := this
        exact List.mem_map.mpr ⟨x, List.mem_filter.mpr ⟨List.mem_range.mpr hx, h3⟩, by unfold gI; omega⟩
    congr 1
    · refine map_ext fun x hx => ?_
      have hx := List.mem_range.mp (List.mem_filter.mp hx).1
      rw [List.filter_append, List.map_append]
      by_cases c : gI ms x = gI ms i
      · have c' : gd ms i = gd ms x := by unfold gI at c; omega
        rw [if_pos c, List.filter_cons, if_pos (by simp only [c', decide_true])]
        rfl
      · have c' : ¬ gd ms i = gd ms x := fun z => c (by unfold gI; omega)
        rw [if_neg c, List.filter_cons, if_neg (by simp only [c', decide_false]; exact Bool.false_ne_true)]
        simp
    · by_cases c : fst1 ms i = false
      · rw [if_pos (mem.mpr c)]
        simp [c]
      · have c2 : fst1 ms i = true := by simpa using c
        rw [if_neg (fun z => c (mem.mp z))]
        simp [c2, List.filter_append]
        -- nobody before
        unfold fst1 at c2
        simp only [List.all_eq_true, List.mem_range, decide_eq_true_eq] at c2
        intro y hy
        exact c2 y hy
/-! putting two places together -/
theorem gd_putM (ms : List Nat) (a b x : Nat) (hx : x < ms.length) : gd (putM ms a b) x = if gd ms x = max (gd ms a) (gd ms b) then min (gd ms a) (gd ms b) else gd ms x := by
  unfold putM gd
  simp [List.getD_eq_getElem?_getD, hx]
structure Idem (ms : List Nat) : Prop where
  le : ∀ x, x < ms.length → gd ms x ≤ x
  id : ∀ x, x < ms.length → gd ms (gd ms x) = gd ms x
theorem Idem.put {ms : List Nat} (h : Idem ms) {a b : Nat} (ha : a < ms.length) (hb : b < ms.length) : Idem (putM ms a b) := by
  have hl : (putM ms a b).length = ms.length := by simp [putM]
  have l1 := h.le a ha
  have l2 := h.le b hb
  have i1 := h.id a ha
  have i2 := h.id b hb
  have imin : gd ms (min (gd ms a) (gd ms b)) = min (gd ms a) (gd ms b) := by
    rcases Nat.le_total (gd ms a) (gd ms b) with c | c
    · rw [Nat.min_eq_left c]; exact i1
    · rw [Nat.min_eq_right c]; exact i2
  refine ⟨fun x hx => ?_, fun x hx => ?_⟩
  · rw [hl] at hx
    rw [gd_putM ms a b x hx]
    have := h.le x hx
    split <;> omega
  · rw [hl] at hx
    rw [gd_putM ms a b x hx]
    have lx := h.le x hx
    by_cases c : gd ms x = max (gd ms a) (gd ms b)
    · rw [if_pos c, gd_putM ms a b _ (by omega), imin]
      split <;> omega
    · rw [if_neg c, gd_putM ms a b _ (by omega), h.id x hx, if_neg c]
theorem putM_least {n : Nat} {E : Nat → Nat → Prop} {ms : List Nat} (hn : ms.length = n) (refl : ∀ x, E x x) (symm : ∀ {x y}, E x y → E y x) (trans : ∀ {x y z}, E x y → E y z → E x z) (h : ∀ x y, x < n → y < n → ker ms x y → E x y) {a b : Nat} (ha : a < n) (hb : b < n) (hab : E a b) :
    ∀ x y, x < n → y < n → ker (putM ms a b) x y → E x y := by
  have ab : ∀ x y, x < n → y < n → (gd ms x = gd ms a ∨ gd ms x = gd ms b) → (gd ms y = gd ms a ∨ gd ms y = gd ms b) → E x y := fun x y hx hy h1 h2 => by
    have e1 : E x a := by
      rcases h1 with h1 | h1
      · exact h x a hx ha h1
      · exact trans (h x b hx hb h1) (symm hab)
    have e2 : E y a := by
      rcases h2 with h2 | h2
      · exact h y a hy ha h2
      · exact trans (h y b hy hb h2) (symm hab)
    exact trans e1 (symm e2)
  intro x y hx hy k
  unfold ker at k
  rw [gd_putM ms a b x (by omega), gd_putM ms a b y (by omega)] at k
  by_cases c1 : gd ms x = max (gd ms a) (gd ms b) <;> by_cases c2 : gd ms y = max (gd ms a) (gd ms b)
  · exact h x y hx hy (by unfold ker; omega)
  · rw [if_pos c1, if_neg c2] at k
    exact ab x y hx hy (by omega) (by omega)
  · rw [if_neg c1, if_pos c2] at k
    exact ab x y hx hy (by omega) (by omega)
  · rw [if_neg c1, if_neg c2] at k
    exact h x y hx hy k
theorem putM_mono {n : Nat} {ms : List Nat} (hn : ms.length = n) (a b : Nat) {x y : Nat} (hx : x < n) (hy : y < n) (k : ker ms x y) : ker (putM ms a b) x y := by
  unfold ker at k ⊢
  rw [gd_putM ms a b x (by omega), gd_putM ms a b y (by omega), k]
theorem putM_joins {n : Nat} {ms : List Nat} (hn : ms.length = n) {a b : Nat} (hx : a < n) (hy : b < n) : ker (putM ms a b) a b := by
  unfold ker
  rw [gd_putM ms a b a (by omega), gd_putM ms a b b (by omega)]
  split <;> split <;> omega
theorem putM_sum (ms : List Nat) (a b : Nat) (ha : a < ms.length) (hb : b < ms.length) (hne : gd ms a ≠ gd ms b) : (putM ms a b).sum < ms.sum := by
  have key : ∀ (l : List Nat) (lo hi : Nat), lo < hi → (l.map fun y => if y = hi then lo else y).sum ≤ l.sum ∧ (hi ∈ l → (l.map fun y => if y = hi then lo else y).sum < l.sum) := by
    intro l lo hi h
    induction l with
    | nil => simp
    | cons c r ih =>
      rw [List.map_cons, List.sum_cons, List.sum_cons]
      refine ⟨?_, fun hm => ?_⟩
      · have := ih.1
        split <;> omega
      · rcases List.mem_cons.mp hm with rfl | hm
        · have := ih.1
          rw [if_pos rfl]; omega
        · have := ih.2 hm
          split <;> omega
  have hlt : min (gd ms a) (gd ms b) < max (gd ms a) (gd ms b) := by rcases Nat.lt_or_gt_of_ne hne with c | c <;> omega
  refine (key ms _ _ hlt).2 ?_
  rcases Nat.le_total (gd ms a) (gd ms b) with c | c
  · rw [Nat.max_eq_right c]
    unfold gd
    rw [List.getD_eq_getElem?_getD]
    simp [hb]
  · rw [Nat.max_eq_left c]
    unfold gd
    rw [List.getD_eq_getElem?_getD]
    simp [ha]
theorem canon_idem {n : Nat} {ms : List Nat} (hn : ms.length = n) (h : Idem ms) : canon n ms = ((List.range n).filter fun x => decide (gd ms x = x)).map fun x => (List.range n).filter fun y => decide (gd ms y = x) := by
  have h1 : (List.range n).filter (fst1 ms) = (List.range n).filter fun x => decide (gd ms x = x) := filter_ext fun x hx => by
    have hx := List.mem_range.mp hx
    have lx := h.le x (by omega)
    have ix := h.id x (by omega)
    unfold fst1
    rw [Bool.eq_iff_iff]
    simp only [List.all_eq_true, List.mem_range, decide_eq_true_eq]
    constructor
    · intro k
      refine Nat.le_antisymm lx (Nat.le_of_not_lt fun c => k _ c ix)
    · intro e y hy z
      have := h.le y (by omega)
      omega
  unfold canon
  rw [h1]
  refine map_ext fun x hx => ?_
  have ex := (List.mem_filter.mp hx).2
  simp only [decide_eq_true_eq] at ex
  refine filter_ext fun y hy => ?_
  rw [ex]
end G

set_option Elab.async false
set_option linter.all false
set_option maxRecDepth 100000
set_option maxHeartbeats 1000000
namespace G
open PySem L2 DL
theorem rng_at {n i : Nat} {d : D} (hd : ((List.range n).map nD)[i]? = some d) : i < n ∧ d = nD i := by
  have hi : i < n := by
    have := (List.getElem?_eq_some_iff.mp hd).1
    simpa using this
  refine ⟨hi, ?_⟩
  simp [List.getElem?_map, hi] at hd
  exact hd.symm
theorem map_at {α : Type} {f : α → D} {l : List α} {i : Nat} {d : D} (hd : (l.map f)[i]? = some d) : ∃ x, l[i]? = some x ∧ d = f x := by
  rw [List.getElem?_map] at hd
  cases e : l[i]? with
  | none => rw [e] at hd; cases hd
  | some x => rw [e] at hd; cases hd; exact ⟨x, rfl, rfl⟩
theorem mem_take_succ {α : Type} {l : List α} {i : Nat} {x y : α} (h : l[i]? = some x) (hy : y ∈ l.take (i + 1)) : y ∈ l.take i ∨ y = x := by
  rw [List.take_add_one, h] at hy
  rcases List.mem_append.mp hy with hy | hy
  · exact .inl hy
  · exact .inr (by simpa using hy)
/-- what holds of the marks all the time -/
structure PA (n : Nat) (mk : List (List Nat)) (ps dn : List (Nat × Nat)) (ms : List Nat) : Prop where
  len : ms.length = n
  idem : Idem ms
  least : ∀ E, Clo n mk ps E → ∀ x y, x < n → y < n → ker ms x y → E x y
  joined : ∀ p ∈ dn, p.1 < n ∧ p.2 < n ∧ ker ms p.1 p.2
theorem PA.start (n : Nat) (mk : List (List Nat)) (ps : List (Nat × Nat)) : PA n mk ps [] (List.range n) := by
  have g : ∀ x, x < n → gd (List.range n) x = x := fun x hx => by
    unfold gd
    simp [List.getD_eq_getElem?_getD, hx]
  refine ⟨by simp, ⟨fun x hx => ?_, fun x hx => ?_⟩, fun E cE x y hx hy k => ?_, fun p hp => (by cases hp)⟩
  · rw [g x (by simpa using hx)]; exact Nat.le_refl _
  · have hx : x < n := by simpa using hx
    rw [g x hx, g x hx]
  · unfold ker at k
    rw [g x hx, g y hy] at k
    subst k
    exact cE.refl x
theorem PA.put {n : Nat} {mk : List (List Nat)} {ps dn : List (Nat × Nat)} {ms : List Nat} (h : PA n mk ps dn ms) {a b : Nat} (ha : a < n) (hb : b < n) (hab : ∀ E, Clo n mk ps E → E a b) : PA n mk ps dn (putM ms a b) :=
  ⟨by simp [putM, h.len], h.idem.put (by rw [h.len]; exact ha) (by rw [h.len]; exact hb), fun E cE => putM_least h.len cE.refl cE.symm cE.trans (h.least E cE) ha hb (hab E cE), fun p hp => ⟨(h.joined p hp).1, (h.joined p hp).2.1, putM_mono h.len a b (h.joined p hp).1 (h.joined p hp).2.1 (h.joined p hp).2.2⟩⟩
def sumD (ds : List D) : Nat := (ds.map fun d => match d with | .int i => i.toNat | _ => 0).sum
theorem sumD_eq (ms : List Nat) : sumD (ms.map nD) = ms.sum := by
  unfold sumD
  rw [List.map_map]
  congr 1
  rw [show ((fun d : D => match d with | .int i => i.toNat | _ => 0) ∘ nD) = fun x => x from funext fun x => Int.toNat_natCast x]
  simp
def muP : DL.Env → Nat := fun ρ => match ρ[3]?, ρ[4]? with
  | some (S.own ds), some (S.dat (D.bl true)) => sumD ds + 1
  | _, _ => 0
def okMk (n : Nat) (mk : List (List Nat)) : Prop := mk.length ≤ 100 ∧ ∀ m ∈ mk, RowOf n m
def okPs (n : Nat) (ps : List (Nat × Nat)) : Prop := ps.length ≤ 100 ∧ ∀ p ∈ ps, p.1 < n ∧ p.2 < n
abbrev pD (p : Nat × Nat) : D := TN [p.1, p.2]
abbrev MK (mk : List (List Nat)) : D := .lst (mk.map fun m => TN m)
abbrev PSD (ps : List (Nat × Nat)) : D := .lst (ps.map pD)
def chk (ms m : List Nat) (x : Nat) : Prop := gd ms (gd m x) = gd ms (gd m (gd ms x))
section
variable {n : Nat} {mk : List (List Nat)} {ps dn : List (Nat × Nat)}
theorem ms_lt {ms : List Nat} (h : PA n mk ps dn ms) {x : Nat} (hx : x < n) : gd ms x < n := Nat.lt_of_le_of_lt (h.idem.le x (by rw [h.len]; exact hx)) hx
/-- the inner walk -/
def bIn : SF := sIf (toB (eBin gNe (eBin gIx (eVarP 3) (eBin gIx (eVarP 9) (eVarP 6))) (eBin gIx (eVarP 3) (eBin gIx (eVarP 9) (eBin gIx (eVarP 3) (eVarP 6))))))
 (sSeq (frzI 3 (sAsg 3 (eCall F__law_put (aCons (eVar 3) (aCons (eBin gIx (eVarP 9) (eVarP 6)) (aCons (eBin gIx (eVarP 9) (eBin gIx (eVarP 3) (eVarP 6))) aNil))))))
 (sAsg 4 (datE (eC (.bl true)))))
 sNext
theorem parts_in (hn : n ≤ 100) {m : List Nat} (hmk : okMk n mk) (hm : m ∈ mk) (ms1 : List Nat) (more1 : Bool) (h1 : PA n mk ps dn ms1) (A B C D6 D7 D8 : S) :
    ∃ ρ', forF (uName 6) bIn ((List.range n).map nD) [A, B, C, .own (ms1.map nD), .dat (.bl more1), .no, D6, D7, D8, .dat (TN m), .no] = some (.nx ρ') ∧
      ∃ (ms : List Nat) (more : Bool) (z6 : S), ρ' = [A, B, C, .own (ms.map nD), .dat (.bl more), .no, z6, D7, D8, .dat (TN m), .no] ∧ PA n mk ps dn ms ∧ (more = false → ms = ms1 ∧ more1 = false ∧ ∀ x, x < n → chk ms1 m x) ∧ (more = true → ms.sum ≤ ms1.sum ∧ (more1 = false → ms.sum < ms1.sum)) := by
  have rm := hmk.2 m hm
  have key := for_run (u := uName 6) (b := bIn) (fun j ρ => ∃ (ms : List Nat) (more : Bool) (z6 : S), ρ = [A, B, C, .own (ms.map nD), .dat (.bl more), .no, z6, D7, D8, .dat (TN m), .no] ∧ PA n mk ps dn ms ∧ (more = false → ms = ms1 ∧ more1 = false ∧ ∀ x, x < j → chk ms1 m x) ∧ (more = true → ms.sum ≤ ms1.sum ∧ (more1 = false → ms.sum < ms1.sum)))
    (ds := (List.range n).map nD) (ρ := [A, B, C, .own (ms1.map nD), .dat (.bl more1), .no, D6, D7, D8, .dat (TN m), .no]) ⟨ms1, more1, D6, rfl, h1, fun e => ⟨rfl, e, fun x hx => by omega⟩, fun e => ⟨Nat.le_refl _, fun e2 => by rw [e] at e2; cases e2⟩⟩ (by
      rintro j d ρ hd ⟨ms, more, z6, rfl, h2, h3, h4⟩
      obtain ⟨hj, rfl⟩ := rng_at hd
      have b1 : gd m j < n := gd_lt rm.2 (by rw [rm.1]; exact hj)
      have b2 : gd ms j < n := ms_lt h2 hj
      have b3 : gd m (gd ms j) < n := gd_lt rm.2 (by rw [rm.1]; exact b2)
      have a1 := atG (l := m) (a := j) (by rw [rm.1]; exact hj)
      have a2 := atG (l := ms) (a := j) (by rw [h2.len]; exact hj)
      have a3 := atG (l := m) (a := gd ms j) (by rw [rm.1]; exact b2)
      have a4 := atG (l := ms) (a := gd m j) (by rw [h2.len]; exact b1)
      have a5 := atG (l := ms) (a := gd m (gd ms j)) (by rw [h2.len]; exact b3)
      have ep := ev_put ms (gd m j) (gd m (gd ms j)) (by rw [h2.len]; exact hn) (by rw [h2.len]; exact b1) (by rw [h2.len]; exact b3)
      simp only [nD] at a1 a2 a3 a4 a5 ep
      refine ⟨_, rfl, ?_⟩
      by_cases c : gd ms (gd m j) = gd ms (gd m (gd ms j))
      · refine ⟨_, .inl ?_, ms, more, .dat (nD j), rfl, h2, fun e => ?_, h4⟩
        · simp [bIn, nD, a1, a2, a3, a4, a5, c]
        · obtain ⟨e1, e2, e3⟩ := h3 e
          refine ⟨e1, e2, fun x hx => ?_⟩
          by_cases z : x = j
          · subst z
            subst e1
            exact c
          · exact e3 x (by omega)
      · have hab : ∀ E, Clo n mk ps E → E (gd m j) (gd m (gd ms j)) := fun E cE => cE.makers m hm j (gd ms j) hj b2 (h2.least E cE j (gd ms j) hj b2 (h2.idem.id j (by rw [h2.len]; exact hj)).symm)
        have hs := putM_sum ms (gd m j) (gd m (gd ms j)) (by rw [h2.len]; exact b1) (by rw [h2.len]; exact b3) c
        have c' : ¬ ((gd ms (gd m j) : Nat) : Int) = ((gd ms (gd m (gd ms j)) : Nat) : Int) := fun z => c (by omega)
        refine ⟨_, .inl ?_, putM ms (gd m j) (gd m (gd ms j)), true, .dat (nD j), rfl, h2.put b1 b3 hab, fun e => (by cases e), fun _ => ?_⟩
        · simp [bIn, nD, a1, a2, a3, a4, a5, c, c', ep]
        · cases more with
          | false =>
            obtain ⟨e1, e2, e3⟩ := h3 rfl
            subst e1
            exact ⟨by omega, fun _ => hs⟩
          | true =>
            obtain ⟨e1, e2⟩ := h4 rfl
            exact ⟨by omega, fun e => by have := e2 e; omega⟩)
  rwa [show ((List.range n).map nD).length = n by simp] at key
def bMk : SF := sFor (iFn rng1 (aCons (eVar 0) aNil)) (uName 6) bIn
def bOut : SF := sSeq (sAsg 4 (datE (eC (.bl false)))) (sFor (ofLst (eVar 1)) (uName 9) bMk)
theorem parts_round (hn : n ≤ 100) (hmk : okMk n mk) (ms0 : List Nat) (more0 : Bool) (h1 : PA n mk ps dn ms0) (C z6 z7 z8 z9 : S) :
    ∃ ρ', bOut [.dat (nD n), .dat (MK mk), C, .own (ms0.map nD), .dat (.bl more0), .no, z6, z7, z8, z9, .no] = some (.nx ρ') ∧
      ∃ (ms : List Nat) (more : Bool) (z6 z9 : S), ρ' = [.dat (nD n), .dat (MK mk), C, .own (ms.map nD), .dat (.bl more), .no, z6, z7, z8, z9, .no] ∧ PA n mk ps dn ms ∧ (more = false → ms = ms0 ∧ ∀ m ∈ mk, ∀ x, x < n → chk ms0 m x) ∧ (more = true → ms.sum < ms0.sum) := by
  have key := for_run (u := uName 9) (b := bMk) (fun i ρ => ∃ (ms : List Nat) (more : Bool) (z6 z9 : S), ρ = [.dat (nD n), .dat (MK mk), C, .own (ms.map nD), .dat (.bl more), .no, z6, z7, z8, z9, .no] ∧ PA n mk ps dn ms ∧ (more = false → ms = ms0 ∧ ∀ m ∈ mk.take i, ∀ x, x < n → chk ms0 m x) ∧ (more = true → ms.sum < ms0.sum))
    (ds := mk.map fun m => TN m) (ρ := [.dat (nD n), .dat (MK mk), C, .own (ms0.map nD), .dat (.bl false), .no, z6, z7, z8, z9, .no]) ⟨ms0, false, z6, z9, rfl, h1, fun _ => ⟨rfl, fun m hm => by rw [List.take_zero] at hm; cases hm⟩, fun e => by cases e⟩ (by
      rintro i d ρ hd ⟨ms, more, z6, z9, rfl, h2, h3, h4⟩
      obtain ⟨m, em, rfl⟩ := map_at hd
      refine ⟨_, rfl, ?_⟩
      have hm : m ∈ mk := List.mem_of_getElem? em
      obtain ⟨ρ', k1, ms', more', z6', rfl, k2, k3, k4⟩ := parts_in (ps := ps) (dn := dn) hn hmk hm ms more h2 (.dat (nD n)) (.dat (MK mk)) C z6 z7 z8
      have r2 : rng1 [.int (n : Int)] = some ((List.range n).map nD) := by rw [rng1_ap (by omega), rngD_nat]
      refine ⟨_, .inl ?_, ms', more', z6', .dat (TN m), rfl, k2, fun e => ?_, fun e => ?_⟩
      · unfold bMk
        simp only [nD] at k1 ⊢
        simp [r2]
        exact k1
      · obtain ⟨e1, e2, e3⟩ := k3 e
        obtain ⟨e4, e5⟩ := h3 e2
        subst e4
        refine ⟨e1, fun m' hm' => ?_⟩
        rcases mem_take_succ em hm' with hm' | rfl
        · exact e5 m' hm'
        · exact e3
      · obtain ⟨e1, e2⟩ := k4 e
        cases more with
        | false =>
          obtain ⟨e4, e5⟩ := h3 rfl
          subst e4
          exact e2 rfl
        | true => have := h4 rfl; omega)
  obtain ⟨ρ', k1, ms, more, z6', z9', rfl, k2, k3, k4⟩ := key
  rw [show (mk.map fun m => TN m).length = mk.length by simp, List.take_length] at k3
  refine ⟨_, ?_, ms, more, z6', z9', rfl, k2, k3, k4⟩
  unfold bOut
  simp
  exact k1
/-- the pairs -/
def bPut : SF := frzI 3 (sAsg 3 (eCall F__law_put (aCons (eVar 3) (aCons (eVar 7) (aCons (eVar 8) aNil)))))
def uPr : D → Option (List (Nat × D)) := uTup (uCons (uName 7) (uCons (uName 8) uNil))
theorem parts_pairs (hn : n ≤ 100) (hps : okPs n ps) (A B C Z4 Z5 Z6 Z7 Z8 Z9 Z10 : S) :
    ∃ ρ', forF uPr bPut (ps.map pD) [A, B, C, .own ((List.range n).map nD), Z4, Z5, Z6, Z7, Z8, Z9, Z10] = some (.nx ρ') ∧
      ∃ (ms : List Nat) (z7 z8 : S), ρ' = [A, B, C, .own (ms.map nD), Z4, Z5, Z6, z7, z8, Z9, Z10] ∧ PA n mk ps ps ms := by
  have key := for_run (u := uPr) (b := bPut) (fun k ρ => ∃ (ms : List Nat) (z7 z8 : S), ρ = [A, B, C, .own (ms.map nD), Z4, Z5, Z6, z7, z8, Z9, Z10] ∧ PA n mk ps (ps.take k) ms)
    (ds := ps.map pD) (ρ := [A, B, C, .own ((List.range n).map nD), Z4, Z5, Z6, Z7, Z8, Z9, Z10]) ⟨_, _, _, rfl, PA.start n mk ps⟩ (by
      rintro k d ρ hd ⟨ms, z7, z8, rfl, h1⟩
      obtain ⟨p, ep, rfl⟩ := map_at hd
      have hp : p ∈ ps := List.mem_of_getElem? ep
      obtain ⟨p1, p2⟩ := hps.2 p hp
      have hput := ev_put ms p.1 p.2 (by rw [h1.len]; exact hn) (by rw [h1.len]; exact p1) (by rw [h1.len]; exact p2)
      have h2 := h1.put p1 p2 (fun E cE => cE.pairs p hp)
      refine ⟨_, rfl, _, .inl ?_, putM ms p.1 p.2, .dat (nD p.1), .dat (nD p.2), rfl, h2.len, h2.idem, h2.least, fun q hq => ?_⟩
      · simp [bPut, hput]
      · rcases mem_take_succ ep hq with hq | rfl
        · exact h2.joined q hq
        · exact ⟨p1, p2, putM_joins h1.len p1 p2⟩)
  obtain ⟨ρ', k1, ms, z7, z8, rfl, h⟩ := key
  rw [show (ps.map pD).length = ps.length by simp, List.take_length] at h
  exact ⟨_, k1, ms, z7, z8, rfl, h⟩
/-- the rounds -/
theorem parts_while (hn : n ≤ 100) (hmk : okMk n mk) (ms0 : List Nat) (h1 : PA n mk ps dn ms0) (C z6 z7 z8 z9 : S) :
    ∃ ρ', sWhile (toB (eVar 4)) bOut [.dat (nD n), .dat (MK mk), C, .own (ms0.map nD), .dat (.bl true), .no, z6, z7, z8, z9, .no] = some (.nx ρ') ∧
      ∃ (ms : List Nat) (z6 z9 : S), ρ' = [.dat (nD n), .dat (MK mk), C, .own (ms.map nD), .dat (.bl false), .no, z6, z7, z8, z9, .no] ∧ PA n mk ps dn ms ∧ ∀ m ∈ mk, ∀ x, x < n → chk ms m x := by
  have hsum : ms0.sum ≤ ms0.length * 100 := by
    have : ∀ (l : List Nat), (∀ x ∈ l, x ≤ 100) → l.sum ≤ l.length * 100 := by
      intro l
      induction l with
      | nil => simp
      | cons a r ih =>
        intro h
        have := h a List.mem_cons_self
        have := ih fun x hx => h x (List.mem_cons_of_mem _ hx)
        rw [List.sum_cons, List.length_cons]
        omega
    refine this ms0 fun x hx => ?_
    obtain ⟨i, hi, rfl⟩ := List.getElem_of_mem hx
    have := h1.idem.le i hi
    unfold gd at this
    simp [List.getD_eq_getElem?_getD, hi] at this
    have := h1.len
    omega
  obtain ⟨ρ', k1, ⟨ms, more, z6, z9, rfl, h2, h3⟩, k3⟩ := while_run (c := toB (eVar 4)) (b := bOut)
    (fun ρ => ∃ (ms : List Nat) (more : Bool) (z6 z9 : S), ρ = [.dat (nD n), .dat (MK mk), C, .own (ms.map nD), .dat (.bl more), .no, z6, z7, z8, z9, .no] ∧ PA n mk ps dn ms ∧ (more = false → ∀ m ∈ mk, ∀ x, x < n → chk ms m x)) muP (by
      rintro ρ ⟨ms, more, z6, z9, rfl, h2, h3⟩
      cases more with
      | false => exact .inl rfl
      | true =>
        refine .inr ⟨rfl, ?_⟩
        obtain ⟨ρ', k1, ms', more', z6', z9', rfl, k2, k3, k4⟩ := parts_round hn hmk ms true h2 C z6 z7 z8 z9
        refine ⟨_, .inl k1, ⟨ms', more', z6', z9', rfl, k2, fun e => ?_⟩, ?_⟩
        · obtain ⟨e1, e2⟩ := k3 e
          rw [e1]; exact e2
        · cases more' with
          | false => show 0 < sumD (ms.map nD) + 1; omega
          | true =>
            show sumD (ms'.map nD) + 1 < sumD (ms.map nD) + 1
            rw [sumD_eq, sumD_eq]
            have := k4 rfl
            omega) fuel [.dat (nD n), .dat (MK mk), C, .own (ms0.map nD), .dat (.bl true), .no, z6, z7, z8, z9, .no] ⟨ms0, true, z6, z9, rfl, h1, fun e => by cases e⟩ (by
      show sumD (ms0.map nD) + 1 < fuel
      rw [sumD_eq]
      have := h1.len
      have : ms0.sum + 1 < 100000 := by omega
      exact Nat.lt_trans this (by decide +kernel))
  cases more with
  | true => cases k3
  | false => exact ⟨_, k1, ms, z6, z9, rfl, h2, h3 rfl⟩
/-- the last walk -/
def bFin : SF := sIf (toB (eBin gEq (eBin gIx (eVarP 3) (eVarP 6)) (eVarP 6)))
 (sDropM (mMeth1 5 mApp (mE (frzF (eComp [10] (iFn rng1 (aCons (eVar 0) aNil)) (uName 10) (toB (eBin gEq (eBin gIx (eVarP 3) (eVarP 10)) (eVarP 6))) (eVar 10))))))
 sNext
theorem parts_fin (hn : n ≤ 100) (ms : List Nat) (h : PA n mk ps dn ms) (B C Z4 z6 z7 z8 z9 : S) :
    ∃ ρ', forF (uName 6) bFin ((List.range n).map nD) [.dat (nD n), B, C, .own (ms.map nD), Z4, .own [], z6, z7, z8, z9, .no] = some (.nx ρ') ∧
      ∃ z6, ρ' = [.dat (nD n), B, C, .own (ms.map nD), Z4, .own ((canon n ms).map fun g => LN g), z6, z7, z8, z9, .no] := by
  have r2 : rng1 [.int (n : Int)] = some ((List.range n).map nD) := by rw [rng1_ap (by omega), rngD_nat]
  have key := for_run (u := uName 6) (b := bFin) (fun k ρ => ∃ (z6 : S), ρ = [.dat (nD n), B, C, .own (ms.map nD), Z4, .own ((((List.range k).filter fun x => decide (gd ms x = x)).map fun x => (List.range n).filter fun y => decide (gd ms y = x)).map fun g => LN g), z6, z7, z8, z9, .no])
    (ds := (List.range n).map nD) (ρ := [.dat (nD n), B, C, .own (ms.map nD), Z4, .own [], z6, z7, z8, z9, .no]) ⟨_, rfl⟩ (by
      rintro k d ρ hd ⟨z6, rfl⟩
      obtain ⟨hk, rfl⟩ := rng_at hd
      have a1 := atG (l := ms) (a := k) (by rw [h.len]; exact hk)
      refine ⟨_, rfl, ?_⟩
      have hc := comp_filter (u := uName 10) (tt := toB (eBin gEq (eBin gIx (eVarP 3) (eVarP 10)) (eVarP 6))) (el := eVar 10) (ρ := [.dat (nD n), B, C, .own (ms.map nD), Z4, .own ((((List.range k).filter fun x => decide (gd ms x = x)).map fun x => (List.range n).filter fun y => decide (gd ms y = x)).map fun g => LN g), .dat (nD k), z7, z8, z9, .no]) nD (fun y => decide (gd ms y = k)) nD (List.range n) (fun y hy => by
        have hy := List.mem_range.mp hy
        have a2 := atG (l := ms) (a := y) (by rw [h.len]; exact hy)
        refine ⟨_, rfl, ?_, fun _ => rfl⟩
        simp only [nD] at a2
        have : decide (((gd ms y : Nat) : Int) = (k : Int)) = decide (gd ms y = k) := decide_eq_decide.mpr (by omega)
        simp [nD, a2]
        omega)
      have hlen : ((((List.range k).filter fun x => decide (gd ms x = x)).map fun x => (List.range n).filter fun y => decide (gd ms y = x)).map fun g => LN g).length ≤ k := by
        rw [List.length_map, List.length_map]
        refine Nat.le_trans (List.length_filter_le _ _) (by simp)
      have happ : ∀ d : D, mApp ((((List.range k).filter fun x => decide (gd ms x = x)).map fun x => (List.range n).filter fun y => decide (gd ms y = x)).map fun g => LN g) [d] = some _ := fun d => mApp_ap (size9 (by omega))
      have hs : ifO (((List.range n).map nD).length ≤ sizeLine) () = some () := ifO_pos (size10 (by simp; omega))
      rw [show List.range (k + 1) = List.range k ++ [k] from List.range_succ, List.filter_append]
      simp only [nD] at a1 hc
      by_cases c : gd ms k = k
      · refine ⟨_, .inl ?_, .dat (nD k), rfl⟩
        rw [show [k].filter (fun x => decide (gd ms x = x)) = [k] by rw [List.filter_cons, if_pos (by simp only [c, decide_true])]; rfl, List.map_append, List.map_append]
        have c' : ((gd ms k : Nat) : Int) = (k : Int) := by omega
        simp only [bFin, nD, uName_ap, setD_cons, setD_nil, sIf_ap, toB_ap, eBin_ap, eVarP_ap, List.set_cons_succ, List.set_cons_zero, List.getElem?_cons_zero, List.getElem?_cons_succ, bnd_ok, gIx_lst, a1, okO_some, gEq_int, c', decide_true, errS_ok, sDropM_ap, mMeth1_ap, mE_ap, frzF_ap, eComp, iFn_ap, aCons_ap, aNil_ap, eVar_ap, r2, hs, Option.bind_some, wipeD_cons, wipeD_nil, hc, Option.map_some, frzS_own, mAt_ap, happ, List.map_cons, List.map_nil]
      · refine ⟨_, .inl ?_, .dat (nD k), rfl⟩
        rw [show [k].filter (fun x => decide (gd ms x = x)) = [] by rw [List.filter_cons, if_neg (by simp only [c, decide_false]; exact Bool.false_ne_true)]; rfl, List.append_nil]
        have c' : ¬ ((gd ms k : Nat) : Int) = (k : Int) := by omega
        simp only [bFin, nD, uName_ap, setD_cons, setD_nil, sIf_ap, toB_ap, eBin_ap, eVarP_ap, List.set_cons_succ, List.set_cons_zero, List.getElem?_cons_zero, List.getElem?_cons_succ, bnd_ok, gIx_lst, a1, okO_some, gEq_int, c', decide_false, errS_ok, sNext_ap])
  obtain ⟨ρ', k1, z6', rfl⟩ := key
  rw [show ((List.range n).map nD).length = n by simp, ← canon_idem h.len h.idem] at *
  exact ⟨_, k1, z6', rfl⟩
theorem PA.good {ms : List Nat} (h : PA n mk ps ps ms) (hmk : okMk n mk) (hc : ∀ m ∈ mk, ∀ x, x < n → chk ms m x) : Good n mk ps ms := by
  refine ⟨⟨fun x => rfl, fun h => h.symm, fun h1 h2 => h1.trans h2, fun p hp => (h.joined p hp).2.2, fun m hm x y hx hy k => ?_⟩, h.least⟩
  have c1 := hc m hm x hx
  have c2 := hc m hm y hy
  unfold chk at c1 c2
  unfold ker at k ⊢
  rw [c1, c2, k]
theorem ev_parts (hn : n ≤ 100) (hmk : okMk n mk) (hps : okPs n ps) : ∃ ms, ms.length = n ∧ Good n mk ps ms ∧ F__law_parts [nD n, MK mk, PSD ps] = some (.ok (.own ((canon n ms).map fun g => LN g))) := by
  unfold F__law_parts
  simp only [fnD_ap (ds := [nD n, MK mk, PSD ps]) (n := 3) rfl]
  have rg : gRg 0 (n : Int) = some ((List.range n).map nD) := by rw [gRg_ap (by omega), rngD_nat]
  have r2 : rng1 [.int (n : Int)] = some ((List.range n).map nD) := by rw [rng1_ap (by omega), rngD_nat]
  obtain ⟨_, p1, ms1, z7, z8, rfl, p2⟩ := parts_pairs (mk := mk) hn hps (.dat (nD n)) (.dat (MK mk)) (.dat (PSD ps)) .no .no .no .no .no .no .no
  obtain ⟨_, w1, ms, z6, z9, rfl, w2, w3⟩ := parts_while hn hmk ms1 p2 (.dat (PSD ps)) .no z7 z8 .no
  obtain ⟨_, f1, z6', rfl⟩ := parts_fin hn ms w2 (.dat (MK mk)) (.dat (PSD ps)) (.dat (.bl false)) z6 z7 z8 z9
  refine ⟨ms, w2.len, w2.good hmk w3, ?_⟩
  have e : B__law_parts = sSeq (sAsg 3 (eLRg1 (eVar 0))) (sSeq (sFor (ofLst (eVar 2)) uPr bPut) (sSeq (sAsg 4 (datE (eC (.bl true)))) (sSeq (sWhile (toB (eVar 4)) bOut) (sSeq (sAsg 5 (eLst aNil)) (sSeq (sFor (iFn rng1 (aCons (eVar 0) aNil)) (uName 6) bFin) (eOwn 5)))))) := rfl
  rw [e]
  have s0 : ifO (0 ≤ sizeLine) (S.own []) = some (.own []) := ifO_pos (Nat.zero_le _)
  simp only [nD] at p1 w1 f1 ⊢
  simp [rg, nD, p1, -sWhile_ap, w1, s0, r2, f1]
end
end G

set_option Elab.async false
set_option linter.all false
set_option maxRecDepth 100000
set_option maxHeartbeats 1000000
namespace G
open PySem L2 DL
abbrev GL (g : List (List Nat)) : D := .lst (g.map fun l => LN l)
theorem plain_GL (g : List (List Nat)) : Plain 2 (GL g) := plain_lst (k := 1) fun d hd => by
  obtain ⟨x, _, rfl⟩ := List.mem_map.mp hd
  exact plain_LN _
theorem isi_lst (l : List D) : isiF (tabOf "list") (.lst l) = some true := by
  show tabOf "list" "list" = some true
  decide +kernel
theorem isi_int (i : Int) : isiF tabInt (.int i) = some true := by
  show tabInt "int" = some true
  decide +kernel
theorem isi_ib (i : Int) : isiF (tabOf "bool") (.int i) = some false := by
  show tabOf "bool" "int" = some false
  decide +kernel
theorem all_true (l : List Nat) : (l.map fun _ => true).all id = true := by
  rw [List.all_eq_true]
  intro x hx
  obtain ⟨_, _, rfl⟩ := List.mem_map.mp hx
  rfl
theorem ev_alike (g : List (List Nat)) (hg : ∀ l ∈ g, l.length ≤ 100) : F__law_alike [GL g, GL g] = some (.ok (.dat (.bl true))) := by
  unfold F__law_alike
  simp only [fnD_ap (ds := [GL g, GL g]) (n := 2) rfl]
  unfold B__law_alike
  have he : gNe (GL g) (GL g) = some (.bl false) := by
    unfold gNe
    rw [gEqB_refl (plain_GL g) (by omega)]
    rfl
  obtain ⟨_, k1, z2, rfl⟩ := for_run (u := uName 2) (b := sIf (bOr (bNot (toB (eIsi (tabOf "list") (eVarP 2)))) (bNot (toB (eFn gAll (aCons (frzF (eComp [3] (ofLst (eVarP 2)) (uName 3) tYesF (eAnd (eIsi tabInt (eVarP 3)) (eNot (eIsi (tabOf "bool") (eVarP 3)))))) aNil)))))
 (sRet (datE (eC (.bl false)))) sNext) (fun _ ρ => ∃ z2 : S, ρ = [.dat (GL g), .dat (GL g), z2, .no]) (ds := g.map fun l => LN l) (ρ := [.dat (GL g), .dat (GL g), .no, .no]) ⟨_, rfl⟩ (by
    rintro i d ρ hd ⟨z2, rfl⟩
    obtain ⟨l, el, rfl⟩ := map_at hd
    have hl := hg l (List.mem_of_getElem? el)
    refine ⟨_, rfl, _, .inl ?_, .dat (LN l), rfl⟩
    have hc := comp_map (u := uName 3) (el := eAnd (eIsi tabInt (eVarP 3)) (eNot (eIsi (tabOf "bool") (eVarP 3)))) (ρ := [.dat (GL g), .dat (GL g), .dat (LN l), .no]) nD (fun _ => D.bl true) l (fun x hx => ⟨_, rfl, by simp [nD, isi_int, isi_ib]⟩)
    have hs : ifO (l.length ≤ sizeLine) () = some () := ifO_pos (size10 (by omega))
    have ha : gAll [.lst (l.map fun _ => D.bl true)] = some (.bl true) := by
      have := gAll_ap (bs := l.map fun _ => true)
      rw [all_true, List.map_map] at this
      exact this
    simp only [uName_ap, setD_cons, setD_nil, sIf_ap, bOr_ap, bNot_ap, toB_ap, eIsi_ap, eVarP_ap, List.set_cons_succ, List.set_cons_zero, List.getElem?_cons_zero, List.getElem?_cons_succ, bnd_ok, isi_lst, Option.map_some, okO_some, Bool.not_true, eFn_ap, aCons_ap, aNil_ap, frzF_ap, eComp, ofLst_ap, lstOf_lst, List.length_map, hs, Option.bind_some, wipeD_cons, wipeD_nil, hc, frzS_own, ha, errS_ok, sNext_ap])
  have isf : isiF (tabOf "list") (GL g) = some true := isi_lst _
  simp [isf, he, k1]
/-! kept -/
theorem canon_mem {n : Nat} {ms : List Nat} {p : List Nat} (h : p ∈ canon n ms) : ∃ x, x < n ∧ p = (List.range n).filter fun y => decide (gd ms y = gd ms x) := by
  unfold canon at h
  obtain ⟨x, hx, rfl⟩ := List.mem_map.mp h
  exact ⟨x, List.mem_range.mp (List.mem_filter.mp hx).1, rfl⟩
theorem first_ex (ms : List Nat) : ∀ x : Nat, ∃ y, y ≤ x ∧ gd ms y = gd ms x ∧ fst1 ms y = true := by
  intro x
  induction x using Nat.strongRecOn with
  | _ x ih =>
    cases hf : fst1 ms x with
    | true => exact ⟨x, Nat.le_refl _, rfl, hf⟩
    | false =>
      unfold fst1 at hf
      obtain ⟨y, hy, h3⟩ := (List.all_eq_false).mp hf
      have hy := List.mem_range.mp hy
      obtain ⟨z, h4, h5, h6⟩ := ih y hy
      exact ⟨z, by omega, by rw [h5]; simpa using h3, h6⟩
theorem canon_cover {n : Nat} {ms : List Nat} {u : Nat} (hu : u < n) : ∃ p ∈ canon n ms, u ∈ p := by
  obtain ⟨y, h1, h2, h3⟩ := first_ex ms u
  refine ⟨(List.range n).filter fun z => decide (gd ms z = gd ms y), ?_, List.mem_filter.mpr ⟨List.mem_range.mpr hu, by simp [h2]⟩⟩
  unfold canon
  exact List.mem_map.mpr ⟨y, List.mem_filter.mpr ⟨List.mem_range.mpr (by omega), h3⟩, rfl⟩
theorem canon_part {n : Nat} {ms : List Nat} {p : List Nat} (h : p ∈ canon n ms) : (∀ x ∈ p, x < n) ∧ (∀ u v, u < n → v < n → gd ms u = gd ms v → (u ∈ p ↔ v ∈ p)) ∧ ∀ u v, u ∈ p → v ∈ p → gd ms u = gd ms v := by
  obtain ⟨x, hx, rfl⟩ := canon_mem h
  refine ⟨fun y hy => List.mem_range.mp (List.mem_filter.mp hy).1, fun u v hu hv e => ?_, fun u v hu hv => ?_⟩
  · simp [List.mem_filter, hu, hv, e]
  · simp [List.mem_filter] at hu hv
    rw [hu.2, hv.2]
theorem canon_len {n : Nat} {ms : List Nat} : (canon n ms).length ≤ n := by
  unfold canon
  rw [List.length_map]
  refine Nat.le_trans (List.length_filter_le _ _) (by simp)
theorem canon_plen {n : Nat} {ms : List Nat} {p : List Nat} (h : p ∈ canon n ms) : p.length ≤ n := by
  obtain ⟨x, hx, rfl⟩ := canon_mem h
  refine Nat.le_trans (List.length_filter_le _ _) (by simp)
theorem gd_set {l : List Nat} {a v u : Nat} (hu : u < l.length) : gd (l.set a v) u = if u = a then v else gd l u := by
  unfold gd
  by_cases c : u = a
  · subst c
    simp [List.getD_eq_getElem?_getD, hu]
  · rw [if_neg c, List.getD_eq_getElem?_getD, List.getElem?_set_ne (fun z => c z.symm), List.getD_eq_getElem?_getD]
theorem ev_kept {n : Nat} {ps : List (Nat × Nat)} {mk : List (List Nat)} {ms : List Nat} (hn : n ≤ 100) (hg : Good n mk ps ms) {m : List Nat} (hm : m ∈ mk) (rm : RowOf n m) : F__law_kept [GL (canon n ms), TN m] = some (.ok (.dat (.bl true))) := by
  unfold F__law_kept
  simp only [fnD_ap (ds := [GL (canon n ms), TN m]) (n := 2) rfl]
  have cl := canon_len (n := n) (ms := ms)
  have rg : gRg 0 (n : Int) = some ((List.range n).map nD) := by rw [gRg_ap (by omega), rngD_nat]
  have rc : rng1 [.int ((canon n ms).length : Int)] = some ((List.range (canon n ms).length).map nD) := by rw [rng1_ap (by omega), rngD_nat]
  -- the places' parts
  let b1 : SF := sFor (ofLst (eBin gIx (eVarP 0) (eVarP 3))) (uName 5) (sSetI 2 (eVar 5) (eVar 3))
  obtain ⟨_, k1, at_, z3, z5, rfl, l1, at1⟩ := for_run (u := uName 3) (b := b1) (fun k ρ => ∃ (at_ : List Nat) (z3 z5 : S), ρ = [.dat (GL (canon n ms)), .dat (TN m), .own (at_.map nD), z3, .no, z5] ∧ at_.length = n ∧ ∀ u v, u < n → v < n → gd ms u = gd ms v → (∃ p ∈ (canon n ms).take k, u ∈ p) → gd at_ u = gd at_ v)
    (ds := (List.range (canon n ms).length).map nD) (ρ := [.dat (GL (canon n ms)), .dat (TN m), .own ((List.range n).map nD), .no, .no, .no]) ⟨_, _, _, rfl, by simp, fun u v hu hv e ⟨p, hp, _⟩ => by rw [List.take_zero] at hp; cases hp⟩ (by
      rintro k d ρ hd ⟨at0, z3, z5, rfl, h1, h2⟩
      obtain ⟨hk, rfl⟩ := rng_at hd
      refine ⟨_, rfl, ?_⟩
      obtain ⟨p, ep⟩ : ∃ p, (canon n ms)[k]? = some p := ⟨_, List.getElem?_eq_getElem hk⟩
      have hp := List.mem_of_getElem? ep
      obtain ⟨c1, c2, c3⟩ := canon_part hp
      have aG : atI ((canon n ms).map fun l => LN l) (k : Int) = some (LN p) := by
        rw [atI_natE, List.getElem?_map, ep]
        rfl
      obtain ⟨_, k2, at2, z5', rfl, h3, h4⟩ := for_run (u := uName 5) (b := sSetI 2 (eVar 5) (eVar 3)) (fun i ρ => ∃ (at2 : List Nat) (z5 : S), ρ = [.dat (GL (canon n ms)), .dat (TN m), .own (at2.map nD), .dat (nD k), .no, z5] ∧ at2.length = n ∧ ∀ u, u < n → gd at2 u = if u ∈ p.take i then k else gd at0 u)
        (ds := p.map nD) (ρ := [.dat (GL (canon n ms)), .dat (TN m), .own (at0.map nD), .dat (nD k), .no, z5]) ⟨_, _, rfl, h1, fun u hu => by rw [List.take_zero, if_neg (by simp)]⟩ (by
          rintro i d ρ hd ⟨at2, z5, rfl, h3, h4⟩
          obtain ⟨x, ex, rfl⟩ := map_at hd
          have hx := c1 x (List.mem_of_getElem? ex)
          have a4 : ixN n (x : Int) = some x := ixN_nat hx
          refine ⟨_, rfl, _, .inl ?_, at2.set x k, .dat (nD x), rfl, by simp [h3], fun u hu => ?_⟩
          · simp only [nD, setD_cons, setD_nil, sSetI_ap, eVar_ap, List.set_cons_succ, List.set_cons_zero, List.getElem?_cons_zero, List.getElem?_cons_succ, bnd_ok, errS_ok, List.length_map, h3, a4, Option.map_some]
            rw [show D.int (k : Int) = nD k from rfl, set_map']
          · rw [gd_set (by rw [h3]; exact hu), h4 u hu, List.take_add_one, ex]
            by_cases c : u = x
            · subst c
              rw [if_pos rfl, if_pos (by simp)]
            · rw [if_neg c]
              by_cases c' : u ∈ p.take i
              · rw [if_pos c', if_pos (List.mem_append_left _ c')]
              · rw [if_neg c', if_neg (fun z => by
                  rcases List.mem_append.mp z with z | z
                  · exact c' z
                  · exact c (by simpa using z))])
      rw [show (p.map nD).length = p.length by simp, List.take_length] at h4
      refine ⟨_, .inl ?_, at2, .dat (nD k), z5', rfl, h3, fun u v hu hv e ⟨q, hq, huq⟩ => ?_⟩
      · simp only [nD] at aG k2 ⊢
        simp only [b1, uName_ap, setD_cons, setD_nil, sFor_ap, ofLst_ap, eBin_ap, eVarP_ap, List.set_cons_succ, List.set_cons_zero, List.getElem?_cons_zero, List.getElem?_cons_succ, bnd_ok, gIx_lst, aG, okO_some, lstOf_lst, errS_ok]
        exact k2
      · rw [h4 u hu, h4 v hv]
        have iff := c2 u v hu hv e
        by_cases c : u ∈ p
        · rw [if_pos c, if_pos (iff.mp c)]
        · rw [if_neg c, if_neg (fun z => c (iff.mpr z))]
          rcases mem_take_succ ep hq with hq | rfl
          · exact h2 u v hu hv e ⟨q, hq, huq⟩
          · exact absurd huq c)
  rw [show ((List.range (canon n ms).length).map nD).length = (canon n ms).length by simp, List.take_length] at at1
  have at2 : ∀ u v, u < n → v < n → gd ms u = gd ms v → gd at_ u = gd at_ v := fun u v hu hv e => at1 u v hu hv e (canon_cover hu)
  -- the look at the parts
  let b2 : SF := sIf (bNot (toB (eFn gAll (aCons (frzF (eComp [5] (ofLst (eVarP 4)) (uName 5) tYesF (eBin gEq (eBin gIx (eVarP 2) (eBin gIx (eVarP 1) (eVarP 5))) (eBin gIx (eVarP 2) (eBin gIx (eVarP 1) (eBin gIx (eVarP 4) (eC (.int 0)))))))) aNil))))
    (sRet (datE (eC (.bl false)))) sNext
  obtain ⟨_, k3, z4, z5', rfl⟩ := for_run (u := uName 4) (b := b2) (fun _ ρ => ∃ z4 z5 : S, ρ = [.dat (GL (canon n ms)), .dat (TN m), .own (at_.map nD), z3, z4, z5])
    (ds := (canon n ms).map fun l => LN l) (ρ := [.dat (GL (canon n ms)), .dat (TN m), .own (at_.map nD), z3, .no, z5]) ⟨_, _, rfl⟩ (by
      rintro i d ρ hd ⟨z4, z5, rfl⟩
      obtain ⟨p, ep, rfl⟩ := map_at hd
      have hp := List.mem_of_getElem? ep
      obtain ⟨c1, c2, c3⟩ := canon_part hp
      have pl := canon_plen hp
      refine ⟨_, rfl, _, .inl ?_, .dat (LN p), z5, rfl⟩
      have hc := comp_map (u := uName 5) (el := eBin gEq (eBin gIx (eVarP 2) (eBin gIx (eVarP 1) (eVarP 5))) (eBin gIx (eVarP 2) (eBin gIx (eVarP 1) (eBin gIx (eVarP 4) (eC (.int 0)))))) (ρ := [.dat (GL (canon n ms)), .dat (TN m), .own (at_.map nD), z3, .dat (LN p), .no]) nD (fun _ => D.bl true) p (fun x hx => ⟨_, rfl, by
        have p0 : 0 < p.length := List.length_pos_of_mem hx
        have hx0 : gd p 0 ∈ p := by
          unfold gd
          rw [List.getD_eq_getElem?_getD, List.getElem?_eq_getElem p0]
          exact List.getElem_mem p0
        have a0 := atG (l := p) (a := 0) p0
        have a1 := atG (l := m) (a := x) (by rw [rm.1]; exact c1 x hx)
        have a2 := atG (l := m) (a := gd p 0) (by rw [rm.1]; exact c1 _ hx0)
        have m1 : gd m x < n := gd_lt rm.2 (by rw [rm.1]; exact c1 x hx)
        have m2 : gd m (gd p 0) < n := gd_lt rm.2 (by rw [rm.1]; exact c1 _ hx0)
        have a3 := atG (l := at_) (a := gd m x) (by rw [l1]; exact m1)
        have a4 := atG (l := at_) (a := gd m (gd p 0)) (by rw [l1]; exact m2)
        have e := at2 _ _ m1 m2 (hg.clo.makers m hm x (gd p 0) (c1 x hx) (c1 _ hx0) (c3 x _ hx hx0))
        simp only [nD] at a0 a1 a2 a3 a4
        have a0' : atI (p.map nD) 0 = some (D.int (gd p 0 : Nat)) := a0
        simp only [nD, setD_cons, setD_nil, eBin_ap, eVarP_ap, eC_ap, List.set_cons_succ, List.set_cons_zero, List.getElem?_cons_zero, List.getElem?_cons_succ, bnd_ok, gIx_lst, gIx_tup, a0', a1, a2, a3, a4, okO_some, gEq_int, e, decide_true]⟩)
      have hs : ifO (p.length ≤ sizeLine) () = some () := ifO_pos (size10 (by omega))
      have ha : gAll [.lst (p.map fun _ => D.bl true)] = some (.bl true) := by
        have := gAll_ap (bs := p.map fun _ => true)
        rw [all_true, List.map_map] at this
        exact this
      simp only [b2, uName_ap, setD_cons, setD_nil, sIf_ap, bNot_ap, toB_ap, eFn_ap, aCons_ap, aNil_ap, frzF_ap, eComp, ofLst_ap, eVarP_ap, List.set_cons_succ, List.set_cons_zero, List.getElem?_cons_zero, List.getElem?_cons_succ, bnd_ok, lstOf_lst, okO_some, List.length_map, hs, Option.bind_some, wipeD_cons, wipeD_nil, hc, Option.map_some, frzS_own, ha, Bool.not_true, errS_ok, sNext_ap])
  have e : B__law_kept = sSeq (sAsg 2 (eLRg1 (eFn gLen (aCons (eVarP 1) aNil)))) (sSeq (sFor (iFn rng1 (aCons (eFn gLen (aCons (eVarP 0) aNil)) aNil)) (uName 3) b1) (sSeq (sFor (ofLst (eVar 0)) (uName 4) b2) (sRet (datE (eC (.bl true)))))) := rfl
  rw [e]
  have lm := rm.1
  generalize b1 = B1 at *
  generalize b2 = B2 at *
  simp [lm, rg, rc, k1, k3]
end G

set_option Elab.async false
set_option linter.all false
set_option maxRecDepth 100000
set_option maxHeartbeats 1000000
namespace G
open PySem L2 DL
/-! ### finest -/
def mergeM (ms : List Nat) (a b : Nat) : List Nat := ms.map fun y => if y = gd ms b then gd ms a else y
theorem gd_mergeM (ms : List Nat) (a b x : Nat) (hx : x < ms.length) : gd (mergeM ms a b) x = if gd ms x = gd ms b then gd ms a else gd ms x := by
  unfold mergeM
  generalize gd ms b = B
  generalize gd ms a = A
  unfold gd
  simp [List.getD_eq_getElem?_getD, hx]
theorem ker_merge (ms : List Nat) (a b : Nat) {x y : Nat} (hx : x < ms.length) (hy : y < ms.length) : ker (mergeM ms a b) x y ↔ ker (putM ms a b) x y := by
  unfold ker
  rw [gd_mergeM ms a b x hx, gd_mergeM ms a b y hy, gd_putM ms a b x hx, gd_putM ms a b y hy]
  generalize gd ms a = A
  generalize gd ms b = B
  generalize gd ms x = X
  generalize gd ms y = Y
  rcases Nat.le_total A B with c | c
  · rw [Nat.max_eq_right c, Nat.min_eq_left c]
  · rw [Nat.max_eq_left c, Nat.min_eq_right c]
    constructor
    · intro h
      split at h <;> split at h <;> split <;> split <;> omega
    · intro h
      split at h <;> split at h <;> split <;> split <;> omega
def dist (n : Nat) (ms : List Nat) : Nat := ((List.range n).filter fun v => decide (v ∈ ms)).length
theorem filter_lt {α : Type} {p q : α → Bool} : ∀ {l : List α}, (∀ x ∈ l, p x = true → q x = true) → (l.filter p).length ≤ (l.filter q).length ∧ ((∃ x ∈ l, q x = true ∧ p x = false) → (l.filter p).length + 1 ≤ (l.filter q).length)
  | [], _ => ⟨Nat.le_refl _, fun ⟨x, h, _⟩ => by cases h⟩
  | a :: r, h => by
    obtain ⟨h1, h2⟩ := filter_lt (l := r) fun x hx => h x (List.mem_cons_of_mem _ hx)
    have ha := h a List.mem_cons_self
    rw [List.filter_cons, List.filter_cons]
    refine ⟨?_, fun ⟨x, hx, e1, e2⟩ => ?_⟩
    · cases cp : p a with
      | true => rw [ha cp]; simp; exact h1
      | false => cases cq : q a with
        | true => simp; omega
        | false => simp; exact h1
    · rcases List.mem_cons.mp hx with rfl | hx
      · rw [e1, e2]
        simp; exact h1
      · have h3 := h2 ⟨x, hx, e1, e2⟩
        cases cp : p a with
        | true => rw [ha cp]; simp; omega
        | false => cases cq : q a with
          | true => simp; omega
          | false => simp; omega
theorem gd_mem {l : List Nat} {a : Nat} (h : a < l.length) : gd l a ∈ l := by
  unfold gd
  rw [List.getD_eq_getElem?_getD, List.getElem?_eq_getElem h]
  exact List.getElem_mem h
theorem dist_merge {n : Nat} {ms : List Nat} {a b : Nat} (hv : ∀ x ∈ ms, x < n) (ha : a < ms.length) (hb : b < ms.length) (hne : gd ms a ≠ gd ms b) : dist n (mergeM ms a b) + 1 ≤ dist n ms := by
  unfold dist
  refine (filter_lt fun x hx h => ?_).2 ⟨gd ms b, List.mem_range.mpr (hv _ (gd_mem hb)), by simpa using gd_mem hb, ?_⟩
  · simp only [decide_eq_true_eq] at h ⊢
    unfold mergeM at h
    obtain ⟨y, hy, e⟩ := List.mem_map.mp h
    split at e
    · rw [← e]; exact gd_mem ha
    · rw [← e]; exact hy
  · simp only [decide_eq_false_iff_not]
    intro h
    unfold mergeM at h
    obtain ⟨y, hy, e⟩ := List.mem_map.mp h
    split at e
    · exact hne e
    · rename_i c; exact c e
theorem dist_le (n : Nat) (ms : List Nat) : dist n ms ≤ n := by
  unfold dist
  refine Nat.le_trans (List.length_filter_le _ _) (by simp)
structure FA (n : Nat) (mk : List (List Nat)) (ps : List (Nat × Nat)) (ms : List Nat) (ts : List (Nat × Nat)) (k : Nat) : Prop where
  len : ms.length = n
  vals : ∀ x ∈ ms, x < n
  bnd : ∀ p ∈ ts, p.1 < n ∧ p.2 < n
  least : ∀ E, Clo n mk ps E → (∀ x y, x < n → y < n → ker ms x y → E x y) ∧ ∀ p ∈ ts, E p.1 p.2
  done : ∀ p ∈ ts.take k, ker ms p.1 p.2
  pre : ∀ p ∈ ps, p ∈ ts
  clo : ∀ E : Nat → Nat → Prop, (∀ x, E x x) → (∀ {x y}, E x y → E y x) → (∀ {x y z}, E x y → E y z → E x z) → (∀ x y, x < n → y < n → ker ms x y → E x y) → (∀ p ∈ ts, E p.1 p.2) → ∀ m ∈ mk, ∀ x y, x < n → y < n → ker ms x y → E (gd m x) (gd m y)
  atle : k ≤ ts.length
  cnt : ts.length + mk.length * dist n ms ≤ ps.length + mk.length * n
theorem gd_range {n x : Nat} (hx : x < n) : gd (List.range n) x = x := by
  unfold gd
  simp [List.getD_eq_getElem?_getD, hx]
section
variable {n : Nat} {mk : List (List Nat)} {ps : List (Nat × Nat)}
theorem FA.start (hps : okPs n ps) : FA n mk ps (List.range n) ps 0 := by
  have hk : ∀ {x y}, x < n → y < n → ker (List.range n) x y → x = y := fun {x y} hx hy k => by
    unfold ker at k
    rwa [gd_range hx, gd_range hy] at k
  refine ⟨by simp, fun x hx => List.mem_range.mp hx, hps.2, fun E cE => ⟨fun x y hx hy k => ?_, cE.pairs⟩, fun p hp => ?_, fun p hp => hp, fun E r s t h1 h2 m hm x y hx hy k => ?_, Nat.zero_le _, ?_⟩
  · rw [hk hx hy k]; exact cE.refl _
  · rw [List.take_zero] at hp; cases hp
  · rw [hk hx hy k]; exact r _
  · have := Nat.mul_le_mul_left mk.length (dist_le n (List.range n))
    omega
theorem FA.same {ms : List Nat} {ts : List (Nat × Nat)} {k : Nat} (h : FA n mk ps ms ts k) {p : Nat × Nat} (hp : ts[k]? = some p) (e : gd ms p.1 = gd ms p.2) : FA n mk ps ms ts (k + 1) :=
  ⟨h.len, h.vals, h.bnd, h.least, fun q hq => by
    rcases mem_take_succ hp hq with hq | rfl
    · exact h.done q hq
    · exact e, h.pre, h.clo, (List.getElem?_eq_some_iff.mp hp).1, h.cnt⟩
theorem FA.join {ms : List Nat} {ts : List (Nat × Nat)} {k : Nat} (h : FA n mk ps ms ts k) (hmk : okMk n mk) {p : Nat × Nat} (hp : ts[k]? = some p) (e : gd ms p.1 ≠ gd ms p.2) : FA n mk ps (mergeM ms p.1 p.2) (ts ++ mk.map fun m => (gd m p.1, gd m p.2)) (k + 1) := by
  have hk : k < ts.length := (List.getElem?_eq_some_iff.mp hp).1
  have hm := List.mem_of_getElem? hp
  obtain ⟨b1, b2⟩ := h.bnd p hm
  have l1 : p.1 < ms.length := by rw [h.len]; exact b1
  have l2 : p.2 < ms.length := by rw [h.len]; exact b2
  have kp : ∀ {x y}, x < n → y < n → (ker (mergeM ms p.1 p.2) x y ↔ ker (putM ms p.1 p.2) x y) := fun hx hy => ker_merge ms p.1 p.2 (by rw [h.len]; exact hx) (by rw [h.len]; exact hy)
  have mono : ∀ {x y}, x < n → y < n → ker ms x y → ker (mergeM ms p.1 p.2) x y := fun hx hy k => (kp hx hy).mpr (putM_mono h.len p.1 p.2 hx hy k)
  refine ⟨by simp [mergeM, h.len], fun x hx => ?_, fun q hq => ?_, fun E cE => ⟨fun x y hx hy k => ?_, fun q hq => ?_⟩, fun q hq => ?_, fun q hq => List.mem_append_left _ (h.pre q hq), fun E r s t h1 h2 m hm' x y hx hy k => ?_, by simp; omega, ?_⟩
  · unfold mergeM at hx
    obtain ⟨y, hy, e⟩ := List.mem_map.mp hx
    split at e
    · rw [← e]; exact h.vals _ (gd_mem l1)
    · rw [← e]; exact h.vals _ hy
  · rcases List.mem_append.mp hq with hq | hq
    · exact h.bnd q hq
    · obtain ⟨m, h3, rfl⟩ := List.mem_map.mp hq
      have rm := hmk.2 m h3
      exact ⟨gd_lt rm.2 (by rw [rm.1]; exact b1), gd_lt rm.2 (by rw [rm.1]; exact b2)⟩
  · exact putM_least h.len cE.refl cE.symm cE.trans (h.least E cE).1 b1 b2 ((h.least E cE).2 p hm) x y hx hy ((kp hx hy).mp k)
  · rcases List.mem_append.mp hq with hq | hq
    · exact (h.least E cE).2 q hq
    · obtain ⟨m, h3, rfl⟩ := List.mem_map.mp hq
      exact cE.makers m h3 p.1 p.2 b1 b2 ((h.least E cE).2 p hm)
  · rw [List.take_append_of_le_length (by omega)] at hq
    rcases mem_take_succ hp hq with hq | rfl
    · have hb := h.bnd q (List.mem_of_mem_take hq)
      exact mono hb.1 hb.2 (h.done q hq)
    · exact (kp b1 b2).mpr (putM_joins h.len b1 b2)
  · have low : ∀ x y, x < n → y < n → ker ms x y → E x y := fun x y hx hy k => h1 x y hx hy (mono hx hy k)
    have base := h.clo E r s t low (fun q hq => h2 q (List.mem_append_left _ hq)) m hm'
    have lift := putM_least (E := fun u v => (u < n ∧ v < n ∧ E (gd m u) (gd m v)) ∨ u = v) h.len (fun x => .inr rfl) (fun {x y} q => by
      rcases q with ⟨q1, q2, q3⟩ | rfl
      · exact .inl ⟨q2, q1, s q3⟩
      · exact .inr rfl) (fun {x y z} q q' => by
      rcases q with ⟨q1, q2, q3⟩ | rfl
      · rcases q' with ⟨w1, w2, w3⟩ | rfl
        · exact .inl ⟨q1, w2, t q3 w3⟩
        · exact .inl ⟨q1, q2, q3⟩
      · exact q') (fun x y hx hy k => .inl ⟨hx, hy, base x y hx hy k⟩) b1 b2 (.inl ⟨b1, b2, h2 (gd m p.1, gd m p.2) (List.mem_append_right _ (List.mem_map.mpr ⟨m, hm', rfl⟩))⟩) x y hx hy ((kp hx hy).mp k)
    rcases lift with ⟨_, _, q⟩ | rfl
    · exact q
    · exact r _
  · have d := dist_merge h.vals l1 l2 e
    have c := h.cnt
    have := Nat.mul_le_mul_left mk.length d
    rw [Nat.mul_add, Nat.mul_one] at this
    simp
    omega
theorem FA.good {ms : List Nat} {ts : List (Nat × Nat)} {k : Nat} (h : FA n mk ps ms ts k) (hk : ts.length ≤ k) : Good n mk ps ms := by
  have done : ∀ p ∈ ts, ker ms p.1 p.2 := fun p hp => h.done p (by rw [List.take_of_length_le hk]; exact hp)
  exact ⟨⟨fun x => rfl, fun h => h.symm, fun h1 h2 => h1.trans h2, fun p hp => done p (h.pre p hp), h.clo (ker ms) (fun x => rfl) (fun h => h.symm) (fun h1 h2 => h1.trans h2) (fun x y _ _ k => k) done⟩, fun E cE => (h.least E cE).1⟩
end
end G

set_option Elab.async false
set_option linter.all false
set_option maxRecDepth 100000
set_option maxHeartbeats 1000000
namespace G
open PySem L2 DL
def dec : D → Nat | .int i => i.toNat | _ => 0
theorem dec_map (ms : List Nat) : (ms.map nD).map dec = ms := by
  rw [List.map_map, show (dec ∘ nD) = fun x => x from funext fun x => Int.toNat_natCast x]
  simp
def muF (n M : Nat) : DL.Env → Nat := fun ρ => match ρ[3]?, ρ[4]?, ρ[5]? with
  | some (S.own a), some (S.own b), some (S.dat (D.int i)) => dist n (a.map dec) * (M + 1) + (b.length - i.toNat)
  | _, _, _ => 0
def bFW : SF := (sSeq (sTup (uTup (uCons (uName 8) (uCons (uName 9) uNil))) (eBin gIx (eVarP 4) (eVarP 5)))
 (sSeq (sAug (fun i n => i + n) 5 (eC (.int 1)))
 (sSeq (sAsg 6 (datE (eBin gIx (eVarP 3) (eVarP 8))))
 (sSeq (sAsg 7 (datE (eBin gIx (eVarP 3) (eVarP 9))))
 (sIf (toB (eBin gNe (eVarP 6) (eVarP 7)))
 (sSeq (sAsg 3 (eComp [10] (ofLst (eVarP 3)) (uName 10) tYesF (eIf (toB (eBin gEq (eVarP 10) (eVarP 7))) (eVar 6) (eVar 10))))
 (sDropM (mMeth1 4 mExt (mE (frzF (eComp [11] (ofLst (eVarP 1)) (uName 11) tYesF (eTup (aCons (eBin gIx (eVarP 11) (eVarP 8)) (aCons (eBin gIx (eVarP 11) (eVarP 9)) aNil)))))))))
 sNext)))))
section
variable {n : Nat} {mk : List (List Nat)} {ps : List (Nat × Nat)}
theorem fin_step (hn : n ≤ 100) (hmk : okMk n mk) (hps : okPs n ps) {ms : List Nat} {ts : List (Nat × Nat)} {k : Nat} (h : FA n mk ps ms ts k) (hk : k < ts.length) (A C z6 z7 z8 z9 : S) :
    ∃ ms' ts' z6' z7' z8' z9', bFW [A, .dat (MK mk), C, .own (ms.map nD), .own (ts.map pD), .dat (nD k), z6, z7, z8, z9, .no, .no] = some (.nx [A, .dat (MK mk), C, .own (ms'.map nD), .own (ts'.map pD), .dat (nD (k + 1)), z6', z7', z8', z9', .no, .no]) ∧ FA n mk ps ms' ts' (k + 1) ∧ dist n ms' * (mk.length + 1) + (ts'.length - (k + 1)) < dist n ms * (mk.length + 1) + (ts.length - k) := by
  obtain ⟨p, hp⟩ : ∃ p, ts[k]? = some p := ⟨_, List.getElem?_eq_getElem hk⟩
  obtain ⟨b1, b2⟩ := h.bnd p (List.mem_of_getElem? hp)
  have a0 : atI (ts.map pD) (k : Int) = some (pD p) := by
    rw [atI_natE, List.getElem?_map, hp]
    rfl
  have a1 := atG (l := ms) (a := p.1) (by rw [h.len]; exact b1)
  have a2 := atG (l := ms) (a := p.2) (by rw [h.len]; exact b2)
  simp only [nD] at a1 a2
  by_cases c : gd ms p.1 = gd ms p.2
  · refine ⟨ms, ts, .dat (nD (gd ms p.1)), .dat (nD (gd ms p.2)), .dat (nD p.1), .dat (nD p.2), ?_, h.same hp c, by omega⟩
    have e1 : ((k : Int) + 1) = ((k + 1 : Nat) : Int) := by omega
    simp [bFW, nD, a0, a1, a2, c]
  · have d := dist_merge h.vals (by rw [h.len]; exact b1) (by rw [h.len]; exact b2) c
    refine ⟨mergeM ms p.1 p.2, ts ++ mk.map fun m => (gd m p.1, gd m p.2), .dat (nD (gd ms p.1)), .dat (nD (gd ms p.2)), .dat (nD p.1), .dat (nD p.2), ?_, h.join hmk hp c, ?_⟩
    · have c' : ¬ ((gd ms p.1 : Nat) : Int) = (gd ms p.2 : Nat) := by omega
      have hl := h.len
      have hs : ifO (n ≤ sizeLine) () = some () := ifO_pos (size10 (by omega))
      have hsm : ifO (mk.length ≤ sizeLine) () = some () := ifO_pos (size10 (by have := hmk.1; omega))
      have hc := comp_map (u := uName 10) (el := eIf (toB (eBin gEq (eVarP 10) (eVarP 7))) (eVar 6) (eVar 10)) (ρ := [A, .dat (MK mk), C, .own (ms.map nD), .own (ts.map pD), .dat (.int ((k : Int) + 1)), .dat (.int (gd ms p.1 : Nat)), .dat (.int (gd ms p.2 : Nat)), .dat (.int (p.1 : Nat)), .dat (.int (p.2 : Nat)), .no, .no]) nD (fun y => nD (if y = gd ms p.2 then gd ms p.1 else y)) ms (fun x hx => ⟨_, rfl, by
        by_cases c : x = gd ms p.2
        · simp [nD, c]
        · have c2 : ¬ (x : Int) = (gd ms p.2 : Nat) := by omega
          simp [nD, c, c2]⟩)
      have hc2 := comp_map (u := uName 11) (el := eTup (aCons (eBin gIx (eVarP 11) (eVarP 8)) (aCons (eBin gIx (eVarP 11) (eVarP 9)) aNil))) (ρ := [A, .dat (MK mk), C, .own ((mergeM ms p.1 p.2).map nD), .own (ts.map pD), .dat (.int ((k : Int) + 1)), .dat (.int (gd ms p.1 : Nat)), .dat (.int (gd ms p.2 : Nat)), .dat (.int (p.1 : Nat)), .dat (.int (p.2 : Nat)), .no, .no]) (fun m => TN m) (fun m => pD (gd m p.1, gd m p.2)) mk (fun m hm => ⟨_, rfl, by
        have rm := hmk.2 m hm
        have a3 := atG (l := m) (a := p.1) (by rw [rm.1]; exact b1)
        have a4 := atG (l := m) (a := p.2) (by rw [rm.1]; exact b2)
        simp only [nD] at a3 a4
        have s2 : ifO (2 ≤ sizeLine) (D.tup [.int (gd m p.1 : Nat), .int (gd m p.2 : Nat)]) = some (.tup [.int (gd m p.1 : Nat), .int (gd m p.2 : Nat)]) := ifO_pos (by decide)
        simp [nD, a3, a4, s2]⟩)
      have hcnt := h.cnt
      have hext : mExt (ts.map pD) [.lst (mk.map fun m => pD (gd m p.1, gd m p.2))] = some ((ts ++ mk.map fun m => (gd m p.1, gd m p.2)).map pD, .non) := by
        unfold mExt
        rw [List.map_append, List.map_map]
        refine ifO_pos (size10 ?_)
        have := hmk.1
        have := hps.1
        have := Nat.mul_le_mul hmk.1 hn
        simp
        omega
      rw [show ms.map (fun y => nD (if y = gd ms p.2 then gd ms p.1 else y)) = (mergeM ms p.1 p.2).map nD by rw [mergeM, List.map_map]; rfl] at hc
      simp only [nD] at hc hc2 ⊢
      have e1 : ((k + 1 : Nat) : Int) = ((k : Int) + 1) := by omega
      rw [e1]
      have a0' : gIx (.lst (ts.map pD)) (.int (k : Int)) = some (.tup [.int (p.1 : Nat), .int (p.2 : Nat)]) := a0
      simp only [bFW, sSeq_ap, sTup_ap, eBin_ap, eVarP_ap, List.set_cons_succ, List.set_cons_zero, List.getElem?_cons_zero, List.getElem?_cons_succ, bnd_ok, a0', okO_some, errS_ok, uTup_ap, uCons_ap, uName_ap, uNil_ap, Option.bind_some, Option.map_some, List.cons_append, List.nil_append, setD_cons, setD_nil, sAug_ap, eC_ap, sAsg_ap, datE_ap, gIx_lst, a1, a2, sIf_ap, toB_ap, gNe_int, c', decide_false, Bool.not_false, eComp, ofLst_ap, lstOf_lst, List.length_map, hl, hs, wipeD_cons, wipeD_nil, hc, sDropM_ap, mMeth1_ap, mE_ap, frzF_ap, eVarP_ap, hsm, hc2, frzS_own, mAt_ap, hext]
    · have := Nat.mul_le_mul_right (mk.length + 1) d
      rw [Nat.add_mul, Nat.one_mul] at this
      simp
      omega
def B_fin0 : SF := sSeq (sAsg 3 (eLRg1 (eVar 0))) (sSeq (sAsg 4 (eFnO gList (aCons (eVarP 2) aNil))) (sSeq (sAsg 5 (datE (eC (.int 0)))) (sSeq (sWhile (toB (eBin gLt (eVarP 5) (eFn gLen (aCons (eVarP 4) aNil)))) bFW) sNext)))
theorem ev_fin (hn : n ≤ 100) (hmk : okMk n mk) (hps : okPs n ps) : ∃ ms s4 s5 s6 s7 s8 s9, ms.length = n ∧ Good n mk ps ms ∧ B_fin0 ([nD n, MK mk, PSD ps].map .dat ++ List.replicate 9 .no) = some (.nx [.dat (nD n), .dat (MK mk), .dat (PSD ps), .own (ms.map nD), s4, s5, s6, s7, s8, s9, .no, .no]) := by
  have rg : gRg 0 (n : Int) = some ((List.range n).map nD) := by rw [gRg_ap (by omega), rngD_nat]
  obtain ⟨_, k1, ⟨ms, ts, k, z6, z7, z8, z9, rfl, h⟩, k3⟩ := while_run (c := toB (eBin gLt (eVarP 5) (eFn gLen (aCons (eVarP 4) aNil)))) (b := bFW)
    (fun ρ => ∃ (ms : List Nat) (ts : List (Nat × Nat)) (k : Nat) (z6 z7 z8 z9 : S), ρ = [.dat (nD n), .dat (MK mk), .dat (PSD ps), .own (ms.map nD), .own (ts.map pD), .dat (nD k), z6, z7, z8, z9, .no, .no] ∧ FA n mk ps ms ts k) (muF n mk.length) (by
      rintro ρ ⟨ms, ts, k, z6, z7, z8, z9, rfl, h⟩
      by_cases c : k < ts.length
      · refine .inr ⟨by simp [nD, c], ?_⟩
        obtain ⟨ms', ts', z6', z7', z8', z9', h1, h2, h3⟩ := fin_step hn hmk hps h c (.dat (nD n)) (.dat (PSD ps)) z6 z7 z8 z9
        refine ⟨_, .inl h1, ⟨ms', ts', k + 1, _, _, _, _, rfl, h2⟩, ?_⟩
        show dist n ((ms'.map nD).map dec) * (mk.length + 1) + ((ts'.map pD).length - (k + 1)) < dist n ((ms.map nD).map dec) * (mk.length + 1) + ((ts.map pD).length - k)
        rw [dec_map, dec_map, List.length_map, List.length_map]
        exact h3
      · exact .inl (by simp [nD, c])) fuel [.dat (nD n), .dat (MK mk), .dat (PSD ps), .own ((List.range n).map nD), .own (ps.map pD), .dat (nD 0), .no, .no, .no, .no, .no, .no] ⟨_, _, _, _, _, _, _, rfl, FA.start hps⟩ (by
      show dist n (((List.range n).map nD).map dec) * (mk.length + 1) + ((ps.map pD).length - 0) < fuel
      rw [dec_map, List.length_map]
      have d := dist_le n (List.range n)
      have h1 : dist n (List.range n) * (mk.length + 1) ≤ 100 * 101 := Nat.mul_le_mul (Nat.le_trans d hn) (Nat.succ_le_succ hmk.1)
      have := hps.1
      have lt : dist n (List.range n) * (mk.length + 1) + (ps.length - 0) < 20000 := by
        omega
      exact Nat.lt_trans lt (by decide +kernel))
  have hk : ts.length ≤ k := by
    by_cases c : k < ts.length
    · simp [nD, c] at k3
    · omega
  refine ⟨ms, .own (ts.map pD), .dat (nD k), z6, z7, z8, z9, h.len, h.good hk, ?_⟩
  unfold B_fin0
  generalize bFW = BB at *
  simp only [nD] at k1 ⊢
  have z0 : D.int ((0 : Nat) : Int) = D.int 0 := rfl
  rw [z0] at k1
  simp [rg, -sWhile_ap, nD]
  unfold sWhile
  rw [k1]
end
end G

set_option Elab.async false
set_option linter.all false
set_option maxRecDepth 100000
set_option maxHeartbeats 1000000
namespace DL
open PySem L2
/-- statements by the layer, and a rest with a reading of its own -/
structure DSX (F : Fam) (T : Tb) (W : WX) (sts : List Stmt) (f : SF) (last : TS) : Prop where
  ex : ∃ ts, (∀ i, PSs (F.X i) sts ts) ∧ ∀ H0 Z0 Z H σ ρ, Rl F.K T H0 Z0 Z H σ ρ → ∀ ρ', f ρ = some (.nx ρ') → ∀ E, (∀ Z' H' σ', Rl F.K T H0 Z0 Z' H' σ' ρ' → last E σ' H') → ts E σ H
section
variable {F : Fam} {T : Tb} {W : WX} {st : Stmt} {rest : List Stmt} {f g : SF} {t : TS}
theorem dsx_rest (h : ∀ i, PSs (F.X i) rest t) : DSX F T W rest sNext t := ⟨t, h, fun H0 Z0 Z H σ ρ r ρ' e E q => by cases e; exact q Z H σ r⟩
theorem dsx_cons (h : DS F T W st f) (hr : DSX F T W rest g t) : DSX F T W (st :: rest) (sSeq f g) t := by
  obtain ⟨t1, a1, a2⟩ := h.ex
  obtain ⟨u, b1, b2⟩ := hr.ex
  refine ⟨_, fun i => pss_cons (a1 i) (b1 i), fun H0 Z0 Z H σ ρ r x hx E q => ?_⟩
  unfold sSeq at hx
  cases ef : f ρ with
  | none => rw [ef] at hx; cases hx
  | some y =>
    rw [ef] at hx
    refine a2 H0 Z0 Z H σ ρ r _ ef _ ?_
    cases y with
    | nx ρ' => exact fun Z1 H1 σ1 r1 => b2 H0 Z0 Z1 H1 σ1 ρ' r1 _ hx E q
    | rt s => cases hx
    | bk ρ' => cases hx
    | ct ρ' => cases hx
    | ex c ρ' => cases hx
end
end DL
namespace G
open PySem L2 DL
section
variable {P : Program} {w : World} {K : PySem.W.Frag} {mg : Str → Option Value} {base : Heap} {T : Tb}
theorem spN_d {x : Str} {f : Addr} {fd : FuncData} {ps : List Str} {k n : Nat} {G : List D → Option D} (h : FnOk P w K mg base (L2.CX P w) k f fd ps (spN K T n G)) (hm : mg x = some (.ref f)) (hk : PySem.W.keepIn K (.ref f) = true) (hb : Binds K fd ps []) (hl : ∀ ds r, G ds = some r → ds.length = n) :
    FnD P w K mg base T k x n (fun ds => (G ds).map fun d => .ok (.dat d)) := by
  refine ⟨⟨f, fd, ps, ⟨?_, ?_⟩, hm, hk, hb⟩, fun ds r e => ?_⟩
  · intro vs H Q E ⟨Z, ds, r, h1, h2, h3, h4, h5⟩
    obtain ⟨d, e1, e2⟩ := Option.map_eq_some_iff.mp h4
    exact h.len vs H (fun _ _ => True) E ⟨Z, ds, d, h1, h2, h3, e1, fun _ _ _ _ _ _ _ _ => trivial⟩
  · intro A outer s H binds us vs Q E hr hi hb hv ⟨Z, ds, r, h1, h2, h3, h4, h5⟩
    obtain ⟨d, e1, e2⟩ := Option.map_eq_some_iff.mp h4
    subst e2
    exact h.run A outer s H binds us vs Q E hr hi hb hv ⟨Z, ds, d, h1, h2, h3, e1, fun v Z' H' Zn x sm nw rp => h5 v Z' H' x ⟨⟨v, rfl, Rep.mono sm d v rp⟩, fun z => by cases z⟩⟩
  · obtain ⟨d, e1, e2⟩ := Option.map_eq_some_iff.mp e
    exact hl ds d e1
def G_finest : List D → Option D := fun ds => if ds.length = 3 then match B_fin0 (ds.map .dat ++ List.replicate 9 .no) with
  | some (.nx ρ) => match ρ[3]? with
    | some (S.own ms) => G_parts_by [.lst ms]
    | _ => none
  | _ => none else none
theorem G_finest_len (ds : List D) (r) (h : G_finest ds = some r) : ds.length = 3 := by
  unfold G_finest at h
  split at h
  · assumption
  · cases h
theorem G_parts_len (ds : List D) (r) (h : G_parts_by ds = some r) : ds.length = 1 := by
  unfold G_parts_by at h
  split at h
  · rfl
  · cases h
theorem ok_finest {f fp : Addr} {fd fdp : FuncData} (Fn : Fun K "finest" "finest" st_finest f fd) (X : Bl K mg T) (Fp : Fun K "parts_by" "parts_by" st_parts_by fp fdp) (hmp : mg "parts_by" = some (.ref fp)) (hbp : Binds K fdp ["marks"] []) : FnOk P w K mg base (L2.CX P w) 2 f fd ["many", "makers", "pairs"] (spN K T 3 G_finest) := by
  have op := ok_parts_by (P := P) (w := w) (base := base) Fp X
  refine Fn.okX sc_finest (fun vs H Q E h => ?_) (fun cdv A outer s H vs Q E hr h => ?_)
  · obtain ⟨Z, ds, d, h1, _⟩ := h
    exact h1
  · obtain ⟨Z, ds, d, h1, zh, h3, h4, h5⟩ := h
    have ok : FOk (Fam.of (cxOf (L2.CX P w) P w K mg base N_finest "finest" (defScope st_finest) f cdv A outer s H E)) (fun cls d _ H => E cls d H) 1 :=
      ⟨sc_finest.nd, fun _ => takes_of rfl rfl rfl rfl, fun _ => passes_of rfl, fun _ => hr⟩
    have key : DSX (Fam.of (cxOf (L2.CX P w) P w K mg base N_finest "finest" (defScope st_finest) f cdv A outer s H E)) T (fun cls d _ H => E cls d H) (defBody st_finest) B_fin0 (tRet (tCallS (spN K T 1 G_parts_by) (WE fun cls d _ H => E cls d H) (tCons (tVar 3) tNil))) := (dsx_cons (ds_set ok 3 (do_listRg1 (de_var 0) X.m_list X.m_range))
      (dsx_cons (ds_set ok 4 (do_list (dap_cons (dp_var 2) dap_nil) X.m_list))
      (dsx_cons (ds_set ok 5 (de_int).o)
      (dsx_cons (ds_while ok (dt_lt (dp_var 5) ((de_len (dap_cons (dp_var 4) dap_nil) X.m_len)).p)
        (dss_cons (ds_tup (de_ix (dp_var 4) (dp_var 5)) (dg_tup (dgs_cons (dg_name ok 8) (dgs_cons (dg_name ok 9) dgs_nil)) (uCons_len (uCons_len uNil_len))))
        (dss_cons (ds_augAdd ok 5 de_int)
        (dss_cons (ds_set ok 6 ((de_ix (dp_var 3) (dp_var 8))).o)
        (dss_cons (ds_set ok 7 ((de_ix (dp_var 3) (dp_var 9))).o)
        (dss_one (ds_if (dt_ne ok (dp_var 6) (dp_var 7))
        (dss_cons (ds_setLc ok 3 (blkOk_by (N := N_finest) (sc := defScope st_finest) (own := [("mark", 10)]) (by decide +kernel)) (dlc [("mark", 10)] (dj_lst (dp_var 3)) (dg_name (ok.blk _) 10) (by decide) dts_nil (de_if (dt_eq (ok.blk _) (dp_var 10) (dp_var 7)) (de_var 6) (de_var 10))))
        (dss_one (ds_dropM (dm_meth1 4 PySem.F.slot_list_extend PySem.F.type_list_extend (fun _ => mt_extend) rm_ext (((do_lc ok (blkOk_by (N := N_finest) (sc := defScope st_finest) (own := [("maker", 11)]) (by decide +kernel)) (dlc [("maker", 11)] (dj_lst (dp_var 1)) (dg_name (ok.blk _) 11) (by decide) dts_nil (de_tup (da_cons (de_ix (dp_var 11) (dp_var 8)) (da_cons (de_ix (dp_var 11) (dp_var 9)) da_nil)))))).frz).m))))
        dss_nil)))))))
      (dsx_rest fun _ => pss_one (ps_ret (pe_callS op (hr.mono (by decide)) rfl hmp Fp.kp hbp (passAt (W := fun cls d _ H => E cls d H) (takes_of rfl rfl rfl rfl)) (pa_cons (pv 3) pa_nil))))))))
    obtain ⟨ts, a1, a2⟩ := key.ex
    refine ⟨ts, a1 (), ?_⟩
    have e3 : ds.length = 3 := G_finest_len ds d h4
    unfold G_finest at h4
    rw [if_pos e3] at h4
    split at h4
    · rename_i ρ eρ
      have rl := start_stt (N := N_finest) zh h3
      have rl' : Rl K T H Z Z H (L2.start N_finest vs) (ds.map .dat ++ List.replicate 9 .no) := by
        have e : N_finest.length - ds.length = 9 := by rw [e3]; rfl
        rw [← e]; exact rl
      refine a2 H Z Z H _ _ rl' ρ eρ _ fun Z' H' σ' r' => ?_
      split at h4
      · rename_i ms hms
        obtain ⟨Z2, r2⟩ := r'.frz hms (d := .lst ms) rfl
        obtain ⟨o, g1, v, rfl, g2⟩ := r2.st.ok 3 (.dat (.lst ms)) (by rw [List.getElem?_set_self (List.getElem?_eq_some_iff.mp hms).1])
        refine ⟨v, g1, Z2, [.lst ms], d, rfl, r2.st.zh, .cons g2 .nil, h4, fun v3 Z3 H3 Zn x sm nw rp => ?_⟩
        refine h5 v3 Z3 H3 Zn ⟨r2.bs.zz.trans x.zz, r2.bs.hh.trans x.hh, x.zh, fun a o e => ?_⟩ sm (fun a o e => same_none r2.bs.hh (nw a o e)) rp
        rcases x.nw a o e with e | e
        · exact r2.bs.nw a o e
        · exact .inr (same_none r2.bs.hh e)
      · cases h4
    · cases h4
end
/-- what finest answers -/
theorem ev_finest {n : Nat} {mk : List (List Nat)} {ps : List (Nat × Nat)} (hn : n ≤ 100) (hmk : okMk n mk) (hps : okPs n ps) : ∃ ms, ms.length = n ∧ Good n mk ps ms ∧ G_finest [nD n, MK mk, PSD ps] = some (GL (canon n ms)) := by
  obtain ⟨ms, s4, s5, s6, s7, s8, s9, h1, h2, h3⟩ := ev_fin hn hmk hps
  refine ⟨ms, h1, h2, ?_⟩
  unfold G_finest
  rw [if_pos (show [nD n, MK mk, PSD ps].length = 3 from rfl), h3]
  show G_parts_by [.lst (ms.map nD)] = _
  have e1 : ms.map nD = (ms.map Int.ofNat).map .int := by rw [List.map_map]; rfl
  rw [e1]
  show (intsOf ((ms.map Int.ofNat).map .int)).bind (fun ms => ifO (ms.length ≤ 100000) (D.lst ((groups ms ms.length).map fun g => .lst (g.2.map .int)))) = _
  rw [intsOf_map]
  show ifO ((ms.map Int.ofNat).length ≤ 100000) (D.lst ((groups (ms.map Int.ofNat) (ms.map Int.ofNat).length).map fun g => .lst (g.2.map .int))) = _
  rw [ifO_pos (by simp; omega), List.length_map, groups_eq ms ms.length (Nat.le_refl _), h1]
  unfold GL canon
  rw [List.map_map, List.map_map]
  congr 2
  refine map_ext fun x hx => ?_
  show D.lst ((((List.range n).filter fun y => decide (gd ms y = gd ms x)).map Int.ofNat).map .int) = LN _
  rw [List.map_map]
  rfl
end G

set_option Elab.async false
set_option linter.all false
set_option maxRecDepth 100000
set_option maxHeartbeats 4000000
namespace G
open PySem L2 DL
variable {P : Program} {w : World} {K : PySem.W.Frag} {mg : Str → Option Value} {base : Heap} {T : Tb}
def F_finest : List D → Option (Except Nat S) := fun ds => (G_finest ds).map fun d => .ok (.dat d)
abbrev st_law : Stmt := top 14
abbrev N_law : List Str := ["_law_script", "_law_cell", "_law_wide", "_law_high", "_law_spare", "_law_many", "_law_way", "_law_by", "_law_pairs", "_law_makers", "_law_due", "_law_handed", "_law_found", "_law_again", "_law_y", "_law_maker_here"]
theorem sc_law : FnScope N_law ["_law_script"] (defScope st_law) := ⟨rfl, rfl, rfl, by decide +kernel, rfl, by decide +kernel, by decide +kernel⟩
section
variable {f : Addr} {cdv : Value} {A : Around} {outer : List PySem.Env} {s : Shared} {H : Hp} {E : XK}
def B_lawA : SF :=
 (sSeq (sAsg 1 (datE (eBin gMod (frzF (eBinO gMulO (eBin gMod (frzF (eCall F__law_cell_at (aCons (eVar 0) (aCons (eC (.int 0)) aNil)))) (eBin gPow (eC (.int 10)) (eC (.int 60)))) (eC (.int 39373)))) (eC (.int 2147483587)))))
 (sSeq (sAsg 2 (eBinO gAdd (eC (.int 1)) (eBin gMod (eVarP 1) (eC (.int 7)))))
 (sSeq (sAsg 3 (eBinO gAdd (eC (.int 1)) (eBin gMod (eBin gFdiv (eVarP 1) (eC (.int 7))) (eC (.int 8)))))
 (sSeq (sAsg 4 (datE (eBin gMod (eBin gFdiv (eVarP 1) (eC (.int 56))) (eC (.int 5)))))
 (sSeq (sAsg 5 (eBinO gAdd (frzF (eBinO gMulO (eVarP 2) (eVarP 3))) (eVarP 4)))
 (sSeq (sAsg 6 (datE (eBin gMod (eBin gFdiv (eVarP 1) (eC (.int 280))) (eC (.int 4)))))
 (sSeq (frzI 5 (sAsg 7 (eCall F__law_turning (aCons (frzF (eCall F__law_cell_at (aCons (eVar 0) (aCons (eC (.int 1)) aNil)))) (aCons (eVar 5) aNil)))))
 (sSeq (sAsg 8 (eComp [14] (ofLst (frzF (eSl (eVarP 0) (pAt (eC (.int 2))) (pAt (frzF (eBinO gAdd (eC (.int 2)) (eBin gMod (eBin gFdiv (eVarP 1) (eC (.int 2240))) (eC (.int 25))))))))) (uName 14) tYesF (frzF (eCall F__law_pair (aCons (eVar 14) (aCons (eVar 2) (aCons (eVar 5) (aCons (eBin gEq (eBin gMod (eBin gFdiv (eVarP 1) (eC (.int 1120))) (eC (.int 2))) (eC (.int 0))) (aCons (eVar 7) aNil)))))))))
 (sSeq (sAsg 9 (eComp [14] (ofLst (frzF (eSl (eVarP 0) (pAt (eC (.int 5))) (pAt (eC (.int 45)))))) (uName 14) tYesF (frzF (eCall F__law_strewn (aCons (frzF (eCall F__law_maker (aCons (eVar 14) (aCons (eVar 2) (aCons (eVar 3) (aCons (eVar 4) (aCons (eVar 6) aNil))))))) (aCons (eVar 7) aNil))))))
 (sSeq (frzI 8 (frzI 9 (frzI 5 (sAsg 10 (eCall F__law_parts (aCons (eVar 5) (aCons (eVar 9) (aCons (eVar 8) aNil))))))))
 sNext))))))))))
theorem law_A (X : Bl K mg T) (h__law_cell_at : FnD P w K mg base T 1 "_law_cell_at" 2 F__law_cell_at) (h__law_turning : FnD P w K mg base T 1 "_law_turning" 2 F__law_turning) (h__law_pair : FnD P w K mg base T 1 "_law_pair" 5 F__law_pair) (h__law_strewn : FnD P w K mg base T 1 "_law_strewn" 2 F__law_strewn) (h__law_maker : FnD P w K mg base T 2 "_law_maker" 5 F__law_maker) (h__law_parts : FnD P w K mg base T 2 "_law_parts" 3 F__law_parts) (h_finest : FnD P w K mg base T 2 "finest" 3 F_finest) (h__law_alike : FnD P w K mg base T 1 "_law_alike" 2 F__law_alike) (h__law_kept : FnD P w K mg base T 1 "_law_kept" 2 F__law_kept) (ok : FOk (Fam.of (cxOf (L2.CX P w) P w K mg base N_law "law" (defScope st_law) f cdv A outer s H E)) (fun cls d _ H => E cls d H) 3) {tl : TS} (hrest : ∀ i, PSs ((Fam.of (cxOf (L2.CX P w) P w K mg base N_law "law" (defScope st_law) f cdv A outer s H E)).X i) ((defBody st_law).drop 10) tl) : DSX (Fam.of (cxOf (L2.CX P w) P w K mg base N_law "law" (defScope st_law) f cdv A outer s H E)) T (fun cls d _ H => E cls d H) ((defBody st_law).drop 0) B_lawA tl :=
 (dsx_cons (ds_set ok 1 ((de_mod (((do_mul ((de_mod (((do_call ok h__law_cell_at (by decide) (da_cons (de_var 0) (da_cons de_int da_nil)))).frz).p ((de_pow (de_int).p (de_int).p)).p)).p (de_int).p)).frz).p (de_int).p)).o)
 (dsx_cons (ds_set ok 2 (do_add (de_int).p ((de_mod (dp_var 1) (de_int).p)).p))
 (dsx_cons (ds_set ok 3 (do_add (de_int).p ((de_mod ((de_fdiv (dp_var 1) (de_int).p)).p (de_int).p)).p))
 (dsx_cons (ds_set ok 4 ((de_mod ((de_fdiv (dp_var 1) (de_int).p)).p (de_int).p)).o)
 (dsx_cons (ds_set ok 5 (do_add (((do_mul (dp_var 2) (dp_var 3))).frz).p (dp_var 4)))
 (dsx_cons (ds_set ok 6 ((de_mod ((de_fdiv (dp_var 1) (de_int).p)).p (de_int).p)).o)
 (dsx_cons (ds_frz 5 (ds_set ok 7 (do_call ok h__law_turning (by decide) (da_cons ((do_call ok h__law_cell_at (by decide) (da_cons (de_var 0) (da_cons de_int da_nil)))).frz (da_cons (de_var 5) da_nil)))))
 (dsx_cons (ds_setLc ok 8 (blkOk_by (N := N_law) (sc := defScope st_law) (own := [("_law_y", 14)]) (by decide +kernel)) (dlc [("_law_y", 14)] (dj_lst (((do_sl (dp_var 0) (dpart_at de_int) (dpart_at ((do_add (de_int).p ((de_mod ((de_fdiv (dp_var 1) (de_int).p)).p (de_int).p)).p)).frz))).frz).p) (dg_name (ok.blk _) 14) (by decide) dts_nil ((do_call (ok.blk _) h__law_pair (by decide) (da_cons (de_var 14) (da_cons (de_var 2) (da_cons (de_var 5) (da_cons (de_eq (ok.blk _) ((de_mod ((de_fdiv (dp_var 1) (de_int).p)).p (de_int).p)).p (de_int).p) (da_cons (de_var 7) da_nil))))))).frz))
 (dsx_cons (ds_setLc ok 9 (blkOk_by (N := N_law) (sc := defScope st_law) (own := [("_law_y", 14)]) (by decide +kernel)) (dlc [("_law_y", 14)] (dj_lst (((do_sl (dp_var 0) (dpart_at de_int) (dpart_at de_int))).frz).p) (dg_name (ok.blk _) 14) (by decide) dts_nil ((do_call (ok.blk _) h__law_strewn (by decide) (da_cons ((do_call (ok.blk _) h__law_maker (by decide) (da_cons (de_var 14) (da_cons (de_var 2) (da_cons (de_var 3) (da_cons (de_var 4) (da_cons (de_var 6) da_nil))))))).frz (da_cons (de_var 7) da_nil)))).frz))
 (dsx_cons (ds_frz 8 (ds_frz 9 (ds_frz 5 (ds_set ok 10 (do_call ok h__law_parts (by decide) (da_cons (de_var 5) (da_cons (de_var 9) (da_cons (de_var 8) da_nil))))))))
 (dsx_rest hrest)))))))))))
def ifTest : Stmt → Expr
  | .If c _ _ _ => c
  | _ => .Name "" ⟨0, 0, 0, 0⟩
def B_T1 : EF Bool := (bOr (bNot (toB (frzF (eCall F__law_alike (aCons (eVar 12) (aCons (eVar 10) aNil)))))) (toB (eBin gNe (eVarP 11) (frzF (eLst (aCons (eVar 9) (aCons (eVar 8) aNil)))))))
theorem law_T1 (X : Bl K mg T) (h__law_cell_at : FnD P w K mg base T 1 "_law_cell_at" 2 F__law_cell_at) (h__law_turning : FnD P w K mg base T 1 "_law_turning" 2 F__law_turning) (h__law_pair : FnD P w K mg base T 1 "_law_pair" 5 F__law_pair) (h__law_strewn : FnD P w K mg base T 1 "_law_strewn" 2 F__law_strewn) (h__law_maker : FnD P w K mg base T 2 "_law_maker" 5 F__law_maker) (h__law_parts : FnD P w K mg base T 2 "_law_parts" 3 F__law_parts) (h_finest : FnD P w K mg base T 2 "finest" 3 F_finest) (h__law_alike : FnD P w K mg base T 1 "_law_alike" 2 F__law_alike) (h__law_kept : FnD P w K mg base T 1 "_law_kept" 2 F__law_kept) (ok : FOk (Fam.of (cxOf (L2.CX P w) P w K mg base N_law "law" (defScope st_law) f cdv A outer s H E)) (fun cls d _ H => E cls d H) 3) : DT (Fam.of (cxOf (L2.CX P w) P w K mg base N_law "law" (defScope st_law) f cdv A outer s H E)) T (fun cls d _ H => E cls d H) (ifTest ((defBody st_law).getD 12 (.Pass ⟨0, 0, 0, 0⟩))) B_T1 :=
 ((dw_or (dt_not (dt_val ((do_call ok h__law_alike (by decide) (da_cons (de_var 12) (da_cons (de_var 10) da_nil)))).frz)) (dw_or1 (dt_ne ok (dp_var 11) (((do_lst (da_cons (de_var 9) (da_cons (de_var 8) da_nil)))).frz).p)))).pt
def B_T2 : EF Bool := (bNot (toB (eFn gAll (aCons (frzF (eComp [15] (ofLst (eVarP 9)) (uName 15) tYesF (frzF (eCall F__law_kept (aCons (eVar 12) (aCons (eVar 15) aNil)))))) aNil))))
theorem law_T2 (X : Bl K mg T) (h__law_cell_at : FnD P w K mg base T 1 "_law_cell_at" 2 F__law_cell_at) (h__law_turning : FnD P w K mg base T 1 "_law_turning" 2 F__law_turning) (h__law_pair : FnD P w K mg base T 1 "_law_pair" 5 F__law_pair) (h__law_strewn : FnD P w K mg base T 1 "_law_strewn" 2 F__law_strewn) (h__law_maker : FnD P w K mg base T 2 "_law_maker" 5 F__law_maker) (h__law_parts : FnD P w K mg base T 2 "_law_parts" 3 F__law_parts) (h_finest : FnD P w K mg base T 2 "finest" 3 F_finest) (h__law_alike : FnD P w K mg base T 1 "_law_alike" 2 F__law_alike) (h__law_kept : FnD P w K mg base T 1 "_law_kept" 2 F__law_kept) (ok : FOk (Fam.of (cxOf (L2.CX P w) P w K mg base N_law "law" (defScope st_law) f cdv A outer s H E)) (fun cls d _ H => E cls d H) 3) : DT (Fam.of (cxOf (L2.CX P w) P w K mg base N_law "law" (defScope st_law) f cdv A outer s H E)) T (fun cls d _ H => E cls d H) (ifTest ((defBody st_law).getD 13 (.Pass ⟨0, 0, 0, 0⟩))) B_T2 :=
 (dt_not (dt_val (de_all (dap_cons (((do_lc ok (blkOk_by (N := N_law) (sc := defScope st_law) (own := [("_law_maker_here", 15)]) (by decide +kernel)) (dlc [("_law_maker_here", 15)] (dj_lst (dp_var 9)) (dg_name (ok.blk _) 15) (by decide) dts_nil ((do_call (ok.blk _) h__law_kept (by decide) (da_cons (de_var 12) (da_cons (de_var 15) da_nil)))).frz))).frz).p dap_nil) X.m_all)))
def B_lawC : SF :=
 (sSeq (frzI 9 (frzI 5 (sAsg 13 (eCall F_finest (aCons (eVar 5) (aCons (eVar 9) (aCons (frzF (eSl (eVarP 8) pNo (pAt (eC (.int 1))))) aNil)))))))
 (frzI 10 (frzI 12 (frzI 9 (frzI 5 (frzI 13 (sRet (datE (eAnd (frzF (eCall F__law_alike (aCons (eVar 13) (aCons (frzF (eCall F__law_parts (aCons (eVar 5) (aCons (eVar 9) (aCons (frzF (eSl (eVarP 8) pNo (pAt (eC (.int 1))))) aNil))))) aNil)))) (frzF (eCall F__law_alike (aCons (eVar 12) (aCons (eVar 10) aNil)))))))))))))
theorem law_C (X : Bl K mg T) (h__law_cell_at : FnD P w K mg base T 1 "_law_cell_at" 2 F__law_cell_at) (h__law_turning : FnD P w K mg base T 1 "_law_turning" 2 F__law_turning) (h__law_pair : FnD P w K mg base T 1 "_law_pair" 5 F__law_pair) (h__law_strewn : FnD P w K mg base T 1 "_law_strewn" 2 F__law_strewn) (h__law_maker : FnD P w K mg base T 2 "_law_maker" 5 F__law_maker) (h__law_parts : FnD P w K mg base T 2 "_law_parts" 3 F__law_parts) (h_finest : FnD P w K mg base T 2 "finest" 3 F_finest) (h__law_alike : FnD P w K mg base T 1 "_law_alike" 2 F__law_alike) (h__law_kept : FnD P w K mg base T 1 "_law_kept" 2 F__law_kept) (ok : FOk (Fam.of (cxOf (L2.CX P w) P w K mg base N_law "law" (defScope st_law) f cdv A outer s H E)) (fun cls d _ H => E cls d H) 3) : DSs (Fam.of (cxOf (L2.CX P w) P w K mg base N_law "law" (defScope st_law) f cdv A outer s H E)) T (fun cls d _ H => E cls d H) ((defBody st_law).drop 15) B_lawC :=
 (dss_cons (ds_frz 9 (ds_frz 5 (ds_set ok 13 (do_call ok h_finest (by decide) (da_cons (de_var 5) (da_cons (de_var 9) (da_cons ((do_sl (dp_var 8) dpart_no (dpart_at de_int))).frz da_nil)))))))
 (dss_one (ds_frz 10 (ds_frz 12 (ds_frz 9 (ds_frz 5 (ds_frz 13 (ds_ret ((de_and ((do_call ok h__law_alike (by decide) (da_cons (de_var 13) (da_cons ((do_call ok h__law_parts (by decide) (da_cons (de_var 5) (da_cons (de_var 9) (da_cons ((do_sl (dp_var 8) dpart_no (dpart_at de_int))).frz da_nil))))).frz da_nil)))).frz (de_one ((do_call ok h__law_alike (by decide) (da_cons (de_var 12) (da_cons (de_var 10) da_nil)))).frz))).o))))))))
end
end G

set_option Elab.async false
set_option linter.all false
set_option maxRecDepth 100000
set_option maxHeartbeats 2000000
namespace G
open PySem L2 DL
theorem comp_ex {β : Type} {u : D → Option (List (Nat × D))} {el : EF D} {ρ : DL.Env} (R : β → D) (good : β → Prop) : ∀ (l : List Int), (∀ x : Int, ∃ b, good b ∧ ∃ ups, u (.int x) = some ups ∧ el (setD ρ ups) = some (.ok (R b))) → ∃ bs : List β, bs.length = l.length ∧ (∀ b ∈ bs, good b) ∧ compF u tYesF el ρ (l.map .int) = some (bs.map R)
  | [], _ => ⟨[], rfl, fun b hb => (by cases hb), rfl⟩
  | x :: r, h => by
    obtain ⟨b, h1, ups, h2, h3⟩ := h x
    obtain ⟨bs, h4, h5, h6⟩ := comp_ex R good r h
    refine ⟨b :: bs, by simp [h4], fun c hc => ?_, ?_⟩
    · rcases List.mem_cons.mp hc with rfl | hc
      · exact h1
      · exact h5 c hc
    · rw [List.map_cons]
      unfold compF
      rw [h2]
      simp only [tYesF, h3, h6]
      rfl
theorem cut_ints (ns : List Int) (a b : Int) (h0 : 0 ≤ a) (h1 : a ≤ b) : ∃ l : List Int, l.length ≤ (b - a).toNat ∧ cutD (ns.map .int) (some a) (some b) = l.map .int := by
  obtain ⟨i, rfl⟩ := Int.eq_ofNat_of_zero_le h0
  obtain ⟨j, rfl⟩ := Int.eq_ofNat_of_zero_le (Int.le_trans h0 h1)
  refine ⟨(ns.drop (min i ns.length)).take (min j ns.length - min i ns.length), ?_, ?_⟩
  · rw [List.length_take]
    omega
  · unfold cutD
    rw [List.length_map, HT.sIx_nat, HT.sIx_nat, List.map_take, List.map_drop]
theorem cut_one (l : List D) : cutD l none (some 1) = l.take 1 := by
  unfold cutD
  rw [HT.sIx_none, show HT.sIx l.length l.length (some 1) = min 1 l.length from HT.sIx_nat l.length l.length 1]
  cases l with
  | nil => rfl
  | cons a r => simp
theorem ev_lawA (ns : List Int) : ∃ (cell way : Int) (wide high spare n : Nat) (by_ : List Nat) (ps : List (Nat × Nat)) (mk : List (List Nat)) (ms : List Nat), n ≤ 100 ∧ okPs n ps ∧ okMk n mk ∧ ms.length = n ∧ Good n mk ps ms ∧
    B_lawA ([D.lsr (ns.map .int)].map .dat ++ List.replicate 15 .no) = some (.nx [.dat (.lsr (ns.map .int)), .dat (.int cell), .dat (nD wide), .dat (nD high), .dat (nD spare), .dat (nD n), .dat (.int way), .dat (TN by_), .dat (PSD ps), .dat (MK mk), .own ((canon n ms).map fun g => LN g), .no, .no, .no, .no, .no]) := by
  obtain ⟨b60, p60, o60, l60⟩ := pow_ex (i := 10) (j := 60) (n := 200) (by decide) (by decide +kernel) (by decide +kernel)
  have m60 : ∀ c : Int, gMod (.int c) (.int b60) = some (.int (c % b60)) := fun c => gMod_int o60
  have m1 : ∀ c : Int, gMulO (.int (c % b60)) (.int 39373) = some (.dat (.int (c % b60 * 39373))) := fun c => mul_ex (mod_bits (c := c) o60 l60) (show (39373 : Int).natAbs < 2 ^ 16 by decide) (by decide) (by decide) (by decide)
  have m2 : ∀ z : Int, gMod (.int z) (.int 2147483587) = some (.int (z % 2147483587)) := fun z => gMod_int (by decide)
  have mods : ∀ z j : Int, 0 < j → gMod (.int z) (.int j) = some (.int (z % j)) := fun z j h => gMod_int h
  have g7 : ∀ z : Int, gMod (.int z) (.int 7) = some (.int (z % 7)) := fun z => gMod_int (by decide)
  have g8 : ∀ z : Int, gMod (.int z) (.int 8) = some (.int (z % 8)) := fun z => gMod_int (by decide)
  have g5 : ∀ z : Int, gMod (.int z) (.int 5) = some (.int (z % 5)) := fun z => gMod_int (by decide)
  have g4 : ∀ z : Int, gMod (.int z) (.int 4) = some (.int (z % 4)) := fun z => gMod_int (by decide)
  have g2 : ∀ z : Int, gMod (.int z) (.int 2) = some (.int (z % 2)) := fun z => gMod_int (by decide)
  have g25 : ∀ z : Int, gMod (.int z) (.int 25) = some (.int (z % 25)) := fun z => gMod_int (by decide)
  have d7 : ∀ z : Int, gFdiv (.int z) (.int 7) = some (.int (z / 7)) := fun z => gFdiv_small (by decide) (by decide)
  have d56 : ∀ z : Int, gFdiv (.int z) (.int 56) = some (.int (z / 56)) := fun z => gFdiv_small (by decide) (by decide)
  have d280 : ∀ z : Int, gFdiv (.int z) (.int 280) = some (.int (z / 280)) := fun z => gFdiv_small (by decide) (by decide)
  have d1120 : ∀ z : Int, gFdiv (.int z) (.int 1120) = some (.int (z / 1120)) := fun z => gFdiv_small (by decide) (by decide)
  have d2240 : ∀ z : Int, gFdiv (.int z) (.int 2240) = some (.int (z / 2240)) := fun z => gFdiv_small (by decide) (by decide)
  have c0 := ev_cell_at ns 0
  have c1 := ev_cell_at ns 1
  generalize hcell : cellAt ns 0 % b60 * 39373 % 2147483587 = cell
  obtain ⟨wide, ew, hw⟩ : ∃ wide : Nat, 1 + cell % 7 = (wide : Int) ∧ 1 ≤ wide ∧ wide ≤ 7 := ⟨(1 + cell % 7).toNat, by omega, by omega, by omega⟩
  obtain ⟨high, eh, hh⟩ : ∃ high : Nat, 1 + cell / 7 % 8 = (high : Int) ∧ 1 ≤ high ∧ high ≤ 8 := ⟨(1 + cell / 7 % 8).toNat, by omega, by omega, by omega⟩
  obtain ⟨spare, es, hs⟩ : ∃ spare : Nat, cell / 56 % 5 = (spare : Int) ∧ spare ≤ 4 := ⟨(cell / 56 % 5).toNat, by omega, by omega⟩
  have hw7 : wide * high ≤ 56 := Nat.mul_le_mul hw.2 hh.2
  have hn0 : 1 ≤ wide * high := Nat.mul_le_mul hw.1 hh.1
  have hmul : gMulO (.int (wide : Int)) (.int (high : Int)) = some (.dat (.int ((wide : Int) * (high : Int)))) := gMulO_small (by omega) (by omega)
  obtain ⟨n, hn⟩ : ∃ n, n = wide * high + spare := ⟨_, rfl⟩
  have en : (wide : Int) * (high : Int) + (spare : Int) = (n : Int) := by rw [hn]; simp
  obtain ⟨by_, hb, eb⟩ := ev_turning (cellAt ns 1) n (by omega)
  -- the pairs
  obtain ⟨l1, hl1, el1⟩ := cut_ints ns 2 (2 + cell / 2240 % 25) (by omega) (by omega)
  obtain ⟨l2, hl2, el2⟩ := cut_ints ns 5 45 (by omega) (by omega)
  have hl1' : l1.length ≤ 24 := by omega
  have hl2' : l2.length ≤ 40 := by omega
  let e1 : EF D := frzF (eCall F__law_pair (aCons (eVar 14) (aCons (eVar 2) (aCons (eVar 5) (aCons (eBin gEq (eBin gMod (eBin gFdiv (eVarP 1) (eC (.int 1120))) (eC (.int 2))) (eC (.int 0))) (aCons (eVar 7) aNil))))))
  obtain ⟨ps, hps1, hps2, hps3⟩ := comp_ex (u := uName 14) (el := e1) (ρ := [.dat (.lsr (ns.map .int)), .dat (.int cell), .dat (nD wide), .dat (nD high), .dat (nD spare), .dat (nD n), .dat (.int (cell / 280 % 4)), .dat (TN by_), .no, .no, .no, .no, .no, .no, .no, .no]) (β := Nat × Nat) pD (fun p => p.1 < n ∧ p.2 < n) l1 (fun x => by
    obtain ⟨a, b, h1, h2, h3⟩ := ev_pair x wide n (decide (cell / 1120 % 2 = 0)) by_ (by omega) hw hb
    refine ⟨(a, b), ⟨h1, h2⟩, _, rfl, ?_⟩
    simp only [nD] at h3
    simp [e1, nD, d1120, g2]
    rw [h3]
    rfl)
  let e2 : EF D := frzF (eCall F__law_strewn (aCons (frzF (eCall F__law_maker (aCons (eVar 14) (aCons (eVar 2) (aCons (eVar 3) (aCons (eVar 4) (aCons (eVar 6) aNil))))))) (aCons (eVar 7) aNil)))
  obtain ⟨mk, hmk1, hmk2, hmk3⟩ := comp_ex (u := uName 14) (el := e2) (ρ := [.dat (.lsr (ns.map .int)), .dat (.int cell), .dat (nD wide), .dat (nD high), .dat (nD spare), .dat (nD n), .dat (.int (cell / 280 % 4)), .dat (TN by_), .own (ps.map pD), .no, .no, .no, .no, .no, .no, .no]) (β := List Nat) (fun m => TN m) (fun m => RowOf n m) l2 (fun x => by
    obtain ⟨m, h1, h2⟩ := ev_maker x wide high spare (cell / 280 % 4) hw hh hs
    rw [← hn] at h1
    obtain ⟨m', h3, h4⟩ := ev_strewn n (by omega) m by_ h1 hb
    refine ⟨m', h3, _, rfl, ?_⟩
    simp only [nD] at h2
    simp [e2, nD]
    rw [h2]
    simp
    rw [h4]
    rfl)
  have okP : okPs n ps := ⟨by omega, hps2⟩
  have okM : okMk n mk := ⟨by omega, hmk2⟩
  obtain ⟨ms, hms, hg, hpar⟩ := ev_parts (n := n) (mk := mk) (ps := ps) (by omega) okM okP
  refine ⟨cell, cell / 280 % 4, wide, high, spare, n, by_, ps, mk, ms, by omega, okP, okM, hms, hg, ?_⟩
  have eA : B_lawA = (sSeq (sAsg 1 (datE (eBin gMod (frzF (eBinO gMulO (eBin gMod (frzF (eCall F__law_cell_at (aCons (eVar 0) (aCons (eC (.int 0)) aNil)))) (eBin gPow (eC (.int 10)) (eC (.int 60)))) (eC (.int 39373)))) (eC (.int 2147483587)))))
 (sSeq (sAsg 2 (eBinO gAdd (eC (.int 1)) (eBin gMod (eVarP 1) (eC (.int 7)))))
 (sSeq (sAsg 3 (eBinO gAdd (eC (.int 1)) (eBin gMod (eBin gFdiv (eVarP 1) (eC (.int 7))) (eC (.int 8)))))
 (sSeq (sAsg 4 (datE (eBin gMod (eBin gFdiv (eVarP 1) (eC (.int 56))) (eC (.int 5)))))
 (sSeq (sAsg 5 (eBinO gAdd (frzF (eBinO gMulO (eVarP 2) (eVarP 3))) (eVarP 4)))
 (sSeq (sAsg 6 (datE (eBin gMod (eBin gFdiv (eVarP 1) (eC (.int 280))) (eC (.int 4)))))
 (sSeq (frzI 5 (sAsg 7 (eCall F__law_turning (aCons (frzF (eCall F__law_cell_at (aCons (eVar 0) (aCons (eC (.int 1)) aNil)))) (aCons (eVar 5) aNil)))))
 (sSeq (sAsg 8 (eComp [14] (ofLst (frzF (eSl (eVarP 0) (pAt (eC (.int 2))) (pAt (frzF (eBinO gAdd (eC (.int 2)) (eBin gMod (eBin gFdiv (eVarP 1) (eC (.int 2240))) (eC (.int 25))))))))) (uName 14) tYesF e1))
 (sSeq (sAsg 9 (eComp [14] (ofLst (frzF (eSl (eVarP 0) (pAt (eC (.int 5))) (pAt (eC (.int 45)))))) (uName 14) tYesF e2))
 (sSeq (frzI 8 (frzI 9 (frzI 5 (sAsg 10 (eCall F__law_parts (aCons (eVar 5) (aCons (eVar 9) (aCons (eVar 8) aNil))))))))
 sNext)))))))))) := rfl
  rw [eA]
  generalize e1 = E1 at *
  generalize e2 = E2 at *
  have s1 : gSl (.lsr (ns.map .int)) (some 2) (some (2 + cell / 2240 % 25)) = some (.own (l1.map .int)) := by
    show some (S.own (cutD _ _ _)) = _
    rw [el1]
  have s2 : gSl (.lsr (ns.map .int)) (some 5) (some 45) = some (.own (l2.map .int)) := by
    show some (S.own (cutD _ _ _)) = _
    rw [el2]
  have z1 : ifO (l1.length ≤ sizeLine) () = some () := ifO_pos (size10 (by omega))
  have z2 : ifO (l2.length ≤ sizeLine) () = some () := ifO_pos (size10 (by omega))
  simp only [nD] at eb hps3 hmk3 hpar ⊢
  have c0' : F__law_cell_at [.lsr (ns.map .int), .int 0] = some (.ok (.dat (.int (cellAt ns 0)))) := c0
  have c1' : F__law_cell_at [.lsr (ns.map .int), .int 1] = some (.ok (.dat (.int (cellAt ns 1)))) := c1
  simp [c0', c1', p60, m60, m1, m2, hcell, g7, g8, g5, g4, g25, d7, d56, d280, d2240, ew, eh, es, hmul, en, eb, eComp, s1, s2, z1, z2, hps3, hmk3, hpar]
end G

set_option Elab.async false
set_option linter.all false
set_option maxRecDepth 100000
set_option maxHeartbeats 2000000
namespace G
open PySem L2 DL
abbrev HD (mk : List (List Nat)) (ps : List (Nat × Nat)) : D := .lst [MK mk, PSD ps]
theorem plain_MK (mk : List (List Nat)) : Plain 2 (MK mk) := plain_lst (k := 1) fun d hd => by
  obtain ⟨x, _, rfl⟩ := List.mem_map.mp hd
  exact plain_TN _
theorem plain_PSD (ps : List (Nat × Nat)) : Plain 2 (PSD ps) := plain_lst (k := 1) fun d hd => by
  obtain ⟨x, _, rfl⟩ := List.mem_map.mp hd
  exact plain_TN _
theorem plain_HD (mk : List (List Nat)) (ps : List (Nat × Nat)) : Plain 3 (HD mk ps) := plain_lst (k := 2) fun d hd => by
  rcases List.mem_cons.mp hd with rfl | hd
  · exact plain_MK mk
  · rw [List.mem_singleton.mp hd]
    exact plain_PSD ps
section
variable {n : Nat} {mk : List (List Nat)} {ps : List (Nat × Nat)} {ms : List Nat} (A0 A1 A2 A3 A4 A6 A7 A13 A14 A15 : S)
theorem ev_T1 (hn : n ≤ 100) (A5 : S) : B_T1 [A0, A1, A2, A3, A4, A5, A6, A7, .dat (PSD ps), .dat (MK mk), .dat (GL (canon n ms)), .dat (HD mk ps), .dat (GL (canon n ms)), A13, A14, A15] = some (.ok false) := by
  have ha := ev_alike (canon n ms) fun l hl => Nat.le_trans (canon_plen hl) hn
  have he : gNe (HD mk ps) (HD mk ps) = some (.bl false) := by
    unfold gNe
    rw [gEqB_refl (plain_HD mk ps) (by omega)]
    rfl
  have hs : ifO (2 ≤ sizeLine) (S.own [MK mk, PSD ps]) = some (.own [MK mk, PSD ps]) := ifO_pos (by decide)
  simp [B_T1, ha, hs, he]
theorem ev_T2 (hn : n ≤ 100) (hmk : okMk n mk) (hg : Good n mk ps ms) (A5 A8 A10 A11 : S) : B_T2 [A0, A1, A2, A3, A4, A5, A6, A7, A8, .dat (MK mk), A10, A11, .dat (GL (canon n ms)), A13, A14, A15] = some (.ok false) := by
  have hc := comp_map (u := uName 15) (el := frzF (eCall F__law_kept (aCons (eVar 12) (aCons (eVar 15) aNil)))) (ρ := [A0, A1, A2, A3, A4, A5, A6, A7, A8, .dat (MK mk), A10, A11, .dat (GL (canon n ms)), A13, A14, .no]) (fun m => TN m) (fun _ => D.bl true) mk (fun m hm => ⟨_, rfl, by
    have := ev_kept hn hg hm (hmk.2 m hm)
    simp [this]⟩)
  have hs : ifO (mk.length ≤ sizeLine) () = some () := ifO_pos (size10 (by have := hmk.1; omega))
  have ha : gAll [.lst (mk.map fun _ => D.bl true)] = some (.bl true) := by
    have := gAll_ap (bs := mk.map fun _ => true)
    rw [show (mk.map fun _ => true).all id = true by
      rw [List.all_eq_true]
      intro x hx
      obtain ⟨_, _, rfl⟩ := List.mem_map.mp hx
      rfl, List.map_map] at this
    exact this
  unfold B_T2
  simp only [bNot_ap, toB_ap, eFn_ap, aCons_ap, aNil_ap, frzF_ap, eComp, ofLst_ap, eVarP_ap, List.set_cons_succ, List.set_cons_zero, List.getElem?_cons_zero, List.getElem?_cons_succ, bnd_ok, lstOf_lst, okO_some, List.length_map, hs, Option.bind_some, wipeD_cons, wipeD_nil]
  rw [hc]
  simp only [Option.map_some, okO_some, bnd_ok, frzS_own, ha, Bool.not_true]
theorem ev_lawC (hn : n ≤ 100) (hmk : okMk n mk) (hps : okPs n ps) (A11 : S) : B_lawC [A0, A1, A2, A3, A4, .dat (nD n), A6, A7, .dat (PSD ps), .dat (MK mk), .dat (GL (canon n ms)), A11, .dat (GL (canon n ms)), A13, A14, A15] = some (.rt (.dat (.bl true))) := by
  have okp : okPs n (ps.take 1) := ⟨by rw [List.length_take]; omega, fun p hp => hps.2 p (List.mem_of_mem_take hp)⟩
  obtain ⟨m1, e1, g1, f1⟩ := ev_finest hn hmk okp
  obtain ⟨m2, e2, g2, f2⟩ := ev_parts hn hmk okp
  have eq : canon n m1 = canon n m2 := canon_ext fun x y hx hy => g1.same g2 hx hy
  have cut : gSl (PSD ps) none (some 1) = some (.own ((ps.take 1).map pD)) := by
    show some (S.own (cutD (ps.map pD) none (some 1))) = _
    rw [cut_one, List.map_take]
  have ha := ev_alike (canon n ms) fun l hl => Nat.le_trans (canon_plen hl) hn
  have hb := ev_alike (canon n m2) fun l hl => Nat.le_trans (canon_plen hl) hn
  have hf : F_finest [nD n, MK mk, PSD (ps.take 1)] = some (.ok (.dat (GL (canon n m2)))) := by
    unfold F_finest
    rw [f1, eq]
    rfl
  unfold B_lawC
  simp only [sSeq_ap, frzI_ap, sAsg_ap, eCall_ap, aCons_ap, aNil_ap, eVar_ap, eVarP_ap, frzF_ap, eSl_ap, pNo_ap, pAt_ap, eC_ap, List.set_cons_succ, List.set_cons_zero, List.getElem?_cons_zero, List.getElem?_cons_succ, bnd_ok, frzS_dat, cut, okO_some, frzS_own, hf, errS_ok, sRet_ap, datE_ap, eAnd_ap, f2, hb, ha]
end
end G

set_option Elab.async false
set_option linter.all false
set_option maxRecDepth 100000
set_option maxHeartbeats 4000000
namespace G
open PySem L2 DL
def spLaw (K : PySem.W.Frag) : Sp := fun vs H Q _ => ∃ (a : Addr) (ns : List Int), vs = [.ref a] ∧ SqL K H a (ns.map V.int) ∧ ∀ H', Q (.bl true) H'
section
variable {P : Program} {w : World} {K : PySem.W.Frag} {mg : Str → Option Value} {base : Heap} {T : Tb}
structure Fs (P : Program) (w : World) (K : PySem.W.Frag) (mg : Str → Option Value) (base : Heap) (T : Tb) : Prop where
  cell_at : FnD P w K mg base T 1 "_law_cell_at" 2 F__law_cell_at
  turning : FnD P w K mg base T 1 "_law_turning" 2 F__law_turning
  pair : FnD P w K mg base T 1 "_law_pair" 5 F__law_pair
  strewn : FnD P w K mg base T 1 "_law_strewn" 2 F__law_strewn
  maker : FnD P w K mg base T 2 "_law_maker" 5 F__law_maker
  parts : FnD P w K mg base T 2 "_law_parts" 3 F__law_parts
  fin : FnD P w K mg base T 2 "finest" 3 F_finest
  alike : FnD P w K mg base T 1 "_law_alike" 2 F__law_alike
  kept : FnD P w K mg base T 1 "_law_kept" 2 F__law_kept
theorem ok_law {f ff : Addr} {fd fdf : FuncData} (Fn : Fun K "law" "law" st_law f fd) (X : Bl K mg T) (h : Fs P w K mg base T) (of : FnOk P w K mg base (L2.CX P w) 2 ff fdf ["many", "makers", "pairs"] (spN K T 3 G_finest)) (hmf : mg "finest" = some (.ref ff))
    (hkf : PySem.W.keepIn K (.ref ff) = true) (hbf : Binds K fdf ["many", "makers", "pairs"] []) : FnOk P w K mg base (L2.CX P w) 4 f fd ["_law_script"] (spLaw K) := by
  refine Fn.okX sc_law (fun vs H Q E h => ?_) (fun cdv A outer s H vs Q E hr h2 => ?_)
  · obtain ⟨a, ns, rfl, _⟩ := h
    rfl
  · obtain ⟨a, ns, rfl, hS, k⟩ := h2
    have ok : FOk (Fam.of (cxOf (L2.CX P w) P w K mg base N_law "law" (defScope st_law) f cdv A outer s H E)) (fun cls d _ H => E cls d H) 3 :=
      ⟨sc_law.nd, fun _ => takes_of rfl rfl rfl rfl, fun _ => passes_of rfl, fun _ => hr⟩
    obtain ⟨t1, a1, b1⟩ := (law_T1 X h.cell_at h.turning h.pair h.strewn h.maker h.parts h.fin h.alike h.kept ok).ex
    obtain ⟨t2, a2, b2⟩ := (law_T2 X h.cell_at h.turning h.pair h.strewn h.maker h.parts h.fin h.alike h.kept ok).ex
    obtain ⟨tc, a3, b3⟩ := (law_C X h.cell_at h.turning h.pair h.strewn h.maker h.parts h.fin h.alike h.kept ok).ex
    have rest : ∀ _ : Unit, PSs (cxOf (L2.CX P w) P w K mg base N_law "law" (defScope st_law) f cdv A outer s H E) ((defBody st_law).drop 10) _ := fun _ =>
      pss_cons (ps_set (i := 11) sc_law.nd rfl (.inl rfl) (pe_lst (pa_cons (pe_callTy call_list_of rfl X.m_list (by decide +kernel) (pa_cons (pv 9) pa_nil)) (pa_cons (pe_callTy call_list_of rfl X.m_list (by decide +kernel) (pa_cons (pv 8) pa_nil)) pa_nil))))
      (pss_cons (ps_set (i := 12) sc_law.nd rfl (.inr rfl) (pe_callS of (hr.mono (by decide)) rfl hmf hkf hbf (passAt (W := fun cls d _ H => E cls d H) (takes_of rfl rfl rfl rfl)) (pa_cons (pv 5) (pa_cons (pe_ix ix_list (pv 11) pe_int (fun _ _ => rfl)) (pa_cons (pe_ix ix_list (pv 11) pe_int (fun _ _ => rfl)) pa_nil)))))
      (pss_cons (ps_if (a1 ()) (pss_one (ps_ret pe_bl)) pss_nil)
      (pss_cons (ps_if (a2 ()) (pss_one (ps_ret pe_bl)) pss_nil)
      (pss_cons (ps_expr (pe_bm0 PySem.F.plainAttrs_list PySem.F.slot_list_clear PySem.F.type_list_clear mt_clear (pe_ix ix_list (pv 11) pe_int (fun _ _ => rfl))))
      (a3 ())))))
    obtain ⟨ts, a4, b4⟩ := (law_A X h.cell_at h.turning h.pair h.strewn h.maker h.parts h.fin h.alike h.kept ok rest).ex
    refine ⟨ts, a4 (), ?_⟩
    obtain ⟨cell, way, wide, high, spare, n, by_, ps, mk, ms, hn, okP, okM, hms, hg, eA⟩ := ev_lawA ns
    have rl0 : Rl K T H H H H (L2.start N_law [.ref a]) ([D.lsr (ns.map .int)].map .dat ++ List.replicate 15 .no) := start_stt (N := N_law) (Same.refl H) (Reps.cons ⟨a, ns.map V.int, rfl, hS, Reps.ofInts ns⟩ Reps.nil)
    refine b4 H H H H _ _ rl0 _ eA _ fun Z1 H1 σ1 r1 => ?_
    obtain ⟨Z2, r2⟩ := r1.frz (j := 10) (s := .own ((canon n ms).map fun g => LN g)) (d := GL (canon n ms)) rfl rfl
    have zh2 := r2.st.zh
    obtain ⟨v5, g5, e5⟩ := r2.st.var (i := 5) (d := nD n) rfl
    cases e5
    obtain ⟨v8, g8, p8, x8, rfl, z8, q8⟩ := r2.st.var (i := 8) (d := PSD ps) rfl
    obtain ⟨v9, g9, p9, x9, rfl, z9, q9⟩ := r2.st.var (i := 9) (d := MK mk) rfl
    have len : σ1.length = 16 := r2.st.len
    -- handed
    refine ⟨.ref p9, g9, p9, x9, rfl, .inl (SqL.of (zh2 _ _ z9)), fun c1 hc1 => ?_⟩
    have s1 : Same H1 (upd H1 c1 (.lst x9)) := same_upd hc1
    refine ⟨.ref p8, g8, p8, x8, rfl, .inl (SqL.of (s1 _ _ (zh2 _ _ z8))), fun c2 hc2 => ⟨by show 2 ≤ sizeLine; decide, fun l hl => ?_⟩⟩
    have xa : Ext Z2 H1 (upd Z2 c1 (.lst x9)) (upd H1 c1 (.lst x9)) := Ext.frozen zh2 hc1
    have xb := xa.trans (Ext.frozen (o := .lst x8) xa.zh hc2)
    have xc := xb.trans (Ext.frozen (o := .lst [.ref c1, .ref c2]) xb.zh hl)
    have zc1 : (upd (upd (upd Z2 c1 (.lst x9)) c2 (.lst x8)) l (.lst [.ref c1, .ref c2])) c1 = some (.lst x9) := by
      have n1 : c1 ≠ c2 := fun z => by rw [← z, upd_same] at hc2; cases hc2
      have n2 : c1 ≠ l := fun z => by rw [← z, upd_ne n1, upd_same] at hl; cases hl
      rw [upd_ne n2, upd_ne n1, upd_same]
    have n3 : c2 ≠ l := fun z => by rw [← z, upd_same] at hl; cases hl
    have zc2 : (upd (upd (upd Z2 c1 (.lst x9)) c2 (.lst x8)) l (.lst [.ref c1, .ref c2])) c2 = some (.lst x8) := by
      rw [upd_ne n3, upd_same]
    have zl : (upd (upd (upd Z2 c1 (.lst x9)) c2 (.lst x8)) l (.lst [.ref c1, .ref c2])) l = some (.lst [.ref c1, .ref c2]) := upd_same
    have hcc : H1 c2 = none := same_none s1 hc2
    generalize upd (upd (upd Z2 c1 (.lst x9)) c2 (.lst x8)) l (.lst [.ref c1, .ref c2]) = Z3 at *
    generalize upd (upd (upd H1 c1 (.lst x9)) c2 (.lst x8)) l (.lst [.ref c1, .ref c2]) = H3 at *
    have rmk : Rep K T Z3 (MK mk) (.ref c1) := ⟨c1, x9, rfl, zc1, Reps.mono xc.zz _ _ q9⟩
    have rps : Rep K T Z3 (PSD ps) (.ref c2) := ⟨c2, x8, rfl, zc2, Reps.mono xc.zz _ _ q8⟩
    have rhd : Rep K T Z3 (HD mk ps) (.ref l) := ⟨l, _, rfl, zl, Reps.cons rmk (Reps.cons rps Reps.nil)⟩
    have at5 : (σ1.set 11 (some (.ref l)))[5]? = some (some (.int (n : Nat))) := by rw [List.getElem?_set_ne (by decide)]; exact g5
    have at11 : (σ1.set 11 (some (.ref l)))[11]? = some (some (.ref l)) := List.getElem?_set_self (by rw [len]; decide)
    -- finest
    obtain ⟨mf, hmf1, hgf, ef⟩ := ev_finest hn okM okP
    have eqf : canon n mf = canon n ms := canon_ext fun x y hx hy => hgf.same hg hx hy
    rw [eqf] at ef
    refine ⟨_, at5, _, at11, l, _, _, _, rfl, rfl, SqL.of (xc.zh _ _ zl), rfl, _, at11, l, _, _, _, rfl, rfl, SqL.of (xc.zh _ _ zl), rfl, Z3, [nD n, MK mk, PSD ps], _, rfl, xc.zh, Reps.cons rfl (Reps.cons rmk (Reps.cons rps Reps.nil)), ef, fun v Z4 H4 Zn x4 sm nw rp => ?_⟩
    have r4 := (r2.set xc 11 (v := .ref l) (s := .dat (HD mk ps)) (datOk rhd)).set x4 12 (datOk (Rep.mono sm _ _ rp))
    -- the looks
    refine b1 Z4 H4 _ _ r4.st _ (ev_T1 _ _ _ _ _ _ _ _ _ _ hn _) _ fun Z5 H5 x5 => ?_
    refine b2 Z5 H5 _ _ (r4.st.ext x5) _ (ev_T2 _ _ _ _ _ _ _ _ _ _ hn okM hg _ _ _ _) _ fun Z6 H6 x6 => ?_
    have x46 := (x4.trans x5).trans x6
    have xall := xc.trans x46
    -- clear
    have at11' : ((σ1.set 11 (some (.ref l))).set 12 (some v))[11]? = some (some (.ref l)) := by rw [List.getElem?_set_ne (by decide)]; exact at11
    have hl6 : H6 l = some (.lst [.ref c1, .ref c2]) := xall.zh _ _ (x46.zz _ _ zl)
    have hc6 : H6 c2 = some (.lst x8) := xall.zh _ _ (x46.zz _ _ zc2)
    refine ⟨_, at11', l, _, _, _, rfl, rfl, SqL.of hl6, rfl, .inl ⟨rfl, _, SqL.of hc6⟩, c2, x8, rfl, rfl, hc6, ?_⟩
    -- what stands without the cleared list
    let Zf : Hp := fun b => if b = c2 then none else Z6 b
    have zf : ∀ b, b ≠ c2 → Zf b = Z6 b := fun b hb => if_neg hb
    have zfo : ∀ b o, Zf b = some o → b ≠ c2 ∧ Z6 b = some o := fun b o e => by
      by_cases hb : b = c2
      · have : Zf b = none := if_pos hb
        rw [this] at e; cases e
      · rw [zf b hb] at e; exact ⟨hb, e⟩
    have zc2n : Z2 c2 = none := same_none zh2 hcc
    have xf : Ext Z2 H1 Zf (upd H6 c2 (.lst [])) := ⟨fun b o e => by
        rw [zf b (ne_of_none e zc2n)]; exact xall.zz _ _ e, fun b o e => by
        rw [upd_ne (ne_of_none e hcc)]; exact xall.hh _ _ e, fun b o e => by
        obtain ⟨h1, h2⟩ := zfo b o e
        rw [upd_ne h1]; exact xall.zh _ _ h2, fun b o e => xall.nw b o (zfo b o e).2⟩
    have smf : Same Zn Zf := fun b o e => by
      have hb : b ≠ c2 := fun z => by
        have := nw b o e
        rw [z, xc.zh _ _ zc2] at this; cases this
      rw [zf b hb]
      exact (x5.trans x6).zz _ _ (sm _ _ e)
    have r5 := (r2.set (Ext.refl zh2) 11 (v := .ref l) (s := .no) ⟨trivial, fun z => by cases z⟩).set xf 12 (datOk (Rep.mono smf _ _ rp))
    refine b3 H H Zf _ _ _ r5 _ (ev_lawC _ _ _ _ _ _ _ _ _ _ hn okM okP _) _ ?_
    intro Z7 H7 v7 _ ov
    obtain ⟨o, e1, e2⟩ := ov.1
    cases e1
    cases e2
    exact k H7
end
end G

set_option Elab.async false
set_option linter.all false
set_option maxRecDepth 100000
namespace G
open PySem L2 DL
def TB : Tb := ⟨fun _ => 0, fun _ => []⟩
theorem all_mk {l : PySem.W.OpenLaw} {w : World} {K : PySem.W.Frag} {h : Heap} {mg : Str → Option Value} {fa : Addr} {f0 f1 f2 f3 f4 f5 f6 f7 f8 f9 f10 f11 f12 : Addr} (XK : K.In h) (hG : h.Ns mainGlobals mg) (hfa : mg "law" = some (.ref fa))
    {od0 an0 od1 an1 od2 an2 od3 an3 od4 an4 od5 an5 od6 an6 od7 an7 od8 an8 od9 an9 od10 an10 od11 an11 od12 an12 : Option Addr} {sl0 sl1 sl2 sl3 sl4 sl5 sl6 sl7 sl8 sl9 sl10 sl11 sl12 : Array (Option Value)} {oc0 kV0 dc0 pm0 cd0 ct0 oc1 kV1 dc1 pm1 cd1 ct1 oc2 kV2 dc2 pm2 cd2 ct2 oc3 kV3 dc3 pm3 cd3 ct3 oc4 kV4 dc4 pm4 cd4 ct4 oc5 kV5 dc5 pm5 cd5 ct5 oc6 kV6 dc6 pm6 cd6 ct6 oc7 kV7 dc7 pm7 cd7 ct7 oc8 kV8 dc8 pm8 cd8 ct8 oc9 kV9 dc9 pm9 cd9 ct9 oc10 kV10 dc10 pm10 cd10 ct10 oc11 kV11 dc11 pm11 cd11 ct11 oc12 kV12 dc12 pm12 cd12 ct12 : Value}
    (a0 : PySem.W.nsIn K mainGlobals "parts_by" = some (some (.ref f0))) (l0 : K.lookup f0 = some ⟨oc0, od0, .func (PySem.W.fnOf "parts_by" "parts_by" (defArgs st_parts_by) (defBody st_parts_by) (defScope st_parts_by) .none kV0 dc0 pm0 an0 cd0 ct0), sl0⟩) (c0 : PySem.W.codeIn K cd0 "parts_by" = true) (k0 : PySem.W.keepIn K (.ref f0) = true)
    (a1 : PySem.W.nsIn K mainGlobals "finest" = some (some (.ref f1))) (l1 : K.lookup f1 = some ⟨oc1, od1, .func (PySem.W.fnOf "finest" "finest" (defArgs st_finest) (defBody st_finest) (defScope st_finest) .none kV1 dc1 pm1 an1 cd1 ct1), sl1⟩) (c1 : PySem.W.codeIn K cd1 "finest" = true) (k1 : PySem.W.keepIn K (.ref f1) = true)
    (a2 : PySem.W.nsIn K mainGlobals "_law_cell_at" = some (some (.ref f2))) (l2 : K.lookup f2 = some ⟨oc2, od2, .func (PySem.W.fnOf "_law_cell_at" "_law_cell_at" (defArgs st__law_cell_at) (defBody st__law_cell_at) (defScope st__law_cell_at) .none kV2 dc2 pm2 an2 cd2 ct2), sl2⟩) (c2 : PySem.W.codeIn K cd2 "_law_cell_at" = true) (k2 : PySem.W.keepIn K (.ref f2) = true)
    (a3 : PySem.W.nsIn K mainGlobals "_law_turning" = some (some (.ref f3))) (l3 : K.lookup f3 = some ⟨oc3, od3, .func (PySem.W.fnOf "_law_turning" "_law_turning" (defArgs st__law_turning) (defBody st__law_turning) (defScope st__law_turning) .none kV3 dc3 pm3 an3 cd3 ct3), sl3⟩) (c3 : PySem.W.codeIn K cd3 "_law_turning" = true) (k3 : PySem.W.keepIn K (.ref f3) = true)
    (a4 : PySem.W.nsIn K mainGlobals "_law_home" = some (some (.ref f4))) (l4 : K.lookup f4 = some ⟨oc4, od4, .func (PySem.W.fnOf "_law_home" "_law_home" (defArgs st__law_home) (defBody st__law_home) (defScope st__law_home) .none kV4 dc4 pm4 an4 cd4 ct4), sl4⟩) (c4 : PySem.W.codeIn K cd4 "_law_home" = true) (k4 : PySem.W.keepIn K (.ref f4) = true)
    (a5 : PySem.W.nsIn K mainGlobals "_law_maker" = some (some (.ref f5))) (l5 : K.lookup f5 = some ⟨oc5, od5, .func (PySem.W.fnOf "_law_maker" "_law_maker" (defArgs st__law_maker) (defBody st__law_maker) (defScope st__law_maker) .none kV5 dc5 pm5 an5 cd5 ct5), sl5⟩) (c5 : PySem.W.codeIn K cd5 "_law_maker" = true) (k5 : PySem.W.keepIn K (.ref f5) = true)
    (a6 : PySem.W.nsIn K mainGlobals "_law_strewn" = some (some (.ref f6))) (l6 : K.lookup f6 = some ⟨oc6, od6, .func (PySem.W.fnOf "_law_strewn" "_law_strewn" (defArgs st__law_strewn) (defBody st__law_strewn) (defScope st__law_strewn) .none kV6 dc6 pm6 an6 cd6 ct6), sl6⟩) (c6 : PySem.W.codeIn K cd6 "_law_strewn" = true) (k6 : PySem.W.keepIn K (.ref f6) = true)
    (a7 : PySem.W.nsIn K mainGlobals "_law_pair" = some (some (.ref f7))) (l7 : K.lookup f7 = some ⟨oc7, od7, .func (PySem.W.fnOf "_law_pair" "_law_pair" (defArgs st__law_pair) (defBody st__law_pair) (defScope st__law_pair) .none kV7 dc7 pm7 an7 cd7 ct7), sl7⟩) (c7 : PySem.W.codeIn K cd7 "_law_pair" = true) (k7 : PySem.W.keepIn K (.ref f7) = true)
    (a8 : PySem.W.nsIn K mainGlobals "_law_put" = some (some (.ref f8))) (l8 : K.lookup f8 = some ⟨oc8, od8, .func (PySem.W.fnOf "_law_put" "_law_put" (defArgs st__law_put) (defBody st__law_put) (defScope st__law_put) .none kV8 dc8 pm8 an8 cd8 ct8), sl8⟩) (c8 : PySem.W.codeIn K cd8 "_law_put" = true) (k8 : PySem.W.keepIn K (.ref f8) = true)
    (a9 : PySem.W.nsIn K mainGlobals "_law_parts" = some (some (.ref f9))) (l9 : K.lookup f9 = some ⟨oc9, od9, .func (PySem.W.fnOf "_law_parts" "_law_parts" (defArgs st__law_parts) (defBody st__law_parts) (defScope st__law_parts) .none kV9 dc9 pm9 an9 cd9 ct9), sl9⟩) (c9 : PySem.W.codeIn K cd9 "_law_parts" = true) (k9 : PySem.W.keepIn K (.ref f9) = true)
    (a10 : PySem.W.nsIn K mainGlobals "_law_alike" = some (some (.ref f10))) (l10 : K.lookup f10 = some ⟨oc10, od10, .func (PySem.W.fnOf "_law_alike" "_law_alike" (defArgs st__law_alike) (defBody st__law_alike) (defScope st__law_alike) .none kV10 dc10 pm10 an10 cd10 ct10), sl10⟩) (c10 : PySem.W.codeIn K cd10 "_law_alike" = true) (k10 : PySem.W.keepIn K (.ref f10) = true)
    (a11 : PySem.W.nsIn K mainGlobals "_law_kept" = some (some (.ref f11))) (l11 : K.lookup f11 = some ⟨oc11, od11, .func (PySem.W.fnOf "_law_kept" "_law_kept" (defArgs st__law_kept) (defBody st__law_kept) (defScope st__law_kept) .none kV11 dc11 pm11 an11 cd11 ct11), sl11⟩) (c11 : PySem.W.codeIn K cd11 "_law_kept" = true) (k11 : PySem.W.keepIn K (.ref f11) = true)
    (a12 : PySem.W.nsIn K mainGlobals "law" = some (some (.ref f12))) (l12 : K.lookup f12 = some ⟨oc12, od12, .func (PySem.W.fnOf "law" "law" (defArgs st_law) (defBody st_law) (defScope st_law) .none kV12 dc12 pm12 an12 cd12 ct12), sl12⟩) (c12 : PySem.W.codeIn K cd12 "law" = true) (k12 : PySem.W.keepIn K (.ref f12) = true)
    (z0 : PySem.W.nsIn K mainGlobals "all" = some none)
    (z1 : PySem.W.nsIn K mainGlobals "bool" = some none)
    (z2 : PySem.W.nsIn K mainGlobals "divmod" = some none)
    (z3 : PySem.W.nsIn K mainGlobals "int" = some none)
    (z4 : PySem.W.nsIn K mainGlobals "isinstance" = some none)
    (z5 : PySem.W.nsIn K mainGlobals "len" = some none)
    (z6 : PySem.W.nsIn K mainGlobals "list" = some none)
    (z7 : PySem.W.nsIn K mainGlobals "max" = some none)
    (z8 : PySem.W.nsIn K mainGlobals "min" = some none)
    (z9 : PySem.W.nsIn K mainGlobals "range" = some none)
    (z10 : PySem.W.nsIn K mainGlobals "tuple" = some none)
    : ∃ fd : FuncData, (∀ (s : Shared) (v : Value), BindsTo s fd ⟨[v], []⟩ [("_law_script", v)]) ∧ ∀ base : Heap, K.In base → base.Ns mainGlobals mg → FnOk l.prog w K mg base (L2.CX l.prog w) 4 fa fd ["_law_script"] (spLaw K) := by
  have e := hfa.symm.trans (PySem.W.mg_of XK hG a12)
  cases e
  have Fn_parts_by := fun_mk (st := st_parts_by) l0 c0 k0
  have m_parts_by := PySem.W.mg_of XK hG a0
  have b_parts_by := Fn_parts_by.binds (ps := ["marks"]) fun _ _ _ _ _ _ us hl => match us, hl with | [_], _ => rfl
  have Fn_finest := fun_mk (st := st_finest) l1 c1 k1
  have m_finest := PySem.W.mg_of XK hG a1
  have b_finest := Fn_finest.binds (ps := ["many", "makers", "pairs"]) fun _ _ _ _ _ _ us hl => match us, hl with | [_, _, _], _ => rfl
  have Fn__law_cell_at := fun_mk (st := st__law_cell_at) l2 c2 k2
  have m__law_cell_at := PySem.W.mg_of XK hG a2
  have b__law_cell_at := Fn__law_cell_at.binds (ps := ["_law_script", "_law_k"]) fun _ _ _ _ _ _ us hl => match us, hl with | [_, _], _ => rfl
  have Fn__law_turning := fun_mk (st := st__law_turning) l3 c3 k3
  have m__law_turning := PySem.W.mg_of XK hG a3
  have b__law_turning := Fn__law_turning.binds (ps := ["_law_cell", "_law_many"]) fun _ _ _ _ _ _ us hl => match us, hl with | [_, _], _ => rfl
  have Fn__law_home := fun_mk (st := st__law_home) l4 c4 k4
  have m__law_home := PySem.W.mg_of XK hG a4
  have b__law_home := Fn__law_home.binds (ps := ["_law_x", "_law_wide", "_law_high", "_law_kind", "_law_number"]) fun _ _ _ _ _ _ us hl => match us, hl with | [_, _, _, _, _], _ => rfl
  have Fn__law_maker := fun_mk (st := st__law_maker) l5 c5 k5
  have m__law_maker := PySem.W.mg_of XK hG a5
  have b__law_maker := Fn__law_maker.binds (ps := ["_law_cell", "_law_wide", "_law_high", "_law_spare", "_law_way"]) fun _ _ _ _ _ _ us hl => match us, hl with | [_, _, _, _, _], _ => rfl
  have Fn__law_strewn := fun_mk (st := st__law_strewn) l6 c6 k6
  have m__law_strewn := PySem.W.mg_of XK hG a6
  have b__law_strewn := Fn__law_strewn.binds (ps := ["_law_maker_here", "_law_by"]) fun _ _ _ _ _ _ us hl => match us, hl with | [_, _], _ => rfl
  have Fn__law_pair := fun_mk (st := st__law_pair) l7 c7 k7
  have m__law_pair := PySem.W.mg_of XK hG a7
  have b__law_pair := Fn__law_pair.binds (ps := ["_law_cell", "_law_wide", "_law_many", "_law_near", "_law_by"]) fun _ _ _ _ _ _ us hl => match us, hl with | [_, _, _, _, _], _ => rfl
  have Fn__law_put := fun_mk (st := st__law_put) l8 c8 k8
  have m__law_put := PySem.W.mg_of XK hG a8
  have b__law_put := Fn__law_put.binds (ps := ["_law_mark", "_law_one", "_law_other"]) fun _ _ _ _ _ _ us hl => match us, hl with | [_, _, _], _ => rfl
  have Fn__law_parts := fun_mk (st := st__law_parts) l9 c9 k9
  have m__law_parts := PySem.W.mg_of XK hG a9
  have b__law_parts := Fn__law_parts.binds (ps := ["_law_many", "_law_makers", "_law_pairs"]) fun _ _ _ _ _ _ us hl => match us, hl with | [_, _, _], _ => rfl
  have Fn__law_alike := fun_mk (st := st__law_alike) l10 c10 k10
  have m__law_alike := PySem.W.mg_of XK hG a10
  have b__law_alike := Fn__law_alike.binds (ps := ["_law_found", "_law_due"]) fun _ _ _ _ _ _ us hl => match us, hl with | [_, _], _ => rfl
  have Fn__law_kept := fun_mk (st := st__law_kept) l11 c11 k11
  have m__law_kept := PySem.W.mg_of XK hG a11
  have b__law_kept := Fn__law_kept.binds (ps := ["_law_parts_here", "_law_maker_here"]) fun _ _ _ _ _ _ us hl => match us, hl with | [_, _], _ => rfl
  have Fn_law := fun_mk (st := st_law) l12 c12 k12
  have m_law := PySem.W.mg_of XK hG a12
  have m_all := PySem.W.mg_none_of XK hG z0
  have m_bool := PySem.W.mg_none_of XK hG z1
  have m_divmod := PySem.W.mg_none_of XK hG z2
  have m_int := PySem.W.mg_none_of XK hG z3
  have m_isinstance := PySem.W.mg_none_of XK hG z4
  have m_len := PySem.W.mg_none_of XK hG z5
  have m_list := PySem.W.mg_none_of XK hG z6
  have m_max := PySem.W.mg_none_of XK hG z7
  have m_min := PySem.W.mg_none_of XK hG z8
  have m_range := PySem.W.mg_none_of XK hG z9
  have m_tuple := PySem.W.mg_none_of XK hG z10
  refine ⟨PySem.W.fnOf "law" "law" (defArgs st_law) (defBody st_law) (defScope st_law) .none kV12 dc12 pm12 an12 cd12 ct12, fun s v => .of_eq rfl, fun base _ _ => ?_⟩
  have X : Bl K mg TB := ⟨m_all, m_bool, m_divmod, m_int, m_isinstance, m_len, m_list, m_max, m_min, m_range, m_tuple⟩
  have h_law_cell_at : FnD l.prog w K mg base TB 1 "_law_cell_at" 2 G.F__law_cell_at := fn_d Fn__law_cell_at sc__law_cell_at rfl m__law_cell_at b__law_cell_at (G.body__law_cell_at X )
  have h_law_turning : FnD l.prog w K mg base TB 1 "_law_turning" 2 G.F__law_turning := fn_d Fn__law_turning sc__law_turning rfl m__law_turning b__law_turning (G.body__law_turning X )
  have h_law_home : FnD l.prog w K mg base TB 1 "_law_home" 5 G.F__law_home := fn_d Fn__law_home sc__law_home rfl m__law_home b__law_home (G.body__law_home X )
  have h_law_maker : FnD l.prog w K mg base TB 2 "_law_maker" 5 G.F__law_maker := fn_d Fn__law_maker sc__law_maker rfl m__law_maker b__law_maker (G.body__law_maker X h_law_turning h_law_home)
  have h_law_strewn : FnD l.prog w K mg base TB 1 "_law_strewn" 2 G.F__law_strewn := fn_d Fn__law_strewn sc__law_strewn rfl m__law_strewn b__law_strewn (G.body__law_strewn X )
  have h_law_pair : FnD l.prog w K mg base TB 1 "_law_pair" 5 G.F__law_pair := fn_d Fn__law_pair sc__law_pair rfl m__law_pair b__law_pair (G.body__law_pair X )
  have h_law_put : FnD l.prog w K mg base TB 1 "_law_put" 3 G.F__law_put := fn_d Fn__law_put sc__law_put rfl m__law_put b__law_put (G.body__law_put X )
  have h_law_parts : FnD l.prog w K mg base TB 2 "_law_parts" 3 G.F__law_parts := fn_d Fn__law_parts sc__law_parts rfl m__law_parts b__law_parts (G.body__law_parts X h_law_put)
  have h_law_alike : FnD l.prog w K mg base TB 1 "_law_alike" 2 G.F__law_alike := fn_d Fn__law_alike sc__law_alike rfl m__law_alike b__law_alike (G.body__law_alike X )
  have h_law_kept : FnD l.prog w K mg base TB 1 "_law_kept" 2 G.F__law_kept := fn_d Fn__law_kept sc__law_kept rfl m__law_kept b__law_kept (G.body__law_kept X )
  have of : FnOk l.prog w K mg base (L2.CX l.prog w) 2 f1 _ ["many", "makers", "pairs"] (spN K TB 3 G_finest) := ok_finest Fn_finest X Fn_parts_by m_parts_by b_parts_by
  have hfin : FnD l.prog w K mg base TB 2 "finest" 3 G.F_finest := spN_d of m_finest Fn_finest.kp b_finest G_finest_len
  exact ok_law Fn_law X ⟨h_law_cell_at, h_law_turning, h_law_pair, h_law_strewn, h_law_maker, h_law_parts, hfin, h_law_alike, h_law_kept⟩ of m_finest Fn_finest.kp b_finest
theorem walk {l : PySem.W.OpenLaw} {q : Program} {loose : List Str} {XP : (Str → Option Value) → Heap → Prop} {YP : World → Heap → Prop} {d : DefRec} {K : Params → PySem.W.Frag} (hn : l.most = some 63) (hdf : d.params.defaults = [])
    (hY : ∀ (w : World) (h : Heap), YP w h → (K w.params).In h)
    (F : ∀ (w : World) (mg : Str → Option Value) (fa : Addr) (h : Heap), (K w.params).In h → h.Ns mainGlobals mg → mg d.name = some (.ref fa) →
      ∃ fd : FuncData, (∀ (s : Shared) (u : Value), BindsTo s fd ⟨[u], []⟩ [("_law_script", u)]) ∧ ∀ base : Heap, (K w.params).In base → base.Ns mainGlobals mg → FnOk l.prog w (K w.params) mg base (L2.CX l.prog w) 4 fa fd ["_law_script"] (spLaw (K w.params))) :
    PySem.W.WalkO q loose XP YP l.row.toRowW d [] (fun f vs => PySem.call f vs) :=
  L2.walk_of (n := 63) (k := 4) (x := "_law_script") (CX := fun w => L2.CX l.prog w) (sp := fun w => spLaw (K w.params)) hn (by decide) hdf ⟨rfl, by decide, by decide⟩ hY F (fun _ _ a ns hl _ hS => ⟨a, ns, rfl, hS, fun _ => rfl⟩) fun _ _ _ _ _ z => by
    obtain ⟨_, _, _, _, _, _, _, _, _, _, _, _, z⟩ := z
    exact z.elim
end G
open PySem PySem.W PyProof.Rows
set_option maxRecDepth 100000 in
set_option maxHeartbeats 0 in
theorem PySem.Challenge.cw_turnbase_k28_whole_finest_parting_holds : PySem.Challenge.rw_turnbase_k28_whole_finest_parting.Holds := by
  w_on; o_law; k_head; (case hw => w_witness2)
  k_fill
  refine G.walk (l := PySem.Challenge.rw_turnbase_k28_whole_finest_parting) rfl rfl (fun w h Y => PySem.W.kIn_of Y) ?F
  case F =>
    intro w mg fa h KX hG hmg
    refine' G.all_mk KX hG hmg ?a0 ?l0 ?c0 ?k0 ?a1 ?l1 ?c1 ?k1 ?a2 ?l2 ?c2 ?k2 ?a3 ?l3 ?c3 ?k3 ?a4 ?l4 ?c4 ?k4 ?a5 ?l5 ?c5 ?k5 ?a6 ?l6 ?c6 ?k6 ?a7 ?l7 ?c7 ?k7 ?a8 ?l8 ?c8 ?k8 ?a9 ?l9 ?c9 ?k9 ?a10 ?l10 ?c10 ?k10 ?a11 ?l11 ?c11 ?k11 ?a12 ?l12 ?c12 ?k12 ?z0 ?z1 ?z2 ?z3 ?z4 ?z5 ?z6 ?z7 ?z8 ?z9 ?z10
    (case a0 => k_is)
    (case l0 => k_is)
    (case c0 => k_is)
    (case k0 => k_is)
    (case a1 => k_is)
    (case l1 => k_is)
    (case c1 => k_is)
    (case k1 => k_is)
    (case a2 => k_is)
    (case l2 => k_is)
    (case c2 => k_is)
    (case k2 => k_is)
    (case a3 => k_is)
    (case l3 => k_is)
    (case c3 => k_is)
    (case k3 => k_is)
    (case a4 => k_is)
    (case l4 => k_is)
    (case c4 => k_is)
    (case k4 => k_is)
    (case a5 => k_is)
    (case l5 => k_is)
    (case c5 => k_is)
    (case k5 => k_is)
    (case a6 => k_is)
    (case l6 => k_is)
    (case c6 => k_is)
    (case k6 => k_is)
    (case a7 => k_is)
    (case l7 => k_is)
    (case c7 => k_is)
    (case k7 => k_is)
    (case a8 => k_is)
    (case l8 => k_is)
    (case c8 => k_is)
    (case k8 => k_is)
    (case a9 => k_is)
    (case l9 => k_is)
    (case c9 => k_is)
    (case k9 => k_is)
    (case a10 => k_is)
    (case l10 => k_is)
    (case c10 => k_is)
    (case k10 => k_is)
    (case a11 => k_is)
    (case l11 => k_is)
    (case c11 => k_is)
    (case k11 => k_is)
    (case a12 => k_is)
    (case l12 => k_is)
    (case c12 => k_is)
    (case k12 => k_is)
    (case z0 => k_is)
    (case z1 => k_is)
    (case z2 => k_is)
    (case z3 => k_is)
    (case z4 => k_is)
    (case z5 => k_is)
    (case z6 => k_is)
    (case z7 => k_is)
    (case z8 => k_is)
    (case z9 => k_is)
    (case z10 => k_is)

