import PyProof.Rows.All
import Wide.All
import OpenK.AllK
import Wide.FinOn
import HandS.ForMost
import HandS.Walk
import HandS.TupAny
import HandS.Exc
import HandS.HeadHook1
import HandS.IsInst
import HandS.ExcOwn
import HandS.Rev
import HandS.ExcInit
import HandS.WordsExc
import HandS.TryMany
import HandS.ExcField
import HandS.ExcIs
import HandS.Zip
import HandS.Style
import HandS.Defaults
import HandS.Strs
import HandS.Gcd
import HandS.WideBits
import KE.DatumOrd
import HandS.SortKw
import KE.KTupSum
import HandS.Head0
import HandS.Head1
import HandS.Head2
import HandS.HeadEnd
import HandS.Head3
import HandS.HeadHook2
import HandS.HeadHook3
import HandS.HeadHook4
import HandS.HeadNt
import PySem.Challenge.RW_nearrealm_k84_whole_cubes_by_differences
/-! # DLa.lean -/
set_option Elab.async false
set_option linter.all false
set_option maxRecDepth 100000
namespace L2.DL
open PySem PySem.Spec PyProof.Rows

/-! ## data -/
inductive D where
  | non | bl (b : Bool) | int (i : Int) | str (x : Str) | ty (n : String) | adr (a : Addr)
  | lst (ds : List D) | scr (ds : List D) | tup (ds : List D)
  | ins (C : Str) (ns : List Str) (ds : List D)
  | cn (x : Str)
  | exc (C : Str) (a dd : Addr) (ns : List Str) (ds : List D)
  | dk (ks : List Key) (ds : List D)
  | dt (ks : List (List Key)) (ds : List D)
  | dkz (ks : List Key) (ds : List D)
  | dtz (ks : List (List Key)) (ds : List D)

mutual
def Is (K : PySem.W.Frag) (F : Hp) : D → V → Prop
  | .non, v => v = .non
  | .bl b, v => v = .bl b
  | .int i, v => v = .int i
  | .str x, v => v = .str x
  | .ty n, v => v = .ty n
  | .adr a, v => v = .ref a
  | .lst ds, v => ∃ a vs, v = .ref a ∧ F a = some (.lst vs) ∧ IsL K F ds vs
  | .scr ds, v => ∃ a vs, v = .ref a ∧ SqL K F a vs ∧ IsL K F ds vs
  | .tup ds, v => ∃ a vs, v = .ref a ∧ SqT K F a vs ∧ IsL K F ds vs
  | .cn x, v => v = .ref (He.ga K x)
  | .exc _ a dd ns ds, v => ∃ vs, v = .ref a ∧ F dd = some (.xd (ns.zip vs)) ∧ ns.length = vs.length ∧ IsL K F ds vs
  | .ins C ns ds, v => ∃ a dx vs, v = .ref a ∧ F a = some (.ins (He.ga K C) dx (ns.zip vs)) ∧ ns.length = vs.length ∧ IsL K F ds vs
  | .dk ks ds, v => ∃ a vs, v = .ref a ∧ F a = some (.dK (ks.zip vs)) ∧ ks.length = vs.length ∧ IsL K F ds vs
  | .dt ks ds, v => ∃ a vs, v = .ref a ∧ F a = some (.dT (ks.zip vs)) ∧ ks.length = vs.length ∧ IsL K F ds vs
  | .dkz ks ds, v => ∃ a o vs, v = .ref a ∧ F a = some (.frz o (.dK (ks.zip vs))) ∧ ks.length = vs.length ∧ IsL K F ds vs
  | .dtz ks ds, v => ∃ a o vs, v = .ref a ∧ F a = some (.frz o (.dT (ks.zip vs))) ∧ ks.length = vs.length ∧ IsL K F ds vs
def IsL (K : PySem.W.Frag) (F : Hp) : List D → List V → Prop
  | [], vs => vs = []
  | d :: ds, vs => ∃ v r, vs = v :: r ∧ Is K F d v ∧ IsL K F ds r
end

theorem Same.seqT {K : PySem.W.Frag} {H H' : Hp} {a : Addr} {xs : List V} (e : Same H H') (h : SqT K H a xs) : SqT K H' a xs := by
  rcases h with (h | ⟨o, h⟩) | h
  · exact .inl (.inl (e _ _ h))
  · exact .inl (.inr ⟨o, e _ _ h⟩)
  · exact .inr h

mutual
theorem Is.mono {K : PySem.W.Frag} {F F' : Hp} (s : Same F F') : ∀ (d : D) {v : V}, Is K F d v → Is K F' d v
  | .non, _, h => by simpa [Is] using h
  | .bl b, _, h => by simpa [Is] using h
  | .int i, _, h => by simpa [Is] using h
  | .str x, _, h => by simpa [Is] using h
  | .ty n, _, h => by simpa [Is] using h
  | .adr a, _, h => by simpa [Is] using h
  | .lst ds, v, h => by
    simp only [Is] at h ⊢
    obtain ⟨a, vs, e, q, r⟩ := h
    exact ⟨a, vs, e, s _ _ q, IsL.mono s ds r⟩
  | .scr ds, v, h => by
    simp only [Is] at h ⊢
    obtain ⟨a, vs, e, q, r⟩ := h
    exact ⟨a, vs, e, s.seq q, IsL.mono s ds r⟩
  | .tup ds, v, h => by
    simp only [Is] at h ⊢
    obtain ⟨a, vs, e, q, r⟩ := h
    exact ⟨a, vs, e, Same.seqT s q, IsL.mono s ds r⟩
  | .cn _, _, h => by simpa [Is] using h
  | .exc C a dd ns ds, v, h => by
    simp only [Is] at h ⊢
    obtain ⟨vs, e, q, l, r⟩ := h
    exact ⟨vs, e, s _ _ q, l, IsL.mono s ds r⟩
  | .ins C ns ds, v, h => by
    simp only [Is] at h ⊢
    obtain ⟨a, dx, vs, e, q, l, r⟩ := h
    exact ⟨a, dx, vs, e, s _ _ q, l, IsL.mono s ds r⟩
  | .dk ks ds, v, h => by
    simp only [Is] at h ⊢
    obtain ⟨a, vs, e, q, l, r⟩ := h
    exact ⟨a, vs, e, s _ _ q, l, IsL.mono s ds r⟩
  | .dt ks ds, v, h => by
    simp only [Is] at h ⊢
    obtain ⟨a, vs, e, q, l, r⟩ := h
    exact ⟨a, vs, e, s _ _ q, l, IsL.mono s ds r⟩
  | .dkz ks ds, v, h => by
    simp only [Is] at h ⊢
    obtain ⟨a, o, vs, e, q, l, r⟩ := h
    exact ⟨a, o, vs, e, s _ _ q, l, IsL.mono s ds r⟩
  | .dtz ks ds, v, h => by
    simp only [Is] at h ⊢
    obtain ⟨a, o, vs, e, q, l, r⟩ := h
    exact ⟨a, o, vs, e, s _ _ q, l, IsL.mono s ds r⟩
theorem IsL.mono {K : PySem.W.Frag} {F F' : Hp} (s : Same F F') : ∀ (ds : List D) {vs : List V}, IsL K F ds vs → IsL K F' ds vs
  | [], _, h => by simpa [IsL] using h
  | d :: ds, vs, h => by
    simp only [IsL] at h ⊢
    obtain ⟨v, r, e, a, b⟩ := h
    exact ⟨v, r, e, Is.mono s d a, IsL.mono s ds b⟩
end

section
variable {K : PySem.W.Frag} {F : Hp}
theorem IsL.len : ∀ {ds : List D} {vs : List V}, IsL K F ds vs → ds.length = vs.length
  | [], _, h => by simp only [IsL] at h; subst h; rfl
  | d :: ds, _, h => by
    simp only [IsL] at h
    obtain ⟨v, r, rfl, _, b⟩ := h
    simp [IsL.len b]
theorem IsL.get : ∀ {ds : List D} {vs : List V} {i : Nat} {d : D}, IsL K F ds vs → ds[i]? = some d → ∃ v, vs[i]? = some v ∧ Is K F d v
  | [], _, i, d, _, e => by simp at e
  | c :: ds, _, 0, d, h, e => by
    simp only [IsL] at h
    obtain ⟨v, r, rfl, a, b⟩ := h
    simp at e; subst e
    exact ⟨v, by simp, a⟩
  | c :: ds, _, i + 1, d, h, e => by
    simp only [IsL] at h
    obtain ⟨v, r, rfl, a, b⟩ := h
    obtain ⟨w, h1, h2⟩ := IsL.get (i := i) b (by simpa using e)
    exact ⟨w, by simpa using h1, h2⟩
theorem IsL.get' : ∀ {ds : List D} {vs : List V} {i : Nat} {v : V}, IsL K F ds vs → vs[i]? = some v → ∃ d, ds[i]? = some d ∧ Is K F d v := fun {ds vs i v} h e => by
  have hl := h.len
  have hi : i < vs.length := (List.getElem?_eq_some_iff.mp e).1
  have hd : i < ds.length := by omega
  obtain ⟨w, h1, h2⟩ := h.get (List.getElem?_eq_getElem hd)
  rw [e] at h1; cases h1
  exact ⟨_, List.getElem?_eq_getElem hd, h2⟩
theorem IsL.append : ∀ {ds es : List D} {vs ws : List V}, IsL K F ds vs → IsL K F es ws → IsL K F (ds ++ es) (vs ++ ws)
  | [], _, _, _, h, q => by simp only [IsL] at h; subst h; exact q
  | d :: ds, es, _, ws, h, q => by
    simp only [IsL] at h
    obtain ⟨v, r, rfl, a, b⟩ := h
    simp only [List.cons_append, IsL]
    exact ⟨v, r ++ ws, rfl, a, IsL.append b q⟩
theorem IsL.one {d : D} {v : V} (h : Is K F d v) : IsL K F [d] [v] := by
  simp only [IsL]; exact ⟨v, [], rfl, h, rfl⟩
theorem IsL.nil : IsL K F [] [] := by simp only [IsL]
theorem IsL.cons {d : D} {v : V} {ds : List D} {vs : List V} (h : Is K F d v) (t : IsL K F ds vs) : IsL K F (d :: ds) (v :: vs) := by
  simp only [IsL]; exact ⟨v, vs, rfl, h, t⟩
theorem IsL.set {d : D} {v : V} (h : Is K F d v) : ∀ {ds : List D} {vs : List V} (i : Nat), IsL K F ds vs → IsL K F (ds.set i d) (vs.set i v)
  | [], _, _, q => by simp only [IsL] at q; subst q; simp [IsL]
  | c :: ds, _, 0, q => by
    simp only [IsL] at q
    obtain ⟨w, r, rfl, a, b⟩ := q
    exact IsL.cons h b
  | c :: ds, _, i + 1, q => by
    simp only [IsL] at q
    obtain ⟨w, r, rfl, a, b⟩ := q
    exact IsL.cons a (IsL.set h i b)
theorem IsL.take : ∀ {ds : List D} {vs : List V} (n : Nat), IsL K F ds vs → IsL K F (ds.take n) (vs.take n)
  | _, _, 0, _ => by simp [IsL]
  | [], _, _ + 1, q => by simp only [IsL] at q; subst q; simp [IsL]
  | c :: ds, _, n + 1, q => by
    simp only [IsL] at q
    obtain ⟨w, r, rfl, a, b⟩ := q
    exact IsL.cons a (IsL.take n b)
theorem IsL.drop : ∀ {ds : List D} {vs : List V} (n : Nat), IsL K F ds vs → IsL K F (ds.drop n) (vs.drop n)
  | _, _, 0, q => q
  | [], _, _ + 1, q => by simp only [IsL] at q; subst q; simp [IsL]
  | c :: ds, _, n + 1, q => by
    simp only [IsL] at q
    obtain ⟨w, r, rfl, a, b⟩ := q
    exact IsL.drop n b
theorem IsL.ints : ∀ {ns : List Int} {vs : List V}, IsL K F (ns.map D.int) vs ↔ vs = ns.map V.int
  | [], vs => by simp [IsL]
  | n :: ns, vs => by
    simp only [List.map_cons, IsL, Is]
    constructor
    · rintro ⟨v, r, rfl, rfl, h⟩
      rw [IsL.ints.mp h]
    · intro h
      exact ⟨_, _, h, rfl, IsL.ints.mpr rfl⟩
theorem IsL.bls : ∀ {ns : List Bool} {vs : List V}, IsL K F (ns.map D.bl) vs ↔ vs = ns.map V.bl
  | [], vs => by simp [IsL]
  | n :: ns, vs => by
    simp only [List.map_cons, IsL, Is]
    constructor
    · rintro ⟨v, r, rfl, rfl, h⟩
      rw [IsL.bls.mp h]
    · intro h
      exact ⟨_, _, h, rfl, IsL.bls.mpr rfl⟩
theorem IsL.reverse : ∀ {ds : List D} {vs : List V}, IsL K F ds vs → IsL K F ds.reverse vs.reverse
  | [], _, q => by simp only [IsL] at q; subst q; simp [IsL]
  | c :: ds, _, q => by
    simp only [IsL] at q
    obtain ⟨w, r, rfl, a, b⟩ := q
    simp only [List.reverse_cons]
    exact (IsL.reverse b).append (IsL.one a)
end

/-! ## the state: slots by what is known of them -/
/-- pairs of keys and data -/
def KVD (K : PySem.W.Frag) (F : Hp) {κ : Type} : List (κ × D) → List (κ × V) → Prop := Paired fun a b => a.1 = b.1 ∧ Is K F a.2 b.2
theorem KVD.mono {K : PySem.W.Frag} {F F' : Hp} (s : Same F F') {κ : Type} {xs : List (κ × D)} {ys : List (κ × V)} (h : KVD K F xs ys) : KVD K F' xs ys := Paired.mapP h fun a b q => ⟨q.1, Is.mono s _ q.2⟩
theorem KVD.split {K : PySem.W.Frag} {F : Hp} {κ : Type} : ∀ {xs : List (κ × D)} {ys : List (κ × V)}, KVD K F xs ys → ∃ vs, ys = (xs.map (·.1)).zip vs ∧ (xs.map (·.1)).length = vs.length ∧ IsL K F (xs.map (·.2)) vs
  | [], _, .nil => ⟨[], rfl, rfl, by simp [IsL]⟩
  | (k, d) :: xs, (k', v) :: ys, .cons h t => by
    obtain ⟨vs, e1, e2, e3⟩ := KVD.split t
    have hk : k = k' := h.1
    subst hk
    exact ⟨v :: vs, by rw [e1]; rfl, by simpa using e2, IsL.cons h.2 e3⟩
/-- what an own (mutable) object holds -/
inductive Mc where
  | lst (ds : List D)
  | dk (kvs : List (Key × D))
  | dt (kvs : List (List Key × D))
  | ins (C : Str) (fs : List (Str × D))
def MuO (K : PySem.W.Frag) (F : Hp) : Mc → HO → Prop
  | .lst ds, o => ∃ vs, o = .lst vs ∧ IsL K F ds vs
  | .dk kvs, o => ∃ vs, o = .dK vs ∧ KVD K F kvs vs
  | .dt kvs, o => ∃ vs, o = .dT vs ∧ KVD K F kvs vs
  | .ins C fs, o => ∃ dx vs, o = .ins (He.ga K C) dx vs ∧ KVD K F fs vs
def Mc.d : Mc → D
  | .lst ds => .lst ds
  | .dk kvs => .dk (kvs.map (·.1)) (kvs.map (·.2))
  | .dt kvs => .dt (kvs.map (·.1)) (kvs.map (·.2))
  | .ins C fs => .ins C (fs.map (·.1)) (fs.map (·.2))
theorem MuO.mono {K : PySem.W.Frag} {F F' : Hp} (s : Same F F') {c : Mc} {o : HO} (h : MuO K F c o) : MuO K F' c o := by
  cases c with
  | lst ds => obtain ⟨vs, e, q⟩ := h; exact ⟨vs, e, q.mono s⟩
  | dk kvs => obtain ⟨vs, e, q⟩ := h; exact ⟨vs, e, q.mono s⟩
  | dt kvs => obtain ⟨vs, e, q⟩ := h; exact ⟨vs, e, q.mono s⟩
  | ins C fs => obtain ⟨dx, vs, e, q⟩ := h; exact ⟨dx, vs, e, q.mono s⟩
theorem MuO.is {K : PySem.W.Frag} {F : Hp} {c : Mc} {o : HO} {p : Addr} (h : MuO K F c o) (s : F p = some o) : Is K F c.d (.ref p) := by
  cases c with
  | lst ds => obtain ⟨vs, rfl, q⟩ := h; simp only [Mc.d, Is]; exact ⟨p, vs, rfl, s, q⟩
  | dk kvs =>
    obtain ⟨vs, rfl, q⟩ := h
    obtain ⟨us, e1, e2, e3⟩ := q.split
    simp only [Mc.d, Is]
    exact ⟨p, us, rfl, by rw [s, e1], e2, e3⟩
  | dt kvs =>
    obtain ⟨vs, rfl, q⟩ := h
    obtain ⟨us, e1, e2, e3⟩ := q.split
    simp only [Mc.d, Is]
    exact ⟨p, us, rfl, by rw [s, e1], e2, e3⟩
  | ins C fs =>
    obtain ⟨dx, vs, rfl, q⟩ := h
    obtain ⟨us, e1, e2, e3⟩ := q.split
    simp only [Mc.d, Is]
    exact ⟨p, dx, us, rfl, by rw [s, e1], e2, e3⟩
/-- a value: frozen data, or an own object (true: made here; false: lent by the caller), or an own object that is locked (walked) -/
inductive DV where
  | fz (d : D) | mu (own : Bool) (c : Mc) | lk (p : Addr) (c : Mc)
abbrev DEnv := List (Option DV)
/-- the entry: what is frozen, what stands, what may be changed, what is pinned -/
structure Ent where
  F : Hp
  H : Hp
  M : List Addr
  pn : List (Addr × HO)
structure Stp (F H F' H' : Hp) (M : List Addr) : Prop where
  ff : Same F F'
  keep : ∀ q o, H q = some o → q ∉ M → H' q = some o
  there : ∀ q o, H q = some o → ∃ o', H' q = some o'
  old : ∀ q o, H q = some o → F q = none → F' q = none
theorem Stp.refl {F H : Hp} {M : List Addr} : Stp F H F H M := ⟨Same.refl _, fun _ _ h _ => h, fun _ o h => ⟨o, h⟩, fun _ _ _ h => h⟩
theorem Stp.trans {F H F' H' F2 H2 : Hp} {M : List Addr} (a : Stp F H F' H' M) (b : Stp F' H' F2 H2 M) : Stp F H F2 H2 M where
  ff := a.ff.trans b.ff
  keep := fun q o h n => b.keep q o (a.keep q o h n) n
  there := fun q o h => by obtain ⟨o', h'⟩ := a.there q o h; exact b.there q o' h'
  old := fun q o h n => by obtain ⟨o', h'⟩ := a.there q o h; exact b.old q o' h' (a.old q o h n)
theorem Stp.mono {F H F' H' : Hp} {M M' : List Addr} (a : Stp F H F' H' M) (s : ∀ q, q ∈ M → q ∈ M') : Stp F H F' H' M' :=
  ⟨a.ff, fun q o h n => a.keep q o h fun z => n (s q z), a.there, a.old⟩

def Sl (K : PySem.W.Frag) (e : Ent) (F H : Hp) : DV → V → Prop
  | .fz d, v => Is K F d v
  | .mu b c, v => ∃ p o, v = .ref p ∧ F p = none ∧ (b = true → e.H p = none) ∧ (b = false → p ∈ e.M) ∧ (∀ u, (p, u) ∉ e.pn) ∧ H p = some o ∧ MuO K F c o
  | .lk p c, v => ∃ o od, v = .ref p ∧ (p, .frz od o) ∈ e.pn ∧ MuO K F c o
def DV.own : DV → Bool
  | .fz _ => false
  | .mu _ _ => true
  | .lk _ _ => false
structure Sg (K : PySem.W.Frag) (e : Ent) (ρ : DEnv) (F : Hp) (σ : St) (H : Hp) : Prop where
  fh : Same F H
  st : Stp e.F e.H F H e.M
  len : ρ.length = σ.length
  sl : ∀ (i : Nat) (dv : DV), ρ[i]? = some (some dv) → ∃ v, σ[i]? = some (some v) ∧ Sl K e F H dv v
  ap : ∀ (i j : Nat) (dv dw : DV) (v : V), ρ[i]? = some (some dv) → ρ[j]? = some (some dw) → dv.own = true → dw.own = true → σ[i]? = some (some v) → σ[j]? = some (some v) → i = j
  pin : ∀ p, p ∈ e.pn → H p.1 = some p.2 ∧ F p.1 = none ∧ e.H p.1 = none
/-- a result: data, or an own object that no slot holds -/
def Res (K : PySem.W.Frag) (e : Ent) (F H : Hp) (ρ : DEnv) (σ : St) (dv : DV) (v : V) : Prop :=
  Sl K e F H dv v ∧ (dv.own = true → ∀ (i : Nat) (dw : DV), ρ[i]? = some (some dw) → dw.own = true → σ[i]? ≠ some (some v))

section
variable {K : PySem.W.Frag} {e : Ent} {ρ ρ' : DEnv} {F F' : Hp} {σ : St} {H H' : Hp} {i : Nat} {d : D} {dv : DV} {v : V} {c c' : Mc} {o : HO} {p : Addr}
theorem Sg.free (s : Sg K e ρ F σ H) (h : H p = none) : F p = none ∧ e.H p = none := by
  constructor
  · cases q : F p with
    | none => rfl
    | some o => rw [s.fh _ _ q] at h; cases h
  · cases q : e.H p with
    | none => rfl
    | some o => obtain ⟨o', h'⟩ := s.st.there _ _ q; rw [h'] at h; cases h
theorem Sl.mono (h : Sl K e F H dv v) (s : Same F F') (k : ∀ q o, H q = some o → (dv.own = true → v = .ref q → F q = none → F' q = none ∧ H' q = some o)) : Sl K e F' H' dv v := by
  cases dv with
  | fz d => exact Is.mono s d h
  | lk p c =>
    obtain ⟨o, od, rfl, a1, a2⟩ := h
    exact ⟨o, od, rfl, a1, a2.mono s⟩
  | mu b c =>
    obtain ⟨p, o, rfl, a1, a2, a3, a4, a5, a6⟩ := h
    obtain ⟨k1, k2⟩ := k p o a5 rfl rfl a1
    exact ⟨p, o, rfl, k1, a2, a3, a4, k2, a6.mono s⟩
/-- from one state to a later one, where nothing that a slot owns is changed -/
theorem Sg.later (s : Sg K e ρ F σ H) (fh : Same F' H') (st : Stp F H F' H' []) : Sg K e ρ F' σ H' where
  fh := fh
  st := s.st.trans (st.mono fun _ h => nomatch h)
  len := s.len
  sl := fun i dv h => by
    obtain ⟨v, a, b⟩ := s.sl i dv h
    exact ⟨v, a, b.mono st.ff fun q o ho _ _ hf => ⟨st.old q o ho hf, st.keep q o ho (fun z => nomatch z)⟩⟩
  ap := s.ap
  pin := fun p hp => by
    obtain ⟨a, b, c⟩ := s.pin p hp
    exact ⟨st.keep _ _ a (fun z => nomatch z), st.old _ _ a b, c⟩
theorem Res.later (r : Res K e F H ρ σ dv v) (st : Stp F H F' H' []) : Res K e F' H' ρ σ dv v :=
  ⟨r.1.mono st.ff fun q o ho _ _ hf => ⟨st.old q o ho hf, st.keep q o ho (fun z => nomatch z)⟩, r.2⟩
/-- an own result is frozen -/
theorem Sg.frz (s : Sg K e ρ F σ H) (r : Res K e F H ρ σ (.mu true c) v) : ∃ F', Sg K e ρ F' σ H ∧ Same F F' ∧ Is K F' c.d v := by
  obtain ⟨⟨p, o, rfl, a1, a2, a3, a4, a5, a6⟩, nd⟩ := r
  have sm : Same F (upd F p o) := fun b u h => by
    by_cases hb : b = p
    · subst hb; rw [a1] at h; cases h
    · rw [upd_ne hb]; exact h
  refine ⟨upd F p o, ⟨?_, ?_, s.len, ?_, s.ap, ?_⟩, sm, (a6.mono sm).is upd_same⟩
  · intro b u h
    by_cases hb : b = p
    · subst hb; rw [upd_same] at h; cases h; exact a5
    · rw [upd_ne hb] at h; exact s.fh _ _ h
  · refine ⟨s.st.ff.trans sm, s.st.keep, s.st.there, fun q u h n => ?_⟩
    by_cases hb : q = p
    · subst hb; rw [a2 rfl] at h; cases h
    · rw [upd_ne hb]; exact s.st.old q u h n
  · intro i dw h
    obtain ⟨w, b1, b2⟩ := s.sl i dw h
    refine ⟨w, b1, ?_⟩
    cases dw with
    | fz d => exact Is.mono sm d b2
    | lk q c =>
      obtain ⟨u, od, rfl, c1, c2⟩ := b2
      exact ⟨u, od, rfl, c1, c2.mono sm⟩
    | mu b c =>
      obtain ⟨q, u, rfl, c1, c2, c3, c4, c5, c6⟩ := b2
      have hqp : q ≠ p := fun z => nd rfl i _ h rfl (by rw [b1, z])
      exact ⟨q, u, rfl, by rw [upd_ne hqp]; exact c1, c2, c3, c4, c5, c6.mono sm⟩
  · intro q hq
    obtain ⟨b1, b2, b3⟩ := s.pin q hq
    have hqp : q.1 ≠ p := fun z => a4 q.2 (by rw [← z]; exact hq)
    exact ⟨b1, by rw [upd_ne hqp]; exact b2, b3⟩
/-- forget what is known of a slot, or all of it -/
theorem Sg.weak (s : Sg K e ρ F σ H) (hl : ρ'.length = ρ.length) (h : ∀ (i : Nat) (dv : DV), ρ'[i]? = some (some dv) → ρ[i]? = some (some dv)) : Sg K e ρ' F σ H :=
  ⟨s.fh, s.st, hl.trans s.len, fun i dv q => s.sl i dv (h i dv q), fun i j dv dw v a b => s.ap i j dv dw v (h _ _ a) (h _ _ b), s.pin⟩
/-- less is known -/
def Wk : DEnv → DEnv → Prop
  | a :: r, b :: s => (match b with
    | none => True
    | some dv => a = some dv) ∧ Wk r s
  | [], [] => True
  | _, _ => False
theorem Wk.refl : ∀ ρ : DEnv, Wk ρ ρ
  | [] => trivial
  | a :: r => ⟨by cases a <;> trivial, Wk.refl r⟩
theorem Wk.len : ∀ {ρ ρ' : DEnv}, Wk ρ ρ' → ρ'.length = ρ.length
  | [], [], _ => rfl
  | a :: r, b :: s, h => by simp [Wk.len h.2]
theorem Wk.get : ∀ {ρ ρ' : DEnv} {i : Nat} {dv : DV}, Wk ρ ρ' → ρ'[i]? = some (some dv) → ρ[i]? = some (some dv)
  | [], [], _, _, _, e => e
  | a :: r, b :: s, 0, dv, h, e => by
    simp only [List.getElem?_cons_zero, Option.some.injEq] at e
    subst e
    have : a = some dv := h.1
    simp [this]
  | a :: r, b :: s, i + 1, dv, h, e => by
    simp only [List.getElem?_cons_succ] at e ⊢
    exact Wk.get h.2 e
theorem Wk.trans : ∀ {a b c : DEnv}, Wk a b → Wk b c → Wk a c
  | [], [], [], _, _ => trivial
  | a :: r, b :: s, c :: t, h, k => by
    refine ⟨?_, Wk.trans h.2 k.2⟩
    cases c with
    | none => trivial
    | some dv =>
      have e : b = some dv := k.1
      subst e
      exact h.1
theorem Sg.wk (s : Sg K e ρ F σ H) (h : Wk ρ ρ') : Sg K e ρ' F σ H := s.weak h.len fun _ _ => h.get
/-- a slot is set -/
theorem Sg.set (s : Sg K e ρ F σ H) (r : Res K e F H ρ σ dv v) : Sg K e (ρ.set i (some dv)) F (σ.set i (some v)) H where
  fh := s.fh
  st := s.st
  len := by simp [s.len]
  sl := fun j dw h => by
    by_cases hj : i = j
    · subst hj
      have hi : i < ρ.length := by
        have := (List.getElem?_eq_some_iff.mp h).1
        simpa using this
      rw [List.getElem?_set_self hi] at h
      cases h
      exact ⟨v, by rw [List.getElem?_set_self (by rw [← s.len]; exact hi)], r.1⟩
    · rw [List.getElem?_set_ne hj] at h ⊢
      exact s.sl j dw h
  ap := fun j k dw dx w h1 h2 o1 o2 g1 g2 => by
    by_cases hj : i = j
    · subst hj
      by_cases hk : i = k
      · exact hk
      · have hi : i < ρ.length := by
          have := (List.getElem?_eq_some_iff.mp h1).1
          simpa using this
        rw [List.getElem?_set_self hi] at h1
        rw [List.getElem?_set_self (by rw [← s.len]; exact hi)] at g1
        rw [List.getElem?_set_ne hk] at h2 g2
        cases h1; cases g1
        exact absurd g2 (r.2 o1 k dx h2 o2)
    · by_cases hk : i = k
      · subst hk
        have hi : i < ρ.length := by
          have := (List.getElem?_eq_some_iff.mp h2).1
          simpa using this
        rw [List.getElem?_set_self hi] at h2
        rw [List.getElem?_set_self (by rw [← s.len]; exact hi)] at g2
        rw [List.getElem?_set_ne hj] at h1 g1
        cases h2; cases g2
        exact absurd g1 (r.2 o2 j dw h1 o1)
      · rw [List.getElem?_set_ne hj] at h1 g1
        rw [List.getElem?_set_ne hk] at h2 g2
        exact s.ap j k dw dx w h1 h2 o1 o2 g1 g2
  pin := s.pin
theorem Res.fz (h : Is K F d v) : Res K e F H ρ σ (.fz d) v := ⟨h, fun z => nomatch z⟩
/-- a new object -/
theorem Sg.alloc (s : Sg K e ρ F σ H) (hp : H p = none) (m : MuO K F c o) : Sg K e ρ F σ (upd H p o) ∧ Res K e F (upd H p o) ρ σ (.mu true c) (.ref p) := by
  obtain ⟨hf, he⟩ := s.free hp
  have st : Stp F H F (upd H p o) [] := ⟨Same.refl _, fun q u h _ => by rw [upd_ne (ne_of_none h hp)]; exact h, fun q u h => ⟨u, by rw [upd_ne (ne_of_none h hp)]; exact h⟩, fun _ _ _ h => h⟩
  refine ⟨s.later (fun b u h => by rw [upd_ne (ne_of_none (s.fh _ _ h) hp)]; exact s.fh _ _ h) st, ⟨p, o, rfl, hf, fun _ => he, (fun z => nomatch z), fun u hu => ?_, upd_same, m⟩, fun _ i dw h ho z => ?_⟩
  · have := (s.pin _ hu).1
    rw [hp] at this; cases this
  · obtain ⟨w, b1, b2⟩ := s.sl i dw h
    rw [b1] at z; cases z
    cases dw with
    | fz d => cases ho
    | lk _ c => cases ho
    | mu b c =>
      obtain ⟨q, u, e1, _, _, _, _, c5, _⟩ := b2
      cases e1
      rw [hp] at c5; cases c5
/-- the object of a slot is changed -/
theorem Sg.mut {b : Bool} (s : Sg K e ρ F σ H) (hi : ρ[i]? = some (some (.mu b c))) (hσ : σ[i]? = some (some (.ref p))) (m : MuO K F c' o) : Sg K e (ρ.set i (some (.mu b c'))) F σ (upd H p o) := by
  obtain ⟨v, g1, q, u, rfl, a1, a2, a3, a4, a5, a6⟩ := s.sl i _ hi
  rw [hσ] at g1; cases g1
  have hil : i < ρ.length := (List.getElem?_eq_some_iff.mp hi).1
  have own : ∀ (j : Nat) (dw : DV), (ρ.set i (some (.mu b c')))[j]? = some (some dw) → j ≠ i → ρ[j]? = some (some dw) := fun j dw h n => by
    rwa [List.getElem?_set_ne (Ne.symm n)] at h
  refine ⟨fun b u h => ?_, ⟨s.st.ff, fun q u h n => ?_, fun q u h => ?_, s.st.old⟩, by simp [s.len], fun j dw h => ?_, fun j k dw dx w h1 h2 o1 o2 g1 g2 => ?_, fun r hr => ?_⟩
  · have : b ≠ p := fun z => by subst z; rw [a1] at h; cases h
    rw [upd_ne this]; exact s.fh _ _ h
  · by_cases hq : q = p
    · subst hq
      cases hb : b with
      | true => rw [a2 hb] at h; cases h
      | false => exact absurd (a3 hb) n
    · rw [upd_ne hq]; exact s.st.keep q u h n
  · by_cases hq : q = p
    · subst hq; exact ⟨_, upd_same⟩
    · rw [upd_ne hq]; exact s.st.there q u h
  · by_cases hj : j = i
    · subst hj
      rw [List.getElem?_set_self hil] at h; cases h
      exact ⟨_, hσ, p, o, rfl, a1, a2, a3, a4, upd_same, m⟩
    · have h' := own j dw h hj
      obtain ⟨w, b1, b2⟩ := s.sl j dw h'
      refine ⟨w, b1, ?_⟩
      cases dw with
      | fz d => exact b2
      | lk _ c => exact b2
      | mu b' c2 =>
        obtain ⟨r, u2, rfl, c1, c2, c3, c4, c5, c6⟩ := b2
        have : r ≠ p := fun z => hj (s.ap j i _ _ _ h' hi rfl rfl b1 (by rw [hσ, z]))
        exact ⟨r, u2, rfl, c1, c2, c3, c4, by rw [upd_ne this]; exact c5, c6⟩
  · have h1' : ∃ dw', ρ[j]? = some (some dw') ∧ dw'.own = true := by
      by_cases hj : j = i
      · subst hj; exact ⟨_, hi, rfl⟩
      · exact ⟨dw, own j dw h1 hj, o1⟩
    have h2' : ∃ dx', ρ[k]? = some (some dx') ∧ dx'.own = true := by
      by_cases hk : k = i
      · subst hk; exact ⟨_, hi, rfl⟩
      · exact ⟨dx, own k dx h2 hk, o2⟩
    obtain ⟨dw', p1, p2⟩ := h1'
    obtain ⟨dx', p3, p4⟩ := h2'
    exact s.ap j k _ _ w p1 p3 p2 p4 g1 g2
  · obtain ⟨b1, b2, b3⟩ := s.pin r hr
    have : r.1 ≠ p := fun z => a4 r.2 (by rw [← z]; exact hr)
    exact ⟨by rw [upd_ne this]; exact b1, b2, b3⟩
/-- a slot's own object is moved out of it -/
theorem Sg.move {b : Bool} (s : Sg K e ρ F σ H) (hi : ρ[i]? = some (some (.mu b c))) : ∃ v, σ[i]? = some (some v) ∧ Sg K e (ρ.set i none) F σ H ∧ Res K e F H (ρ.set i none) σ (.mu b c) v := by
  obtain ⟨v, g1, g2⟩ := s.sl i _ hi
  have own : ∀ (j : Nat) (dw : DV), (ρ.set i none)[j]? = some (some dw) → j ≠ i ∧ ρ[j]? = some (some dw) := fun j dw h => by
    by_cases n : i = j
    · subst n
      have hil : i < ρ.length := (List.getElem?_eq_some_iff.mp hi).1
      rw [List.getElem?_set_self hil] at h; cases h
    · rw [List.getElem?_set_ne n] at h
      exact ⟨fun z => n z.symm, h⟩
  refine ⟨v, g1, s.weak (by simp) fun j dw h => (own j dw h).2, g2, fun _ j dw h ho z => ?_⟩
  obtain ⟨n, h'⟩ := own j dw h
  exact n (s.ap j i _ _ v h' hi ho rfl z g1)
end
end L2.DL

/-! # DLb.lean -/
set_option Elab.async false
set_option linter.all false
set_option maxRecDepth 100000
namespace L2.DL
open PySem PySem.Spec PyProof.Rows

/-! ## judgements -/
abbrev EXt := Str → List (Str × D) → DEnv → Prop
abbrev WE := EXt → DEnv → (DV → DEnv → Prop) → Prop
abbrev WT := EXt → DEnv → (Bool → DEnv → Prop) → Prop
abbrev WA := EXt → DEnv → (List D → DEnv → Prop) → Prop
abbrev IsKV (K : PySem.W.Frag) (F : Hp) : List (Str × D) → List (Str × V) → Prop := KVD K F
/-- what is wished of an exception, by data -/
def Hx (K : PySem.W.Frag) (Wx : WX) (e : Ent) (EX : EXt) : Prop := ∀ C dd fs kvs ρ' F' σ' H', Sg K e ρ' F' σ' H' → H' dd = some (.xd fs) → F' dd = none → (e.H dd = none ∧ ∀ u, (dd, u) ∉ e.pn) → IsKV K F' kvs fs → EX C kvs ρ' → Wx (.ref (He.ga K C)) (some dd) σ' H'
def cE (K : PySem.W.Frag) (Wx : WX) (W : WE) : TE := fun σ H Q => ∃ e ρ F EX P, Sg K e ρ F σ H ∧ W EX ρ P ∧ Hx K Wx e EX ∧
  ∀ F' H' v dv ρ', Sg K e ρ' F' σ H' → Same F F' → Res K e F' H' ρ' σ dv v → P dv ρ' → Q v H'
def cT (K : PySem.W.Frag) (Wx : WX) (W : WT) : TT := fun σ H Q => ∃ e ρ F EX P, Sg K e ρ F σ H ∧ W EX ρ P ∧ Hx K Wx e EX ∧
  ∀ F' H' b ρ', Sg K e ρ' F' σ H' → Same F F' → P b ρ' → Q b H'
def cA (K : PySem.W.Frag) (Wx : WX) (W : WA) : TA := fun σ H Q => ∃ e ρ F EX P, Sg K e ρ F σ H ∧ W EX ρ P ∧ Hx K Wx e EX ∧
  ∀ F' H' vs ds ρ', Sg K e ρ' F' σ H' → Same F F' → IsL K F' ds vs → P ds ρ' → Q vs H'
abbrev JE (X : Cx) (Wx : WX) (e : Expr) (W : WE) : Prop := PE X e (cE X.K Wx W)
abbrev JT (X : Cx) (Wx : WX) (e : Expr) (W : WT) : Prop := PT X e (cT X.K Wx W)
abbrev JW (X : Cx) (Wx : WX) (e : Expr) (W : WT) : Prop := PW X e (cT X.K Wx W)
abbrev JA (X : Cx) (Wx : WX) (es : List Expr) (W : WA) : Prop := PA X es (cA X.K Wx W)

theorem PE.wk {X : Cx} {e : Expr} {t t' : TE} (h : PE X e t) (i : ∀ σ H Q, t' σ H Q → t σ H Q) : PE X e t' := ⟨fun pins s σ H Q I q => h.run pins s σ H Q I (i σ H Q q)⟩
theorem PT.wk {X : Cx} {e : Expr} {t t' : TT} (h : PT X e t) (i : ∀ σ H Q, t' σ H Q → t σ H Q) : PT X e t' := ⟨fun pins s σ H Q I q => h.run pins s σ H Q I (i σ H Q q)⟩
theorem PW.wk {X : Cx} {e : Expr} {t t' : TT} (h : PW X e t) (i : ∀ σ H Q, t' σ H Q → t σ H Q) : PW X e t' := ⟨fun wh pins s σ H Q I q => h.run wh pins s σ H Q I (i σ H Q q)⟩
theorem PA.wk {X : Cx} {es : List Expr} {t t' : TA} (h : PA X es t) (i : ∀ σ H Q, t' σ H Q → t σ H Q) : PA X es t' := ⟨fun p pins s σ H Q I q => h.run p pins s σ H Q I (i σ H Q q)⟩

/-- two ways -/
def ift (b : Bool) (A B : Prop) : Prop := match b with
  | true => A
  | false => B
theorem ift_of {b : Bool} {A B : Prop} (h1 : b = true → A) (h2 : b = false → B) : ift b A B := by
  cases b
  · exact h2 rfl
  · exact h1 rfl
theorem ift_t {b : Bool} {A B : Prop} (hb : b = true) (h : A) : ift b A B := by subst hb; exact h
theorem ift_f {b : Bool} {A B : Prop} (hb : b = false) (h : B) : ift b A B := by subst hb; exact h
theorem ift_d {p : Prop} [Decidable p] {A B : Prop} (h1 : p → A) (h2 : ¬ p → B) : ift (decide p) A B :=
  ift_of (fun h => h1 (of_decide_eq_true h)) fun h => h2 (of_decide_eq_false h)
theorem ift_n {p : Prop} [Decidable p] {A B : Prop} (h1 : ¬ p → A) (h2 : p → B) : ift (!decide p) A B :=
  ift_of (fun h => h1 (by simpa using h)) fun h => h2 (by simpa using h)
/-- use as data -/
def DV.thn (dv : DV) (P : D → Prop) : Prop := match dv with
  | .fz d => P d
  | .mu true c => P c.d
  | .mu false _ => False
  | .lk _ _ => False
theorem Sg.data {K : PySem.W.Frag} {e : Ent} {ρ : DEnv} {F : Hp} {σ : St} {H : Hp} {dv : DV} {v : V} {P : D → Prop} (s : Sg K e ρ F σ H) (r : Res K e F H ρ σ dv v) (h : dv.thn P) :
    ∃ F' d, Sg K e ρ F' σ H ∧ Same F F' ∧ Is K F' d v ∧ P d := by
  cases dv with
  | fz d => exact ⟨F, d, s, Same.refl _, r.1, h⟩
  | lk _ c => exact h.elim
  | mu b c =>
    cases b with
    | false => exact h.elim
    | true =>
      obtain ⟨F', a, b, c'⟩ := s.frz r
      exact ⟨F', c.d, a, b, c', h⟩

section
variable {X : Cx} {Wx : WX} {pos : Pos}
/-! ### names, constants -/
def wVar (i : Nat) : WE := fun _ ρ P => match ρ[i]? with
  | some (some (.fz d)) => P (.fz d) ρ
  | _ => False
/-- an own object, moved out of its slot -/
def wMov (i : Nat) : WE := fun _ ρ P => match ρ[i]? with
  | some (some (.mu b c)) => P (.mu b c) (ρ.set i none)
  | _ => False
/-- an own object, frozen where it is -/
def wFrz (i : Nat) : WE := fun _ ρ P => match ρ[i]? with
  | some (some (.mu true c)) => P (.fz c.d) (ρ.set i (some (.fz c.d)))
  | _ => False
def wK (d : D) : WE := fun _ ρ P => P (.fz d) ρ
theorem je_var {i : Nat} {x : Str} (h : PE X (.Name x pos) (tVar i)) : JE X Wx (.Name x pos) (wVar i) := by
  refine PE.wk h fun σ H Q h => ?_
  obtain ⟨e, ρ, F, EX, P, s, w, hx, k⟩ := h
  unfold wVar at w
  split at w
  · rename_i d hd
    obtain ⟨v, a, b⟩ := s.sl i _ hd
    exact ⟨v, a, k F H v (.fz d) ρ s (Same.refl _) (Res.fz b) w⟩
  · exact w.elim
theorem je_mov {i : Nat} {x : Str} (h : PE X (.Name x pos) (tVar i)) : JE X Wx (.Name x pos) (wMov i) := by
  refine PE.wk h fun σ H Q h => ?_
  obtain ⟨e, ρ, F, EX, P, s, w, hx, k⟩ := h
  unfold wMov at w
  split at w
  · rename_i b c hd
    obtain ⟨v, a, s', r⟩ := s.move hd
    exact ⟨v, a, k F H v _ _ s' (Same.refl _) r w⟩
  · exact w.elim
theorem je_frz {i : Nat} {x : Str} (h : PE X (.Name x pos) (tVar i)) : JE X Wx (.Name x pos) (wFrz i) := by
  refine PE.wk h fun σ H Q h => ?_
  obtain ⟨e, ρ, F, EX, P, s, w, hx, k⟩ := h
  unfold wFrz at w
  split at w
  · rename_i c hd
    obtain ⟨v, a, s', r⟩ := s.move hd
    obtain ⟨F', s2, sm, r2⟩ := s'.frz r
    have s3 := s2.set (i := i) (Res.fz (H := H) (e := e) (ρ := ρ.set i none) (σ := σ) r2)
    have e1 : (ρ.set i none).set i (some (.fz c.d)) = ρ.set i (some (.fz c.d)) := by simp
    have e2 : σ.set i (some v) = σ := by
      apply List.ext_getElem?
      intro j
      by_cases hj : i = j
      · subst hj
        rw [a, List.getElem?_set_self (List.getElem?_eq_some_iff.mp a).1]
      · rw [List.getElem?_set_ne hj]
    rw [e1, e2] at s3
    exact ⟨v, a, k F' H v _ _ s3 sm (Res.fz r2) w⟩
  · exact w.elim
theorem je_const {ex : Expr} {d : D} {v : V} (h : PE X ex (tC v)) (hd : ∀ F, Is X.K F d v) : JE X Wx ex (wK d) := by
  refine PE.wk h fun σ H Q h => ?_
  obtain ⟨e, ρ, F, EX, P, s, w, hx, k⟩ := h
  exact k F H v _ ρ s (Same.refl _) (Res.fz (hd F)) w
theorem je_int {i : Int} {j} : JE X Wx (.Constant (.int i) j pos) (wK (.int i)) := je_const pe_int fun _ => by simp [Is]
theorem je_bl {i : Bool} {j} : JE X Wx (.Constant (.bool i) j pos) (wK (.bl i)) := je_const pe_bl fun _ => by simp [Is]
theorem je_non {j} : JE X Wx (.Constant .none j pos) (wK .non) := je_const pe_non fun _ => by simp [Is]
theorem je_str {x : Str} {j} : JE X Wx (.Constant (.str x) j pos) (wK (.str x)) := je_const pe_str fun _ => by simp [Is]
theorem je_gint {x : Str} {i : Int} {t : Tok} (hg : Gl X x) (hm : X.mg x = some (.int i t)) (hd : (x == ("__debug__" : Str)) = false := by decide) : JE X Wx (.Name x pos) (wK (.int i)) :=
  je_const (pe_glob (v := .int i) hg hm ⟨t, rfl⟩ hd) fun _ => by simp [Is]
theorem je_gref {x : Str} {a : Addr} (hg : Gl X x) (hm : X.mg x = some (.ref a)) (hd : (x == ("__debug__" : Str)) = false := by decide) : JE X Wx (.Name x pos) (wK (.adr a)) :=
  je_const (pe_glob hg hm (v := .ref a) rfl hd) fun _ => by simp [Is]
theorem je_ty {x : Str} {n : String} (hg : Gl X x) (hm : X.mg x = none) (hv : bootBuiltins x = some (.type n)) (hn : x ≠ "__name__" := by decide) (hd : (x == ("__debug__" : Str)) = false := by decide) : JE X Wx (.Name x pos) (wK (.ty n)) :=
  je_const (pe_bltn hg hm hv (v := .ty n) rfl hn hd) fun _ => by simp [Is]

/-! ### two operands -/
/-- a rule by values, by data -/
def BR (K : PySem.W.Frag) (r : R2) (w : D → D → (DV → Prop) → Prop) : Prop :=
  ∀ e ρ F σ H x y a b Q P, Sg K e ρ F σ H → Is K F a x → Is K F b y → w a b P →
    (∀ F' H' v dv, Sg K e ρ F' σ H' → Same F F' → Res K e F' H' ρ σ dv v → P dv → Q v H') → r x y H Q
def wBin (w : D → D → (DV → Prop) → Prop) (Wa Wb : WE) : WE := fun EX ρ P => Wa EX ρ fun a ρ1 => a.thn fun da => Wb EX ρ1 fun b ρ2 => b.thn fun db => w da db fun dv => P dv ρ2
variable {a b c : Expr} {Wa Wb Wc : WE} {r r' : R2} {w w' : D → D → (DV → Prop) → Prop}
theorem cE_bin (hr : BR X.K r w) (σ : St) (H : Hp) (Q : VK) (h : cE X.K Wx (wBin w Wa Wb) σ H Q) : tOp r (cE X.K Wx Wa) (cE X.K Wx Wb) σ H Q := by
  obtain ⟨e, ρ, F, EX, P, s, w0, hx, k⟩ := h
  refine ⟨e, ρ, F, EX, _, s, w0, hx, fun F1 H1 v1 d1 ρ1 s1 m1 r1 q1 => ?_⟩
  obtain ⟨F1', a1, s1', m1', i1, q1'⟩ := s1.data r1 q1
  refine ⟨e, ρ1, F1', EX, _, s1', q1', hx, fun F2 H2 v2 d2 ρ2 s2 m2 r2 q2 => ?_⟩
  obtain ⟨F2', a2, s2', m2', i2, q2'⟩ := s2.data r2 q2
  exact hr e ρ2 F2' σ H2 v1 v2 a1 a2 Q _ s2' (Is.mono (m2.trans m2') _ i1) i2 q2' fun F' H' v dv s' sm res p => k F' H' v dv ρ2 s' (m1.trans (m1'.trans (m2.trans (m2'.trans sm)))) res p
theorem je_op {op : Operator} (ho : OpR X (binaryOp op) r) (hr : BR X.K r w) (ha : JE X Wx a Wa) (hb : JE X Wx b Wb) : JE X Wx (.BinOp a op b pos) (wBin w Wa Wb) := PE.wk (pe_op ho ha hb) (cE_bin hr)
theorem je_cmp {op : CmpOp} (ho : OpR X (compareOp op) r) (hr : BR X.K r w) (ha : JE X Wx a Wa) (hb : JE X Wx b Wb) (hm : behindInMarks op b = false) : JE X Wx (.Compare a [op] [b] pos) (wBin w Wa Wb) := PE.wk (pe_cmpR ho ha hb hm) (cE_bin hr)
theorem je_ix (ho : IxR X r) (hr : BR X.K r w) (ha : JE X Wx a Wa) (hb : JE X Wx b Wb) (hs : PlainIx b) : JE X Wx (.Subscript a b pos) (wBin w Wa Wb) := PE.wk (pe_ix ho ha hb hs) (cE_bin hr)

/-- a value that is True or False, as a test -/
def wTest (W : WE) : WT := fun EX ρ P => W EX ρ fun dv ρ1 => match dv with
  | .fz (.bl b) => P b ρ1
  | _ => False
theorem cT_test {t : TE} {W : WE} (hi : ∀ σ H Q, cE X.K Wx W σ H Q → t σ H Q) (σ : St) (H : Hp) (Q : Bool → Hp → Prop) (h : cT X.K Wx (wTest W) σ H Q) : tTest t σ H Q := by
  obtain ⟨e, ρ, F, EX, P, s, w0, hx, k⟩ := h
  refine hi _ _ _ ⟨e, ρ, F, EX, _, s, w0, hx, fun F1 H1 v1 d1 ρ1 s1 m1 r1 q1 => ?_⟩
  split at q1
  · rename_i b'
    have : v1 = .bl b' := by simpa [Res, Sl, Is] using r1.1
    exact ⟨b', this, k F1 H1 b' ρ1 s1 m1 q1⟩
  · exact q1.elim
theorem jt_cmp {op : CmpOp} (ho : OpR X (compareOp op) r) (hr : BR X.K r w) (ha : JE X Wx a Wa) (hb : JE X Wx b Wb) (hm : behindInMarks op b = false) : JT X Wx (.Compare a [op] [b] pos) (wTest (wBin w Wa Wb)) :=
  PT.wk (pt_cmpR ho ha hb hm) (cT_test (cE_bin hr))
theorem jt_val (h : JE X Wx a Wa) (he : ∀ whole, isTrue a X.env whole = (do let v ← whole; standAt a.pos; holding [v] (truthy v)) := by intro _; rfl) : JT X Wx a (wTest Wa) :=
  PT.wk (pt_val h he) (cT_test fun _ _ _ h => h)
/-- a < b < c -/
def wChain (w w' : D → D → (DV → Prop) → Prop) (Wa Wb Wc : WE) : WE := fun EX ρ P => Wa EX ρ fun a ρ1 => a.thn fun da => Wb EX ρ1 fun b ρ2 => b.thn fun db => w da db fun z => match z with
  | .fz (.bl k) => ift k (Wc EX ρ2 fun c ρ3 => c.thn fun dc => w' db dc fun dv => P dv ρ3) (P (.fz (.bl false)) ρ2)
  | _ => False
theorem cE_chain (hr : BR X.K r w) (hr' : BR X.K r' w') (σ : St) (H : Hp) (Q : VK) (h : cE X.K Wx (wChain w w' Wa Wb Wc) σ H Q) : tChain r r' (cE X.K Wx Wa) (cE X.K Wx Wb) (cE X.K Wx Wc) σ H Q := by
  obtain ⟨e, ρ, F, EX, P, s, w0, hx, k⟩ := h
  refine ⟨e, ρ, F, EX, _, s, w0, hx, fun F1 H1 v1 d1 ρ1 s1 m1 r1 q1 => ?_⟩
  obtain ⟨F1', a1, s1', m1', i1, q1'⟩ := s1.data r1 q1
  refine ⟨e, ρ1, F1', EX, _, s1', q1', hx, fun F2 H2 v2 d2 ρ2 s2 m2 r2 q2 => ?_⟩
  obtain ⟨F2', a2, s2', m2', i2, q2'⟩ := s2.data r2 q2
  refine hr e ρ2 F2' σ H2 v1 v2 a1 a2 _ _ s2' (Is.mono (m2.trans m2') _ i1) i2 q2' fun F3 H3 v3 d3 s3 m3 r3 q3 => ?_
  split at q3
  · rename_i kk
    have hv : v3 = .bl kk := by simpa [Res, Sl, Is] using r3.1
    refine ⟨kk, hv, ?_⟩
    have mm := m1.trans (m1'.trans (m2.trans (m2'.trans m3)))
    cases kk with
    | false =>
      rw [if_neg (by decide)]
      exact k F3 H3 _ _ ρ2 s3 mm (Res.fz (by simp [Is])) q3
    | true =>
      rw [if_pos rfl]
      refine ⟨e, ρ2, F3, EX, _, s3, q3, hx, fun F4 H4 v4 d4 ρ4 s4 m4 r4 q4 => ?_⟩
      obtain ⟨F4', a4, s4', m4', i4, q4'⟩ := s4.data r4 q4
      exact hr' e ρ4 F4' σ H4 v2 v4 a2 a4 Q _ s4' (Is.mono (m3.trans (m4.trans m4')) _ i2) i4 q4' fun F' H' v dv s' sm res p => k F' H' v dv ρ4 s' (mm.trans (m4.trans (m4'.trans sm))) res p
  · exact q3.elim
theorem je_chain {op op' : CmpOp} (ho : OpR X (compareOp op) r) (ho' : OpR X (compareOp op') r') (hr : BR X.K r w) (hr' : BR X.K r' w') (ha : JE X Wx a Wa) (hb : JE X Wx b Wb) (hc : JE X Wx c Wc)
    (hm : lastMarks [op, op'] [b, c] = false := by with_unfolding_all rfl) : JE X Wx (.Compare a [op, op'] [b, c] pos) (wChain w w' Wa Wb Wc) := PE.wk (pe_chain ho ho' ha hb hc hm) (cE_chain hr hr')
theorem jt_chain {op op' : CmpOp} (ho : OpR X (compareOp op) r) (ho' : OpR X (compareOp op') r') (hr : BR X.K r w) (hr' : BR X.K r' w') (ha : JE X Wx a Wa) (hb : JE X Wx b Wb) (hc : JE X Wx c Wc)
    (hm : lastMarks [op, op'] [b, c] = false := by with_unfolding_all rfl) : JT X Wx (.Compare a [op, op'] [b, c] pos) (wTest (wChain w w' Wa Wb Wc)) := PT.wk (pt_chain ho ho' ha hb hc hm) (cT_test (cE_chain hr hr'))

/-! ### one operand -/
def wUn (g : Int → Int) (Wa : WE) : WE := fun EX ρ P => Wa EX ρ fun a ρ1 => match a with
  | .fz (.int i) => P (.fz (.int (g i))) ρ1
  | _ => False
theorem je_un {op : UnaryOp} {g : Int → Int} (ho : UnR X (unaryOp op) (rU fun i => .int (g i))) (ha : JE X Wx a Wa) : JE X Wx (.UnaryOp op a pos) (wUn g Wa) := by
  refine PE.wk (pe_un ho ha) fun σ H Q h => ?_
  obtain ⟨e, ρ, F, EX, P, s, w0, hx, k⟩ := h
  refine ⟨e, ρ, F, EX, _, s, w0, hx, fun F1 H1 v1 d1 ρ1 s1 m1 r1 q1 => ?_⟩
  split at q1
  · rename_i i
    exact ⟨i, by simpa [Res, Sl, Is] using r1.1, k F1 H1 _ _ ρ1 s1 m1 (Res.fz (by simp [Is])) q1⟩
  · exact q1.elim

/-! ### and, or, not, if -/
variable {Ta Tb Tc : WT} {rest : List Expr}
def wAnd (Ta Tb : WT) : WT := fun EX ρ P => Ta EX ρ fun b ρ1 => ift b (Tb EX ρ1 P) (P false ρ1)
def wOr (Ta Tb : WT) : WT := fun EX ρ P => Ta EX ρ fun b ρ1 => ift b (P true ρ1) (Tb EX ρ1 P)
def wNot (Ta : WT) : WT := fun EX ρ P => Ta EX ρ fun b ρ1 => P (!b) ρ1
theorem jw_and1 (ha : JT X Wx a Ta) : JW X Wx (.BoolOp .And [a] pos) Ta := pw_and1 ha
theorem jw_or1 (ha : JT X Wx a Ta) : JW X Wx (.BoolOp .Or [a] pos) Ta := pw_or1 ha
theorem jw_and (ha : JT X Wx a Ta) (hb : JW X Wx (.BoolOp .And (b :: rest) pos) Tb) : JW X Wx (.BoolOp .And (a :: b :: rest) pos) (wAnd Ta Tb) := by
  refine PW.wk (pw_and ha hb) fun σ H Q h => ?_
  obtain ⟨e, ρ, F, EX, P, s, w0, hx, k⟩ := h
  refine ⟨e, ρ, F, EX, _, s, w0, hx, fun F1 H1 b ρ1 s1 m1 q1 => ?_⟩
  cases b with
  | true => rw [if_pos rfl]; exact ⟨e, ρ1, F1, EX, P, s1, q1, hx, fun F' H' b ρ' s' m' p' => k F' H' b ρ' s' (m1.trans m') p'⟩
  | false => rw [if_neg (by decide)]; exact k _ _ _ _ s1 m1 q1
theorem jw_or (ha : JT X Wx a Ta) (hb : JW X Wx (.BoolOp .Or (b :: rest) pos) Tb) : JW X Wx (.BoolOp .Or (a :: b :: rest) pos) (wOr Ta Tb) := by
  refine PW.wk (pw_or ha hb) fun σ H Q h => ?_
  obtain ⟨e, ρ, F, EX, P, s, w0, hx, k⟩ := h
  refine ⟨e, ρ, F, EX, _, s, w0, hx, fun F1 H1 b ρ1 s1 m1 q1 => ?_⟩
  cases b with
  | true => rw [if_pos rfl]; exact k _ _ _ _ s1 m1 q1
  | false => rw [if_neg (by decide)]; exact ⟨e, ρ1, F1, EX, P, s1, q1, hx, fun F' H' b ρ' s' m' p' => k F' H' b ρ' s' (m1.trans m') p'⟩
theorem jt_w (h : JW X Wx a Ta) : JT X Wx a Ta := h.pt
theorem jt_not (ha : JT X Wx a Ta) : JT X Wx (.UnaryOp .Not a pos) (wNot Ta) := by
  refine PT.wk (pt_not ha) fun σ H Q h => ?_
  obtain ⟨e, ρ, F, EX, P, s, w0, hx, k⟩ := h
  exact ⟨e, ρ, F, EX, _, s, w0, hx, fun F1 H1 b ρ1 s1 m1 q1 => k _ _ _ _ s1 m1 q1⟩
/-- and, or, not as values -/
def wAndV (Wa Wb : WE) : WE := fun EX ρ P => Wa EX ρ fun a ρ1 => match a with
  | .fz (.bl b) => ift b (Wb EX ρ1 P) (P (.fz (.bl false)) ρ1)
  | _ => False
def wOrV (Wa Wb : WE) : WE := fun EX ρ P => Wa EX ρ fun a ρ1 => match a with
  | .fz (.bl b) => ift b (P (.fz (.bl true)) ρ1) (Wb EX ρ1 P)
  | _ => False
def wNotV (Wa : WE) : WE := fun EX ρ P => Wa EX ρ fun a ρ1 => match a with
  | .fz (.bl b) => P (.fz (.bl (!b))) ρ1
  | _ => False
theorem je_one {op} (h : JE X Wx a Wa) : JE X Wx (.BoolOp op [a] pos) Wa := pe_one h
theorem je_and (ha : JE X Wx a Wa) (hb : JE X Wx (.BoolOp .And (b :: rest) pos) Wb) : JE X Wx (.BoolOp .And (a :: b :: rest) pos) (wAndV Wa Wb) := by
  refine PE.wk (pe_and ha hb) fun σ H Q h => ?_
  obtain ⟨e, ρ, F, EX, P, s, w0, hx, k⟩ := h
  refine ⟨e, ρ, F, EX, _, s, w0, hx, fun F1 H1 v1 d1 ρ1 s1 m1 r1 q1 => ?_⟩
  split at q1
  · rename_i b
    refine ⟨b, by simpa [Res, Sl, Is] using r1.1, ?_⟩
    cases b with
    | true => rw [if_pos rfl]; exact ⟨e, ρ1, F1, EX, P, s1, q1, hx, fun F' H' v dv ρ' s' m' r' p' => k F' H' v dv ρ' s' (m1.trans m') r' p'⟩
    | false => rw [if_neg (by decide)]; exact k _ _ _ _ _ s1 m1 (Res.fz (by simp [Is])) q1
  · exact q1.elim
theorem je_or (ha : JE X Wx a Wa) (hb : JE X Wx (.BoolOp .Or (b :: rest) pos) Wb) : JE X Wx (.BoolOp .Or (a :: b :: rest) pos) (wOrV Wa Wb) := by
  refine PE.wk (pe_or ha hb) fun σ H Q h => ?_
  obtain ⟨e, ρ, F, EX, P, s, w0, hx, k⟩ := h
  refine ⟨e, ρ, F, EX, _, s, w0, hx, fun F1 H1 v1 d1 ρ1 s1 m1 r1 q1 => ?_⟩
  split at q1
  · rename_i b
    refine ⟨b, by simpa [Res, Sl, Is] using r1.1, ?_⟩
    cases b with
    | false => rw [if_neg (by decide)]; exact ⟨e, ρ1, F1, EX, P, s1, q1, hx, fun F' H' v dv ρ' s' m' r' p' => k F' H' v dv ρ' s' (m1.trans m') r' p'⟩
    | true => rw [if_pos rfl]; exact k _ _ _ _ _ s1 m1 (Res.fz (by simp [Is])) q1
  · exact q1.elim
theorem je_not (ha : JE X Wx a Wa) : JE X Wx (.UnaryOp .Not a pos) (wNotV Wa) := by
  refine PE.wk (pe_not ha) fun σ H Q h => ?_
  obtain ⟨e, ρ, F, EX, P, s, w0, hx, k⟩ := h
  refine ⟨e, ρ, F, EX, _, s, w0, hx, fun F1 H1 v1 d1 ρ1 s1 m1 r1 q1 => ?_⟩
  split at q1
  · rename_i b
    exact ⟨b, by simpa [Res, Sl, Is] using r1.1, k _ _ _ _ _ s1 m1 (Res.fz (by simp [Is])) q1⟩
  · exact q1.elim
def wIf (Tc : WT) (Wa Wb : WE) : WE := fun EX ρ P => Tc EX ρ fun b ρ1 => ift b (Wa EX ρ1 P) (Wb EX ρ1 P)
theorem je_if (hc : JT X Wx c Tc) (ha : JE X Wx a Wa) (hb : JE X Wx b Wb) : JE X Wx (.IfExp c a b pos) (wIf Tc Wa Wb) := by
  refine PE.wk (pe_ifExp hc ha hb) fun σ H Q h => ?_
  obtain ⟨e, ρ, F, EX, P, s, w0, hx, k⟩ := h
  refine ⟨e, ρ, F, EX, _, s, w0, hx, fun F1 H1 b ρ1 s1 m1 q1 => ?_⟩
  cases b with
  | true => rw [if_pos rfl]; exact ⟨e, ρ1, F1, EX, P, s1, q1, hx, fun F' H' v dv ρ' s' m' r' p' => k F' H' v dv ρ' s' (m1.trans m') r' p'⟩
  | false => rw [if_neg (by decide)]; exact ⟨e, ρ1, F1, EX, P, s1, q1, hx, fun F' H' v dv ρ' s' m' r' p' => k F' H' v dv ρ' s' (m1.trans m') r' p'⟩

/-! ### arguments, displays -/
variable {es : List Expr} {We : WE} {Wr Wargs : WA}
def wNil : WA := fun _ ρ P => P [] ρ
def wCons (We : WE) (Wr : WA) : WA := fun EX ρ P => We EX ρ fun a ρ1 => a.thn fun d => Wr EX ρ1 fun ds ρ2 => P (d :: ds) ρ2
theorem ja_nil : JA X Wx [] wNil := by
  refine PA.wk pa_nil fun σ H Q h => ?_
  obtain ⟨e, ρ, F, EX, P, s, w0, hx, k⟩ := h
  exact k F H [] [] ρ s (Same.refl _) IsL.nil w0
theorem ja_cons (ha : JE X Wx a We) (hr : JA X Wx es Wr) (hs : starEach (a :: es) X.env = (false, eval a X.env) :: starEach es X.env := by rfl) : JA X Wx (a :: es) (wCons We Wr) := by
  refine PA.wk (pa_cons ha hr hs) fun σ H Q h => ?_
  obtain ⟨e, ρ, F, EX, P, s, w0, hx, k⟩ := h
  refine ⟨e, ρ, F, EX, _, s, w0, hx, fun F1 H1 v1 d1 ρ1 s1 m1 r1 q1 => ?_⟩
  obtain ⟨F1', a1, s1', m1', i1, q1'⟩ := s1.data r1 q1
  refine ⟨e, ρ1, F1', EX, _, s1', q1', hx, fun F2 H2 vs ds ρ2 s2 m2 r2 q2 => ?_⟩
  exact k F2 H2 _ _ ρ2 s2 (m1.trans (m1'.trans m2)) (IsL.cons (Is.mono m2 _ i1) r2) q2
def wTup (Wa : WA) : WE := fun EX ρ P => Wa EX ρ fun ds ρ1 => ds.length ≤ sizeLine ∧ P (.fz (.tup ds)) ρ1
def wLst (Wa : WA) : WE := fun EX ρ P => Wa EX ρ fun ds ρ1 => ds.length ≤ sizeLine ∧ P (.mu true (.lst ds)) ρ1
/-- a new frozen object -/
theorem Sg.allocT {K : PySem.W.Frag} {e : Ent} {ρ : DEnv} {F : Hp} {σ : St} {H : Hp} {p : Addr} {o : HO} (s : Sg K e ρ F σ H) (hp : H p = none) : Sg K e ρ (upd F p o) σ (upd H p o) ∧ Same F (upd F p o) := by
  obtain ⟨hf, he⟩ := s.free hp
  have sm : Same F (upd F p o) := fun b u h => by rw [upd_ne (ne_of_none h hf)]; exact h
  refine ⟨s.later (fun b u h => ?_) ⟨sm, fun q u h _ => by rw [upd_ne (ne_of_none h hp)]; exact h, fun q u h => ⟨u, by rw [upd_ne (ne_of_none h hp)]; exact h⟩, fun q u h n => by rw [upd_ne (ne_of_none h hp)]; exact n⟩, sm⟩
  by_cases hb : b = p
  · subst hb; rw [upd_same] at h; cases h; exact upd_same
  · rw [upd_ne hb] at h; rw [upd_ne hb]; exact s.fh _ _ h
theorem je_tup {x1} (h : JA X Wx es Wargs) : JE X Wx (.Tuple es x1 pos) (wTup Wargs) := by
  refine PE.wk (pe_tup h) fun σ H Q h => ?_
  obtain ⟨e, ρ, F, EX, P, s, w0, hx, k⟩ := h
  refine ⟨e, ρ, F, EX, _, s, w0, hx, fun F1 H1 vs ds ρ1 s1 m1 r1 q1 => ⟨by rw [← r1.len]; exact q1.1, fun p hp => ?_⟩⟩
  obtain ⟨s2, m2⟩ := s1.allocT (o := .tup vs) hp
  refine k _ _ _ _ ρ1 s2 (m1.trans m2) (Res.fz ?_) q1.2
  simp only [Is]
  exact ⟨p, vs, rfl, SqT.of upd_same, IsL.mono m2 _ r1⟩
theorem je_lst (h : JA X Wx es Wargs) : JE X Wx (.List es pos) (wLst Wargs) := by
  refine PE.wk (pe_lst h) fun σ H Q h => ?_
  obtain ⟨e, ρ, F, EX, P, s, w0, hx, k⟩ := h
  refine ⟨e, ρ, F, EX, _, s, w0, hx, fun F1 H1 vs ds ρ1 s1 m1 r1 q1 => ⟨by rw [← r1.len]; exact q1.1, fun p hp => ?_⟩⟩
  obtain ⟨s2, r2⟩ := s1.alloc (o := .lst vs) (c := .lst ds) hp ⟨vs, rfl, r1⟩
  exact k _ _ _ _ ρ1 s2 m1 r2 q1.2
def wDictNew : WE := fun _ ρ P => P (.mu true (.dk [])) ρ
theorem je_dictNew : JE X Wx (.Dict [] [] pos) wDictNew := by
  refine PE.wk pe_dnewK fun σ H Q h => ?_
  obtain ⟨e, ρ, F, EX, P, s, w0, hx, k⟩ := h
  intro p hp
  obtain ⟨s2, r2⟩ := s.alloc (o := .dK []) (c := .dk []) hp ⟨[], rfl, .nil⟩
  exact k _ _ _ _ ρ s2 (Same.refl _) r2 w0

def wDictNewT : WE := fun _ ρ P => P (.mu true (.dt [])) ρ
theorem je_dictNewT : JE X Wx (.Dict [] [] pos) wDictNewT := by
  refine PE.wk pe_dnewT fun σ H Q h => ?_
  obtain ⟨e, ρ, F, EX, P, s, w0, hx, k⟩ := h
  intro p hp
  obtain ⟨s2, r2⟩ := s.alloc (o := .dT []) (c := .dt []) hp ⟨[], rfl, .nil⟩
  exact k _ _ _ _ ρ s2 (Same.refl _) r2 w0

/-! ### calls of built-ins -/
def CRl (K : PySem.W.Frag) (r : List V → Hp → VK → Prop) (w : List D → (DV → Prop) → Prop) : Prop :=
  ∀ e ρ F σ H vs ds Q P, Sg K e ρ F σ H → IsL K F ds vs → w ds P →
    (∀ F' H' v dv, Sg K e ρ F' σ H' → Same F F' → Res K e F' H' ρ σ dv v → P dv → Q v H') → r vs H Q
def wCB (w : List D → (DV → Prop) → Prop) (Wa : WA) : WE := fun EX ρ P => Wa EX ρ fun ds ρ1 => w ds fun dv => P dv ρ1
theorem cE_cb {r : List V → Hp → VK → Prop} {w : List D → (DV → Prop) → Prop} (hr : CRl X.K r w) (σ : St) (H : Hp) (Q : VK) (h : cE X.K Wx (wCB w Wargs) σ H Q) : tCB r (cA X.K Wx Wargs) σ H Q := by
  obtain ⟨e, ρ, F, EX, P, s, w0, hx, k⟩ := h
  refine ⟨e, ρ, F, EX, _, s, w0, hx, fun F1 H1 vs ds ρ1 s1 m1 r1 q1 => ?_⟩
  exact hr e ρ1 F1 σ H1 vs ds Q _ s1 r1 q1 fun F' H' v dv s' sm res p => k F' H' v dv ρ1 s' (m1.trans sm) res p
theorem je_callB {x : Str} {p : Pos} {id : String} {r : List V → Hp → VK → Prop} {w : List D → (DV → Prop) → Prop} (hc : CallR X (.builtin id) r) (hr : CRl X.K r w) (hg : Gl X x) (hm : X.mg x = none) (hv : bootBuiltins x = some (.builtin id))
    (ha : JA X Wx (a :: es) Wargs) (hn : x ≠ "__name__" := by decide) (hdb : (x == ("__debug__" : Str)) = false := by decide)
    (he : starEach (a :: es) X.env = (false, eval a X.env) :: starEach es X.env := by rfl) (hpl : (backTo pos (starEach es X.env)).any (·.1) = false := by rfl) : JE X Wx (.Call (.Name x p) (a :: es) [] pos) (wCB w Wargs) :=
  PE.wk (pe_callB hc hg hm hv ha hn hdb he hpl) (cE_cb hr)
theorem je_callTy {x : Str} {p : Pos} {T : String} {r : List V → Hp → VK → Prop} {w : List D → (DV → Prop) → Prop} (hc : CallR X (.type T) r) (hr : CRl X.K r w) (hg : Gl X x) (hm : X.mg x = none) (hv : bootBuiltins x = some (.type T))
    (ha : JA X Wx (a :: es) Wargs) (hn : x ≠ "__name__" := by decide) (hdb : (x == ("__debug__" : Str)) = false := by decide)
    (he : starEach (a :: es) X.env = (false, eval a X.env) :: starEach es X.env := by rfl) (hpl : (backTo pos (starEach es X.env)).any (·.1) = false := by rfl) : JE X Wx (.Call (.Name x p) (a :: es) [] pos) (wCB w Wargs) :=
  PE.wk (pe_callTy hc hg hm hv ha hn hdb he hpl) (cE_cb hr)
end
end L2.DL

/-! # DLc.lean -/
set_option Elab.async false
set_option linter.all false
set_option maxRecDepth 100000
namespace L2.DL
open PySem PySem.Spec PyProof.Rows

/-! ## rules by values -/
section
variable {K : PySem.W.Frag}
def wI0 (g : Int → Int → Int) : D → D → (DV → Prop) → Prop := fun a b P => match a, b with
  | .int i, .int j => P (.fz (.int (g i j)))
  | _, _ => False
def wI (C : Int → Int → Prop) (g : Int → Int → Int) : D → D → (DV → Prop) → Prop := fun a b P => match a, b with
  | .int i, .int j => C i j ∧ P (.fz (.int (g i j)))
  | _, _ => False
def wB0 (p : Int → Int → Bool) : D → D → (DV → Prop) → Prop := fun a b P => match a, b with
  | .int i, .int j => P (.fz (.bl (p i j)))
  | _, _ => False
theorem br_i0 {g : Int → Int → Int} : BR K (rI0 fun i j => .int (g i j)) (wI0 g) := by
  intro e ρ F σ H x y a b Q P s ia ib w k
  unfold wI0 at w
  split at w
  · simp only [Is] at ia ib
    subst ia ib
    exact ⟨_, _, rfl, rfl, k F H _ _ s (Same.refl _) (Res.fz (by simp [Is])) w⟩
  · exact w.elim
theorem br_i {C : Int → Int → Prop} {g : Int → Int → Int} : BR K (rI C fun i j => .int (g i j)) (wI C g) := by
  intro e ρ F σ H x y a b Q P s ia ib w k
  unfold wI at w
  split at w
  · simp only [Is] at ia ib
    subst ia ib
    exact ⟨_, _, rfl, rfl, w.1, k F H _ _ s (Same.refl _) (Res.fz (by simp [Is])) w.2⟩
  · exact w.elim
theorem br_b0 {p : Int → Int → Bool} : BR K (rI0 fun i j => .bl (p i j)) (wB0 p) := by
  intro e ρ F σ H x y a b Q P s ia ib w k
  unfold wB0 at w
  split at w
  · simp only [Is] at ia ib
    subst ia ib
    exact ⟨_, _, rfl, rfl, k F H _ _ s (Same.refl _) (Res.fz (by simp [Is])) w⟩
  · exact w.elim
/-- x is None -/
def D.isNone : D → Bool
  | .non => true
  | _ => false
def wIsN (neg : Bool) : D → D → (DV → Prop) → Prop := fun a b P => match b with
  | .non => P (.fz (.bl (if neg then !a.isNone else a.isNone)))
  | _ => False
theorem is_non {F : Hp} {d : D} {v : V} (h : Is K F d v) : decide (v = .non) = d.isNone := by
  cases d <;> simp only [Is] at h
  case non => subst h; rfl
  case bl => subst h; rfl
  case int => subst h; rfl
  case str => subst h; rfl
  case ty => subst h; rfl
  case adr => subst h; rfl
  case lst => obtain ⟨a, vs, rfl, _⟩ := h; rfl
  case scr => obtain ⟨a, vs, rfl, _⟩ := h; rfl
  case tup => obtain ⟨a, vs, rfl, _⟩ := h; rfl
  case ins => obtain ⟨a, dx, vs, rfl, _⟩ := h; rfl
  case exc => obtain ⟨vs, rfl, _⟩ := h; rfl
  case cn => subst h; rfl
  case dk => obtain ⟨a, vs, rfl, _⟩ := h; rfl
  case dt => obtain ⟨a, vs, rfl, _⟩ := h; rfl
  case dkz => obtain ⟨a, o, vs, rfl, _⟩ := h; rfl
  case dtz => obtain ⟨a, o, vs, rfl, _⟩ := h; rfl
theorem br_isN : BR K (fun x y H Q => y = .non ∧ Q (.bl (decide (x = .non))) H) (wIsN false) := by
  intro e ρ F σ H x y a b Q P s ia ib w k
  cases b <;> try exact w.elim
  simp only [Is] at ib
  exact ⟨ib, k F H _ (.fz (.bl a.isNone)) s (Same.refl _) (Res.fz (by simp only [Is]; rw [is_non ia])) w⟩
theorem br_notN : BR K (fun x y H Q => y = .non ∧ Q (.bl (!decide (x = .non))) H) (wIsN true) := by
  intro e ρ F σ H x y a b Q P s ia ib w k
  cases b <;> try exact w.elim
  simp only [Is] at ib
  exact ⟨ib, k F H _ (.fz (.bl (!a.isNone))) s (Same.refl _) (Res.fz (by simp only [Is]; rw [is_non ia])) w⟩
/-- items of a sequence -/
def D.items : D → Option (List D)
  | .lst ds => some ds
  | .scr ds => some ds
  | .tup ds => some ds
  | _ => none
def wIx : D → D → (DV → Prop) → Prop := fun a b P => match b with
  | .int i => (match a with
    | .lst ds => ∃ d, atI ds i = some d ∧ P (.fz d)
    | .scr ds => ∃ d, atI ds i = some d ∧ P (.fz d)
    | .tup ds => ∃ d, atI ds i = some d ∧ P (.fz d)
    | _ => False)
  | _ => False
theorem IsL.atI {F : Hp} {ds : List D} {vs : List V} {i : Int} {d : D} (h : IsL K F ds vs) (e : atI ds i = some d) : ∃ v, L2.atI vs i = some v ∧ Is K F d v := by
  unfold L2.atI at e ⊢
  rw [← h.len]
  cases q : ixN ds.length i with
  | none => rw [q] at e; simp at e
  | some j =>
    rw [q] at e
    simp only [Option.bind_some] at e ⊢
    exact h.get e
theorem br_ix : BR K (rIx K) wIx := by
  intro e ρ F σ H x y a b Q P s ia ib w k
  cases b <;> try exact w.elim
  simp only [Is] at ib
  cases a <;> try exact w.elim
  all_goals
    simp only [Is] at ia
    obtain ⟨p, vs, rfl, h1, h2⟩ := ia
    obtain ⟨d, h3, h4⟩ := w
    obtain ⟨v, h5, h6⟩ := h2.atI h3
  · exact .inl ⟨p, vs, _, v, rfl, ib, SqL.of (s.fh _ _ h1), h5, k F H v _ s (Same.refl _) (Res.fz h6) h4⟩
  · exact .inl ⟨p, vs, _, v, rfl, ib, Same.seq s.fh h1, h5, k F H v _ s (Same.refl _) (Res.fz h6) h4⟩
  · exact .inr (.inl ⟨p, vs, _, v, rfl, ib, Same.seqT s.fh h1, h5, k F H v _ s (Same.refl _) (Res.fz h6) h4⟩)
def wCatL : D → D → (DV → Prop) → Prop := fun a b P => match a, b with
  | .lst xs, .lst ys => xs.length + ys.length ≤ sizeLine ∧ P (.mu true (.lst (xs ++ ys)))
  | _, _ => False
theorem br_catL : BR K rCat wCatL := by
  intro e ρ F σ H x y a b Q P s ia ib w k
  cases a <;> try exact w.elim
  cases b <;> try exact w.elim
  simp only [Is] at ia ib
  obtain ⟨p, vs, rfl, h1, h2⟩ := ia
  obtain ⟨q, ws, rfl, h3, h4⟩ := ib
  refine ⟨p, q, vs, ws, rfl, rfl, s.fh _ _ h1, s.fh _ _ h3, by rw [← h2.len, ← h4.len]; exact w.1, fun r hr => ?_⟩
  obtain ⟨s2, r2⟩ := s.alloc (o := .lst (vs ++ ws)) (c := .lst _) hr ⟨_, rfl, h2.append h4⟩
  exact k _ _ _ _ s2 (Same.refl _) r2 w.2
def wCatT : D → D → (DV → Prop) → Prop := fun a b P => match a, b with
  | .tup xs, .tup ys => xs.length + ys.length ≤ sizeLine ∧ P (.fz (.tup (xs ++ ys)))
  | _, _ => False
theorem br_catT : BR K (rCatA K) wCatT := by
  intro e ρ F σ H x y a b Q P s ia ib w k
  cases a <;> try exact w.elim
  cases b <;> try exact w.elim
  rename_i xs ys
  simp only [Is] at ia ib
  obtain ⟨p, vs, rfl, h1, h2⟩ := ia
  obtain ⟨q, ws, rfl, h3, h4⟩ := ib
  refine ⟨p, q, vs, ws, rfl, rfl, Same.seqT s.fh h1, Same.seqT s.fh h3, by rw [← h2.len, ← h4.len]; exact w.1, fun hv => ?_, fun _ hw => ?_, fun _ _ r hr => ?_⟩
  · have : xs = [] := List.eq_nil_of_length_eq_zero (by rw [h2.len, hv]; rfl)
    subst this
    refine k F H _ _ s (Same.refl _) (Res.fz ?_) w.2
    simp only [Is]; exact ⟨q, ws, rfl, h3, h4⟩
  · have : ys = [] := List.eq_nil_of_length_eq_zero (by rw [h4.len, hw]; rfl)
    subst this
    refine k F H _ _ s (Same.refl _) (Res.fz ?_) w.2
    simp only [Is, List.append_nil]; exact ⟨p, vs, rfl, h1, h2⟩
  · obtain ⟨s2, m2⟩ := s.allocT (o := .tup (vs ++ ws)) hr
    refine k _ _ _ _ s2 m2 (Res.fz ?_) w.2
    simp only [Is]
    exact ⟨r, _, rfl, SqT.of upd_same, (h2.append h4).mono m2⟩
/-- a list times a number -/
def repD (n : Nat) (xs : List D) : List D := (List.replicate n xs).flatten
theorem IsL.rep {F : Hp} {ds : List D} {vs : List V} (h : IsL K F ds vs) : ∀ n, IsL K F (repD n ds) (List.replicate n vs).flatten
  | 0 => by simp [repD, IsL]
  | n + 1 => by
    unfold repD
    rw [List.replicate_succ, List.replicate_succ, List.flatten_cons, List.flatten_cons]
    exact h.append (IsL.rep h n)
def wRepL : D → D → (DV → Prop) → Prop := fun a b P => match a, b with
  | .lst xs, .int n => -(2 ^ 63) ≤ n ∧ n < 2 ^ 63 ∧ xs.length * n.toNat ≤ sizeLine ∧ P (.mu true (.lst (repD n.toNat xs)))
  | _, _ => False
theorem br_repL : BR K rRep wRepL := by
  intro e ρ F σ H x y a b Q P s ia ib w k
  cases a <;> try exact w.elim
  cases b <;> try exact w.elim
  simp only [Is] at ia ib
  obtain ⟨p, vs, rfl, h1, h2⟩ := ia
  obtain ⟨w1, w2, w3, w4⟩ := w
  refine ⟨p, _, vs, rfl, ib, s.fh _ _ h1, w1, w2, by rw [← h2.len]; exact w3, fun r hr => ?_⟩
  obtain ⟨s2, r2⟩ := s.alloc (o := .lst _) (c := .lst _) hr ⟨_, rfl, h2.rep _⟩
  exact k _ _ _ _ s2 (Same.refl _) r2 w4

/-! ### equality of data -/
mutual
def D.py : D → Option PyData
  | .non => some .none
  | .bl b => some (.bool b)
  | .int i => some (.int i)
  | .str x => some (.str x)
  | .lst ds => (pyL ds).map .list
  | .scr ds => (pyL ds).map .list
  | .tup ds => (pyL ds).map .tuple
  | _ => none
def pyL : List D → Option (List PyData)
  | [] => some []
  | d :: ds => match d.py, pyL ds with
    | some p, some ps => some (p :: ps)
    | _, _ => none
end
mutual
theorem Is.dp {F H : Hp} (m : Same F H) : ∀ (d : D) {v : V} {p : PyData}, Is K F d v → d.py = some p → Dp K H v p
  | .non, v, p, h, e => by simp only [Is] at h; simp only [D.py] at e; cases e; subst h; exact .non
  | .bl b, v, p, h, e => by simp only [Is] at h; simp only [D.py] at e; cases e; subst h; exact .bl b
  | .int b, v, p, h, e => by simp only [Is] at h; simp only [D.py] at e; cases e; subst h; exact .int b
  | .str b, v, p, h, e => by simp only [Is] at h; simp only [D.py] at e; cases e; subst h; exact .str b
  | .lst ds, v, p, h, e => by
    simp only [Is] at h
    simp only [D.py, Option.map_eq_some_iff] at e
    obtain ⟨ps, e1, rfl⟩ := e
    obtain ⟨a, vs, rfl, h1, h2⟩ := h
    exact .lst (SqL.of (m _ _ h1)) (IsL.dp m ds h2 e1)
  | .scr ds, v, p, h, e => by
    simp only [Is] at h
    simp only [D.py, Option.map_eq_some_iff] at e
    obtain ⟨ps, e1, rfl⟩ := e
    obtain ⟨a, vs, rfl, h1, h2⟩ := h
    exact .lst (Same.seq m h1) (IsL.dp m ds h2 e1)
  | .tup ds, v, p, h, e => by
    simp only [Is] at h
    simp only [D.py, Option.map_eq_some_iff] at e
    obtain ⟨ps, e1, rfl⟩ := e
    obtain ⟨a, vs, rfl, h1, h2⟩ := h
    exact .tup (Same.seqT m h1) (IsL.dp m ds h2 e1)
  | .ty n, v, p, h, e => by simp only [D.py] at e; cases e
  | .adr n, v, p, h, e => by simp only [D.py] at e; cases e
  | .ins C ns n, v, p, h, e => by simp only [D.py] at e; cases e
  | .exc _ _ _ _ n, v, p, h, e => by simp only [D.py] at e; cases e
  | .cn _, v, p, h, e => by simp only [D.py] at e; cases e
  | .dk C n, v, p, h, e => by simp only [D.py] at e; cases e
  | .dt C n, v, p, h, e => by simp only [D.py] at e; cases e
  | .dkz C n, v, p, h, e => by simp only [D.py] at e; cases e
  | .dtz C n, v, p, h, e => by simp only [D.py] at e; cases e
theorem IsL.dp {F H : Hp} (m : Same F H) : ∀ (ds : List D) {vs : List V} {ps : List PyData}, IsL K F ds vs → pyL ds = some ps → DpAll K H vs ps
  | [], vs, ps, h, e => by simp only [IsL] at h; simp only [pyL] at e; cases e; subst h; exact .nil
  | d :: ds, vs, ps, h, e => by
    simp only [IsL] at h
    obtain ⟨v, r, rfl, h1, h2⟩ := h
    simp only [pyL] at e
    split at e
    · rename_i p qs e1 e2
      cases e
      exact .cons (Is.dp m d h1 e1) (IsL.dp m ds h2 e2)
    · cases e
end
/-- the outcome of a == b -/
def DEq (a b : D) (r : Bool) : Prop := ∃ p q, a.py = some p ∧ b.py = some q ∧ SeqAt.shaped p = true ∧ SeqAt.shaped q = true ∧ PyData.eqv p q = r
def wEq (neg : Bool) : D → D → (DV → Prop) → Prop := fun a b P => ∃ r, DEq a b r ∧ P (.fz (.bl (if neg then !r else r)))
theorem br_eq : BR K (rEqD K) (wEq false) := by
  intro e ρ F σ H x y a b Q P s ia ib w k
  obtain ⟨r, ⟨p, q, h1, h2, h3, h4, h5⟩, h6⟩ := w
  exact ⟨p, q, Is.dp s.fh _ ia h1, Is.dp s.fh _ ib h2, h3, h4, k F H _ _ s (Same.refl _) (Res.fz (by simp only [Is]; rw [h5]; rfl)) h6⟩
theorem br_ne : BR K (rNeD K) (wEq true) := by
  intro e ρ F σ H x y a b Q P s ia ib w k
  obtain ⟨r, ⟨p, q, h1, h2, h3, h4, h5⟩, h6⟩ := w
  exact ⟨p, q, Is.dp s.fh _ ia h1, Is.dp s.fh _ ib h2, h3, h4, k F H _ _ s (Same.refl _) (Res.fz (by simp only [Is]; rw [h5]; rfl)) h6⟩

/-! ### built-ins -/
def D.size : D → Option Nat
  | .lst ds => some ds.length
  | .scr ds => some ds.length
  | .tup ds => some ds.length
  | _ => none
def wLen : List D → (DV → Prop) → Prop := fun ds P => match ds with
  | [.lst l] => P (.fz (.int l.length))
  | [.scr l] => P (.fz (.int l.length))
  | [.tup l] => P (.fz (.int l.length))
  | _ => False
theorem IsL.one_inv {F : Hp} {d : D} {vs : List V} (h : IsL K F [d] vs) : ∃ v, vs = [v] ∧ Is K F d v := by
  simp only [IsL] at h
  obtain ⟨v, r, rfl, a, rfl⟩ := h
  exact ⟨v, rfl, a⟩
theorem IsL.two_inv {F : Hp} {d c : D} {vs : List V} (h : IsL K F [d, c] vs) : ∃ v w, vs = [v, w] ∧ Is K F d v ∧ Is K F c w := by
  simp only [IsL] at h
  obtain ⟨v, r, rfl, a, w, r', rfl, b, rfl⟩ := h
  exact ⟨v, w, rfl, a, b⟩
theorem cr_len : CRl K (fun xs H Q => ∃ x n, xs = [x] ∧ LenV K x H n ∧ Q (.int n) H) wLen := by
  intro e ρ F σ H vs ds Q P s i w k
  unfold wLen at w
  split at w
  all_goals try exact w.elim
  all_goals
    obtain ⟨v, rfl, iv⟩ := i.one_inv
    simp only [Is] at iv
    obtain ⟨a, us, rfl, h1, h2⟩ := iv
    refine ⟨_, us.length, rfl, ?_, k F H _ _ s (Same.refl _) (Res.fz (by simp only [Is]; rw [h2.len])) w⟩
  · exact .inl ⟨us, SqL.of (s.fh _ _ h1), rfl⟩
  · exact .inl ⟨us, Same.seq s.fh h1, rfl⟩
  · exact .inr ⟨us, Same.seqT s.fh h1, rfl⟩
/-- the intsD, the truth values of a list -/
def intsD : List D → Option (List Int)
  | [] => some []
  | .int i :: r => (intsD r).map (i :: ·)
  | _ :: _ => none
theorem ints_map : ∀ ns : List Int, intsD (ns.map D.int) = some ns
  | [] => rfl
  | n :: ns => by simp [intsD, ints_map ns]
theorem ints_of : ∀ {ds : List D} {ns : List Int}, intsD ds = some ns → ds = ns.map D.int
  | [], ns, h => by simp [intsD] at h; subst h; rfl
  | .int i :: r, ns, h => by
    simp only [intsD, Option.map_eq_some_iff] at h
    obtain ⟨ms, h1, rfl⟩ := h
    simp [ints_of h1]
  | .non :: _, _, h | .bl _ :: _, _, h | .str _ :: _, _, h | .ty _ :: _, _, h | .adr _ :: _, _, h | .lst _ :: _, _, h | .scr _ :: _, _, h | .tup _ :: _, _, h | .ins _ _ _ :: _, _, h | .exc _ _ _ _ _ :: _, _, h | .cn _ :: _, _, h | .dk _ _ :: _, _, h | .dt _ _ :: _, _, h => by simp [intsD] at h
def bls : List D → Option (List Bool)
  | [] => some []
  | .bl i :: r => (bls r).map (i :: ·)
  | _ :: _ => none
theorem bls_map : ∀ ns : List Bool, bls (ns.map D.bl) = some ns
  | [] => rfl
  | n :: ns => by simp [bls, bls_map ns]
theorem bls_of : ∀ {ds : List D} {ns : List Bool}, bls ds = some ns → ds = ns.map D.bl
  | [], ns, h => by simp [bls] at h; subst h; rfl
  | .bl i :: r, ns, h => by
    simp only [bls, Option.map_eq_some_iff] at h
    obtain ⟨ms, h1, rfl⟩ := h
    simp [bls_of h1]
  | .non :: _, _, h | .int _ :: _, _, h | .str _ :: _, _, h | .ty _ :: _, _, h | .adr _ :: _, _, h | .lst _ :: _, _, h | .scr _ :: _, _, h | .tup _ :: _, _, h | .ins _ _ _ :: _, _, h | .exc _ _ _ _ _ :: _, _, h | .cn _ :: _, _, h | .dk _ _ :: _, _, h | .dt _ _ :: _, _, h => by simp [bls] at h
theorem one_list {e : Ent} {ρ : DEnv} {F : Hp} {σ : St} {H : Hp} {vs : List V} {l : List D} (s : Sg K e ρ F σ H) (i : IsL K F [.lst l] vs) : ∃ a us, vs = [.ref a] ∧ SqL K H a us ∧ IsL K F l us := by
  obtain ⟨v, rfl, iv⟩ := i.one_inv
  simp only [Is] at iv
  obtain ⟨a, us, rfl, h1, h2⟩ := iv
  exact ⟨a, us, rfl, SqL.of (s.fh _ _ h1), h2⟩
def wInts (Z : List Int → (DV → Prop) → Prop) : List D → (DV → Prop) → Prop := fun ds P => match ds with
  | [.lst l] => ∃ ns, intsD l = some ns ∧ Z ns P
  | _ => False
theorem ints_arg {e : Ent} {ρ : DEnv} {F : Hp} {σ : St} {H : Hp} {vs : List V} {ds : List D} {Z : List Int → (DV → Prop) → Prop} {P : DV → Prop} (s : Sg K e ρ F σ H) (i : IsL K F ds vs) (w : wInts Z ds P) :
    ∃ a ns, vs = [V.ref a] ∧ SqL K H a (ns.map V.int) ∧ Z ns P := by
  unfold wInts at w
  split at w
  · obtain ⟨ns, h1, h2⟩ := w
    obtain ⟨a, us, rfl, h3, h4⟩ := one_list s i
    rw [ints_of h1] at h4
    rw [IsL.ints.mp h4] at h3
    exact ⟨a, ns, rfl, h3, h2⟩
  · exact w.elim
def wBls (Z : List Bool → (DV → Prop) → Prop) : List D → (DV → Prop) → Prop := fun ds P => match ds with
  | [.lst l] => ∃ ns, bls l = some ns ∧ Z ns P
  | _ => False
theorem bls_arg {e : Ent} {ρ : DEnv} {F : Hp} {σ : St} {H : Hp} {vs : List V} {ds : List D} {Z : List Bool → (DV → Prop) → Prop} {P : DV → Prop} (s : Sg K e ρ F σ H) (i : IsL K F ds vs) (w : wBls Z ds P) :
    ∃ a ns, vs = [V.ref a] ∧ SqL K H a (ns.map V.bl) ∧ Z ns P := by
  unfold wBls at w
  split at w
  · obtain ⟨ns, h1, h2⟩ := w
    obtain ⟨a, us, rfl, h3, h4⟩ := one_list s i
    rw [bls_of h1] at h4
    rw [IsL.bls.mp h4] at h3
    exact ⟨a, ns, rfl, h3, h2⟩
  · exact w.elim
def wSum := wInts fun ns P => P (.fz (.int ns.sum))
def wMaxL := wInts fun ns P => 0 < ns.length ∧ ∀ m, m ∈ ns → (∀ y, y ∈ ns → y ≤ m) → P (.fz (.int m))
def wMinL := wInts fun ns P => 0 < ns.length ∧ ∀ m, m ∈ ns → (∀ y, y ∈ ns → m ≤ y) → P (.fz (.int m))
def wAll := wBls fun ns P => P (.fz (.bl (ns.all id)))
def wAny := wBls fun ns P => P (.fz (.bl (ns.any id)))
theorem cr_sumD : CRl K (rSum K) wSum := by
  intro e ρ F σ H vs ds Q P s i w k
  obtain ⟨a, ns, h1, h2, h3⟩ := ints_arg s i w
  exact ⟨a, ns, h1, h2, k F H _ _ s (Same.refl _) (Res.fz (by simp [Is])) h3⟩
theorem cr_maxD : CRl K (rMax K) wMaxL := by
  intro e ρ F σ H vs ds Q P s i w k
  obtain ⟨a, ns, h1, h2, h3, h4⟩ := ints_arg s i w
  exact ⟨a, ns, h1, h2, h3, fun m hm hy => k F H _ _ s (Same.refl _) (Res.fz (by simp [Is])) (h4 m hm hy)⟩
theorem cr_minD : CRl K (rMin K) wMinL := by
  intro e ρ F σ H vs ds Q P s i w k
  obtain ⟨a, ns, h1, h2, h3, h4⟩ := ints_arg s i w
  exact ⟨a, ns, h1, h2, h3, fun m hm hy => k F H _ _ s (Same.refl _) (Res.fz (by simp [Is])) (h4 m hm hy)⟩
theorem cr_allD : CRl K (rAll K) wAll := by
  intro e ρ F σ H vs ds Q P s i w k
  obtain ⟨a, ns, h1, h2, h3⟩ := bls_arg s i w
  exact ⟨a, ns, h1, h2, k F H _ _ s (Same.refl _) (Res.fz (by simp [Is])) h3⟩
theorem cr_anyD : CRl K (rAny K) wAny := by
  intro e ρ F σ H vs ds Q P s i w k
  obtain ⟨a, ns, h1, h2, h3⟩ := bls_arg s i w
  exact ⟨a, ns, h1, h2, k F H _ _ s (Same.refl _) (Res.fz (by simp [Is])) h3⟩
def wOneI (g : Int → Int) : List D → (DV → Prop) → Prop := fun ds P => match ds with
  | [.int i] => P (.fz (.int (g i)))
  | _ => False
def wTwoI (g : Int → Int → Int) : List D → (DV → Prop) → Prop := fun ds P => match ds with
  | [.int i, .int j] => P (.fz (.int (g i j)))
  | _ => False
def wAbs := wOneI fun i => if i < 0 then -i else i
def wMax2 := wTwoI fun i j => if j > i then j else i
def wMin2 := wTwoI fun i j => if j < i then j else i
theorem cr_absD : CRl K (fun xs H Q => ∃ i, xs = [.int i] ∧ Q (.int (if i < 0 then -i else i)) H) wAbs := by
  intro e ρ F σ H vs ds Q P s i w k
  unfold wAbs wOneI at w
  split at w
  · obtain ⟨v, rfl, iv⟩ := i.one_inv
    simp only [Is] at iv
    exact ⟨_, by rw [iv], k F H _ _ s (Same.refl _) (Res.fz (by simp [Is])) w⟩
  · exact w.elim
theorem two_ints {r : List V → Hp → VK → Prop} {g : Int → Int → Int} (h : ∀ (i j : Int) H (Q : VK), Q (.int (g i j)) H → r [.int i, .int j] H Q) : CRl K r (wTwoI g) := by
  intro e ρ F σ H vs ds Q P s i w k
  unfold wTwoI at w
  split at w
  · obtain ⟨v, u, rfl, iv, iu⟩ := i.two_inv
    simp only [Is] at iv iu
    subst iv iu
    exact h _ _ _ _ (k F H _ _ s (Same.refl _) (Res.fz (by simp [Is])) w)
  · exact w.elim
theorem cr_max2D : CRl K (fun xs H Q => ∃ i j, xs = [.int i, .int j] ∧ Q (.int (if j > i then j else i)) H) wMax2 := two_ints fun i j _ _ q => ⟨i, j, rfl, q⟩
theorem cr_min2D : CRl K (fun xs H Q => ∃ i j, xs = [.int i, .int j] ∧ Q (.int (if j < i then j else i)) H) wMin2 := two_ints fun i j _ _ q => ⟨i, j, rfl, q⟩
def wInt1 : List D → (DV → Prop) → Prop := fun ds P => match ds with
  | [.int i] => P (.fz (.int i))
  | [.bl b] => P (.fz (.int (if b then 1 else 0)))
  | _ => False
theorem cr_int1D : CRl K (fun xs H Q => (∃ i, xs = [.int i] ∧ Q (.int i) H) ∨ ∃ k, xs = [.bl k] ∧ Q (.int (if k then 1 else 0)) H) wInt1 := by
  intro e ρ F σ H vs ds Q P s i w k
  unfold wInt1 at w
  split at w
  · obtain ⟨v, rfl, iv⟩ := i.one_inv
    simp only [Is] at iv
    exact .inl ⟨_, by rw [iv], k F H _ _ s (Same.refl _) (Res.fz (by simp [Is])) w⟩
  · obtain ⟨v, rfl, iv⟩ := i.one_inv
    simp only [Is] at iv
    exact .inr ⟨_, by rw [iv], k F H _ _ s (Same.refl _) (Res.fz (by simp [Is])) w⟩
  · exact w.elim
def wListOf : List D → (DV → Prop) → Prop := fun ds P => match ds with
  | [.lst l] => P (.mu true (.lst l))
  | [.scr l] => P (.mu true (.lst l))
  | [.tup l] => P (.mu true (.lst l))
  | _ => False
theorem cr_listOf : CRl K (fun xs H Q => ∃ p ys, xs = [.ref p] ∧ (SqL K H p ys ∨ SqT K H p ys) ∧ ∀ l, H l = none → Q (.ref l) (upd H l (.lst ys))) wListOf := by
  intro e ρ F σ H vs ds Q P s i w k
  unfold wListOf at w
  split at w
  all_goals try exact w.elim
  all_goals
    obtain ⟨v, rfl, iv⟩ := i.one_inv
    simp only [Is] at iv
    obtain ⟨a, us, rfl, h1, h2⟩ := iv
    refine ⟨a, us, rfl, ?_, fun l hl => ?_⟩
  · exact .inl (SqL.of (s.fh _ _ h1))
  · obtain ⟨s2, r2⟩ := s.alloc (o := .lst us) (c := .lst _) hl ⟨_, rfl, h2⟩
    exact k _ _ _ _ s2 (Same.refl _) r2 w
  · exact .inl (Same.seq s.fh h1)
  · obtain ⟨s2, r2⟩ := s.alloc (o := .lst us) (c := .lst _) hl ⟨_, rfl, h2⟩
    exact k _ _ _ _ s2 (Same.refl _) r2 w
  · exact .inr (Same.seqT s.fh h1)
  · obtain ⟨s2, r2⟩ := s.alloc (o := .lst us) (c := .lst _) hl ⟨_, rfl, h2⟩
    exact k _ _ _ _ s2 (Same.refl _) r2 w
def wTupleOf : List D → (DV → Prop) → Prop := fun ds P => match ds with
  | [.lst l] => P (.fz (.tup l))
  | [.scr l] => P (.fz (.tup l))
  | [.tup l] => P (.fz (.tup l))
  | _ => False
theorem cr_tupleOf : CRl K (fun xs H Q => ∃ p ys, xs = [.ref p] ∧ ((SqL K H p ys ∧ ∀ l, H l = none → Q (.ref l) (upd H l (.tup ys))) ∨ (SqT K H p ys ∧ Q (.ref p) H))) wTupleOf := by
  intro e ρ F σ H vs ds Q P s i w k
  unfold wTupleOf at w
  split at w
  all_goals try exact w.elim
  all_goals
    obtain ⟨v, rfl, iv⟩ := i.one_inv
    simp only [Is] at iv
    obtain ⟨a, us, rfl, h1, h2⟩ := iv
    refine ⟨a, us, rfl, ?_⟩
  · refine .inl ⟨SqL.of (s.fh _ _ h1), fun l hl => ?_⟩
    obtain ⟨s2, m2⟩ := s.allocT (o := .tup us) hl
    refine k _ _ _ _ s2 m2 (Res.fz ?_) w
    simp only [Is]; exact ⟨l, us, rfl, SqT.of upd_same, h2.mono m2⟩
  · refine .inl ⟨Same.seq s.fh h1, fun l hl => ?_⟩
    obtain ⟨s2, m2⟩ := s.allocT (o := .tup us) hl
    refine k _ _ _ _ s2 m2 (Res.fz ?_) w
    simp only [Is]; exact ⟨l, us, rfl, SqT.of upd_same, h2.mono m2⟩
  · refine .inr ⟨Same.seqT s.fh h1, k F H _ _ s (Same.refl _) (Res.fz ?_) w⟩
    simp only [Is]; exact ⟨a, us, rfl, h1, h2⟩
/-- the kinds of data -/
def D.cls : D → String
  | .non => "NoneType"
  | .bl _ => "bool"
  | .int _ => "int"
  | .str _ => "str"
  | .lst _ => "list"
  | .scr _ => "list"
  | .tup _ => "tuple"
  | .dk _ _ => "dict"
  | .dt _ _ => "dict"
  | .ty _ => ""
  | .adr _ => ""
  | .ins _ _ _ => ""
  | .exc _ _ _ _ _ => ""
  | .cn _ => ""
  | .dkz _ _ => ""
  | .dtz _ _ => ""
def D.plain : D → Bool
  | .non | .bl _ | .int _ | .str _ | .lst _ | .tup _ | .dk _ _ | .dt _ _ | .scr _ => true
  | _ => false
theorem tyX_of {F H : Hp} (m : Same F H) {d : D} {v : V} (h : Is K F d v) (p : d.plain = true) : TyX K H v (.type d.cls) := by
  cases d <;> simp only [Is] at h <;> simp only [D.plain] at p <;> try cases p
  case non => subst h; exact .base .non
  case bl => subst h; exact .base (.bl _)
  case int => subst h; exact .base (.int _)
  case str => subst h; exact .base (.str _)
  case lst => obtain ⟨a, us, rfl, h1, h2⟩ := h; exact .base (.lst (m _ _ h1))
  case scr =>
    obtain ⟨a, us, rfl, h1, h2⟩ := h
    rcases h1 with (h1 | ⟨o, h1⟩) | ⟨o, its, n, h1, h3, _⟩
    · exact .base (.lst (m _ _ h1))
    · exact .base (.frz (m _ _ h1))
    · exact .kList h1 h3
  case tup =>
    obtain ⟨a, us, rfl, h1, h2⟩ := h
    rcases h1 with (h1 | ⟨o, h1⟩) | ⟨o, its, n, h1, h3, _⟩
    · exact .base (.tup (m _ _ h1))
    · exact .fTuple (m _ _ h1)
    · exact .kTuple h1 h3
  case dk => obtain ⟨a, us, rfl, h1, h2⟩ := h; exact .base (.dK (m _ _ h1))
  case dt => obtain ⟨a, us, rfl, h1, h2⟩ := h; exact .base (.dT (m _ _ h1))
/-- the built-in classes that are asked for -/
inductive Ty where
  | int | bool | tuple | list | str
def Ty.nm : Ty → String
  | .int => "int"
  | .bool => "bool"
  | .tuple => "tuple"
  | .list => "list"
  | .str => "str"
def D.isT : D → Ty → Bool
  | .int _, .int => true
  | .bl _, .int => true
  | .bl _, .bool => true
  | .tup _, .tuple => true
  | .lst _, .list => true
  | .scr _, .list => true
  | .str _, .str => true
  | _, _ => false
theorem kits : ∀ a ∈ ["NoneType", "bool", "int", "str", "list", "tuple", "dict"], ∀ b ∈ ["bool", "int", "str", "list", "tuple"], kitB a b = some (a == b || (a == "bool" && b == "int")) := by decide +kernel
theorem kit_is {d : D} (t : Ty) (hp : d.plain = true) : kitB d.cls t.nm = some (d.isT t) := by
  have h := kits d.cls (by cases d <;> first | (simp [D.cls]; done) | simp [D.plain] at hp) t.nm (by cases t <;> simp [Ty.nm])
  rw [h]
  cases d <;> cases t <;> first | rfl | simp [D.plain] at hp
def wIsi (t : Ty) : List D → (DV → Prop) → Prop := fun ds P => match ds with
  | [d, .ty n] => n = t.nm ∧ d.plain = true ∧ P (.fz (.bl (d.isT t)))
  | _ => False
theorem cr_isi {t : Ty} : CRl K (rIsi K) (wIsi t) := by
  intro e ρ F σ H vs ds Q P s i w k
  unfold wIsi at w
  split at w
  · rename_i d n
    obtain ⟨v, u, rfl, iv, iu⟩ := i.two_inv
    simp only [Is] at iu
    subst iu
    obtain ⟨rfl, w1, w2⟩ := w
    exact ⟨v, _, _, _, _, rfl, .ty _, tyX_of s.fh iv w1, kit_ty (kit_is t w1), k F H _ _ s (Same.refl _) (Res.fz (by simp [Is])) w2⟩
  · exact w.elim
end
end L2.DL

/-! # DLd.lean -/
set_option Elab.async false
set_option linter.all false
set_option maxRecDepth 100000
namespace L2.DL
open PySem PySem.Spec PyProof.Rows

/-! ## targets -/
abbrev WG := D → DEnv → (DEnv → Prop) → Prop
abbrev WGs := List D → DEnv → (DEnv → Prop) → Prop
def cG (K : PySem.W.Frag) (vs : List Nat) (g : WG) : TG := fun v σ H Q => ∃ e ρ F d P, Sg K e ρ F σ H ∧ Is K F d v ∧ g d ρ P ∧
  ∀ ρ' F' σ' H', Sg K e ρ' F' σ' H' → Same F F' → wipe σ' vs = wipe σ vs → P ρ' → Q σ' H'
def cGs (K : PySem.W.Frag) (vs : List Nat) (g : WGs) : TGs := fun us σ H Q => ∃ e ρ F ds P, Sg K e ρ F σ H ∧ IsL K F ds us ∧ g ds ρ P ∧
  ∀ ρ' F' σ' H', Sg K e ρ' F' σ' H' → Same F F' → wipe σ' vs = wipe σ vs → P ρ' → Q σ' H'
abbrev JG (X : Cx) (vs : List Nat) (t : Expr) (g : WG) : Prop := PG X t (cG X.K vs g)
abbrev JGs (X : Cx) (vs : List Nat) (t : List Expr) (g : WGs) : Prop := PGs X t (cGs X.K vs g)
theorem PG.wk {X : Cx} {e : Expr} {t t' : TG} (h : PG X e t) (i : ∀ v σ H Q, t' v σ H Q → t v σ H Q) : PG X e t' := ⟨fun pins s σ H v u Q I r q => h.run pins s σ H v u Q I r (i v σ H Q q)⟩
theorem PGs.wk {X : Cx} {e : List Expr} {t t' : TGs} (h : PGs X e t) (i : ∀ v σ H Q, t' v σ H Q → t v σ H Q) : PGs X e t' := ⟨fun pins s σ H v u Q I r q => h.run pins s σ H v u Q I r (i v σ H Q q)⟩
theorem wipe_set {σ : St} {i : Nat} {x : Option V} : ∀ {vs : List Nat}, i ∈ vs → wipe (σ.set i x) vs = wipe σ vs
  | [], h => by simp at h
  | v :: vs, h => by
    unfold wipe
    by_cases hv : i = v
    · subst hv
      by_cases hm : i ∈ vs
      · rw [wipe_set hm]
      · have : ∀ vs : List Nat, i ∉ vs → wipe (σ.set i x) vs = (wipe σ vs).set i x := by
          intro vs
          induction vs with
          | nil => intro _; rfl
          | cons w ws ih =>
            intro hw
            simp only [List.mem_cons, not_or] at hw
            unfold wipe
            rw [ih hw.2, List.set_comm _ _ hw.1]
        rw [this vs hm, List.set_set]
    · have hm : i ∈ vs := by
        rcases List.mem_cons.mp h with z | z
        · exact absurd z hv
        · exact z
      rw [wipe_set hm]
theorem wipe_wipe {σ : St} {vs : List Nat} : wipe (wipe σ vs) vs = wipe σ vs := by
  apply List.ext_getElem?
  intro j
  by_cases hj : j ∈ vs
  · have e : ∀ σ : St, (wipe σ vs)[j]? = (σ[j]?).map fun _ => none := by
      intro σ
      induction vs with
      | nil => simp at hj
      | cons w ws ih =>
        unfold wipe
        by_cases hw : w = j
        · subst hw
          rw [List.getElem?_set]
          have hl := wipe_length σ ws
          by_cases hlt : w < σ.length
          · rw [if_pos rfl, if_pos (by omega), List.getElem?_eq_getElem hlt]; rfl
          · rw [if_pos rfl, if_neg (by omega), List.getElem?_eq_none (by omega)]; rfl
        · rw [List.getElem?_set_ne hw]
          exact ih (by rcases List.mem_cons.mp hj with z | z; exact absurd z.symm hw; exact z)
    rw [e, e]; cases σ[j]? <;> rfl
  · rw [wipe_out hj]
section
variable {X : Cx} {vs : List Nat} {pos : Pos}
def wgName (i : Nat) : WG := fun d ρ P => P (ρ.set i (some (.fz d)))
theorem jg_name {i : Nat} {x : Str} (hv : i ∈ vs) (h : PG X (.Name x pos) (gName i)) : JG X vs (.Name x pos) (wgName i) := by
  refine PG.wk h fun v σ H Q h => ?_
  obtain ⟨e, ρ, F, d, P, s, hd, w, k⟩ := h
  exact k _ F _ H (s.set (Res.fz hd)) (Same.refl _) (wipe_set hv) w
def wgNil : WGs := fun ds ρ P => match ds with
  | [] => P ρ
  | _ => False
def wgCons (g : WG) (r : WGs) : WGs := fun ds ρ P => match ds with
  | d :: ds => g d ρ fun ρ1 => r ds ρ1 P
  | [] => False
theorem jgs_nil : JGs X vs [] wgNil := by
  refine PGs.wk pgs_nil fun v σ H Q h => ?_
  obtain ⟨e, ρ, F, ds, P, s, hd, w, k⟩ := h
  cases ds with
  | nil => simp only [IsL] at hd; exact ⟨hd, k _ F _ H s (Same.refl _) rfl w⟩
  | cons => exact w.elim
theorem jgs_cons {t : Expr} {ts : List Expr} {g : WG} {r : WGs} (h1 : JG X vs t g) (h2 : JGs X vs ts r) (hs : (assignEach (t :: ts) X.env).map (·.2) = assign t X.env :: (assignEach ts X.env).map (·.2) := by rfl) : JGs X vs (t :: ts) (wgCons g r) := by
  refine PGs.wk (pgs_cons h1 h2 hs) fun us σ H Q h => ?_
  obtain ⟨e, ρ, F, ds, P, s, hd, w, k⟩ := h
  cases ds with
  | nil => exact w.elim
  | cons d ds =>
    simp only [IsL] at hd
    obtain ⟨v, us', rfl, h3, h4⟩ := hd
    refine ⟨v, us', rfl, e, ρ, F, d, _, s, h3, w, fun ρ1 F1 σ1 H1 s1 m1 e1 w1 => ?_⟩
    exact ⟨e, ρ1, F1, ds, P, s1, h4.mono m1, w1, fun ρ2 F2 σ2 H2 s2 m2 e2 p2 => k ρ2 F2 σ2 H2 s2 (m1.trans m2) (e2.trans e1) p2⟩
def wgTup (n : Nat) (g : WGs) : WG := fun d ρ P => match d with
  | .tup ds => ds.length = n ∧ g ds ρ P
  | _ => False
theorem jg_tup {es : List Expr} {k : Nat} {g : WGs} {n : Nat} (hc : X.calm = true) (h : JGs X vs es g) (hn : (assignEach es X.env).length = n := by rfl) (hst : (assignEach es X.env).findIdx? (·.1) = none := by rfl) : JG X vs (.Tuple es k pos) (wgTup n g) := by
  refine PG.wk (pg_tup hc h hn hst) fun v σ H Q h => ?_
  obtain ⟨e, ρ, F, d, P, s, hd, w, k⟩ := h
  cases d <;> try exact w.elim
  simp only [Is] at hd
  obtain ⟨a, us, rfl, h1, h2⟩ := hd
  exact ⟨a, us, rfl, Same.seqT s.fh h1, by rw [← h2.len]; exact w.1, e, ρ, F, _, P, s, h2, w.2, k⟩
end

/-! ## what is walked -/
abbrev WI := EXt → DEnv → (List D → DEnv → Prop) → Prop
structure WalkD (K : PySem.W.Frag) (e : Ent) (F : Hp) (G : Hp → Prop) (Y : Nat → Hp → V → Hp → Prop) (xs : List D) : Prop where
  stay : ∀ e' ρ F2 σ H, Sg K e' ρ F2 σ H → Same F F2 → (∀ p, p ∈ e.pn → p ∈ e'.pn) → G H
  item : ∀ i H x H', i < xs.length → G H → Y i H x H' → (H' = H ∧ ∃ d, xs[i]? = some d ∧ Is K F d x) ∨ (∃ T vs ds, x = .ref T ∧ H T = none ∧ H' = upd H T (.tup vs) ∧ xs[i]? = some (.tup ds) ∧ IsL K F ds vs)
def cI (K : PySem.W.Frag) (Wx : WX) (W : WI) : TI := fun σ H R => ∃ e ρ F EX P, Sg K e ρ F σ H ∧ W EX ρ P ∧ Hx K Wx e EX ∧
  ∀ F' H' xs ρ' J n G Y, Sg K e ρ' F' σ H' → Same F F' → P xs ρ' → Walk J n G Y → n = xs.length → WalkD K e F' G Y xs → R J H'
abbrev JI (X : Cx) (Wx : WX) (tg it : Expr) (W : WI) : Prop := PI X tg it (cI X.K Wx W)
theorem PI.wk {X : Cx} {tg it : Expr} {t t' : TI} (h : PI X tg it t) (i : ∀ σ H Q, t' σ H Q → t σ H Q) : PI X tg it t' := ⟨fun pins s σ H R I q => h.run pins s σ H R I (i σ H R q)⟩
/-- the item of a turn, in the state of the turn -/
theorem WalkD.at {K : PySem.W.Frag} {e0 e : Ent} {F F2 : Hp} {G : Hp → Prop} {Y : Nat → Hp → V → Hp → Prop} {xs : List D} {ρ : DEnv} {σ : St} {i : Nat} {H H' : Hp} {x : V} (wd : WalkD K e0 F G Y xs) (s : Sg K e ρ F2 σ H) (m : Same F F2) (g : G H) (hi : i < xs.length) (y : Y i H x H') :
    ∃ F3, Sg K e ρ F3 σ H' ∧ Same F2 F3 ∧ Is K F3 xs[i] x := by
  have hx : xs[i]? = some xs[i] := List.getElem?_eq_getElem hi
  rcases wd.item i H x H' hi g y with ⟨rfl, d, h1, h2⟩ | ⟨T, vs, ds, rfl, h1, rfl, h2, h3⟩
  · rw [hx] at h1; cases h1
    exact ⟨F2, s, Same.refl _, h2.mono m⟩
  · rw [hx] at h2
    obtain ⟨s2, m2⟩ := s.allocT (o := .tup vs) h1
    refine ⟨_, s2, m2, ?_⟩
    rw [Option.some.inj h2]
    simp only [Is]
    exact ⟨T, vs, rfl, SqT.of upd_same, h3.mono (m.trans m2)⟩
section
variable {X : Cx} {Wx : WX} {tg it : Expr} {Wt : WE} {Wa : WA} {pos p tpos : Pos}
def wItL (W : WE) : WI := fun EX ρ P => W EX ρ fun dv ρ1 => dv.thn fun d => match d with
  | .lst ds => P ds ρ1
  | .scr ds => P ds ρ1
  | _ => False
def wItT (W : WE) : WI := fun EX ρ P => W EX ρ fun dv ρ1 => dv.thn fun d => match d with
  | .tup ds => P ds ρ1
  | _ => False
theorem walkD_seq {K : PySem.W.Frag} {e : Ent} {F : Hp} {G : Hp → Prop} {ds : List D} {us : List V} (h2 : IsL K F ds us) (hG : ∀ F2 H, Same F F2 → Same F2 H → G H) : WalkD K e F G (YAt us) ds where
  stay := fun e' ρ F2 σ H s m _ => hG F2 H m s.fh
  item := fun i H x H' hi g y => by
    obtain ⟨rfl, y⟩ := y
    exact .inl ⟨rfl, h2.get' y⟩
theorem ji_list (h : JE X Wx it Wt) : JI X Wx tg it (wItL Wt) := by
  refine PI.wk (pi_list h) fun σ H R h => ?_
  obtain ⟨e, ρ, F, EX, P, s, w0, hx, k⟩ := h
  refine ⟨e, ρ, F, EX, _, s, w0, hx, fun F1 H1 v1 d1 ρ1 s1 m1 r1 q1 => ?_⟩
  obtain ⟨F1', a1, s1', m1', i1, q1'⟩ := s1.data r1 q1
  cases a1 <;> try exact q1'.elim
  all_goals
    simp only [Is] at i1
    obtain ⟨a, us, rfl, h1, h2⟩ := i1
  · exact ⟨a, rfl, ⟨us, SqL.of (s1'.fh _ _ h1)⟩, k F1' H1 _ ρ1 _ _ _ _ s1' (m1.trans m1') q1' (walk_list (xs := us)) h2.len.symm (walkD_seq h2 fun F2 H m f => SqL.of (f _ _ (m _ _ h1)))⟩
  · exact ⟨a, rfl, ⟨us, Same.seq s1'.fh h1⟩, k F1' H1 _ ρ1 _ _ _ _ s1' (m1.trans m1') q1' (walk_list (xs := us)) h2.len.symm (walkD_seq h2 fun F2 H m f => Same.seq f (Same.seq m h1))⟩
theorem ji_tup (h : JE X Wx it Wt) : JI X Wx tg it (wItT Wt) := by
  refine PI.wk (pi_tup h) fun σ H R h => ?_
  obtain ⟨e, ρ, F, EX, P, s, w0, hx, k⟩ := h
  refine ⟨e, ρ, F, EX, _, s, w0, hx, fun F1 H1 v1 d1 ρ1 s1 m1 r1 q1 => ?_⟩
  obtain ⟨F1', a1, s1', m1', i1, q1'⟩ := s1.data r1 q1
  cases a1 <;> try exact q1'.elim
  simp only [Is] at i1
  obtain ⟨a, us, rfl, h1, h2⟩ := i1
  exact ⟨a, rfl, ⟨us, Same.seqT s1'.fh h1⟩, k F1' H1 _ ρ1 _ _ _ _ s1' (m1.trans m1') q1' (walk_tup (xs := us)) h2.len.symm (walkD_seq h2 fun F2 H m f => Same.seqT f (Same.seqT m h1))⟩
/-- lo, lo + c, .. -/
def rngD (lo c : Int) (n : Nat) : List D := (List.range n).map fun i : Nat => D.int (lo + i * c)
theorem rngD_len (lo c : Int) (n : Nat) : (rngD lo c n).length = n := by simp [rngD]
theorem rngD_get (lo c : Int) (n i : Nat) (h : i < (rngD lo c n).length) : (rngD lo c n)[i] = D.int (lo + i * c) := by simp [rngD]
theorem walkD_range {K : PySem.W.Frag} {e : Ent} {F : Hp} {lo : Int} {n : Nat} : WalkD K e F (fun _ => True) (YFn fun i => .int (lo + i)) (rngD lo 1 n) where
  stay := fun _ _ _ _ _ _ _ _ => trivial
  item := fun i H x H' hi _ y => by
    obtain ⟨rfl, rfl⟩ := y
    refine .inl ⟨rfl, _, List.getElem?_eq_getElem hi, ?_⟩
    rw [rngD_get]; simp only [Is, Int.mul_one]
theorem walkD_rangeC {K : PySem.W.Frag} {e : Ent} {F : Hp} {lo c : Int} {n : Nat} : WalkD K e F (fun _ => True) (YFn fun i => .int (lo + (i : Nat) * c)) (rngD lo c n) where
  stay := fun _ _ _ _ _ _ _ _ => trivial
  item := fun i H x H' hi _ y => by
    obtain ⟨rfl, rfl⟩ := y
    refine .inl ⟨rfl, _, List.getElem?_eq_getElem hi, ?_⟩
    rw [rngD_get]; simp only [Is]
def wRng1 (Wa : WA) : WI := fun EX ρ P => Wa EX ρ fun ds ρ1 => match ds with
  | [.int j] => -(2 ^ 62) ≤ j ∧ j < 2 ^ 62 ∧ P (rngD 0 1 j.toNat) ρ1
  | _ => False
def wRng2 (Wa : WA) : WI := fun EX ρ P => Wa EX ρ fun ds ρ1 => match ds with
  | [.int i, .int j] => (-(2 ^ 62) ≤ i ∧ i < 2 ^ 62 ∧ -(2 ^ 62) ≤ j ∧ j < 2 ^ 62) ∧ P (rngD i 1 (j - i).toNat) ρ1
  | _ => False
def wRng3 (Wa : WA) : WI := fun EX ρ P => Wa EX ρ fun ds ρ1 => match ds with
  | [.int i, .int j, .int c] => ∃ n, RgC i j c n ∧ P (rngD i c n) ρ1
  | _ => False
theorem ji_range1 {a : Expr} (hg : Gl X "range") (hm : X.mg "range" = none) (ha : JA X Wx [a] Wa) (hs : starEach [a] X.env = [(false, eval a X.env)] := by rfl) : JI X Wx tg (.Call (.Name "range" p) [a] [] pos) (wRng1 Wa) := by
  refine PI.wk (pi_range1 hg hm ha hs) fun σ H R h => ?_
  obtain ⟨e, ρ, F, EX, P, s, w0, hx, k⟩ := h
  refine ⟨e, ρ, F, EX, _, s, w0, hx, fun F1 H1 vs ds ρ1 s1 m1 r1 q1 => ?_⟩
  split at q1
  · obtain ⟨v, rfl, iv⟩ := r1.one_inv
    simp only [Is] at iv
    exact ⟨_, by rw [iv], q1.1, q1.2.1, k F1 H1 _ ρ1 _ _ _ _ s1 m1 q1.2.2 walk_range (rngD_len _ _ _).symm walkD_range⟩
  · exact q1.elim
theorem ji_range2 {a b : Expr} (hg : Gl X "range") (hm : X.mg "range" = none) (ha : JA X Wx [a, b] Wa) (hs : starEach [a, b] X.env = [(false, eval a X.env), (false, eval b X.env)] := by rfl) (hs2 : starEach [b] X.env = [(false, eval b X.env)] := by rfl) :
    JI X Wx tg (.Call (.Name "range" p) [a, b] [] pos) (wRng2 Wa) := by
  refine PI.wk (pi_range2 hg hm ha hs hs2) fun σ H R h => ?_
  obtain ⟨e, ρ, F, EX, P, s, w0, hx, k⟩ := h
  refine ⟨e, ρ, F, EX, _, s, w0, hx, fun F1 H1 vs ds ρ1 s1 m1 r1 q1 => ?_⟩
  split at q1
  · obtain ⟨v, u, rfl, iv, iu⟩ := r1.two_inv
    simp only [Is] at iv iu
    exact ⟨_, _, by rw [iv, iu], q1.1, k F1 H1 _ ρ1 _ _ _ _ s1 m1 q1.2 walk_range (rngD_len _ _ _).symm walkD_range⟩
  · exact q1.elim
theorem ji_range3 {a b c : Expr} (hg : Gl X "range") (hm : X.mg "range" = none) (ha : JA X Wx [a, b, c] Wa) (hs : starEach [a, b, c] X.env = (false, eval a X.env) :: starEach [b, c] X.env := by rfl) (hpl : (backTo pos (starEach [b, c] X.env)).any (·.1) = false := by rfl) :
    JI X Wx tg (.Call (.Name "range" p) [a, b, c] [] pos) (wRng3 Wa) := by
  refine PI.wk (pi_range3 hg hm ha hs hpl) fun σ H R h => ?_
  obtain ⟨e, ρ, F, EX, P, s, w0, hx, k⟩ := h
  refine ⟨e, ρ, F, EX, _, s, w0, hx, fun F1 H1 vs ds ρ1 s1 m1 r1 q1 => ?_⟩
  split at q1
  · simp only [IsL, Is] at r1
    obtain ⟨v, r, rfl, rfl, u, r', rfl, rfl, t, r'', rfl, rfl, rfl⟩ := r1
    obtain ⟨n, h1, h2⟩ := q1
    exact ⟨_, _, _, n, rfl, h1, k F1 H1 _ ρ1 _ _ _ _ s1 m1 h2 walk_rangeC (rngD_len _ _ _).symm walkD_rangeC⟩
  · exact q1.elim
/-- pairs of the place and the item -/
def enumD (ds : List D) : List D := ds.zipIdx.map fun x => .tup [.int (x.2 : Nat), x.1]
theorem enumD_len (ds : List D) : (enumD ds).length = ds.length := by simp [enumD]
theorem enumD_get (ds : List D) (i : Nat) (h : i < (enumD ds).length) : (enumD ds)[i] = .tup [.int (i : Nat), ds[i]'(by simpa [enumD] using h)] := by simp [enumD]
def wEnum (Wa : WA) : WI := fun EX ρ P => Wa EX ρ fun ds ρ1 => match ds with
  | [.lst l] => P (enumD l) ρ1
  | _ => False
theorem ji_enum {a : Expr} {elts : List Expr} {kk : Nat} (hg : Gl X "enumerate") (hm : X.mg "enumerate" = none) (ha : JA X Wx [a] Wa) (hs : starEach [a] X.env = [(false, eval a X.env)] := by rfl) :
    JI X Wx (.Tuple elts kk tpos) (.Call (.Name "enumerate" p) [a] [] pos) (wEnum Wa) := by
  refine PI.wk (pi_enum hg hm ha hs) fun σ H R h => ?_
  obtain ⟨e, ρ, F, EX, P, s, w0, hx, k⟩ := h
  refine ⟨e, ρ, F, EX, _, s, w0, hx, fun F1 H1 vs ds ρ1 s1 m1 r1 q1 => ?_⟩
  split at q1
  · obtain ⟨v, rfl, iv⟩ := r1.one_inv
    simp only [Is] at iv
    obtain ⟨a, us, rfl, h1, h2⟩ := iv
    refine ⟨a, us, rfl, SqL.of (s1.fh _ _ h1), k F1 H1 _ ρ1 _ _ _ _ s1 m1 q1 (walk_enum (xs := us)) (by rw [enumD_len, h2.len]) ⟨fun e' ρ' F2 σ' H' s' m' _ => SqL.of (s'.fh _ _ (m' _ _ h1)), fun i H x H' hi _ y => ?_⟩⟩
    obtain ⟨T, y1, y2, rfl, hT, rfl, e1, e2⟩ := y
    cases e1
    obtain ⟨d, h3, h4⟩ := h2.get' e2
    refine .inr ⟨T, _, [.int (i : Nat), d], rfl, hT, rfl, ?_, ?_⟩
    · rw [List.getElem?_eq_getElem hi, enumD_get]
      have := (List.getElem?_eq_some_iff.mp h3).2
      rw [this]
    · exact .cons (by simp [Is]) (.one h4)
  · exact q1.elim
/-- pairs of items -/
def zipD (xs ys : List D) : List D := (xs.zip ys).map fun x => .tup [x.1, x.2]
theorem zipD_len (xs ys : List D) : (zipD xs ys).length = min xs.length ys.length := by simp [zipD]
theorem zipD_get (xs ys : List D) (i : Nat) (h : i < (zipD xs ys).length) : (zipD xs ys)[i] = .tup [xs[i]'(by simp [zipD] at h; omega), ys[i]'(by simp [zipD] at h; omega)] := by simp [zipD]
def wZip (Wa : WA) : WI := fun EX ρ P => Wa EX ρ fun ds ρ1 => match ds with
  | [.lst l, .lst m] => P (zipD l m) ρ1
  | _ => False
theorem ji_zip {a b : Expr} {elts : List Expr} {kk : Nat} (hg : Gl X "zip") (hm : X.mg "zip" = none) (ha : JA X Wx [a, b] Wa) (hs : starEach [a, b] X.env = (false, eval a X.env) :: starEach [b] X.env := by rfl) (hpl : (backTo pos (starEach [b] X.env)).any (·.1) = false := by rfl) :
    JI X Wx (.Tuple elts kk tpos) (.Call (.Name "zip" p) [a, b] [] pos) (wZip Wa) := by
  refine PI.wk (pi_zip hg hm ha hs hpl) fun σ H R h => ?_
  obtain ⟨e, ρ, F, EX, P, s, w0, hx, k⟩ := h
  refine ⟨e, ρ, F, EX, _, s, w0, hx, fun F1 H1 vs ds ρ1 s1 m1 r1 q1 => ?_⟩
  split at q1
  · obtain ⟨v, u, rfl, iv, iu⟩ := r1.two_inv
    simp only [Is] at iv iu
    obtain ⟨a, us, rfl, h1, h2⟩ := iv
    obtain ⟨b, ws, rfl, h3, h4⟩ := iu
    refine ⟨a, b, us, ws, rfl, SqL.of (s1.fh _ _ h1), SqL.of (s1.fh _ _ h3), k F1 H1 _ ρ1 _ _ _ _ s1 m1 q1 (walk_zip (xs := us) (ys := ws) rfl) (by rw [zipD_len, h2.len, h4.len]) ⟨fun e' ρ' F2 σ' H' s' m' _ => ⟨SqL.of (s'.fh _ _ (m' _ _ h1)), SqL.of (s'.fh _ _ (m' _ _ h3))⟩, fun i H x H' hi _ y => ?_⟩⟩
    obtain ⟨T, y1, y2, rfl, hT, rfl, e1, e2⟩ := y
    obtain ⟨d, h5, h6⟩ := h2.get' e1
    obtain ⟨c, h7, h8⟩ := h4.get' e2
    refine .inr ⟨T, _, [d, c], rfl, hT, rfl, ?_, ?_⟩
    · rw [List.getElem?_eq_getElem hi, zipD_get]
      rw [(List.getElem?_eq_some_iff.mp h5).2, (List.getElem?_eq_some_iff.mp h7).2]
    · exact .cons h6 (.one h8)
  · exact q1.elim
def wRev (Wa : WA) : WI := fun EX ρ P => Wa EX ρ fun ds ρ1 => match ds with
  | [.lst l] => P l.reverse ρ1
  | _ => False
theorem ji_rev {a : Expr} (hg : Gl X "reversed") (hm : X.mg "reversed" = none) (ha : JA X Wx [a] Wa) (hs : starEach [a] X.env = [(false, eval a X.env)] := by rfl) : JI X Wx tg (.Call (.Name "reversed" p) [a] [] pos) (wRev Wa) := by
  refine PI.wk (pi_reversed hg hm ha hs) fun σ H R h => ?_
  obtain ⟨e, ρ, F, EX, P, s, w0, hx, k⟩ := h
  refine ⟨e, ρ, F, EX, _, s, w0, hx, fun F1 H1 vs ds ρ1 s1 m1 r1 q1 => ?_⟩
  split at q1
  · obtain ⟨v, rfl, iv⟩ := r1.one_inv
    simp only [Is] at iv
    obtain ⟨a, us, rfl, h1, h2⟩ := iv
    refine ⟨a, us, rfl, SqL.of (s1.fh _ _ h1), k F1 H1 _ ρ1 _ _ _ _ s1 m1 q1 (walk_rev (xs := us)) (by rw [List.length_reverse, h2.len]) ⟨fun e' ρ' F2 σ' H' s' m' _ => SqL.of (s'.fh _ _ (m' _ _ h1)), fun i H x H' hi _ y => ?_⟩⟩
    obtain ⟨rfl, y⟩ := y
    refine .inl ⟨rfl, ?_⟩
    obtain ⟨d, h5, h6⟩ := h2.get' y
    refine ⟨d, ?_, h6⟩
    rw [List.length_reverse] at hi
    rw [List.getElem?_reverse hi, h2.len]
    exact h5
  · exact q1.elim
end

/-! ## comprehensions -/
def wipeD (ρ : DEnv) : List Nat → DEnv
  | [] => ρ
  | v :: vs => (wipeD ρ vs).set v none
/-- behind a comprehension: its own slots as they were, where they hold data -/
def backD (ρ ρ' : DEnv) : List Nat → DEnv
  | [] => ρ'
  | v :: vs => (backD ρ ρ' vs).set v (match ρ[v]? with
    | some (some (.fz d)) => some (.fz d)
    | some (some (.lk p c)) => some (.lk p c)
    | _ => none)
def NX : EXt := fun _ _ _ => False
def NW : WX := fun _ _ _ _ => False
theorem Hx.never {K : PySem.W.Frag} {e : Ent} : Hx K NW e NX := fun _ _ _ _ _ _ _ _ _ _ _ _ _ h => h
theorem Sg.wipe {K : PySem.W.Frag} {e : Ent} {ρ : DEnv} {F : Hp} {σ : St} {H : Hp} (s : Sg K e ρ F σ H) : ∀ vs, Sg K e (wipeD ρ vs) F (L2.wipe σ vs) H
  | [] => s
  | v :: vs => by
    have s1 := Sg.wipe s vs
    unfold wipeD L2.wipe
    have hsub : ∀ (i : Nat) (dv : DV), ((wipeD ρ vs).set v none)[i]? = some (some dv) → i ≠ v ∧ (wipeD ρ vs)[i]? = some (some dv) := fun i dv h => by
      by_cases hv : v = i
      · subst hv
        by_cases hl : v < (wipeD ρ vs).length
        · rw [List.getElem?_set_self hl] at h; cases h
        · rw [List.getElem?_eq_none (by simpa using hl)] at h; cases h
      · rw [List.getElem?_set_ne hv] at h; exact ⟨fun z => hv z.symm, h⟩
    refine ⟨s1.fh, s1.st, by simp [s1.len], fun i dv h => ?_, fun i j dv dw v' a b c d g1 g2 => ?_, s1.pin⟩
    · obtain ⟨n, h'⟩ := hsub i dv h
      obtain ⟨w, w1, w2⟩ := s1.sl i dv h'
      exact ⟨w, by rw [List.getElem?_set_ne (Ne.symm n)]; exact w1, w2⟩
    · obtain ⟨n1, h1⟩ := hsub i dv a
      obtain ⟨n2, h2⟩ := hsub j dw b
      rw [List.getElem?_set_ne (Ne.symm n1)] at g1
      rw [List.getElem?_set_ne (Ne.symm n2)] at g2
      exact s1.ap i j dv dw v' h1 h2 c d g1 g2
/-- with one more pin -/
def Ent.pinned (e : Ent) (p : Addr) (o : HO) : Ent := { e with pn := (p, o) :: e.pn }
theorem Sg.topin {K : PySem.W.Frag} {e : Ent} {ρ : DEnv} {F : Hp} {σ : St} {H : Hp} {p : Addr} {o : HO} (s : Sg K e ρ F σ H) (h : H p = some o) (hf : F p = none) (he : e.H p = none)
    (nd : ∀ (i : Nat) (dw : DV), ρ[i]? = some (some dw) → dw.own = true → σ[i]? ≠ some (some (.ref p))) : Sg K (e.pinned p o) ρ F σ H where
  fh := s.fh
  st := s.st
  len := s.len
  sl := fun i dv q => by
    obtain ⟨v, a, b⟩ := s.sl i dv q
    refine ⟨v, a, ?_⟩
    cases dv with
    | fz d => exact b
    | lk r c =>
      obtain ⟨u, od, rfl, a1, a2⟩ := b
      exact ⟨u, od, rfl, List.mem_cons_of_mem _ a1, a2⟩
    | mu bb c =>
      obtain ⟨r, u, rfl, a1, a2, a3, a4, a5, a6⟩ := b
      refine ⟨r, u, rfl, a1, a2, a3, fun u' hu => ?_, a5, a6⟩
      rcases List.mem_cons.mp hu with z | z
      · cases z
        exact nd i _ q rfl a
      · exact a4 u' z
  ap := s.ap
  pin := fun r hr => by
    rcases List.mem_cons.mp hr with z | z
    · subst z; exact ⟨h, hf, he⟩
    · exact s.pin r z
theorem Sg.unpin {K : PySem.W.Frag} {e : Ent} {ρ : DEnv} {F : Hp} {σ : St} {H : Hp} {p : Addr} {o : HO} (s : Sg K (e.pinned p o) ρ F σ H) (ho : ∀ od u, o ≠ .frz od u := by intro _ _ z; cases z) : Sg K e ρ F σ H ∧ H p = some o ∧ F p = none ∧ e.H p = none ∧
    (∀ (i : Nat) (dw : DV), ρ[i]? = some (some dw) → dw.own = true → σ[i]? ≠ some (some (.ref p))) := by
  obtain ⟨a1, a2, a3⟩ := s.pin (p, o) List.mem_cons_self
  refine ⟨⟨s.fh, s.st, s.len, fun i dv q => ?_, s.ap, fun r hr => s.pin r (List.mem_cons_of_mem _ hr)⟩, a1, a2, a3, fun i dw h ho z => ?_⟩
  · obtain ⟨v, a, b⟩ := s.sl i dv q
    refine ⟨v, a, ?_⟩
    cases dv with
    | fz d => exact b
    | lk r c =>
      obtain ⟨u, od, rfl, a1, a2⟩ := b
      rcases List.mem_cons.mp a1 with z | z
      · cases z; exact absurd rfl (ho _ _)
      · exact ⟨u, od, rfl, z, a2⟩
    | mu bb c =>
      obtain ⟨r, u, rfl, a1, a2, a3, a4, a5, a6⟩ := b
      exact ⟨r, u, rfl, a1, a2, a3, fun u' hu => a4 u' (List.mem_cons_of_mem _ hu), a5, a6⟩
  · obtain ⟨v, a, b⟩ := s.sl i dw h
    rw [z] at a; cases a
    cases dw with
    | fz d => cases ho
    | lk _ c => cases ho
    | mu bb c =>
      obtain ⟨r, u, e1, _, _, _, a4, _, _⟩ := b
      cases e1
      exact a4 o List.mem_cons_self
/-- an object that no slot, no pin and no data knows is changed -/
theorem Sg.other {K : PySem.W.Frag} {e : Ent} {ρ : DEnv} {F : Hp} {σ : St} {H : Hp} {p : Addr} {o : HO} (s : Sg K e ρ F σ H) (hf : F p = none) (he : e.H p = none)
    (nd : ∀ (i : Nat) (dw : DV), ρ[i]? = some (some dw) → dw.own = true → σ[i]? ≠ some (some (.ref p))) (np : ∀ u, (p, u) ∉ e.pn) : Sg K e ρ F σ (upd H p o) where
  fh := fun b u h => by
    have : b ≠ p := fun z => by subst z; rw [hf] at h; cases h
    rw [upd_ne this]; exact s.fh _ _ h
  st := ⟨s.st.ff, fun q u h n => by
      have : q ≠ p := fun z => by subst z; rw [he] at h; cases h
      rw [upd_ne this]; exact s.st.keep q u h n, fun q u h => by
      have : q ≠ p := fun z => by subst z; rw [he] at h; cases h
      rw [upd_ne this]; exact s.st.there q u h, s.st.old⟩
  len := s.len
  sl := fun i dv q => by
    obtain ⟨v, a, b⟩ := s.sl i dv q
    refine ⟨v, a, ?_⟩
    cases dv with
    | fz d => exact b
    | lk _ c => exact b
    | mu bb c =>
      obtain ⟨r, u, rfl, a1, a2, a3, a4, a5, a6⟩ := b
      have : r ≠ p := fun z => nd i _ q rfl (by rw [a, z])
      exact ⟨r, u, rfl, a1, a2, a3, a4, by rw [upd_ne this]; exact a5, a6⟩
  ap := s.ap
  pin := fun r hr => by
    obtain ⟨a, b, c⟩ := s.pin r hr
    have : r.1 ≠ p := fun z => np r.2 (by rw [← z]; exact hr)
    exact ⟨by rw [upd_ne this]; exact a, b, c⟩
theorem back_get {ρ ρ' : DEnv} {j : Nat} {dv : DV} : ∀ {vs : List Nat}, (backD ρ ρ' vs)[j]? = some (some dv) → (j ∈ vs ∧ ρ[j]? = some (some dv) ∧ dv.own = false) ∨ (j ∉ vs ∧ ρ'[j]? = some (some dv))
  | [], h => .inr ⟨by simp, h⟩
  | v :: vs, h => by
    unfold backD at h
    by_cases hv : v = j
    · subst hv
      left
      by_cases hl : v < (backD ρ ρ' vs).length
      · rw [List.getElem?_set_self hl] at h
        have h := Option.some.inj h
        split at h
        · rename_i d hd
          cases h
          exact ⟨List.mem_cons_self, hd, rfl⟩
        · rename_i p d hd
          cases h
          exact ⟨List.mem_cons_self, hd, rfl⟩
        · cases h
      · rw [List.getElem?_eq_none (by simpa using hl)] at h; cases h
    · rw [List.getElem?_set_ne hv] at h
      rcases back_get h with ⟨a, b⟩ | ⟨a, b⟩
      · exact .inl ⟨List.mem_cons_of_mem _ a, b⟩
      · exact .inr ⟨by simp only [List.mem_cons, not_or]; exact ⟨fun z => hv z.symm, a⟩, b⟩
theorem back_len {ρ ρ' : DEnv} : ∀ {vs : List Nat}, (backD ρ ρ' vs).length = ρ'.length
  | [] => rfl
  | v :: vs => by unfold backD; rw [List.length_set, back_len]
/-- back in the def's own slots -/
theorem Sg.back {K : PySem.W.Frag} {e : Ent} {ρ ρ' : DEnv} {F F' : Hp} {σ : St} {H H' : Hp} {vs : List Nat} (s0 : Sg K e ρ F σ H) (m : Same F F') (s : Sg K e ρ' F' (L2.wipe σ vs) H') : Sg K e (backD ρ ρ' vs) F' σ H' := by
  refine ⟨s.fh, s.st, by rw [back_len, s.len, wipe_length], fun i dv h => ?_, fun i j dv dw v a b c d g1 g2 => ?_, s.pin⟩
  · rcases back_get h with ⟨h1, h2, h3⟩ | ⟨h1, h2⟩
    · obtain ⟨v, a, b⟩ := s0.sl i dv h2
      cases dv with
      | fz d => exact ⟨v, a, Is.mono m _ b⟩
      | lk r c =>
        obtain ⟨u, od, rfl, a1, a2⟩ := b
        exact ⟨_, a, u, od, rfl, a1, a2.mono m⟩
      | mu => cases h3
    · obtain ⟨v, a, b⟩ := s.sl i dv h2
      rw [wipe_out h1] at a
      exact ⟨v, a, b⟩
  · rcases back_get a with ⟨h1, h2, h3⟩ | ⟨h1, h2⟩
    · rw [h3] at c; cases c
    · rcases back_get b with ⟨h4, h5, h6⟩ | ⟨h4, h5⟩
      · rw [h6] at d; cases d
      · exact s.ap i j dv dw v h2 h5 c d (by rw [wipe_out h1]; exact g1) (by rw [wipe_out h4]; exact g2)
section
variable {X : Cx} {Wx : WX} {tg iter elt : Expr} {ifs : List Expr} {scope : Scope} {own : List (Str × Nat)} {Wi : WI} {g : WG} {Wt : WT} {We : WE} {pos : Pos}
structure LcP (xs : List D) (g : WG) (Wt : WT) (We : WE) (vs : List Nat) (ρ : DEnv) (P : DV → DEnv → Prop) : Prop where
  ex : ∃ I : Nat → List D → DEnv → Prop, (∃ ρ', Wk (wipeD ρ vs) ρ' ∧ I 0 [] ρ') ∧
    (∀ i acc ρ' (hi : i < xs.length), I i acc ρ' → g xs[i] ρ' fun ρ2 => Wt NX ρ2 fun b ρ3 => ift b (We NX ρ3 fun y ρ4 => y.thn fun d => acc.length < sizeLine ∧ ∃ ρ5, Wk (wipeD ρ4 vs) ρ5 ∧ I (i + 1) (acc ++ [d]) ρ5) (∃ ρ5, Wk (wipeD ρ3 vs) ρ5 ∧ I (i + 1) acc ρ5)) ∧
    ∀ acc ρ', I xs.length acc ρ' → P (.mu true (.lst acc)) (backD ρ ρ' vs)
def wLc (Wi : WI) (g : WG) (Wt : WT) (We : WE) (vs : List Nat) : WE := fun EX ρ P => Wi EX ρ fun xs ρ1 => LcP xs g Wt We vs ρ1 P
abbrev JTs (X : Cx) (Wx : WX) (ifs : List Expr) (W : WT) : Prop := PTs X ifs (cT X.K Wx W)
def wYes : WT := fun _ ρ P => P true ρ
theorem jts_nil : JTs X Wx [] wYes := ⟨fun pins s σ H Q I h => by
  obtain ⟨e, ρ, F, EX, P, s', w0, hx, k⟩ := h
  exact pts_nil.run pins s σ H Q I (k F H true ρ s' (Same.refl _) w0)⟩
theorem jts_one {c : Expr} {W : WT} (h : JT X Wx c W) : JTs X Wx [c] W := pts_one h
theorem cE_lc (vs : List Nat) (σ : St) (H : Hp) (Q : VK) (h : cE X.K Wx (wLc Wi g Wt We vs) σ H Q) : tLc (cI X.K Wx Wi) (cG X.K vs g) (cT X.K NW Wt) (cE X.K NW We) vs σ H Q := by
  obtain ⟨e, ρ, F, EX, P, s, w0, hx, k⟩ := h
  refine ⟨e, ρ, F, EX, _, s, w0, hx, fun F1 H1 xs ρ1 J n G Y s1 m1 q1 wk hn wd => ?_⟩
  obtain ⟨I, ⟨ρ0, wk0, i0⟩, iS, iE⟩ := q1.ex
  intro D hD
  obtain ⟨sD, rD⟩ := s1.alloc (o := .lst []) (c := .lst []) hD ⟨[], rfl, IsL.nil⟩
  -- the invariant: the new list stands apart
  let Pv : Nat → Hp → Prop := fun i H => ∃ acc us ρ' F2, I i acc ρ' ∧ Same F1 F2 ∧ IsL X.K F2 acc us ∧ Sg X.K (e.pinned D (.lst us)) ρ' F2 (L2.wipe σ vs) H
  refine lc_it (Qd := fun H => Q (.ref D) H) wk Pv ⟨[], [], ρ0, F1, i0, Same.refl _, IsL.nil, ?_⟩ ?_ ?_ ?_
  · refine Sg.wk (ρ := wipeD ρ1 vs) ?_ wk0
    refine (sD.wipe vs).topin upd_same (s1.free hD).1 (s1.free hD).2 fun i dw h ho z => ?_
    have := (sD.wipe vs).sl i dw h
    have z' := wipe_some z
    obtain ⟨w, a, b⟩ := this
    rw [z] at a; cases a
    cases dw with
    | fz d => cases ho
    | lk _ c => cases ho
    | mu bb c =>
      -- the slot's object is none of the new list
      have key : ∀ (vs : List Nat), (wipeD ρ1 vs)[i]? = some (some (.mu bb c)) → ρ1[i]? = some (some (.mu bb c)) := by
        intro vs
        induction vs with
        | nil => exact fun q => q
        | cons v vs ih =>
          intro q
          unfold wipeD at q
          by_cases hv : v = i
          · subst hv
            by_cases hl : v < (wipeD ρ1 vs).length
            · rw [List.getElem?_set_self hl] at q; cases q
            · rw [List.getElem?_eq_none (by simpa using hl)] at q; cases q
          · rw [List.getElem?_set_ne hv] at q; exact ih q
      exact rD.2 rfl i _ (key vs h) rfl z'.1
  · rintro i H2 hi ⟨acc, us, ρ', F2, _, m2, _, s2⟩
    obtain ⟨s2', _⟩ := s2.unpin
    exact wd.stay e ρ' F2 _ H2 s2' m2 fun _ h => h
  · rintro i x H2 H2' hi ⟨acc, us, ρ', F2, hI, m2, ia, s2⟩ y
    have hix : i < xs.length := by omega
    have hG : G H2 := wd.stay e ρ' F2 _ H2 s2.unpin.1 m2 fun _ h => h
    obtain ⟨F3, s3, m3, i3⟩ := wd.at s2 m2 hG hix y
    refine ⟨_, ρ', F3, _, _, s3, i3, iS i acc ρ' hix hI, fun ρ2 F4 σ2 H4 s4 m4 e4 q4 => ⟨by rw [e4, wipe_wipe], ?_⟩⟩
    have e4' : L2.wipe σ2 vs = L2.wipe σ vs := by rw [e4, wipe_wipe]
    refine ⟨_, ρ2, F4, NX, _, s4, q4, Hx.never, fun F5 H5 b ρ3 s5 m5 q5 => ?_⟩
    cases b with
    | false =>
      rw [if_neg (by decide)]
      obtain ⟨ρ5, wk5, q5'⟩ := q5
      refine ⟨acc, us, ρ5, F5, q5', (m2.trans m3).trans (m4.trans m5), ia.mono (m3.trans (m4.trans m5)), ?_⟩
      have := (s5.wipe vs).wk wk5
      rwa [e4'] at this
    | true =>
      rw [if_pos rfl]
      refine ⟨_, ρ3, F5, NX, _, s5, q5, Hx.never, fun F6 H6 v6 d6 ρ4 s6 m6 r6 q6 => ?_⟩
      obtain ⟨F7, a7, s7, m7, i7, q7⟩ := s6.data r6 q6
      obtain ⟨s8, h1, h2, h3, h4⟩ := s7.unpin
      have ia' : IsL X.K F7 acc us := ia.mono (m3.trans (m4.trans (m5.trans (m6.trans m7))))
      obtain ⟨q71, ρ5, wk5, q7'⟩ := q7
      refine ⟨us, h1, by rw [← ia'.len]; exact q71, acc ++ [a7], us ++ [v6], ρ5, F7, q7', (m2.trans m3).trans (m4.trans (m5.trans (m6.trans m7))), ia'.append (IsL.one i7), ?_⟩
      have np : ∀ u, (D, u) ∉ e.pn := fun u hu => rD.1.elim fun p hp => by
        obtain ⟨o, e1, _, _, _, h5, _⟩ := hp
        cases e1
        exact h5 u hu
      have s9 := (s8.other (o := .lst (us ++ [v6])) h2 h3 h4 np).topin upd_same h2 h3 h4
      have := (s9.wipe vs).wk wk5
      rwa [e4'] at this
  · rintro H2 ⟨acc, us, ρ', F2, hI, m2, ia, s2⟩
    obtain ⟨s3, h1, h2, h3, h4⟩ := s2.unpin
    have sb := Sg.back s1 m2 s3
    have hI' : I xs.length acc ρ' := by rw [← hn]; exact hI
    have np : ∀ u, (D, u) ∉ e.pn := fun u hu => by
      obtain ⟨p, o, e1, _, _, _, h5, _⟩ := rD.1
      cases e1
      exact h5 u hu
    refine k F2 H2 (.ref D) (.mu true (.lst acc)) _ sb (m1.trans m2) ⟨⟨D, .lst us, rfl, h2, fun _ => h3, (fun z => nomatch z), np, h1, us, rfl, ia⟩, fun _ i dw h ho z => ?_⟩ (iE acc ρ' hI')
    rcases back_get h with ⟨h5, h6, h7⟩ | ⟨h5, h6⟩
    · rw [h7] at ho; cases ho
    · exact h4 i dw h6 ho (by rw [wipe_out h5]; exact z)
end
end L2.DL

/-! # DLe.lean -/
set_option Elab.async false
set_option linter.all false
set_option maxRecDepth 100000
namespace L2.DL
open PySem PySem.Spec PyProof.Rows

section
variable {X : Cx} {Wx : WX} {tg iter elt : Expr} {ifs : List Expr} {scope : Scope} {own : List (Str × Nat)} {Wi : WI} {g : WG} {Wt : WT} {We : WE} {pos spos py : Pos}
theorem je_lc (hc : X.calm = true) (hN : X.N.Nodup) (hi : JI X Wx tg iter Wi) (ok : BlkOk X.N X.env.scope scope own)
    (hg : ∀ (s : Shared) (H : Hp) (C : Addr) (cl : List (Str × Addr)) (fp : List Addr), JG (X.blk s H scope (compEnvC scope cl C X.env) fp) (own.map (·.2)) tg g)
    (ht : ∀ (s : Shared) (H : Hp) (C : Addr) (cl : List (Str × Addr)) (fp : List Addr), JTs (X.blk s H scope (compEnvC scope cl C X.env) fp) NW ifs Wt)
    (he : ∀ (s : Shared) (H : Hp) (C : Addr) (cl : List (Str × Addr)) (fp : List Addr), JE (X.blk s H scope (compEnvC scope cl C X.env) fp) NW elt We) (hs : ∀ x, foldedSetIterable iter X.env x = pure x := by intro _; rfl) :
    JE X Wx (.ListComp elt [⟨tg, iter, ifs, 0⟩] scope pos) (wLc Wi g Wt We (own.map (·.2))) := PE.wk (pe_lc hc hN hi ok hg ht he hs) (cE_lc _)

/-! ## statements -/
structure DEnds where
  nx : DEnv → Prop
  rt : DV → DEnv → Prop
  bk : DEnv → Prop := fun _ => False
  ct : DEnv → Prop := fun _ => False
  ex : EXt := NX
abbrev WS := DEnds → DEnv → Prop
structure Rf (K : PySem.W.Frag) (Wx : WX) (e : Ent) (E : DEnds) (D : Ends) : Prop where
  nx : ∀ ρ F σ H, Sg K e ρ F σ H → E.nx ρ → D.nx σ H
  rt : ∀ ρ F σ H v dv, Sg K e ρ F σ H → Res K e F H ρ σ dv v → E.rt dv ρ → D.rt v H
  bk : ∀ ρ F σ H, Sg K e ρ F σ H → E.bk ρ → D.bk σ H
  ct : ∀ ρ F σ H, Sg K e ρ F σ H → E.ct ρ → D.ct σ H
  ex : Hx K Wx e E.ex
def cS (K : PySem.W.Frag) (Wx : WX) (W : WS) : TS := fun D σ H => ∃ e ρ F E, Sg K e ρ F σ H ∧ W E ρ ∧ Rf K Wx e E D
abbrev JS (X : Cx) (Wx : WX) (st : Stmt) (W : WS) : Prop := PS X st (cS X.K Wx W)
abbrev JSs (X : Cx) (Wx : WX) (st : List Stmt) (W : WS) : Prop := PSs X st (cS X.K Wx W)
theorem PS.wk {st : Stmt} {t t' : TS} (h : PS X st t) (i : ∀ D σ H, t' D σ H → t D σ H) : PS X st t' := ⟨fun pins s σ H D I q => h.run pins s σ H D I (i D σ H q)⟩
theorem PSs.wk {st : List Stmt} {t t' : TS} (h : PSs X st t) (i : ∀ D σ H, t' D σ H → t D σ H) : PSs X st t' := ⟨fun pins s σ H D I q => h.run pins s σ H D I (i D σ H q)⟩
theorem Rf.nxt {K : PySem.W.Frag} {e : Ent} {E : DEnds} {D : Ends} {N : DEnv → Prop} {N' : St → Hp → Prop} (r : Rf K Wx e E D) (h : ∀ ρ F σ H, Sg K e ρ F σ H → N ρ → N' σ H) : Rf K Wx e { E with nx := N } { D with nx := N' } :=
  ⟨h, r.rt, r.bk, r.ct, r.ex⟩
variable {st : Stmt} {rest a b body : List Stmt} {W W1 W2 : WS} {ex : Expr}
def wNext : WS := fun E ρ => E.nx ρ
def wSeq (W1 W2 : WS) : WS := fun E ρ => W1 { E with nx := W2 E } ρ
theorem jss_nil : JSs X Wx [] wNext := PSs.wk pss_nil fun D σ H h => by
  obtain ⟨e, ρ, F, E, s, w, r⟩ := h
  exact r.nx ρ F σ H s w
theorem jss_cons (h1 : JS X Wx st W1) (h2 : JSs X Wx rest W2) : JSs X Wx (st :: rest) (wSeq W1 W2) := PSs.wk (pss_cons h1 h2) fun D σ H h => by
  obtain ⟨e, ρ, F, E, s, w, r⟩ := h
  exact ⟨e, ρ, F, _, s, w, r.nxt fun ρ' F' σ' H' s' w' => ⟨e, ρ', F', E, s', w', r⟩⟩
theorem jss_one (h1 : JS X Wx st W1) : JSs X Wx [st] W1 := PSs.wk (pss_one h1) fun D σ H h => h
theorem js_pass : JS X Wx (.Pass pos) wNext := PS.wk ps_pass fun D σ H h => by
  obtain ⟨e, ρ, F, E, s, w, r⟩ := h
  exact r.nx ρ F σ H s w
def wBrk : WS := fun E ρ => E.bk ρ
def wCnt : WS := fun E ρ => E.ct ρ
theorem js_break : JS X Wx (.Break pos) wBrk := PS.wk ps_break fun D σ H h => by
  obtain ⟨e, ρ, F, E, s, w, r⟩ := h
  exact r.bk ρ F σ H s w
theorem js_continue : JS X Wx (.Continue pos) wCnt := PS.wk ps_continue fun D σ H h => by
  obtain ⟨e, ρ, F, E, s, w, r⟩ := h
  exact r.ct ρ F σ H s w
theorem js_never : JS X Wx st (fun _ _ => False) := PS.wk ps_never fun D σ H h => by
  obtain ⟨e, ρ, F, E, s, w, r⟩ := h
  exact w
theorem jss_never {sts : List Stmt} : JSs X Wx sts (fun _ _ => False) := PSs.wk pss_never fun D σ H h => by
  obtain ⟨e, ρ, F, E, s, w, r⟩ := h
  exact w
def wSet (i : Nat) (We : WE) : WS := fun E ρ => We E.ex ρ fun dv ρ1 => E.nx (ρ1.set i (some dv))
theorem cS_asg {i : Nat} {te : TE} (h0 : ∀ σ H Q, cE X.K Wx We σ H Q → te σ H Q) (D : Ends) (σ : St) (H : Hp) (h : cS X.K Wx (wSet i We) D σ H) : tAsg te (gName i) D σ H := by
  obtain ⟨e, ρ, F, E, s, w, r⟩ := h
  exact h0 _ _ _ ⟨e, ρ, F, E.ex, _, s, w, r.ex, fun F' H' v dv ρ' s' m r' p => r.nx _ F' _ H' (s'.set r') p⟩
theorem js_set {i : Nat} {x : Str} {pos' : Pos} (hN : X.N.Nodup) (hi : X.N[i]? = some x) (hx : Loc X.env.scope x) (he : JE X Wx ex We) (hs : swapsWith ex (some (.Name x pos')) pos.line X.env = pure false := by rfl) (hf : X.fn x = true ∨ X.env.scope.names.lookup x = some .local := by first | exact .inl rfl | exact .inr rfl | assumption) :
    JS X Wx (.Assign [.Name x pos'] ex pos) (wSet i We) := PS.wk (ps_set hN hi hx he hs hf) (cS_asg fun _ _ _ h => h)
theorem js_setLc {i : Nat} {y : Str} (hc : X.calm = true) (hN : X.N.Nodup) (hy : X.N[i]? = some y) (hyl : X.env.scope.names.lookup y = some .local)
    (hsw : swapsWith (.ListComp elt [⟨tg, iter, ifs, 0⟩] scope pos) (some (.Name y py)) spos.line X.env = pure true) (hi : JI X Wx tg iter Wi) (ok : BlkOk X.N X.env.scope scope own)
    (hg : ∀ (s : Shared) (H : Hp) (C : Addr) (cl : List (Str × Addr)) (fp : List Addr), JG (X.blk s H scope (compEnvC scope cl C X.env) fp) (own.map (·.2)) tg g)
    (ht : ∀ (s : Shared) (H : Hp) (C : Addr) (cl : List (Str × Addr)) (fp : List Addr), JTs (X.blk s H scope (compEnvC scope cl C X.env) fp) NW ifs Wt)
    (he : ∀ (s : Shared) (H : Hp) (C : Addr) (cl : List (Str × Addr)) (fp : List Addr), JE (X.blk s H scope (compEnvC scope cl C X.env) fp) NW elt We) (hs : ∀ x, foldedSetIterable iter X.env x = pure x := by intro _; rfl) :
    JS X Wx (.Assign [.Name y py] (.ListComp elt [⟨tg, iter, ifs, 0⟩] scope pos) spos) (wSet i (wLc Wi g Wt We (own.map (·.2)))) :=
  PS.wk (ps_setLc hc hN hy hyl hsw hi ok hg ht he hs) (cS_asg (cE_lc _))
def wExpr (We : WE) : WS := fun E ρ => We E.ex ρ fun _ ρ1 => E.nx ρ1
theorem js_expr (he : JE X Wx ex We) (hs : swapsWith ex none pos.line X.env = pure false := by rfl) : JS X Wx (.Expr ex pos) (wExpr We) := PS.wk (ps_expr he hs) fun D σ H h => by
  obtain ⟨e, ρ, F, E, s, w, r⟩ := h
  exact ⟨e, ρ, F, E.ex, _, s, w, r.ex, fun F' H' v dv ρ' s' m r' p => r.nx _ F' _ H' s' p⟩
def wRet (We : WE) : WS := fun E ρ => We E.ex ρ fun dv ρ1 => E.rt dv ρ1
theorem js_ret (he : JE X Wx ex We) : JS X Wx (.Return (some ex) pos) (wRet We) := PS.wk (ps_ret he) fun D σ H h => by
  obtain ⟨e, ρ, F, E, s, w, r⟩ := h
  exact ⟨e, ρ, F, E.ex, _, s, w, r.ex, fun F' H' v dv ρ' s' m r' p => r.rt _ F' _ H' v dv s' r' p⟩
def wRetN : WS := fun E ρ => E.rt (.fz .non) ρ
theorem js_retN : JS X Wx (.Return none pos) wRetN := PS.wk ps_retN fun D σ H h => by
  obtain ⟨e, ρ, F, E, s, w, r⟩ := h
  exact r.rt ρ F σ H _ _ s (Res.fz (by simp [Is])) w
def wIfS (Wt : WT) (W1 W2 : WS) : WS := fun E ρ => Wt E.ex ρ fun b ρ1 => ift b (W1 E ρ1) (W2 E ρ1)
theorem js_if (hc : JT X Wx ex Wt) (ha : JSs X Wx a W1) (hb : JSs X Wx b W2) : JS X Wx (.If ex a b pos) (wIfS Wt W1 W2) := PS.wk (ps_if hc ha hb) fun D σ H h => by
  obtain ⟨e, ρ, F, E, s, w, r⟩ := h
  refine ⟨e, ρ, F, E.ex, _, s, w, r.ex, fun F' H' bb ρ' s' m p => ?_⟩
  cases bb with
  | true => rw [if_pos rfl]; exact ⟨e, ρ', F', E, s', p, r⟩
  | false => rw [if_neg (by decide)]; exact ⟨e, ρ', F', E, s', p, r⟩
def wAsg (We : WE) (g : WG) : WS := fun E ρ => We E.ex ρ fun dv ρ1 => dv.thn fun d => g d ρ1 E.nx
theorem js_asg {vs : List Nat} {tgt : Expr} (h0 : PS X (.Assign [tgt] ex pos) (tAsg (cE X.K Wx We) (cG X.K vs g))) : JS X Wx (.Assign [tgt] ex pos) (wAsg We g) := PS.wk h0 fun D σ H h => by
  obtain ⟨e, ρ, F, E, s, w, r⟩ := h
  refine ⟨e, ρ, F, E.ex, _, s, w, r.ex, fun F' H' v dv ρ' s' m r' p => ?_⟩
  obtain ⟨F2, d, s2, m2, i2, p2⟩ := s'.data r' p
  exact ⟨e, ρ', F2, d, _, s2, i2, p2, fun ρ3 F3 σ3 H3 s3 m3 _ p3 => r.nx _ F3 _ H3 s3 p3⟩

/-! ### loops -/
structure ForP (xs : List D) (g : WG) (W : WS) (E : DEnds) (ρ : DEnv) : Prop where
  ex : ∃ I : Nat → DEnv → Prop, (∃ ρ', Wk ρ ρ' ∧ I 0 ρ') ∧
    (∀ i ρ' (hi : i < xs.length), I i ρ' → g xs[i] ρ' fun ρ2 => W { E with nx := fun ρ3 => ∃ ρ4, Wk ρ3 ρ4 ∧ I (i + 1) ρ4, ct := fun ρ3 => ∃ ρ4, Wk ρ3 ρ4 ∧ I (i + 1) ρ4, bk := E.nx } ρ2) ∧ ∀ ρ', I xs.length ρ' → E.nx ρ'
def wFor (Wi : WI) (g : WG) (W : WS) : WS := fun E ρ => Wi E.ex ρ fun xs ρ1 => ForP xs g W E ρ1
theorem js_for {vs : List Nat} (hp : PassesOwn (model X.prog X.w) X.A X.env X.xe) (hc : X.calm = true) (hi : JI X Wx tg iter Wi) (hg : JG X vs tg g) (hb : JSs X Wx body W) (hs : ∀ x, foldedSetIterable iter X.env x = pure x := by intro _; rfl) :
    JS X Wx (.For tg iter body [] pos) (wFor Wi g W) := PS.wk (ps_for hp hc hi hg hb hs) fun D σ H h => by
  obtain ⟨e, ρ, F, E, s, w, r⟩ := h
  refine ⟨e, ρ, F, E.ex, _, s, w, r.ex, fun F1 H1 xs ρ1 J n G Y s1 m1 q1 wk hn wd => ?_⟩
  obtain ⟨I, ⟨ρ0, wk0, i0⟩, iS, iE⟩ := q1.ex
  refine for_it wk (fun i σ H => ∃ ρ' F2, I i ρ' ∧ Same F1 F2 ∧ Sg X.K e ρ' F2 σ H) ⟨ρ0, F1, i0, Same.refl _, s1.wk wk0⟩ ?_ ?_ ?_
  · rintro i σ2 H2 hi ⟨ρ', F2, _, m2, s2⟩
    exact wd.stay e ρ' F2 σ2 H2 s2 m2 fun _ h => h
  · rintro i x σ2 H2 H2' hi ⟨ρ', F2, hI, m2, s2⟩ y
    have hix : i < xs.length := by omega
    obtain ⟨F3, s3, m3, i3⟩ := wd.at s2 m2 (wd.stay e ρ' F2 σ2 H2 s2 m2 fun _ h => h) hix y
    have m13 := m2.trans m3
    -- the state behind the target, over what is frozen there
    refine ⟨{ e with F := F3, H := e.H }, ρ', F3, _, _, ?_, i3, iS i ρ' hix hI, fun ρ4 F4 σ4 H4 s4 m4 _ q4 => ?_⟩
    · exact ⟨s3.fh, ⟨Same.refl _, s3.st.keep, s3.st.there, fun q o ho hn => hn⟩, s3.len, fun i dv h => by
        obtain ⟨v, a, b⟩ := s3.sl i dv h
        exact ⟨v, a, b⟩, s3.ap, s3.pin⟩
    · have back : ∀ ρ F σ H, Sg X.K { e with F := F3, H := e.H } ρ F σ H → Sg X.K e ρ F σ H ∧ Same F3 F := fun ρ F σ H s =>
        ⟨⟨s.fh, ⟨s3.st.ff.trans s.st.ff, s.st.keep, s.st.there, fun q o ho hn => s.st.old q o ho (s3.st.old q o ho hn)⟩, s.len, s.sl, s.ap, s.pin⟩, s.st.ff⟩
      have m14 : Same F1 F4 := m13.trans (back _ _ _ _ s4).2
      refine ⟨{ e with F := F3, H := e.H }, ρ4, F4, _, s4, q4, ⟨fun ρ F σ H s h => ?_, fun ρ F σ H v dv s res h => ?_, fun ρ F σ H s h => ?_, fun ρ F σ H s h => ?_, ?_⟩⟩
      · obtain ⟨s', m'⟩ := back _ _ _ _ s
        obtain ⟨ρ5, wk5, h⟩ := h
        exact ⟨ρ5, F, h, m13.trans m', s'.wk wk5⟩
      · exact r.rt ρ F σ H v dv (back _ _ _ _ s).1 res h
      · exact r.nx ρ F σ H (back _ _ _ _ s).1 h
      · obtain ⟨s', m'⟩ := back _ _ _ _ s
        obtain ⟨ρ5, wk5, h⟩ := h
        exact ⟨ρ5, F, h, m13.trans m', s'.wk wk5⟩
      · exact fun C dd fs kvs ρ F σ H s => r.ex C dd fs kvs ρ F σ H (back _ _ _ _ s).1
  · rintro σ2 H2 ⟨ρ', F2, hI, m2, s2⟩
    rw [hn] at hI
    exact r.nx ρ' F2 σ2 H2 s2 (iE ρ' hI)
structure WhileP (Wt : WT) (W : WS) (E : DEnds) (ρ : DEnv) : Prop where
  ex : ∃ I : Nat → DEnv → Prop, (∃ m ρ', Wk ρ ρ' ∧ I m ρ') ∧ ∀ ρ1 m, I m ρ1 →
    Wt E.ex ρ1 fun b ρ2 => ift b (W { E with nx := fun ρ3 => ∃ m' ρ4, m' < m ∧ Wk ρ3 ρ4 ∧ I m' ρ4, ct := fun ρ3 => ∃ m' ρ4, m' < m ∧ Wk ρ3 ρ4 ∧ I m' ρ4, bk := E.nx } ρ2) (E.nx ρ2)
def wWhile (Wt : WT) (W : WS) : WS := fun E ρ => WhileP Wt W E ρ
theorem js_while (hp : PassesOwn (model X.prog X.w) X.A X.env X.xe) (hc : JT X Wx ex Wt) (hb : JSs X Wx body W) : JS X Wx (.While ex body [] pos) (wWhile Wt W) := PS.wk (ps_while hp hc hb) fun D σ H h => by
  obtain ⟨e, ρ, F, E, s, w, r⟩ := h
  obtain ⟨I, ⟨m0, ρ0, wk0, i0⟩, iS⟩ := w.ex
  refine ⟨fun m σ H => ∃ ρ' F', I m ρ' ∧ Sg X.K e ρ' F' σ H, ⟨m0, ρ0, F, i0, s.wk wk0⟩, ?_⟩
  rintro m σ1 H1 ⟨ρ1, F1, i1, s1⟩
  refine ⟨e, ρ1, F1, E.ex, _, s1, iS ρ1 m i1, r.ex, fun F2 H2 b ρ2 s2 m2 p2 => ?_⟩
  cases b with
  | false => rw [if_neg (by decide)]; exact r.nx ρ2 F2 σ1 H2 s2 p2
  | true =>
    rw [if_pos rfl]
    refine ⟨fun σ' H' => ∃ m', m' < m ∧ ∃ ρ' F', I m' ρ' ∧ Sg X.K e ρ' F' σ' H', fun σ' H' ⟨m', lt, q⟩ => ⟨m', lt, q⟩, e, ρ2, F2, _, s2, p2, ⟨fun ρ F σ H s h => ?_, r.rt, r.nx, fun ρ F σ H s h => ?_, r.ex⟩⟩
    · obtain ⟨m', ρ4, lt, wk4, h4⟩ := h
      exact ⟨m', lt, ρ4, F, h4, s.wk wk4⟩
    · obtain ⟨m', ρ4, lt, wk4, h4⟩ := h
      exact ⟨m', lt, ρ4, F, h4, s.wk wk4⟩

/-! ### stores -/
def wApp (i : Nat) (We : WE) : WS := fun E ρ => match ρ[i]? with
  | some (some (.mu _ (.lst _))) => We E.ex ρ fun dv ρ1 => dv.thn fun d => match ρ1[i]? with
    | some (some (.mu b (.lst ds))) => ds.length < sizeLine ∧ E.nx (ρ1.set i (some (.mu b (.lst (ds ++ [d])))))
    | _ => False
  | _ => False
theorem js_app {i : Nat} {x : Str} {p apos cpos : Pos}
    (h0 : PS X (.Expr (.Call (.Attribute (.Name x p) "append" apos) [ex] [] cpos) pos) (tDrop (tBM X.K "list" rAppend (tVar i) (tCons (cE X.K Wx We) tNil)))) :
    JS X Wx (.Expr (.Call (.Attribute (.Name x p) "append" apos) [ex] [] cpos) pos) (wApp i We) := PS.wk h0 fun D σ H h => by
  obtain ⟨e, ρ, F, E, s, w, r⟩ := h
  unfold wApp at w
  split at w
  · rename_i b c hb
    obtain ⟨v, hσ, q, o, rfl, a1, a2, a3, a4, a5, vs, rfl, a6⟩ := s.sl i _ hb
    refine ⟨_, hσ, .inl ⟨rfl, vs, SqL.of a5⟩, e, ρ, F, E.ex, _, s, w, r.ex, fun F1 H1 v1 d1 ρ1 s1 m1 r1 q1 => ?_⟩
    obtain ⟨F2, d, s2, m2, i2, q2⟩ := s1.data r1 q1
    split at q2
    · rename_i b' ds hb'
      obtain ⟨v', hσ', q', o', e', b1, b2, b3, b4, b5, vs', rfl, b6⟩ := s2.sl i _ hb'
      rw [hσ] at hσ'
      cases hσ'
      cases e'
      refine ⟨q, vs', v1, rfl, rfl, b5, by rw [← b6.len]; exact q2.1, ?_⟩
      exact r.nx _ F2 σ _ (s2.mut (c' := .lst (ds ++ [d])) hb' hσ (o := .lst (vs' ++ [v1])) ⟨_, rfl, b6.append (.one i2)⟩) q2.2
    · exact q2.elim
  · exact w.elim
def isMu (ρ : DEnv) (i : Nat) : Prop := match ρ[i]? with
  | some (some (.mu _ _)) => True
  | _ => False
theorem isMu_at {K : PySem.W.Frag} {e : Ent} {ρ : DEnv} {F : Hp} {σ : St} {H : Hp} {i : Nat} (s : Sg K e ρ F σ H) (h : isMu ρ i) : ∃ p, σ[i]? = some (some (.ref p)) := by
  unfold isMu at h
  split at h
  · rename_i b c hb
    obtain ⟨v, hσ, q, o, rfl, _⟩ := s.sl i _ hb
    exact ⟨q, hσ⟩
  · exact h.elim
def wSetIx (i : Nat) (Wi We : WE) : WS := fun E ρ => We E.ex ρ fun dv ρ1 => dv.thn fun d => isMu ρ1 i ∧ Wi E.ex ρ1 fun iv ρ2 => match iv with
  | .fz (.int k) => (match ρ2[i]? with
    | some (some (.mu b (.lst ds))) => ∃ j, ixN ds.length k = some j ∧ E.nx (ρ2.set i (some (.mu b (.lst (ds.set j d)))))
    | _ => False)
  | _ => False
theorem js_setIx {i : Nat} {x : Str} {p ps : Pos} {ix : Expr} {Wi' : WE}
    (h0 : PS X (.Assign [.Subscript (.Name x p) ix ps] ex pos) (tAsg (cE X.K Wx We) (gSub (tVar i) (cE X.K Wx Wi') rSetL))) :
    JS X Wx (.Assign [.Subscript (.Name x p) ix ps] ex pos) (wSetIx i Wi' We) := PS.wk h0 fun D σ H h => by
  obtain ⟨e, ρ, F, E, s, w, r⟩ := h
  refine ⟨e, ρ, F, E.ex, _, s, w, r.ex, fun F1 H1 v1 d1 ρ1 s1 m1 r1 q1 => ?_⟩
  obtain ⟨F2, d, s2, m2, i2, hmu, q2⟩ := s1.data r1 q1
  obtain ⟨pp, hσ⟩ := isMu_at s2 hmu
  refine ⟨_, hσ, e, ρ1, F2, E.ex, _, s2, q2, r.ex, fun F3 H3 v3 d3 ρ3 s3 m3 r3 q3 => ?_⟩
  split at q3
  · rename_i k
    have hk : v3 = .int k := by simpa [Res, Sl, Is] using r3.1
    split at q3
    · rename_i b' ds hb'
      obtain ⟨v', hσ', q', o', rfl, b1, b2, b3, b4, b5, vs', rfl, b6⟩ := s3.sl i _ hb'
      rw [hσ] at hσ'
      cases hσ'
      obtain ⟨j, j1, j2⟩ := q3
      refine ⟨pp, vs', k, j, rfl, hk, b5, by rw [← b6.len]; exact j1, ?_⟩
      exact r.nx _ F3 σ _ (s3.mut (c' := .lst (ds.set j d)) hb' hσ (o := .lst (vs'.set j v1)) ⟨_, rfl, b6.set (Is.mono m3 _ i2) j⟩) j2
    · exact q3.elim
  · exact q3.elim
/-! x op= e -/
def wAug (i : Nat) (w : D → D → (DV → Prop) → Prop) (We : WE) : WS := fun E ρ => match ρ[i]? with
  | some (some (.fz d)) => We E.ex ρ fun b ρ1 => b.thn fun db => w d db fun dv => E.nx (ρ1.set i (some dv))
  | _ => False
theorem js_aug {i : Nat} {x : Str} {pos' : Pos} {op : Operator} {r : R2} {w : D → D → (DV → Prop) → Prop} (hN : X.N.Nodup) (hi : X.N[i]? = some x) (hx : Loc X.env.scope x) (ho : OpR X (inplaceOp op) r) (hr : BR X.K r w) (he : JE X Wx ex We)
    (hf : X.fn x = true ∨ X.env.scope.names.lookup x = some .local := by first | exact .inl rfl | exact .inr rfl | assumption) :
    JS X Wx (.AugAssign (.Name x pos') op ex pos) (wAug i w We) := PS.wk (ps_aug (ti := r) hN hi hx he ho hf) fun D σ H h => by
  obtain ⟨e, ρ, F, E, s, w0, rf⟩ := h
  unfold wAug at w0
  split at w0
  · rename_i d hd
    obtain ⟨v, hσ, iv⟩ := s.sl i _ hd
    refine ⟨v, hσ, e, ρ, F, E.ex, _, s, w0, rf.ex, fun F1 H1 v1 d1 ρ1 s1 m1 r1 q1 => ?_⟩
    obtain ⟨F2, b, s2, m2, i2, q2⟩ := s1.data r1 q1
    exact hr e ρ1 F2 σ H1 v v1 d b _ _ s2 (Is.mono (m1.trans m2) _ iv) i2 q2 fun F' H' v' dv s' sm res p => rf.nx _ F' _ H' (s'.set res) p
  · exact w0.elim
/-! dicts: d[k] = v -/
def D.key : D → Option Key
  | .int i => some (.inl i)
  | .str x => some (.inr x)
  | _ => none
theorem key_is {K : PySem.W.Frag} {F : Hp} {d : D} {v : V} {k : Key} (h : Is K F d v) (e : d.key = some k) : v = kV k := by
  cases d <;> simp only [D.key] at e <;> cases e <;> simp only [Is] at h <;> exact h
def valD {κ : Type} [DecidableEq κ] (kvs : List (κ × D)) (k : κ) : Option D := (kvs.find? fun kv => decide (kv.1 = k)).map (·.2)
def putD {κ : Type} [DecidableEq κ] (kvs : List (κ × D)) (k : κ) (d : D) : List (κ × D) :=
  if (kvs.any fun kv => decide (kv.1 = k)) then kvs.map (fun kv => if kv.1 = k then (kv.1, d) else kv) else kvs ++ [(k, d)]
section
variable {κ : Type} [DecidableEq κ] {K : PySem.W.Frag} {F : Hp}
theorem KVD.val {k : κ} : ∀ {xs : List (κ × D)} {ys : List (κ × V)}, KVD K F xs ys → (valD xs k = none ∧ valV ys k = none) ∨ ∃ d v, valD xs k = some d ∧ valV ys k = some v ∧ Is K F d v
  | [], _, .nil => .inl ⟨rfl, rfl⟩
  | (k1, d) :: xs, (k2, v) :: ys, .cons h t => by
    have hk : k1 = k2 := h.1
    subst hk
    by_cases e : k1 = k
    · right
      refine ⟨d, v, ?_, ?_, h.2⟩
      · simp [valD, e]
      · simp [valV, e]
    · have ih := KVD.val (k := k) t
      have e1 : valD ((k1, d) :: xs) k = valD xs k := by simp [valD, e]
      have e2 : valV ((k1, v) :: ys) k = valV ys k := by simp [valV, e]
      rw [e1, e2]; exact ih
theorem KVD.any {k : κ} : ∀ {xs : List (κ × D)} {ys : List (κ × V)}, KVD K F xs ys → (xs.any fun kv => decide (kv.1 = k)) = (ys.any fun kv => decide (kv.1 = k))
  | [], _, .nil => rfl
  | (k1, d) :: xs, (k2, v) :: ys, .cons h t => by
    have hk : k1 = k2 := h.1
    subst hk
    simp only [List.any_cons]
    rw [KVD.any t]
theorem KVD.set {k : κ} {d : D} {v : V} (i : Is K F d v) : ∀ {xs : List (κ × D)} {ys : List (κ × V)}, KVD K F xs ys → KVD K F (xs.map fun kv => if kv.1 = k then (kv.1, d) else kv) (ys.map fun kv => if kv.1 = k then (kv.1, v) else kv)
  | [], _, .nil => .nil
  | (k1, d1) :: xs, (k2, v1) :: ys, .cons h t => by
    have hk : k1 = k2 := h.1
    subst hk
    simp only [List.map_cons]
    refine .cons ?_ (KVD.set i t)
    by_cases e : k1 = k
    · simp only [if_pos e]; exact ⟨trivial, i⟩
    · simp only [if_neg e]; exact ⟨trivial, h.2⟩
theorem KVD.put {k : κ} {d : D} {v : V} (i : Is K F d v) {xs : List (κ × D)} {ys : List (κ × V)} (h : KVD K F xs ys) : KVD K F (putD xs k d) (putK ys k v) := by
  unfold putD putK
  rw [h.any (k := k)]
  split
  · exact h.set i
  · exact Paired.snoc h ⟨rfl, i⟩
theorem KVD.len {xs : List (κ × D)} {ys : List (κ × V)} (h : KVD K F xs ys) : xs.length = ys.length := Paired.length h
end
def wDPut (i : Nat) (Wk We : WE) : WS := fun E ρ => We E.ex ρ fun dv ρ1 => dv.thn fun d => isMu ρ1 i ∧ Wk E.ex ρ1 fun kv ρ2 => kv.thn fun kd => match ρ2[i]? with
    | some (some (.mu b (.dk kvs))) => ∃ k, kd.key = some k ∧ kvs.length < sizeLine ∧ E.nx (ρ2.set i (some (.mu b (.dk (putD kvs k d)))))
    | _ => False
theorem js_dput {i : Nat} {x : Str} {p ps : Pos} {ix : Expr} {Wk : WE} (hu : X.A.units + 1 < cLine) (hv : PE X (.Name x p) (tVar i)) (hi : JE X Wx ix Wk) (he : JE X Wx ex We)
    (hs : swapsWith ex (some (.Subscript (.Name x p) ix ps)) pos.line X.env = pure false := by rfl) :
    JS X Wx (.Assign [.Subscript (.Name x p) ix ps] ex pos) (wDPut i Wk We) := PS.wk (ps_dput hu hv hi he hs) fun D σ H h => by
  obtain ⟨e, ρ, F, E, s, w, r⟩ := h
  refine ⟨e, ρ, F, E.ex, _, s, w, r.ex, fun F1 H1 v1 d1 ρ1 s1 m1 r1 q1 => ?_⟩
  obtain ⟨F2, d, s2, m2, i2, hmu, q2⟩ := s1.data r1 q1
  obtain ⟨pp, hσ⟩ := isMu_at s2 hmu
  refine ⟨_, hσ, e, ρ1, F2, E.ex, _, s2, q2, r.ex, fun F3 H3 v3 d3 ρ3 s3 m3 r3 q3 => ?_⟩
  obtain ⟨F4, kd, s4, m4, i4, q4⟩ := s3.data r3 q3
  split at q4
  · rename_i b' kvs hb'
    obtain ⟨v', hσ', q', o', rfl, b1, b2, b3, b4, b5, vs', rfl, b6⟩ := s4.sl i _ hb'
    rw [hσ] at hσ'
    cases hσ'
    obtain ⟨k, k1, k2, k3⟩ := q4
    refine ⟨pp, _, rfl, by rw [key_is i4 k1]; exact DPut.k (k := k) b5 (by rw [← b6.len]; exact k2), ?_⟩
    exact r.nx _ F4 σ _ (s4.mut (c' := .dk (putD kvs k d)) hb' hσ (o := .dK (putK vs' k v1)) ⟨_, rfl, b6.put (Is.mono (m3.trans m4) _ i2)⟩) k3
  · exact q4.elim
/-! d[k], k in d, d.get(k, x) of an own dict that stays in its slot -/
def wDGet (i : Nat) (Wk : WE) : WE := fun EX ρ P => isMu ρ i ∧ Wk EX ρ fun kv ρ1 => kv.thn fun kd => match ρ1[i]? with
    | some (some (.mu _ (.dk kvs))) => ∃ k d, kd.key = some k ∧ valD kvs k = some d ∧ P (.fz d) ρ1
    | _ => False
theorem je_dget {i : Nat} {x : Str} {p : Pos} {ix : Expr} {Wk : WE} (hu : X.A.units + 1 < cLine) (hv : PE X (.Name x p) (tVar i)) (hi : JE X Wx ix Wk) (hs : NoSl ix) : JE X Wx (.Subscript (.Name x p) ix pos) (wDGet i Wk) := by
  refine PE.wk (pe_dget hu hv hi hs) fun σ H Q h => ?_
  obtain ⟨e, ρ, F, EX, P, s, ⟨hmu, w0⟩, hx, k⟩ := h
  obtain ⟨pp, hσ⟩ := isMu_at s hmu
  refine ⟨_, hσ, e, ρ, F, EX, _, s, w0, hx, fun F1 H1 v1 d1 ρ1 s1 m1 r1 q1 => ?_⟩
  obtain ⟨F2, kd, s2, m2, i2, q2⟩ := s1.data r1 q1
  split at q2
  · rename_i b' kvs hb'
    obtain ⟨v', hσ', q', o', rfl, b1, b2, b3, b4, b5, vs', rfl, b6⟩ := s2.sl i _ hb'
    rw [hσ] at hσ'
    cases hσ'
    obtain ⟨kk, d, k1, k2, k3⟩ := q2
    rcases b6.val (k := kk) with ⟨z, _⟩ | ⟨d', v', z1, z2, z3⟩
    · rw [k2] at z; cases z
    · rw [k2] at z1; cases z1
      exact ⟨pp, v', rfl, by rw [key_is i2 k1, ← z2]; exact DGet.k b5, k F2 H1 v' _ ρ1 s2 (m1.trans m2) (Res.fz z3) k3⟩
  · exact q2.elim
def wDGet2 (i : Nat) (Wk Wd : WE) : WE := fun EX ρ P => (∃ b kvs, ρ[i]? = some (some (.mu b (.dk kvs)))) ∧ Wk EX ρ fun kv ρ1 => kv.thn fun kd => Wd EX ρ1 fun dv ρ2 => dv.thn fun dd => match ρ2[i]? with
    | some (some (.mu _ (.dk kvs))) => ∃ k, kd.key = some k ∧ P (.fz ((valD kvs k).getD dd)) ρ2
    | _ => False
theorem je_dget2 {i : Nat} {x : Str} {p apos : Pos} {ix dx : Expr} {Wk Wd : WE} (hu : X.A.units + 1 < cLine) (hv : PE X (.Name x p) (tVar i)) (hi : JE X Wx ix Wk) (hd : JE X Wx dx Wd)
    (m : M2 X (.Name x p) "get" apos ix dx pos) : JE X Wx (.Call (.Attribute (.Name x p) "get" apos) [ix, dx] [] pos) (wDGet2 i Wk Wd) := by
  refine PE.wk (pe_dget2 hu hv hi hd m) fun σ H Q h => ?_
  obtain ⟨e, ρ, F, EX, P, s, ⟨⟨b0, kv0, h0⟩, w0⟩, hx, k⟩ := h
  obtain ⟨v', hσ, pp, o', rfl, _, _, _, _, b5, vs', rfl, _⟩ := s.sl i _ h0
  refine ⟨_, hσ, pp, rfl, .inl ⟨_, .of b5⟩, e, ρ, F, EX, _, s, w0, hx, fun F1 H1 v1 d1 ρ1 s1 m1 r1 q1 => ?_⟩
  obtain ⟨F2, kd, s2, m2, i2, q2⟩ := s1.data r1 q1
  refine ⟨e, ρ1, F2, EX, _, s2, q2, hx, fun F3 H3 v3 d3 ρ3 s3 m3 r3 q3 => ?_⟩
  obtain ⟨F4, dd, s4, m4, i4, q4⟩ := s3.data r3 q3
  split at q4
  · rename_i b' kvs hb'
    obtain ⟨v', hσ', q', o', rfl, b1, b2, b3, b4, b5, vs', rfl, b6⟩ := s4.sl i _ hb'
    rw [hσ] at hσ'
    cases hσ'
    obtain ⟨kk, k1, k3⟩ := q4
    refine ⟨valV vs' kk, by rw [key_is i2 k1]; exact DGet.k b5, ?_⟩
    refine k F4 H3 _ _ ρ3 s4 (m1.trans (m2.trans (m3.trans m4))) (Res.fz ?_) k3
    rcases b6.val (k := kk) with ⟨z1, z2⟩ | ⟨d', v', z1, z2, z3⟩
    · rw [z1, z2]; exact i4
    · rw [z1, z2]; exact z3
  · exact q4.elim
end
end L2.DL

/-! # DLf.lean -/
set_option Elab.async false
set_option linter.all false
set_option maxRecDepth 100000
namespace L2.DL
open PySem PySem.Spec PyProof.Rows

/-! ## promises -/
/-- what a caller gets: data, or a new own object -/
def Out (K : PySem.W.Frag) (H F' H' : Hp) : DV → V → Prop
  | .fz d, v => Is K F' d v
  | .mu b c, v => ∃ p o, v = .ref p ∧ b = true ∧ F' p = none ∧ H p = none ∧ H' p = some o ∧ MuO K F' c o
  | .lk _ _, _ => False
/-- a def of data alone: R args (what is wanted of the result) -/
abbrev RF := List D → (DV → Prop) → Prop
def spF (K : PySem.W.Frag) (R : RF) : Sp := fun vs H Q _ => ∃ F ds P, Same F H ∧ IsL K F ds vs ∧ R ds P ∧
  ∀ F' H' v dv, Stp F H F' H' [] → Same F' H' → Out K H F' H' dv v → P dv → Q v H'
/-- a def whose first argument is an own object that it changes: R it args (what is wanted of the result and of the object) -/
abbrev RB := Mc → List D → (DV → Mc → Prop) → Prop
def spB (K : PySem.W.Frag) (R : RB) : Sp := fun vs H Q _ => ∃ F c ds P p o us, vs = .ref p :: us ∧ Same F H ∧ F p = none ∧ H p = some o ∧ MuO K F c o ∧ IsL K F ds us ∧ R c ds P ∧
  ∀ F' H' v dv c' o', Stp F H F' H' [p] → Same F' H' → F' p = none → H' p = some o' → MuO K F' c' o' → Out K H F' H' dv v → P dv c' → Q v H'

section
variable {X : Cx} {Wx : WX} {f : Addr} {fd : FuncData} {ps : List Str} {k : Nat} {x : Str} {p pos : Pos} {a : Expr} {es : List Expr} {Wargs : WA} {K : PySem.W.Frag}
theorem Out.res {e : Ent} {ρ : DEnv} {F H F' H' : Hp} {σ : St} {dv : DV} {v : V} (s : Sg K e ρ F σ H) (o : Out K H F' H' dv v) : Res K e F' H' ρ σ dv v := by
  cases dv with
  | fz d => exact Res.fz o
  | lk _ c => exact o.elim
  | mu b c =>
    obtain ⟨p, u, rfl, rfl, h1, h2, h3, h4⟩ := o
    refine ⟨⟨p, u, rfl, h1, fun _ => (s.free h2).2, (fun z => nomatch z), fun u' hu => ?_, h3, h4⟩, fun _ i dw h ho z => ?_⟩
    · have := (s.pin _ hu).1
      rw [h2] at this; cases this
    · obtain ⟨w, b1, b2⟩ := s.sl i dw h
      rw [b1] at z; cases z
      cases dw with
      | fz d => cases ho
      | lk _ c => cases ho
      | mu b c =>
        obtain ⟨q, u, e1, _, _, _, _, c5, _⟩ := b2
        cases e1
        rw [h2] at c5; cases c5
def wCall (R : RF) (Wa : WA) : WE := fun EX ρ P => Wa EX ρ fun ds ρ1 => R ds fun dv => P dv ρ1
theorem je_call {R : RF} (G : FnOk X.prog X.w X.K X.mg X.base CX0 k f fd ps (spF X.K R)) (hr : Room k X.A) (hg : Gl X x) (hm : X.mg x = some (.ref f)) (hk : PySem.W.keepIn X.K (.ref f) = true) (hb : Binds X.K fd ps [])
    (ha : JA X Wx (a :: es) Wargs) (hdb : (x == ("__debug__" : Str)) = false := by decide) (he : starEach (a :: es) X.env = (false, eval a X.env) :: starEach es X.env := by rfl) (hpl : (backTo pos (starEach es X.env)).any (·.1) = false := by rfl) :
    JE X Wx (.Call (.Name x p) (a :: es) [] pos) (wCall R Wargs) := by
  refine PE.wk (pe_call G hr hg hm hk hb .nil pass0 ha hdb he hpl) fun σ H Q h => ?_
  obtain ⟨e, ρ, F, EX, P, s, w0, hx, kk⟩ := h
  refine ⟨e, ρ, F, EX, _, s, w0, hx, fun F1 H1 vs ds ρ1 s1 m1 r1 q1 => ?_⟩
  show spF X.K R (vs ++ []) H1 Q E0
  rw [List.append_nil]
  refine ⟨F1, ds, _, s1.fh, r1, q1, fun F' H' v dv st sm o p => ?_⟩
  exact kk F' H' v dv ρ1 (s1.later sm st) (m1.trans st.ff) ((Out.res s1 o)) p
def wCall0 (R : RF) : WE := fun EX ρ P => R [] fun dv => P dv ρ
theorem je_call0 {R : RF} (G : FnOk X.prog X.w X.K X.mg X.base CX0 k f fd ps (spF X.K R)) (hr : Room k X.A) (hg : Gl X x) (hm : X.mg x = some (.ref f)) (hk : PySem.W.keepIn X.K (.ref f) = true) (hb : Binds X.K fd ps [])
    (hdb : (x == ("__debug__" : Str)) = false := by decide) : JE X Wx (.Call (.Name x p) [] [] pos) (wCall0 R) := by
  refine PE.wk (pe_call0 G hr hg hm hk hb .nil pass0 hdb) fun σ H Q h => ?_
  obtain ⟨e, ρ, F, EX, P, s, w0, hx, kk⟩ := h
  exact ⟨F, [], _, s.fh, IsL.nil, w0, fun F' H' v dv st sm o p => kk F' H' v dv ρ (s.later sm st) st.ff (Out.res s o) p⟩
/-- behind a call that was lent the object of a slot -/
theorem Sg.lent {e : Ent} {ρ : DEnv} {F H F' H' : Hp} {σ : St} {i : Nat} {b : Bool} {c c' : Mc} {p : Addr} {o' : HO} (s : Sg K e ρ F σ H) (hi : ρ[i]? = some (some (.mu b c))) (hσ : σ[i]? = some (some (.ref p)))
    (st : Stp F H F' H' [p]) (fh : Same F' H') (hf : F' p = none) (ho : H' p = some o') (m : MuO K F' c' o') : Sg K e (ρ.set i (some (.mu b c'))) F' σ H' := by
  obtain ⟨v, g1, q, u, rfl, a1, a2, a3, a4, a5, a6⟩ := s.sl i _ hi
  rw [hσ] at g1; cases g1
  have hil : i < ρ.length := (List.getElem?_eq_some_iff.mp hi).1
  have own : ∀ (j : Nat) (dw : DV), (ρ.set i (some (.mu b c')))[j]? = some (some dw) → j ≠ i → ρ[j]? = some (some dw) := fun j dw h n => by
    rwa [List.getElem?_set_ne (Ne.symm n)] at h
  have kp : ∀ q u, H q = some u → q ≠ p → H' q = some u := fun q u h n => st.keep q u h (by simpa using n)
  refine ⟨fh, ⟨s.st.ff.trans st.ff, fun q u h n => ?_, fun q u h => ?_, fun q u h n => ?_⟩, by simp [s.len], fun j dw h => ?_, fun j k dw dx w h1 h2 o1 o2 g1 g2 => ?_, fun r hr => ?_⟩
  · have h1 := s.st.keep q u h n
    by_cases hq : q = p
    · subst hq
      cases hb : b with
      | true => rw [a2 hb] at h; cases h
      | false => exact absurd (a3 hb) n
    · exact kp q u h1 hq
  · obtain ⟨u', h'⟩ := s.st.there q u h
    exact st.there q u' h'
  · obtain ⟨u', h'⟩ := s.st.there q u h
    exact st.old q u' h' (s.st.old q u h n)
  · by_cases hj : j = i
    · subst hj
      rw [List.getElem?_set_self hil] at h; cases h
      exact ⟨_, hσ, p, o', rfl, hf, a2, a3, a4, ho, m⟩
    · have h' := own j dw h hj
      obtain ⟨w, b1, b2⟩ := s.sl j dw h'
      refine ⟨w, b1, ?_⟩
      cases dw with
      | fz d => exact Is.mono st.ff d b2
      | lk q c =>
        obtain ⟨u, od, rfl, c1, c2⟩ := b2
        exact ⟨u, od, rfl, c1, c2.mono st.ff⟩
      | mu b' c2 =>
        obtain ⟨r, u2, rfl, c1, c2, c3, c4, c5, c6⟩ := b2
        have : r ≠ p := fun z => hj (s.ap j i _ _ _ h' hi rfl rfl b1 (by rw [hσ, z]))
        exact ⟨r, u2, rfl, st.old r u2 c5 c1, c2, c3, c4, kp r u2 c5 this, c6.mono st.ff⟩
  · have h1' : ∃ dw', ρ[j]? = some (some dw') ∧ dw'.own = true := by
      by_cases hj : j = i
      · subst hj; exact ⟨_, hi, rfl⟩
      · exact ⟨dw, own j dw h1 hj, o1⟩
    have h2' : ∃ dx', ρ[k]? = some (some dx') ∧ dx'.own = true := by
      by_cases hk : k = i
      · subst hk; exact ⟨_, hi, rfl⟩
      · exact ⟨dx, own k dx h2 hk, o2⟩
    obtain ⟨dw', p1, p2⟩ := h1'
    obtain ⟨dx', p3, p4⟩ := h2'
    exact s.ap j k _ _ w p1 p3 p2 p4 g1 g2
  · obtain ⟨b1, b2, b3⟩ := s.pin r hr
    have : r.1 ≠ p := fun z => a4 r.2 (by rw [← z]; exact hr)
    exact ⟨kp _ _ b1 this, st.old _ _ b1 b2, b3⟩
/-- f(x, ..), x a slot whose object is lent -/
def wCallL (R : RB) (i : Nat) (Wa : WA) : WE := fun EX ρ P => isMu ρ i ∧ Wa EX ρ fun ds ρ1 => match ρ1[i]? with
  | some (some (.mu b c)) => R c ds fun dv c' => P dv (ρ1.set i (some (.mu b c')))
  | _ => False
theorem je_callL {R : RB} {i : Nat} {y : Str} {py : Pos} (G : FnOk X.prog X.w X.K X.mg X.base CX0 k f fd ps (spB X.K R)) (hr : Room k X.A) (hg : Gl X x) (hm : X.mg x = some (.ref f)) (hk : PySem.W.keepIn X.K (.ref f) = true) (hb : Binds X.K fd ps [])
    (hv : PE X (.Name y py) (tVar i)) (ha : JA X Wx es Wargs) (hdb : (x == ("__debug__" : Str)) = false := by decide)
    (he : starEach (.Name y py :: es) X.env = (false, eval (.Name y py) X.env) :: starEach es X.env := by rfl) (hpl : (backTo pos (starEach es X.env)).any (·.1) = false := by rfl) :
    JE X Wx (.Call (.Name x p) (.Name y py :: es) [] pos) (wCallL R i Wargs) := by
  refine PE.wk (pe_call G hr hg hm hk hb .nil pass0 (pa_cons hv ha he) hdb he hpl) fun σ H Q h => ?_
  obtain ⟨e, ρ, F, EX, P, s, ⟨hmu, w0⟩, hx, kk⟩ := h
  obtain ⟨pp, hσ⟩ := isMu_at s hmu
  refine ⟨_, hσ, e, ρ, F, EX, _, s, w0, hx, fun F1 H1 vs ds ρ1 s1 m1 r1 q1 => ?_⟩
  show spB X.K R ((.ref pp :: vs) ++ []) H1 Q E0
  rw [List.append_nil]
  split at q1
  · rename_i b c hb'
    obtain ⟨v', hσ', q', o', rfl, b1, b2, b3, b4, b5, b6⟩ := s1.sl i _ hb'
    rw [hσ] at hσ'
    cases hσ'
    refine ⟨F1, c, ds, _, pp, o', vs, rfl, s1.fh, b1, b5, b6, r1, q1, fun F' H' v dv c' o'' st sm h1 h2 h3 o p => ?_⟩
    refine kk F' H' v dv _ (s1.lent hb' hσ st sm h1 h2 h3) (m1.trans st.ff) ?_ p
    have r := Out.res s1 o
    refine ⟨?_, fun ho j dw hj hw => ?_⟩
    · exact r.1
    · by_cases hji : j = i
      · subst hji
        have := r.2 ho j _ hb' rfl
        exact this
      · rw [List.getElem?_set_ne (fun z => hji z.symm)] at hj
        exact r.2 ho j dw hj hw
  · exact q1.elim
end

/-! ## further forms -/
section
variable {X : Cx} {Wx : WX} {ex : Expr} {We : WE} {pos : Pos} {tg iter elt : Expr} {ifs : List Expr} {scope : Scope} {own : List (Str × Nat)} {Wi : WI} {g : WG} {Wt : WT} {spos py : Pos}
theorem je_gintE {x : Str} {i : Int} (hg : Gl X x) (hm : ∃ t, X.mg x = some (.int i t)) (hd : (x == ("__debug__" : Str)) = false := by decide) : JE X Wx (.Name x pos) (wK (.int i)) := by
  obtain ⟨t, h⟩ := hm
  exact je_gint hg h hd
/-- x = e, the result frozen -/
def wSetF (i : Nat) (We : WE) : WS := fun E ρ => We E.ex ρ fun dv ρ1 => dv.thn fun d => E.nx (ρ1.set i (some (.fz d)))
theorem cS_asgF {i : Nat} {te : TE} (h0 : ∀ σ H Q, cE X.K Wx We σ H Q → te σ H Q) (D : Ends) (σ : St) (H : Hp) (h : cS X.K Wx (wSetF i We) D σ H) : tAsg te (gName i) D σ H := by
  obtain ⟨e, ρ, F, E, s, w, r⟩ := h
  refine h0 _ _ _ ⟨e, ρ, F, E.ex, _, s, w, r.ex, fun F' H' v dv ρ' s' m r' p => ?_⟩
  obtain ⟨F2, d, s2, m2, i2, p2⟩ := s'.data r' p
  exact r.nx _ F2 _ H' (s2.set (Res.fz i2)) p2
theorem js_setF {i : Nat} {x : Str} {pos' : Pos} (hN : X.N.Nodup) (hi : X.N[i]? = some x) (hx : Loc X.env.scope x) (he : JE X Wx ex We) (hs : swapsWith ex (some (.Name x pos')) pos.line X.env = pure false := by rfl) (hf : X.fn x = true ∨ X.env.scope.names.lookup x = some .local := by first | exact .inl rfl | exact .inr rfl | assumption) :
    JS X Wx (.Assign [.Name x pos'] ex pos) (wSetF i We) := PS.wk (ps_set hN hi hx he hs hf) (cS_asgF fun _ _ _ h => h)
theorem js_setLcF {i : Nat} {y : Str} (hc : X.calm = true) (hN : X.N.Nodup) (hy : X.N[i]? = some y) (hyl : X.env.scope.names.lookup y = some .local)
    (hsw : swapsWith (.ListComp elt [⟨tg, iter, ifs, 0⟩] scope pos) (some (.Name y py)) spos.line X.env = pure true) (hi : JI X Wx tg iter Wi) (ok : BlkOk X.N X.env.scope scope own)
    (hg : ∀ (s : Shared) (H : Hp) (C : Addr) (cl : List (Str × Addr)) (fp : List Addr), JG (X.blk s H scope (compEnvC scope cl C X.env) fp) (own.map (·.2)) tg g)
    (ht : ∀ (s : Shared) (H : Hp) (C : Addr) (cl : List (Str × Addr)) (fp : List Addr), JTs (X.blk s H scope (compEnvC scope cl C X.env) fp) NW ifs Wt)
    (he : ∀ (s : Shared) (H : Hp) (C : Addr) (cl : List (Str × Addr)) (fp : List Addr), JE (X.blk s H scope (compEnvC scope cl C X.env) fp) NW elt We) (hs : ∀ x, foldedSetIterable iter X.env x = pure x := by intro _; rfl) :
    JS X Wx (.Assign [.Name y py] (.ListComp elt [⟨tg, iter, ifs, 0⟩] scope pos) spos) (wSetF i (wLc Wi g Wt We (own.map (·.2)))) :=
  PS.wk (ps_setLc hc hN hy hyl hsw hi ok hg ht he hs) (cS_asgF (cE_lc _))
/-! an own list that stays in its slot: its length, its items -/
def wLenM (i : Nat) : WE := fun _ ρ P => match ρ[i]? with
  | some (some (.mu _ (.lst ds))) => P (.fz (.int ds.length)) ρ
  | _ => False
theorem je_lenM {i : Nat} {x y : Str} {p py : Pos} (hg : Gl X x) (hm : X.mg x = none) (hv : bootBuiltins x = some (.builtin "len")) (h : PE X (.Name y py) (tVar i)) (hn : x ≠ "__name__" := by decide) (hdb : (x == ("__debug__" : Str)) = false := by decide)
    (he : starEach (.Name y py :: []) X.env = (false, eval (.Name y py) X.env) :: starEach [] X.env := by rfl) (hpl : (backTo pos (starEach [] X.env)).any (·.1) = false := by rfl) : JE X Wx (.Call (.Name x p) [.Name y py] [] pos) (wLenM i) := by
  refine PE.wk (pe_callB call_len_seq hg hm hv (pa_cons h pa_nil he) hn hdb he hpl) fun σ H Q h => ?_
  obtain ⟨e, ρ, F, EX, P, s, w0, hx, k⟩ := h
  unfold wLenM at w0
  split at w0
  · rename_i b ds hb
    obtain ⟨v, hσ, q, o, rfl, a1, a2, a3, a4, a5, vs, rfl, a6⟩ := s.sl i _ hb
    exact ⟨_, hσ, q, vs, rfl, .inl (SqL.of a5), k F H _ _ ρ s (Same.refl _) (Res.fz (by simp only [Is]; rw [a6.len])) w0⟩
  · exact w0.elim
def wIxM (i : Nat) (Wi : WE) : WE := fun EX ρ P => isMu ρ i ∧ Wi EX ρ fun iv ρ1 => match iv with
  | .fz (.int k) => (match ρ1[i]? with
    | some (some (.mu _ (.lst ds))) => ∃ d, atI ds k = some d ∧ P (.fz d) ρ1
    | _ => False)
  | _ => False
theorem je_ixM {i : Nat} {y : Str} {py : Pos} {ix : Expr} {Wi : WE} (h : PE X (.Name y py) (tVar i)) (hi : JE X Wx ix Wi) (hs : PlainIx ix) : JE X Wx (.Subscript (.Name y py) ix pos) (wIxM i Wi) := by
  refine PE.wk (pe_ix ix_list h hi hs) fun σ H Q h => ?_
  obtain ⟨e, ρ, F, EX, P, s, ⟨hmu, w0⟩, hx, k⟩ := h
  obtain ⟨pp, hσ⟩ := isMu_at s hmu
  refine ⟨_, hσ, e, ρ, F, EX, _, s, w0, hx, fun F1 H1 v1 d1 ρ1 s1 m1 r1 q1 => ?_⟩
  split at q1
  · rename_i kk
    have hk : v1 = .int kk := by simpa [Res, Sl, Is] using r1.1
    split at q1
    · rename_i b ds hb
      obtain ⟨v', hσ', q', o', rfl, b1, b2, b3, b4, b5, vs', rfl, b6⟩ := s1.sl i _ hb
      rw [hσ] at hσ'
      cases hσ'
      obtain ⟨d, h3, h4⟩ := q1
      obtain ⟨v, h5, h6⟩ := b6.atI h3
      exact ⟨pp, vs', kk, v, rfl, hk, SqL.of b5, h5, k F1 H1 v _ ρ1 s1 m1 (Res.fz h6) h4⟩
    · exact q1.elim
  · exact q1.elim
/-! slices -/
abbrev WO := EXt → DEnv → (Option Int → DEnv → Prop) → Prop
def cO (K : PySem.W.Frag) (Wx : WX) (W : WO) : TO := fun σ H Q => ∃ e ρ F EX P, Sg K e ρ F σ H ∧ W EX ρ P ∧ Hx K Wx e EX ∧ ∀ F' H' o ρ', Sg K e ρ' F' σ H' → Same F F' → P o ρ' → Q o H'
abbrev JO (X : Cx) (Wx : WX) (e : Option Expr) (W : WO) : Prop := PO X e (cO X.K Wx W)
theorem PO.wk {e : Option Expr} {t t' : TO} (h : PO X e t) (i : ∀ σ H Q, t' σ H Q → t σ H Q) : PO X e t' := ⟨fun pins s σ H Q I q => h.run pins s σ H Q I (i σ H Q q)⟩
def woNone : WO := fun _ ρ P => P none ρ
def woSome (W : WE) : WO := fun EX ρ P => W EX ρ fun dv ρ1 => match dv with
  | .fz (.int i) => P (some i) ρ1
  | _ => False
theorem jo_none : JO X Wx none woNone := PO.wk po_none fun σ H Q h => by
  obtain ⟨e, ρ, F, EX, P, s, w0, hx, k⟩ := h
  exact k F H _ ρ s (Same.refl _) w0
theorem jo_some (h : JE X Wx ex We) : JO X Wx (some ex) (woSome We) := PO.wk (po_some h) fun σ H Q h => by
  obtain ⟨e, ρ, F, EX, P, s, w0, hx, k⟩ := h
  refine ⟨e, ρ, F, EX, _, s, w0, hx, fun F1 H1 v1 d1 ρ1 s1 m1 r1 q1 => ?_⟩
  split at q1
  · exact ⟨_, by simpa [Res, Sl, Is] using r1.1, k F1 H1 _ ρ1 s1 m1 q1⟩
  · exact q1.elim
def cutD (xs : List D) (lo hi : Option Int) : List D := (xs.drop (HT.sIx xs.length 0 lo)).take (HT.sIx xs.length xs.length hi - HT.sIx xs.length 0 lo)
theorem IsL.cut {K : PySem.W.Frag} {F : Hp} {ds : List D} {vs : List V} {lo hi : Option Int} (h : IsL K F ds vs) : IsL K F (cutD ds lo hi) (cutV vs lo hi) := by
  unfold cutD cutV
  rw [h.len]
  exact (h.drop _).take _
def wSlL (W : WE) (Wl Wh : WO) : WE := fun EX ρ P => W EX ρ fun dv ρ1 => dv.thn fun d => Wl EX ρ1 fun lo ρ2 => Wh EX ρ2 fun hi ρ3 => match d with
  | .lst ds => P (.mu true (.lst (cutD ds lo hi))) ρ3
  | .scr ds => P (.mu true (.lst (cutD ds lo hi))) ρ3
  | _ => False
def wSlT (W : WE) (Wl Wh : WO) : WE := fun EX ρ P => W EX ρ fun dv ρ1 => dv.thn fun d => Wl EX ρ1 fun lo ρ2 => Wh EX ρ2 fun hi ρ3 => match d with
  | .tup ds => P (.fz (.tup (cutD ds lo hi))) ρ3
  | _ => False
variable {lo hi : Option Expr} {Wl Wh : WO} {p2 : Pos}
theorem je_slL (h : JE X Wx ex We) (hl : JO X Wx lo Wl) (hh : JO X Wx hi Wh) : JE X Wx (.Subscript ex (.Slice lo hi none p2) pos) (wSlL We Wl Wh) := by
  refine PE.wk (pe_slice sl_list h hl hh) fun σ H Q h => ?_
  obtain ⟨e, ρ, F, EX, P, s, w0, hx, k⟩ := h
  refine ⟨e, ρ, F, EX, _, s, w0, hx, fun F1 H1 v1 d1 ρ1 s1 m1 r1 q1 => ?_⟩
  obtain ⟨F1', d, s1', m1', i1, q1'⟩ := s1.data r1 q1
  refine ⟨e, ρ1, F1', EX, _, s1', q1', hx, fun F2 H2 l ρ2 s2 m2 q2 => ?_⟩
  refine ⟨e, ρ2, F2, EX, _, s2, q2, hx, fun F3 H3 u ρ3 s3 m3 q3 => ?_⟩
  have i3 := Is.mono (m2.trans m3) _ i1
  have mm := m1.trans (m1'.trans (m2.trans m3))
  cases d <;> try exact q3.elim
  all_goals
    simp only [Is] at i3
    obtain ⟨a, vs, rfl, h1, h2⟩ := i3
    refine ⟨a, vs, rfl, ?_, fun p hp => ?_⟩
  · exact SqL.of (s3.fh _ _ h1)
  · obtain ⟨s4, r4⟩ := s3.alloc (o := .lst _) (c := .lst _) hp ⟨_, rfl, h2.cut (lo := l) (hi := u)⟩
    exact k _ _ _ _ ρ3 s4 mm r4 q3
  · exact Same.seq s3.fh h1
  · obtain ⟨s4, r4⟩ := s3.alloc (o := .lst _) (c := .lst _) hp ⟨_, rfl, h2.cut (lo := l) (hi := u)⟩
    exact k _ _ _ _ ρ3 s4 mm r4 q3
theorem cut_whole {α : Type} {xs : List α} {lo hi : Option Int} (h : HT.sIx xs.length 0 lo = 0 ∧ HT.sIx xs.length xs.length hi = xs.length) : (xs.drop (HT.sIx xs.length 0 lo)).take (HT.sIx xs.length xs.length hi - HT.sIx xs.length 0 lo) = xs := by
  rw [h.1, h.2]; simp
theorem je_slT (h : JE X Wx ex We) (hl : JO X Wx lo Wl) (hh : JO X Wx hi Wh) : JE X Wx (.Subscript ex (.Slice lo hi none p2) pos) (wSlT We Wl Wh) := by
  refine PE.wk (pe_slice sl_tupA h hl hh) fun σ H Q h => ?_
  obtain ⟨e, ρ, F, EX, P, s, w0, hx, k⟩ := h
  refine ⟨e, ρ, F, EX, _, s, w0, hx, fun F1 H1 v1 d1 ρ1 s1 m1 r1 q1 => ?_⟩
  obtain ⟨F1', d, s1', m1', i1, q1'⟩ := s1.data r1 q1
  refine ⟨e, ρ1, F1', EX, _, s1', q1', hx, fun F2 H2 l ρ2 s2 m2 q2 => ?_⟩
  refine ⟨e, ρ2, F2, EX, _, s2, q2, hx, fun F3 H3 u ρ3 s3 m3 q3 => ?_⟩
  have i3 := Is.mono (m2.trans m3) _ i1
  have mm := m1.trans (m1'.trans (m2.trans m3))
  cases d <;> try exact q3.elim
  simp only [Is] at i3
  obtain ⟨a, vs, rfl, h1, h2⟩ := i3
  refine ⟨a, vs, rfl, Same.seqT s3.fh h1, fun hw => ?_, fun _ p hp => ?_⟩
  · refine k _ _ _ _ ρ3 s3 mm (Res.fz ?_) q3
    simp only [Is]
    refine ⟨a, vs, rfl, h1, ?_⟩
    have := h2.cut (lo := l) (hi := u)
    unfold cutV at this
    rwa [cut_whole hw] at this
  · obtain ⟨s4, m4⟩ := s3.allocT (o := .tup (cutV vs l u)) hp
    refine k _ _ _ _ ρ3 s4 (mm.trans m4) (Res.fz ?_) q3
    simp only [Is]
    exact ⟨p, _, rfl, SqT.of upd_same, (h2.cut).mono m4⟩
end

/-! ## a def holds its promise by its body's reading -/
def argD (N : List Str) (ds : List D) : DEnv := ds.map (fun d => some (.fz d)) ++ List.replicate (N.length - ds.length) none
def argB (N : List Str) (c : Mc) (ds : List D) : DEnv := some (.mu false c) :: (ds.map (fun d => some (.fz d)) ++ List.replicate (N.length - (ds.length + 1)) none)
def DV.mine (dv : DV) : Prop := match dv with
  | .fz _ => True
  | .mu b _ => b = true
  | .lk _ _ => False
def endF (P : DV → Prop) : DEnds := { nx := fun _ => P (.fz .non), rt := fun dv _ => dv.mine ∧ P dv }
def endB (P : DV → Mc → Prop) : DEnds := { nx := fun ρ => ∃ c, ρ[0]? = some (some (.mu false c)) ∧ P (.fz .non) c, rt := fun dv ρ => dv.mine ∧ ∃ c, ρ[0]? = some (some (.mu false c)) ∧ P dv c }
section
variable {P : Program} {w : World} {K : PySem.W.Frag} {mg : Str → Option Value} {base : Heap}
theorem start_get {N : List Str} {vs : List V} {i : Nat} (h : i < vs.length) : (start N vs)[i]? = some (some vs[i]) := by
  unfold start
  rw [List.getElem?_append_left (by simpa using h)]
  simp [h]
theorem sg_args {e : Ent} {N : List Str} {F H : Hp} {ds : List D} {vs : List V} (m : Same F H) (hl : vs.length ≤ N.length) (i : IsL K F ds vs) (eF : e.F = F) (eH : e.H = H) (ep : e.pn = []) :
    Sg K e (argD N ds) F (start N vs) H where
  fh := m
  st := by rw [eF, eH]; exact Stp.refl
  len := by
    have := i.len
    simp [argD, start]; omega
  sl := fun j dv h => by
    unfold argD at h
    by_cases hj : j < ds.length
    · rw [List.getElem?_append_left (by simpa using hj)] at h
      rw [List.getElem?_map] at h
      rw [List.getElem?_eq_getElem hj] at h
      simp only [Option.map_some, Option.some.injEq] at h
      subst h
      obtain ⟨v, h1, h2⟩ := i.get (List.getElem?_eq_getElem hj)
      have hv := (List.getElem?_eq_some_iff.mp h1)
      exact ⟨v, by rw [start_get hv.1, hv.2], h2⟩
    · rw [List.getElem?_append_right (by simpa using hj)] at h
      rw [List.getElem?_replicate] at h
      split at h <;> cases h
  ap := fun j k dv dw v h1 h2 o1 => by
    exfalso
    unfold argD at h1
    by_cases hj : j < ds.length
    · rw [List.getElem?_append_left (by simpa using hj)] at h1
      rw [List.getElem?_map, List.getElem?_eq_getElem hj] at h1
      simp only [Option.map_some, Option.some.injEq] at h1
      subst h1
      cases o1
    · rw [List.getElem?_append_right (by simpa using hj)] at h1
      rw [List.getElem?_replicate] at h1
      split at h1 <;> cases h1
  pin := fun p hp => by rw [ep] at hp; cases hp
theorem Fun.okF {x qual : Str} {st : Stmt} {f : Addr} {fd : FuncData} {N ps : List Str} {k : Nat} {R : RF} {W : WS} (Fn : Fun K x qual st f fd) (S : FnScope N ps (defScope st)) (hl : ∀ ds Q, R ds Q → ds.length = ps.length) (hN : ps.length ≤ N.length)
    (hj : ∀ (cdv : Value) (A : Around) (outer : List Env) (s : Shared) (H : Hp) (E : XK), Room k (A.deeper (envOfC qual (defScope st) s.heap.objs.size f cdv)) →
      JSs (cxOf CX0 P w K mg base N qual (defScope st) f cdv A outer s H E).nox NW (defBody st) W)
    (hv : ∀ ds Q, R ds Q → W (endF Q) (argD N ds)) : FnOk P w K mg base CX0 (k + 1) f fd ps (spF K R) := by
  refine Fn.ok S (fun vs H Q E h => ?_) fun cdv A outer s H vs Q E hr h => ⟨_, hj cdv A outer s H E hr, ?_⟩
  · obtain ⟨F, ds, P, _, i, r, _⟩ := h
    rw [← i.len]; exact hl ds P r
  · obtain ⟨F, ds, P', m, i, r, q⟩ := h
    have hlen := hl ds _ r
    refine ⟨⟨F, H, [], []⟩, argD N ds, F, endF P', sg_args m (by rw [← i.len, hlen]; exact hN) i rfl rfl rfl, hv ds P' r, ⟨fun ρ F' σ' H' s' h' => ?_, fun ρ F' σ' H' v dv s' res h' => ?_, fun _ _ _ _ _ h => h, fun _ _ _ _ _ h => h, Hx.never⟩⟩
    · exact q F' H' .non (.fz .non) s'.st s'.fh (by simp [Out, Is]) h'
    · refine q F' H' v dv s'.st s'.fh ?_ h'.2
      cases dv with
      | fz d => exact res.1
      | lk _ c => exact h'.1.elim
      | mu b c =>
        obtain ⟨p, o, rfl, h1, h2, h3, h4, h5, h6⟩ := res.1
        exact ⟨p, o, rfl, h'.1, h1, h2 h'.1, h5, h6⟩
theorem Fun.okB {x qual : Str} {st : Stmt} {f : Addr} {fd : FuncData} {N ps : List Str} {k : Nat} {R : RB} {W : WS} (Fn : Fun K x qual st f fd) (S : FnScope N ps (defScope st)) (hl : ∀ c ds Q, R c ds Q → ds.length + 1 = ps.length) (hN : ps.length ≤ N.length)
    (hj : ∀ (cdv : Value) (A : Around) (outer : List Env) (s : Shared) (H : Hp) (E : XK), Room k (A.deeper (envOfC qual (defScope st) s.heap.objs.size f cdv)) →
      JSs (cxOf CX0 P w K mg base N qual (defScope st) f cdv A outer s H E).nox NW (defBody st) W)
    (hv : ∀ c ds Q, R c ds Q → W (endB Q) (argB N c ds)) : FnOk P w K mg base CX0 (k + 1) f fd ps (spB K R) := by
  refine Fn.ok S (fun vs H Q E h => ?_) fun cdv A outer s H vs Q E hr h => ⟨_, hj cdv A outer s H E hr, ?_⟩
  · obtain ⟨F, c, ds, P, p, o, us, rfl, _, _, _, _, i, r, _⟩ := h
    rw [List.length_cons, ← i.len]; exact hl c ds P r
  · obtain ⟨F, c, ds, P', p, o, us, rfl, m, hf, ho, mo, i, r, q⟩ := h
    have hlen := hl c ds _ r
    have hul := i.len
    have sg : Sg K ⟨F, H, [p], []⟩ (argB N c ds) F (start N (.ref p :: us)) H := by
      refine ⟨m, Stp.refl, by simp [argB, start]; omega, fun j dv h => ?_, fun j k' dv dw v h1 h2 o1 o2 => ?_, fun _ hp => nomatch hp⟩
      · cases j with
        | zero =>
          have : dv = .mu false c := by simpa [argB] using h.symm
          subst this
          exact ⟨.ref p, by rw [start_get (by simp)]; rfl, p, o, rfl, hf, (fun z => nomatch z), (fun _ => by simp), (fun _ hp => nomatch hp), ho, mo⟩
        | succ j =>
          unfold argB at h
          rw [List.getElem?_cons_succ] at h
          by_cases hj : j < ds.length
          · rw [List.getElem?_append_left (by simpa using hj)] at h
            rw [List.getElem?_map, List.getElem?_eq_getElem hj] at h
            simp only [Option.map_some, Option.some.injEq] at h
            subst h
            obtain ⟨v, h1, h2⟩ := i.get (List.getElem?_eq_getElem hj)
            have hv := (List.getElem?_eq_some_iff.mp h1)
            refine ⟨v, ?_, h2⟩
            rw [start_get (by simp; omega)]
            simp [hv.2]
          · rw [List.getElem?_append_right (by simpa using hj)] at h
            rw [List.getElem?_replicate] at h
            split at h <;> cases h
      · have z : ∀ (j : Nat) (dv : DV), (argB N c ds)[j]? = some (some dv) → dv.own = true → j = 0 := by
          intro j dv h o1
          cases j with
          | zero => rfl
          | succ j =>
            exfalso
            unfold argB at h
            rw [List.getElem?_cons_succ] at h
            by_cases hj : j < ds.length
            · rw [List.getElem?_append_left (by simpa using hj)] at h
              rw [List.getElem?_map, List.getElem?_eq_getElem hj] at h
              simp only [Option.map_some, Option.some.injEq] at h
              subst h
              cases o1
            · rw [List.getElem?_append_right (by simpa using hj)] at h
              rw [List.getElem?_replicate] at h
              split at h <;> cases h
        intro _ _
        rw [z j dv h1 o1, z k' dw h2 o2]
    have fin : ∀ ρ F' σ' H' (c' : Mc), Sg K ⟨F, H, [p], []⟩ ρ F' σ' H' → ρ[0]? = some (some (.mu false c')) → ∃ o', F' p = none ∧ H' p = some o' ∧ MuO K F' c' o' := by
      intro ρ F' σ' H' c' s' h0
      obtain ⟨v, g1, q', u, rfl, a1, a2, a3, a4, a5, a6⟩ := s'.sl 0 _ h0
      have : q' = p := by simpa using a3 rfl
      subst this
      exact ⟨u, a1, a5, a6⟩
    refine ⟨⟨F, H, [p], []⟩, argB N c ds, F, endB P', sg, hv c ds P' r, ⟨fun ρ F' σ' H' s' h' => ?_, fun ρ F' σ' H' v dv s' res h' => ?_, fun _ _ _ _ _ h => h, fun _ _ _ _ _ h => h, Hx.never⟩⟩
    · obtain ⟨c', h1, h2⟩ := h'
      obtain ⟨o', f1, f2, f3⟩ := fin ρ F' σ' H' c' s' h1
      exact q F' H' .non (.fz .non) c' o' s'.st s'.fh f1 f2 f3 (by simp [Out, Is]) h2
    · obtain ⟨h0, c', h1, h2⟩ := h'
      obtain ⟨o', f1, f2, f3⟩ := fin ρ F' σ' H' c' s' h1
      refine q F' H' v dv c' o' s'.st s'.fh f1 f2 f3 ?_ h2
      cases dv with
      | fz d => exact res.1
      | lk _ c => exact h0.elim
      | mu b c =>
        obtain ⟨p, o, rfl, h1, h2, h3, h4, h5, h6⟩ := res.1
        exact ⟨p, o, rfl, h0, h1, h2 h0, h5, h6⟩
end
end L2.DL

/-! # DLg.lean -/
set_option Elab.async false
set_option linter.all false
set_option maxRecDepth 100000
namespace L2.DL
open PySem PySem.Spec PyProof.Rows
section
variable {X : Cx} {Wx : WX} {ex ix : Expr} {We Wi : WE} {pos : Pos}
theorem pget_list : PGet X (fun x y H Q => ∃ p xs k v, x = .ref p ∧ y = .int k ∧ SqL X.K H p xs ∧ 0 ≤ k ∧ k < xs.length ∧ xs[k.toNat]? = some v ∧ Q v H) := by
  intro pins s σ H o i ov iv Q I ro ri h
  obtain ⟨p, xs, k, v, rfl, rfl, hq, h0, hk, hx, q⟩ := h
  cases ro
  obtain ⟨t, rfl⟩ := ri
  obtain ⟨its, r, pl, hz⟩ := I.list hq
  obtain ⟨u, hu, ru⟩ := r.get hx
  have := line63
  exact wpAny_getItem_list pl.isList h0 (by omega) (by simpa using hu) ⟨v, H, I, ru, q⟩
/-- xs[i] op= e, xs an own list in its slot -/
def wAugIx (i : Nat) (w : D → D → (DV → Prop) → Prop) (Wi We : WE) : WS := fun E ρ => isMu ρ i ∧ Wi E.ex ρ fun iv ρ1 => match iv with
  | .fz (.int k) => (match ρ1[i]? with
    | some (some (.mu _ (.lst ds))) => 0 ≤ k ∧ k < ds.length ∧ ∃ d, ds[k.toNat]? = some d ∧ We E.ex ρ1 fun bv ρ2 => bv.thn fun db => w d db fun dv => dv.thn fun d' => match ρ2[i]? with
      | some (some (.mu b (.lst ds2))) => ∃ j, ixN ds2.length k = some j ∧ E.nx (ρ2.set i (some (.mu b (.lst (ds2.set j d')))))
      | _ => False
    | _ => False)
  | _ => False
theorem js_augIx {i : Nat} {y : Str} {py tpos : Pos} {op : Operator} {r : R2} {w : D → D → (DV → Prop) → Prop} (hr : BR X.K r w)
    (h0 : PS X (.AugAssign (.Subscript (.Name y py) ix tpos) op ex pos) (tAugS (tVar i) (cE X.K Wx Wi) (cE X.K Wx We) (fun x y H Q => ∃ p xs k v, x = .ref p ∧ y = .int k ∧ SqL X.K H p xs ∧ 0 ≤ k ∧ k < xs.length ∧ xs[k.toNat]? = some v ∧ Q v H) r rSetL)) :
    JS X Wx (.AugAssign (.Subscript (.Name y py) ix tpos) op ex pos) (wAugIx i w Wi We) := PS.wk h0 fun D σ H h => by
  obtain ⟨e, ρ, F, E, s, ⟨hmu, w0⟩, rf⟩ := h
  obtain ⟨pp, hσ⟩ := isMu_at s hmu
  refine ⟨_, hσ, e, ρ, F, E.ex, _, s, w0, rf.ex, fun F1 H1 v1 d1 ρ1 s1 m1 r1 q1 => ?_⟩
  split at q1
  · rename_i k
    have hk : v1 = .int k := by simpa [Res, Sl, Is] using r1.1
    split at q1
    · rename_i b ds hb
      obtain ⟨v', hσ', q', o', rfl, b1, b2, b3, b4, b5, vs', rfl, b6⟩ := s1.sl i _ hb
      rw [hσ] at hσ'
      cases hσ'
      obtain ⟨k0, k1, d, h3, h4⟩ := q1
      obtain ⟨v, h5, h6⟩ := b6.get h3
      refine ⟨pp, vs', k, v, rfl, hk, SqL.of b5, k0, by rw [← b6.len]; exact k1, h5, e, ρ1, F1, E.ex, _, s1, h4, rf.ex, fun F2 H2 v2 d2 ρ2 s2 m2 r2 q2 => ?_⟩
      obtain ⟨F3, db, s3, m3, i3, q3⟩ := s2.data r2 q2
      refine hr e ρ2 F3 σ H2 v v2 d db _ _ s3 (Is.mono (m2.trans m3) _ h6) i3 q3 fun F4 H4 v4 d4 s4 m4 r4 q4 => ?_
      obtain ⟨F5, d5, s5, m5, i5, q5⟩ := s4.data r4 q4
      split at q5
      · rename_i b' ds2 hb2
        obtain ⟨v', hσ', q', o', rfl, c1, c2, c3, c4, c5, vs2, rfl, c6⟩ := s5.sl i _ hb2
        rw [hσ] at hσ'
        cases hσ'
        obtain ⟨j, j1, j2⟩ := q5
        exact ⟨pp, vs2, k, j, rfl, hk, c5, by rw [← c6.len]; exact j1, rf.nx _ F5 σ _ (s5.mut (c' := .lst (ds2.set j d5)) hb2 hσ (o := .lst (vs2.set j v4)) ⟨_, rfl, c6.set i5 j⟩) j2⟩
      · exact q5.elim
    · exact q1.elim
  · exact q1.elim
/-! ints alone: ==, != -/
theorem op_eqI : OpR X (compareOp .Eq) (rI0 fun i j => .bl (decide (i = j))) := by
  intro pins s σ H x y v u Q I rx ry h
  obtain ⟨i, j, rfl, rfl, q⟩ := h
  exact op_eq pins s σ H _ _ v u Q I rx ry ⟨rfl, by simpa using q⟩
theorem op_neI : OpR X (compareOp .NotEq) (rI0 fun i j => .bl (!decide (i = j))) := by
  intro pins s σ H x y v u Q I rx ry h
  obtain ⟨i, j, rfl, rfl, q⟩ := h
  exact op_ne pins s σ H _ _ v u Q I rx ry ⟨rfl, by simpa using q⟩
/-- a try whose body raises nothing -/
theorem js_try_thru {body : List Stmt} {h₀ : ExceptHandler} {hs : List ExceptHandler} {W : WS} (hb : JSs X.nox Wx body W) : JS X Wx (.Try body (h₀ :: hs) [] [] pos) W := PS.wk (ps_try_thru0 hb) fun D σ H h => h
end
end L2.DL

/-! # DLh.lean -/
set_option Elab.async false
set_option linter.all false
set_option maxRecDepth 100000
namespace L2.DL
open PySem PySem.Spec PyProof.Rows
/-! ## loops, in plain Lean -/
abbrev NxI (I : Nat → DEnv → Prop) (i : Nat) : DEnv → Prop := fun ρ3 => ∃ ρ4, Wk ρ3 ρ4 ∧ I i ρ4
theorem nxI {I : Nat → DEnv → Prop} {i : Nat} {ρ3 : DEnv} (ρ4 : DEnv) (h : I i ρ4) (w : Wk ρ3 ρ4) : NxI I i ρ3 := ⟨ρ4, w, h⟩
theorem nxW {I : Nat → DEnv → Prop} {m i : Nat} {ρ3 : DEnv} (ρ4 : DEnv) (h : I i ρ4) (lt : i < m) (w : Wk ρ3 ρ4) : ∃ m' ρ4, m' < m ∧ Wk ρ3 ρ4 ∧ I m' ρ4 := ⟨i, ρ4, lt, w, h⟩
section
variable {xs : List D} {g : WG} {W : WS} {E : DEnds} {ρ : DEnv}
theorem ForP.byI (I : Nat → DEnv → Prop) (h0 : NxI I 0 ρ) (hs : ∀ i ρ' (hi : i < xs.length), I i ρ' → g xs[i] ρ' fun ρ2 => W { E with nx := NxI I (i + 1), ct := NxI I (i + 1), bk := E.nx } ρ2) (he : ∀ ρ', I xs.length ρ' → E.nx ρ') : ForP xs g W E ρ := ⟨I, h0, hs, he⟩
theorem ForP.range {lo : Int} {n : Nat} (I : Nat → DEnv → Prop) (h0 : NxI I 0 ρ) (hs : ∀ i ρ', i < n → I i ρ' → g (.int (lo + (i : Nat))) ρ' fun ρ2 => W { E with nx := NxI I (i + 1), ct := NxI I (i + 1), bk := E.nx } ρ2) (he : ∀ ρ', I n ρ' → E.nx ρ') : ForP (rngD lo 1 n) g W E ρ := by
  refine ⟨I, h0, fun i ρ' hi h => ?_, fun ρ' h => he ρ' (by rwa [rngD_len] at h)⟩
  rw [rngD_get, Int.mul_one]
  exact hs i ρ' (by rwa [rngD_len] at hi) h
theorem ForP.map {α : Type} {l : List α} {f : α → D} (I : Nat → DEnv → Prop) (h0 : NxI I 0 ρ) (hs : ∀ i ρ' (hi : i < l.length), I i ρ' → g (f l[i]) ρ' fun ρ2 => W { E with nx := NxI I (i + 1), ct := NxI I (i + 1), bk := E.nx } ρ2) (he : ∀ ρ', I l.length ρ' → E.nx ρ') : ForP (l.map f) g W E ρ := by
  refine ⟨I, h0, fun i ρ' hi h => ?_, fun ρ' h => he ρ' (by rwa [List.length_map] at h)⟩
  rw [List.getElem_map]
  exact hs i ρ' (by rwa [List.length_map] at hi) h
theorem WhileP.byI {Wt : WT} (I : Nat → DEnv → Prop) (m : Nat) (h0 : NxI I m ρ) (hs : ∀ ρ1 m, I m ρ1 → Wt E.ex ρ1 fun b ρ2 => ift b (W { E with nx := fun ρ3 => ∃ m' ρ4, m' < m ∧ Wk ρ3 ρ4 ∧ I m' ρ4, ct := fun ρ3 => ∃ m' ρ4, m' < m ∧ Wk ρ3 ρ4 ∧ I m' ρ4, bk := E.nx } ρ2) (E.nx ρ2)) : WhileP Wt W E ρ := ⟨I, ⟨m, h0⟩, hs⟩
end
section
variable {xs : List D} {g : WG} {Wt : WT} {We : WE} {vs : List Nat} {ρ ρw : DEnv} {P : DV → DEnv → Prop}
/-- a comprehension without a test whose element changes nothing: its turn's end -/
def LcE (f : Nat → D) (vs : List Nat) (ρw : DEnv) (i : Nat) (d : D) (ρ4 : DEnv) : Prop := d = f i ∧ Wk (wipeD ρ4 vs) ρw
def LcN (f : Nat → D) (vs : List Nat) (ρw : DEnv) (i : Nat) (acc : List D) (d : D) (ρ4 : DEnv) : Prop := acc.length < sizeLine ∧ ∃ ρ5, Wk (wipeD ρ4 vs) ρ5 ∧ (acc ++ [d] = (List.range (i + 1)).map f ∧ ρ5 = ρw)
theorem lcN {f : Nat → D} {i : Nat} {acc : List D} {d : D} {ρ4 : DEnv} (hz : xs.length ≤ sizeLine) (hi : i < xs.length) (ha : acc = (List.range i).map f) (h1 : d = f i) (h2 : Wk (wipeD ρ4 vs) ρw) : LcN f vs ρw i acc d ρ4 := by
  subst ha h1
  refine ⟨by simp; omega, ρw, h2, ?_, rfl⟩
  rw [List.range_succ, List.map_append]
  rfl
theorem LcP.map (f : Nat → D) (hw : Wk (wipeD ρ vs) ρw)
    (hs : ∀ i acc (hi : i < xs.length), acc = (List.range i).map f → g xs[i] ρw fun ρ2 => We NX ρ2 fun y ρ4 => y.thn fun d => LcN f vs ρw i acc d ρ4) (he : P (.mu true (.lst ((List.range xs.length).map f))) (backD ρ ρw vs)) : LcP xs g wYes We vs ρ P := by
  refine ⟨fun i acc ρ' => acc = (List.range i).map f ∧ ρ' = ρw, ⟨ρw, hw, rfl, rfl⟩, fun i acc ρ' hi h => ?_, fun acc ρ' h => ?_⟩
  · obtain ⟨h1, rfl⟩ := h
    exact hs i acc hi h1
  · obtain ⟨rfl, rfl⟩ := h
    exact he
end
end L2.DL

/-! # DLi.lean -/
set_option Elab.async false
set_option linter.all false
set_option maxRecDepth 100000
namespace L2.DL
open PySem PySem.Spec PyProof.Rows
/-! ## dicts that are walked -/
def isLk : Option DV → Bool
  | some (.lk _ _) => true
  | _ => false
def noLk (ρ : DEnv) : Prop := ∀ x, x ∈ ρ → isLk x = false
section
variable {K : PySem.W.Frag} {e : Ent} {ρ : DEnv} {F : Hp} {σ : St} {H : Hp} {i : Nat} {c : Mc}
/-- the object of a slot is locked -/
theorem Sg.lock (s : Sg K e ρ F σ H) (hi : ρ[i]? = some (some (.mu true c))) : ∃ p o, σ[i]? = some (some (.ref p)) ∧ H p = some o ∧ MuO K F c o ∧ F p = none ∧ e.H p = none ∧
    ∀ od, Sg K (e.pinned p (.frz od o)) (ρ.set i (some (.lk p c))) F σ (upd H p (.frz od o)) := by
  obtain ⟨v, g1, p, o, rfl, a1, a2, a3, a4, a5, a6⟩ := s.sl i _ hi
  have hil : i < ρ.length := (List.getElem?_eq_some_iff.mp hi).1
  have he := a2 rfl
  have old : ∀ (j : Nat) (dw : DV), (ρ.set i (some (.lk p c)))[j]? = some (some dw) → j ≠ i → ρ[j]? = some (some dw) := fun j dw h n => by
    rwa [List.getElem?_set_ne (Ne.symm n)] at h
  refine ⟨p, o, g1, a5, a6, a1, he, fun od => ⟨fun b u h => ?_, ⟨s.st.ff, fun q u h n => ?_, fun q u h => ?_, s.st.old⟩, by simp [s.len], fun j dw h => ?_, fun j k dw dx w h1 h2 o1 o2 g1' g2 => ?_, fun r hr => ?_⟩⟩
  · rw [upd_ne (ne_of_none h a1)]; exact s.fh _ _ h
  · have h : e.H q = some u := h
    have : q ≠ p := ne_of_none h he
    rw [upd_ne this]; exact s.st.keep q u h n
  · have h : e.H q = some u := h
    have : q ≠ p := ne_of_none h he
    rw [upd_ne this]; exact s.st.there q u h
  · by_cases hj : j = i
    · subst hj
      rw [List.getElem?_set_self hil] at h; cases h
      exact ⟨_, g1, o, od, rfl, List.mem_cons_self, a6⟩
    · have h' := old j dw h hj
      obtain ⟨w, b1, b2⟩ := s.sl j dw h'
      refine ⟨w, b1, ?_⟩
      cases dw with
      | fz d => exact b2
      | lk q c =>
        obtain ⟨u, od', rfl, c1, c2⟩ := b2
        exact ⟨u, od', rfl, List.mem_cons_of_mem _ c1, c2⟩
      | mu b' c2 =>
        obtain ⟨r, u2, rfl, c1, c2, c3, c4, c5, c6⟩ := b2
        have : r ≠ p := fun z => hj (s.ap j i _ _ _ h' hi rfl rfl b1 (by rw [g1, z]))
        refine ⟨r, u2, rfl, c1, c2, c3, fun u' hu => ?_, by rw [upd_ne this]; exact c5, c6⟩
        rcases List.mem_cons.mp hu with z | z
        · cases z; exact this rfl
        · exact c4 u' z
  · by_cases hj : j = i
    · subst hj
      rw [List.getElem?_set_self hil] at h1; cases h1; cases o1
    · by_cases hk : k = i
      · subst hk
        rw [List.getElem?_set_self hil] at h2; cases h2; cases o2
      · exact s.ap j k _ _ w (old j dw h1 hj) (old k dx h2 hk) o1 o2 g1' g2
  · rcases List.mem_cons.mp hr with z | z
    · subst z; exact ⟨upd_same, a1, he⟩
    · obtain ⟨b1, b2, b3⟩ := s.pin r z
      have : r.1 ≠ p := fun z' => a4 r.2 (by rw [← z']; exact z)
      exact ⟨by rw [upd_ne this]; exact b1, b2, b3⟩
/-- .. and unlocked -/
theorem Sg.unlock {p : Addr} {o : HO} {od : Obj} (np : ∀ u, (p, u) ∉ e.pn) (s : Sg K (e.pinned p (.frz od o)) ρ F σ H) (hi : ρ[i]? = some (some (.lk p c))) (m : MuO K F c o) (nl : ∀ (j : Nat) (x : DV), j ≠ i → ρ[j]? = some (some x) → isLk (some x) = false) :
    H p = some (.frz od o) ∧ Sg K e (ρ.set i (some (.mu true c))) F σ (upd H p o) := by
  obtain ⟨h1, h2, h3⟩ := s.pin (p, .frz od o) List.mem_cons_self
  have h1 : H p = some (.frz od o) := h1
  have h2 : F p = none := h2
  have h3 : e.H p = none := h3
  have hσ : σ[i]? = some (some (.ref p)) := by
    obtain ⟨v, a, o, od, rfl, _⟩ := s.sl i _ hi
    exact a
  have hil : i < ρ.length := (List.getElem?_eq_some_iff.mp hi).1
  have old : ∀ (j : Nat) (dw : DV), (ρ.set i (some (.mu true c)))[j]? = some (some dw) → j ≠ i → ρ[j]? = some (some dw) := fun j dw h n => by
    rwa [List.getElem?_set_ne (Ne.symm n)] at h
  have apart : ∀ (j : Nat) (dw : DV), ρ[j]? = some (some dw) → dw.own = true → σ[j]? ≠ some (some (.ref p)) := fun j dw h ho z => by
    obtain ⟨w, b1, b2⟩ := s.sl j dw h
    rw [z] at b1; cases b1
    cases dw with
    | fz d => cases ho
    | lk _ c => cases ho
    | mu b' c2 =>
      obtain ⟨r, u2, e1, c1, c2, c3, c4, c5, c6⟩ := b2
      cases e1
      exact c4 _ List.mem_cons_self
  refine ⟨h1, ⟨fun b u h => ?_, ⟨s.st.ff, fun q u h n => ?_, fun q u h => ?_, s.st.old⟩, by simp [s.len], fun j dw h => ?_, fun j k dw dx w h1' h2' o1 o2 g1' g2 => ?_, fun r hr => ?_⟩⟩
  · rw [upd_ne (ne_of_none h h2)]; exact s.fh _ _ h
  · have : q ≠ p := fun z => by subst z; rw [h3] at h; cases h
    rw [upd_ne this]; exact s.st.keep q u h n
  · have : q ≠ p := fun z => by subst z; rw [h3] at h; cases h
    rw [upd_ne this]; exact s.st.there q u h
  · by_cases hj : j = i
    · subst hj
      rw [List.getElem?_set_self hil] at h; cases h
      exact ⟨_, hσ, p, o, rfl, h2, fun _ => h3, (fun z => nomatch z), np, upd_same, m⟩
    · have h' := old j dw h hj
      obtain ⟨w, b1, b2⟩ := s.sl j dw h'
      refine ⟨w, b1, ?_⟩
      cases dw with
      | fz d => exact b2
      | lk _ c => exact absurd (nl j _ hj h') (by simp [isLk])
      | mu b' c2 =>
        obtain ⟨r, u2, rfl, c1, c2, c3, c4, c5, c6⟩ := b2
        have : r ≠ p := fun z => apart j _ h' rfl (by rw [b1, z])
        exact ⟨r, u2, rfl, c1, c2, c3, fun u' hu => c4 u' (List.mem_cons_of_mem _ hu), by rw [upd_ne this]; exact c5, c6⟩
  · by_cases hj : j = i
    · by_cases hk : k = i
      · rw [hj, hk]
      · exfalso
        subst hj
        rw [hσ] at g1'; cases g1'
        exact apart k dx (old k dx h2' hk) o2 g2
    · by_cases hk : k = i
      · exfalso
        subst hk
        rw [hσ] at g2; cases g2
        exact apart j dw (old j dw h1' hj) o1 g1'
      · exact s.ap j k _ _ w (old j dw h1' hj) (old k dx h2' hk) o1 o2 g1' g2
  · obtain ⟨b1, b2, b3⟩ := s.pin r (List.mem_cons_of_mem _ hr)
    have : r.1 ≠ p := fun z' => np r.2 (by rw [← z']; exact hr)
    exact ⟨by rw [upd_ne this]; exact b1, b2, b3⟩
end
section
variable {X : Cx} {Wx : WX} {ex ix : Expr} {We Wk' : WE} {pos py : Pos} {y : Str} {i : Nat} {tg : Expr}
def mutMc : Mc → Prop
  | .lst _ => True
  | .dk _ => True
  | .dt _ => True
  | .ins _ _ => True
theorem mut_of {K : PySem.W.Frag} {F : Hp} {c : Mc} {o : HO} (m : MuO K F c o) : Mut (some o) := by
  cases c with
  | lst ds => obtain ⟨vs, rfl, _⟩ := m; trivial
  | dk ds => obtain ⟨vs, rfl, _⟩ := m; trivial
  | dt ds => obtain ⟨vs, rfl, _⟩ := m; trivial
  | ins C fs => obtain ⟨dx, vs, rfl, _⟩ := m; trivial
/-- an expression while the dict of a slot is locked -/
def wLock (i : Nat) (W : WE) : WE := fun EX ρ P => noLk ρ ∧ match ρ[i]? with
  | some (some (.mu true c)) => ∀ p, W NX (ρ.set i (some (.lk p c))) fun dv ρ1 => dv.mine ∧ ρ1[i]? = some (some (.lk p c)) ∧ (∀ x, x ∈ ρ1.set i none → isLk x = false) ∧ P dv (ρ1.set i (some (.mu true c)))
  | _ => False
theorem je_lock (h : JE X NW ex We) : JE X Wx ex (wLock i We) := by
  refine PE.wk (pe_lock h) fun σ H Q h => ?_
  obtain ⟨e, ρ, F, EX, P, s, ⟨nl, w0⟩, hx, k⟩ := h
  split at w0
  · rename_i c hi
    obtain ⟨v, g1, p, o, rfl, a1, a2, a3, a4, a5, a6⟩ := s.sl i _ hi
    obtain ⟨p', o', h1, h2, h3, h4, h5, h6⟩ := s.lock hi
    rw [g1] at h1; cases h1
    rw [a5] at h2; cases h2
    refine ⟨p, o, a5, mut_of a6, fun od => ⟨e.pinned p (.frz od o), _, F, NX, _, h6 od, w0 p, Hx.never, fun F1 H1 v1 d1 ρ1 s1 m1 r1 q1 => ?_⟩⟩
    obtain ⟨q0, q1, q2, q3⟩ := q1
    have nl' : ∀ (j : Nat) (x : DV), j ≠ i → ρ1[j]? = some (some x) → isLk (some x) = false := fun j x hj hx => by
      refine q2 (some x) ?_
      have : (ρ1.set i none)[j]? = some (some x) := by rw [List.getElem?_set_ne (Ne.symm hj)]; exact hx
      exact List.mem_of_getElem? this
    obtain ⟨u1, u2⟩ := Sg.unlock a4 s1 q1 (a6.mono m1) nl'
    refine ⟨u1, k F1 _ v1 d1 _ u2 m1 ?_ q3⟩
    cases d1 with
    | fz d => exact Res.fz r1.1
    | lk _ c => exact q0.elim
    | mu b c2 =>
      obtain ⟨⟨r, u, rfl, c1, c2, c3, c4, c5, c6⟩, nd⟩ := r1
      have hb : b = true := q0
      have hrp : r ≠ p := fun z => c4 (.frz od o) (by rw [z]; exact List.mem_cons_self)
      refine ⟨⟨r, u, rfl, c1, c2, (fun z => by rw [hb] at z; cases z), fun u' hu => c4 u' (List.mem_cons_of_mem _ hu), by rw [upd_ne hrp]; exact c5, c6⟩, fun _ j dw hj ho z => ?_⟩
      by_cases hji : j = i
      · subst hji
        rw [g1] at z
        exact hrp (by cases z; rfl)
      · rw [List.getElem?_set_ne (Ne.symm hji)] at hj
        exact nd rfl j dw hj ho z
  · exact w0.elim
/-- what is walked of a locked dict: its keys, its values, both -/
def keyD : Key → D
  | .inl i => .int i
  | .inr x => .str x
theorem keyD_is {K : PySem.W.Frag} {F : Hp} (k : Key) : Is K F (keyD k) (kV k) := by cases k <;> simp [keyD, kV, Is]
def wKeysL (i : Nat) : WI := fun _ ρ P => match ρ[i]? with
  | some (some (.lk _ (.dk kvs))) => P (kvs.map fun kv => keyD kv.1) ρ
  | _ => False
theorem kvd_get {K : PySem.W.Frag} {F : Hp} {κ : Type} : ∀ {xs : List (κ × D)} {ys : List (κ × V)}, KVD K F xs ys → ∀ {i : Nat} {k : κ} {v : V}, ys[i]? = some (k, v) → ∃ d, xs[i]? = some (k, d) ∧ Is K F d v
  | [], _, .nil, i, k, v, h => by simp at h
  | (k1, d1) :: xs, (k2, v2) :: ys, .cons h t, 0, k, v, q => by
    simp at q
    obtain ⟨rfl, rfl⟩ := q
    have e : k1 = k2 := h.1
    subst e
    exact ⟨d1, by simp, h.2⟩
  | (k1, d1) :: xs, (k2, v2) :: ys, .cons h t, i + 1, k, v, q => by
    simp only [List.getElem?_cons_succ] at q ⊢
    exact kvd_get t q
theorem ji_keysL (h : PE X (.Name y py) (tVar i)) : JI X Wx tg (.Name y py) (wKeysL i) := by
  refine PI.wk (pi_keys h) fun σ H R h => ?_
  obtain ⟨e, ρ, F, EX, P, s, w0, hx, k⟩ := h
  unfold wKeysL at w0
  split at w0
  · rename_i p kvs hi
    obtain ⟨v, g1, o, od, rfl, a1, vs, rfl, a2⟩ := s.sl i _ hi
    have h0 : H p = some (.frz od (.dK vs)) := (s.pin _ a1).1
    refine ⟨_, g1, p, od, rfl, .inl ⟨vs, h0, k F H _ ρ _ _ _ _ s (Same.refl _) w0 (walk_keys (kvs := vs)) (by rw [List.length_map, a2.len]) ⟨fun e' ρ' F2 σ' H' s' m' hp => (s'.pin _ (hp _ a1)).1, fun j H1 x H' hj _ y => ?_⟩⟩⟩
    obtain ⟨rfl, kk, vv, h1, rfl⟩ := y
    obtain ⟨d, h2, h3⟩ := kvd_get a2 h1
    exact .inl ⟨rfl, keyD kk, by rw [List.getElem?_map, h2]; rfl, keyD_is kk⟩
  · exact w0.elim
def wValsL (i : Nat) : WI := fun _ ρ P => match ρ[i]? with
  | some (some (.lk _ (.dk kvs))) => P (kvs.map fun kv => kv.2) ρ
  | _ => False
theorem ji_valsL {apos cpos : Pos} (h : PE X (.Name y py) (tVar i)) (hbase : attributeBase (.Name y py) "values" X.env (eval (.Name y py) X.env) = eval (.Name y py) X.env := by rfl) (hline : (apos.endLine == cpos.line) = true := by rfl) :
    JI X Wx tg (.Call (.Attribute (.Name y py) "values" apos) [] [] cpos) (wValsL i) := by
  refine PI.wk (pi_values h hbase hline) fun σ H R h => ?_
  obtain ⟨e, ρ, F, EX, P, s, w0, hx, k⟩ := h
  unfold wValsL at w0
  split at w0
  · rename_i p kvs hi
    obtain ⟨v, g1, o, od, rfl, a1, vs, rfl, a2⟩ := s.sl i _ hi
    have h0 : H p = some (.frz od (.dK vs)) := (s.pin _ a1).1
    refine ⟨_, g1, p, od, vs, rfl, h0, k F H _ ρ _ _ _ _ s (Same.refl _) w0 (walk_values (kvs := vs)) (by rw [List.length_map, a2.len]) ⟨fun e' ρ' F2 σ' H' s' m' hp => (s'.pin _ (hp _ a1)).1, fun j H1 x H' hj _ y => ?_⟩⟩
    obtain ⟨rfl, kk, h1⟩ := y
    obtain ⟨d, h2, h3⟩ := kvd_get a2 h1
    exact .inl ⟨rfl, d, by rw [List.getElem?_map, h2]; rfl, h3⟩
  · exact w0.elim
def wItemsL (i : Nat) : WI := fun _ ρ P => match ρ[i]? with
  | some (some (.lk _ (.dk kvs))) => P (kvs.map fun kv => .tup [keyD kv.1, kv.2]) ρ
  | _ => False
theorem ji_itemsL {apos cpos tpos : Pos} {elts : List Expr} {kk : Nat} (h : PE X (.Name y py) (tVar i)) (hbase : attributeBase (.Name y py) "items" X.env (eval (.Name y py) X.env) = eval (.Name y py) X.env := by rfl) (hline : (apos.endLine == cpos.line) = true := by rfl) :
    JI X Wx (.Tuple elts kk tpos) (.Call (.Attribute (.Name y py) "items" apos) [] [] cpos) (wItemsL i) := by
  refine PI.wk (pi_items h hbase hline) fun σ H R h => ?_
  obtain ⟨e, ρ, F, EX, P, s, w0, hx, k⟩ := h
  unfold wItemsL at w0
  split at w0
  · rename_i p kvs hi
    obtain ⟨v, g1, o, od, rfl, a1, vs, rfl, a2⟩ := s.sl i _ hi
    have h0 : H p = some (.frz od (.dK vs)) := (s.pin _ a1).1
    refine ⟨_, g1, p, od, vs, rfl, h0, k F H _ ρ _ _ _ _ s (Same.refl _) w0 (walk_items (kvs := vs)) (by rw [List.length_map, a2.len]) ⟨fun e' ρ' F2 σ' H' s' m' hp => (s'.pin _ (hp _ a1)).1, fun j H1 x H' hj _ y => ?_⟩⟩
    obtain ⟨T, y1, y2, rfl, hT, rfl, e1, e2⟩ := y
    obtain ⟨⟨k3, v3⟩, h4, h5⟩ := Option.map_eq_some_iff.mp e1
    have e2 : (vs[j]?).map Prod.snd = some y2 := e2
    rw [h4] at e2
    simp only [Option.map_some, Option.some.injEq] at e2
    subst h5 e2
    obtain ⟨d, h2, h3⟩ := kvd_get a2 h4
    exact .inr ⟨T, _, [keyD k3, d], rfl, hT, rfl, by rw [List.getElem?_map, h2]; rfl, .cons (keyD_is k3) (.one h3)⟩
  · exact w0.elim
/-- d[k] of a locked dict -/
def wDGetL (i : Nat) (Wk : WE) : WE := fun EX ρ P => (∃ p kvs, ρ[i]? = some (some (.lk p (.dk kvs)))) ∧ Wk EX ρ fun kv ρ1 => kv.thn fun kd => match ρ1[i]? with
    | some (some (.lk _ (.dk kvs))) => ∃ k d, kd.key = some k ∧ valD kvs k = some d ∧ P (.fz d) ρ1
    | _ => False
theorem je_dgetL (hu : X.A.units + 1 < cLine) (hv : PE X (.Name y py) (tVar i)) (hi : JE X Wx ix Wk') (hs : NoSl ix) : JE X Wx (.Subscript (.Name y py) ix pos) (wDGetL i Wk') := by
  refine PE.wk (pe_dget hu hv hi hs) fun σ H Q h => ?_
  obtain ⟨e, ρ, F, EX, P, s, ⟨⟨pp, kv0, h0⟩, w0⟩, hx, k⟩ := h
  obtain ⟨v, hσ, o, od, rfl, _, _⟩ := s.sl i _ h0
  refine ⟨_, hσ, e, ρ, F, EX, _, s, w0, hx, fun F1 H1 v1 d1 ρ1 s1 m1 r1 q1 => ?_⟩
  obtain ⟨F2, kd, s2, m2, i2, q2⟩ := s1.data r1 q1
  split at q2
  · rename_i p' kvs hi'
    obtain ⟨v', hσ', o', od', rfl, b1, vs, rfl, b2⟩ := s2.sl i _ hi'
    rw [hσ] at hσ'
    cases hσ'
    obtain ⟨kk, d, k1, k2, k3⟩ := q2
    rcases b2.val (k := kk) with ⟨z, _⟩ | ⟨d', v', z1, z2, z3⟩
    · rw [k2] at z; cases z
    · rw [k2] at z1; cases z1
      exact ⟨pp, v', rfl, .inl ⟨vs, kk, .inr ⟨od', (s2.pin _ b1).1⟩, key_is i2 k1, z2.symm⟩, k F2 H1 v' _ ρ1 s2 (m1.trans m2) (Res.fz z3) k3⟩
  · exact q2.elim
/-- for .. over a dict, the statement under a lock -/
def wLockS (i : Nat) (W : WS) : WS := fun E ρ => noLk ρ ∧ match ρ[i]? with
  | some (some (.mu true c)) => ∀ p, W { nx := fun ρ1 => ρ1[i]? = some (some (.lk p c)) ∧ (∀ x, x ∈ ρ1.set i none → isLk x = false) ∧ E.nx (ρ1.set i (some (.mu true c))), rt := fun _ _ => False } (ρ.set i (some (.lk p c)))
  | _ => False
theorem js_lock {st : Stmt} {W : WS} (h : JS X NW st W) : JS X Wx st (wLockS i W) := PS.wk (ps_lock h) fun D σ H h => by
  obtain ⟨e, ρ, F, E, s, ⟨nl, w0⟩, r⟩ := h
  split at w0
  · rename_i c hi
    obtain ⟨v, g1, p, o, rfl, a1, a2, a3, a4, a5, a6⟩ := s.sl i _ hi
    obtain ⟨p', o', h1, h2, h3, h4, h5, h6⟩ := s.lock hi
    rw [g1] at h1; cases h1
    rw [a5] at h2; cases h2
    have to : ∀ od ρ F' σ H, Sg X.K (e.pinned p (.frz od o)) ρ F' σ H → F' = F → Sg X.K { e.pinned p (.frz od o) with F := F } ρ F' σ H := fun od ρ F' σ H s1 hF => by
      subst hF
      exact ⟨s1.fh, ⟨Same.refl _, s1.st.keep, s1.st.there, fun q u hq hn => hn⟩, s1.len, s1.sl, s1.ap, s1.pin⟩
    have fro : ∀ od ρ F' σ H, Sg X.K { e.pinned p (.frz od o) with F := F } ρ F' σ H → Sg X.K (e.pinned p (.frz od o)) ρ F' σ H ∧ Same F F' := fun od ρ F' σ H s1 =>
      ⟨⟨s1.fh, ⟨s.st.ff.trans s1.st.ff, s1.st.keep, s1.st.there, fun q u hq hn => s1.st.old q u hq (s.st.old q u hq hn)⟩, s1.len, s1.sl, s1.ap, s1.pin⟩, s1.st.ff⟩
    refine ⟨p, o, a5, mut_of a6, fun od => ⟨{ e.pinned p (.frz od o) with F := F }, _, F, _, to od _ _ _ _ (h6 od) rfl, w0 p, ⟨fun ρ1 F1 σ1 H1 s1 q1 => ?_, fun _ _ _ _ _ _ _ _ h => h.elim, fun _ _ _ _ _ h => h.elim, fun _ _ _ _ _ h => h.elim, Hx.never⟩⟩⟩
    obtain ⟨s1, m1⟩ := fro _ _ _ _ _ s1
    obtain ⟨q1, q2, q3⟩ := q1
    have nl' : ∀ (j : Nat) (x : DV), j ≠ i → ρ1[j]? = some (some x) → isLk (some x) = false := fun j x hj hx => by
      refine q2 (some x) ?_
      have : (ρ1.set i none)[j]? = some (some x) := by rw [List.getElem?_set_ne (Ne.symm hj)]; exact hx
      exact List.mem_of_getElem? this
    obtain ⟨u1, u2⟩ := Sg.unlock a4 s1 q1 (a6.mono m1) nl'
    exact ⟨u1, r.nx _ F1 σ1 _ u2 q3⟩
  · exact w0.elim
end
/-! ## comprehensions with a test -/
section
variable {xs : List D} {g : WG} {Wt : WT} {We : WE} {vs : List Nat} {ρ ρw : DEnv} {P : DV → DEnv → Prop}
def LcK (q : Nat → Bool) (f : Nat → D) (vs : List Nat) (ρw : DEnv) (i : Nat) (acc : List D) (d : D) (ρ4 : DEnv) : Prop := acc.length < sizeLine ∧ ∃ ρ5, Wk (wipeD ρ4 vs) ρ5 ∧ (acc ++ [d] = ((List.range (i + 1)).filter q).map f ∧ ρ5 = ρw)
def LcS (q : Nat → Bool) (f : Nat → D) (vs : List Nat) (ρw : DEnv) (i : Nat) (acc : List D) (ρ3 : DEnv) : Prop := ∃ ρ5, Wk (wipeD ρ3 vs) ρ5 ∧ (acc = ((List.range (i + 1)).filter q).map f ∧ ρ5 = ρw)
theorem lcK {q : Nat → Bool} {f : Nat → D} {i : Nat} {acc : List D} {d : D} {ρ4 : DEnv} (hz : xs.length ≤ sizeLine) (hi : i < xs.length) (ha : acc = ((List.range i).filter q).map f) (hq : q i = true) (h1 : d = f i) (h2 : Wk (wipeD ρ4 vs) ρw) : LcK q f vs ρw i acc d ρ4 := by
  subst ha h1
  refine ⟨?_, ρw, h2, ?_, rfl⟩
  · rw [List.length_map]
    have := List.length_filter_le q (List.range i)
    rw [List.length_range] at this
    omega
  · rw [List.range_succ, List.filter_append, List.map_append]
    simp [hq]
theorem lcS {q : Nat → Bool} {f : Nat → D} {i : Nat} {acc : List D} {ρ3 : DEnv} (ha : acc = ((List.range i).filter q).map f) (hq : q i = false) (h2 : Wk (wipeD ρ3 vs) ρw) : LcS q f vs ρw i acc ρ3 := by
  subst ha
  refine ⟨ρw, h2, ?_, rfl⟩
  rw [List.range_succ, List.filter_append, List.map_append]
  simp [hq]
theorem LcP.filt (q : Nat → Bool) (f : Nat → D) (hw : Wk (wipeD ρ vs) ρw)
    (hs : ∀ i acc (hi : i < xs.length), acc = ((List.range i).filter q).map f → g xs[i] ρw fun ρ2 => Wt NX ρ2 fun b ρ3 => ift b (We NX ρ3 fun y ρ4 => y.thn fun d => LcK q f vs ρw i acc d ρ4) (LcS q f vs ρw i acc ρ3)) (he : P (.mu true (.lst (((List.range xs.length).filter q).map f))) (backD ρ ρw vs)) : LcP xs g Wt We vs ρ P := by
  refine ⟨fun i acc ρ' => acc = ((List.range i).filter q).map f ∧ ρ' = ρw, ⟨ρw, hw, rfl, rfl⟩, fun i acc ρ' hi h => ?_, fun acc ρ' h => ?_⟩
  · obtain ⟨h1, rfl⟩ := h
    exact hs i acc hi h1
  · obtain ⟨rfl, rfl⟩ := h
    exact he
/-- any comprehension by its invariant -/
theorem LcP.byI (I : Nat → List D → DEnv → Prop) (h0 : ∃ ρ', Wk (wipeD ρ vs) ρ' ∧ I 0 [] ρ')
    (hs : ∀ i acc ρ' (hi : i < xs.length), I i acc ρ' → g xs[i] ρ' fun ρ2 => Wt NX ρ2 fun b ρ3 => ift b (We NX ρ3 fun y ρ4 => y.thn fun d => acc.length < sizeLine ∧ ∃ ρ5, Wk (wipeD ρ4 vs) ρ5 ∧ I (i + 1) (acc ++ [d]) ρ5) (∃ ρ5, Wk (wipeD ρ3 vs) ρ5 ∧ I (i + 1) acc ρ5))
    (he : ∀ acc ρ', I xs.length acc ρ' → P (.mu true (.lst acc)) (backD ρ ρ' vs)) : LcP xs g Wt We vs ρ P := ⟨I, h0, hs, he⟩
end
end L2.DL

/-! # DLj.lean -/
set_option Elab.async false
set_option linter.all false
set_option maxRecDepth 100000
namespace L2.DL
open PySem PySem.Spec PyProof.Rows
/-! ## what is equal, by its type -/
class Da (α : Type) [DecidableEq α] where
  d : α → D
  p : α → PyData
  dp : ∀ a, (d a).py = some (p a)
  lay : ∀ a, (p a).canLay0 = true
  dep : Nat
  le : ∀ a, (p a).depth ≤ dep
  eqv : ∀ a b, PyData.eqv (p a) (p b) = decide (a = b)
instance : Da Int := ⟨.int, .int, fun _ => rfl, fun _ => rfl, 0, fun _ => Nat.le_refl _, fun a b => by simp only [PyData.eqv]; rw [Bool.eq_iff_iff, beq_iff_eq, decide_eq_true_eq]⟩
instance : Da Bool := ⟨.bl, .bool, fun _ => rfl, fun _ => rfl, 0, fun _ => Nat.le_refl _, fun a b => by simp only [PyData.eqv]; rw [Bool.eq_iff_iff, beq_iff_eq, decide_eq_true_eq]⟩
section
variable {α β : Type} [DecidableEq α] [Da α] [DecidableEq β] [Da β]
theorem da_py : ∀ xs : List α, pyL (xs.map Da.d) = some (xs.map Da.p)
  | [] => rfl
  | x :: xs => by simp only [List.map_cons, pyL, Da.dp x, da_py xs]
theorem da_lay : ∀ xs : List α, PyData.canLayAll0 (xs.map Da.p) = true
  | [] => rfl
  | x :: xs => by rw [List.map_cons, PyData.canLayAll0, Da.lay x, da_lay xs]; rfl
theorem da_dep : ∀ xs : List α, PyData.depthAll (xs.map Da.p) ≤ Da.dep α
  | [] => Nat.zero_le _
  | x :: xs => by
    rw [List.map_cons, PyData.depthAll]
    exact Nat.max_le.mpr ⟨Da.le x, da_dep xs⟩
theorem da_eqv : ∀ xs ys : List α, PyData.eqvAll (xs.map Da.p) (ys.map Da.p) = decide (xs = ys)
  | [], [] => by simp only [List.map_nil, PyData.eqvAll, decide_true]
  | [], _ :: _ => by simp [PyData.eqvAll]
  | _ :: _, [] => by simp [PyData.eqvAll]
  | x :: xs, y :: ys => by
    rw [List.map_cons, List.map_cons, PyData.eqvAll, Da.eqv x y, da_eqv xs ys, ← Bool.decide_and]
    exact decide_eq_decide.mpr (by rw [List.cons.injEq])
instance : Da (List α) := ⟨fun xs => .lst (xs.map Da.d), fun xs => .list (xs.map Da.p), fun xs => by simp only [D.py, da_py]; rfl, fun xs => by simp only [PyData.canLay0]; exact da_lay xs, Da.dep α + 1,
  fun xs => by simp only [PyData.depth]; exact Nat.succ_le_succ (da_dep xs), fun xs ys => by simp only [PyData.eqv]; exact da_eqv xs ys⟩
/-- a tuple of any length -/
structure Tu (α : Type) where
  l : List α
  deriving DecidableEq
instance : Da (Tu α) := ⟨fun t => .tup (t.l.map Da.d), fun t => .tuple (t.l.map Da.p), fun t => by simp only [D.py, da_py]; rfl, fun t => by simp only [PyData.canLay0]; exact da_lay t.l, Da.dep α + 1,
  fun t => by simp only [PyData.depth]; exact Nat.succ_le_succ (da_dep t.l), fun t u => by
    simp only [PyData.eqv]; rw [da_eqv]
    exact decide_eq_decide.mpr ⟨fun e => by cases t; cases u; exact congrArg Tu.mk e, fun e => by rw [e]⟩⟩
instance : Da (α × β) := ⟨fun p => .tup [Da.d p.1, Da.d p.2], fun p => .tuple [Da.p p.1, Da.p p.2], fun p => by simp only [D.py, pyL, Da.dp]; rfl, fun p => by simp only [PyData.canLay0, PyData.canLayAll0, Da.lay, Bool.and_self], max (Da.dep α) (Da.dep β) + 1,
  fun p => by
    simp only [PyData.depth, PyData.depthAll]
    exact Nat.succ_le_succ (Nat.max_le.mpr ⟨Nat.le_trans (Da.le p.1) (Nat.le_max_left _ _), Nat.max_le.mpr ⟨Nat.le_trans (Da.le p.2) (Nat.le_max_right _ _), Nat.zero_le _⟩⟩), fun p q => by
    simp only [PyData.eqv, PyData.eqvAll]
    rw [Da.eqv, Da.eqv, Bool.and_true, ← Bool.decide_and]
    exact decide_eq_decide.mpr ⟨fun e => Prod.ext e.1 e.2, fun e => by rw [e]; exact ⟨rfl, rfl⟩⟩⟩
theorem da_shaped (h : Da.dep α ≤ 64) (a : α) : SeqAt.shaped (Da.p a) = true := by
  unfold SeqAt.shaped
  rw [Bool.and_eq_true]
  exact ⟨Da.lay a, decide_eq_true (Nat.le_trans (Da.le a) h)⟩
theorem deq (h : Da.dep α ≤ 64) (a b : α) : DEq (Da.d a) (Da.d b) (decide (a = b)) := ⟨_, _, Da.dp a, Da.dp b, da_shaped h a, da_shaped h b, Da.eqv a b⟩
end
theorem deq_int (a b : Int) : DEq (.int a) (.int b) (decide (a = b)) := deq (α := Int) (Nat.zero_le _) a b
theorem deq_bl (a b : Bool) : DEq (.bl a) (.bl b) (decide (a = b)) := deq (α := Bool) (Nat.zero_le _) a b
theorem deq_ints (a b : List Int) : DEq (.lst (a.map .int)) (.lst (b.map .int)) (decide (a = b)) := deq (α := List Int) (by decide) a b
theorem deq_intsT (a b : List Int) : DEq (.tup (a.map .int)) (.tup (b.map .int)) (decide (a = b)) := by
  have := deq (α := Tu Int) (by decide) ⟨a⟩ ⟨b⟩
  rwa [show decide ((⟨a⟩ : Tu Int) = ⟨b⟩) = decide (a = b) from decide_eq_decide.mpr ⟨fun e => congrArg Tu.l e, fun e => by rw [e]⟩] at this
end L2.DL

/-! # DLk.lean -/
set_option Elab.async false
set_option linter.all false
set_option maxRecDepth 100000
namespace L2.DL
open PySem PySem.Spec PyProof.Rows RT
section
variable {prog : Program} {w : World} {A : Around} {E : Value → Shared → Prop} {s : Shared} {l : Addr} {its : List Value} {ns : List Int} {Q : Value → Shared → Prop}
/-- the greatest, the least of a tuple of ints -/
theorem old_tup {h' : Heap} {o0 : Obj} (hk : ∀ b o, b ∉ [s.heap.objs.size] → (s.heap.push o0).get? b = some o → h'.get? b = some o) : ∀ b o, s.heap.get? b = some o → h'.get? b = some o := fun b o e => by
  refine hk b o (fun hm => ?_) (Heap.get?_push_of_some _ e)
  rcases List.mem_cons.mp hm with e1 | hm
  · exact absurd (e1 ▸ Heap.lt_size e) (Nat.lt_irrefl _)
  · cases hm
theorem small_tup {o0 : Obj} (hlt : l < s.heap.objs.size) : ∀ b ∈ [s.heap.objs.size, l], b < ({ s with heap := s.heap.push o0 } : Shared).heap.objs.size := fun b hb => by
  show b < (s.heap.push _).objs.size
  rw [Heap.size_push]
  rcases List.mem_cons.mp hb with rfl | hb
  · exact Nat.lt_succ_self _
  · rcases List.mem_cons.mp hb with rfl | hb
    · exact Nat.lt_succ_of_lt hlt
    · cases hb
theorem maxT_raw (hh : A.handled = none) (hl : s.heap.IsTuple l its.toArray) (hi : IntsAre its ns) (hne : 0 < ns.length)
    (h : ∀ h' tk M t', (∀ b o, s.heap.get? b = some o → h'.get? b = some o) → M ∈ ns → (∀ a, a ∈ ns → a ≤ M) → Q (.int M t') { s with heap := h', toks := tk }) : wpAny (model prog w) A (call (.builtin "max") [.ref l]) Q E s := by
  obtain ⟨xs, e⟩ := hi.allInts.items
  have hn : numsOf (intItems xs).toList = ns := by rw [← e]; exact hi.numsOf
  rw [nums_intItems] at hn
  subst hn
  rw [e] at hl
  have hsz : 0 < xs.size := by simpa using hne
  have hlt : l < s.heap.objs.size := by obtain ⟨_, e, _⟩ := hl; exact Heap.lt_size e
  refine call_max_walk (wpAny_pyIter_tuple hl ?_)
  refine ⟨_, [_, l], [_], _, _, _, _, rfl, Walks.tuple (A := A.in1) hh _ l (Nat.ne_of_lt hlt) (intItems xs), ⟨⟨_, Heap.get?_push_size _ rfl, rfl, rfl⟩, hl.push _⟩, small_tup hlt, by simpa [intItems] using hsz, CmpOf.ints_gt (numAt xs) (fun _ _ => intItems_at), fun v h' tk hP hk => ?_⟩
  have hP : (intItems xs)[argBest (fun i j => decide (numAt xs i > numAt xs j)) (xs.size - 1)]? = some v := by simpa [intItems] using hP
  obtain ⟨t, rfl⟩ := intItems_at hP
  obtain ⟨h1, h2⟩ := argBest_gt (numAt xs) (xs.size - 1)
  refine h h' tk _ t (old_tup hk) ?_ fun a ha => ?_
  · rw [numAt_eq]; exact PySem.getD_mem (by rw [List.length_map, Array.length_toList]; omega)
  · obtain ⟨j, hj, rfl⟩ := mem_getD ha
    rw [List.length_map, Array.length_toList] at hj
    rw [← numAt_eq]; exact h2 j (by omega)
theorem minT_raw (hh : A.handled = none) (hl : s.heap.IsTuple l its.toArray) (hi : IntsAre its ns) (hne : 0 < ns.length)
    (h : ∀ h' tk M t', (∀ b o, s.heap.get? b = some o → h'.get? b = some o) → M ∈ ns → (∀ a, a ∈ ns → M ≤ a) → Q (.int M t') { s with heap := h', toks := tk }) : wpAny (model prog w) A (call (.builtin "min") [.ref l]) Q E s := by
  obtain ⟨xs, e⟩ := hi.allInts.items
  have hn : numsOf (intItems xs).toList = ns := by rw [← e]; exact hi.numsOf
  rw [nums_intItems] at hn
  subst hn
  rw [e] at hl
  have hsz : 0 < xs.size := by simpa using hne
  have hlt : l < s.heap.objs.size := by obtain ⟨_, e, _⟩ := hl; exact Heap.lt_size e
  refine call_min_walk (wpAny_pyIter_tuple hl ?_)
  refine ⟨_, [_, l], [_], _, _, _, _, rfl, Walks.tuple (A := A.in1) hh _ l (Nat.ne_of_lt hlt) (intItems xs), ⟨⟨_, Heap.get?_push_size _ rfl, rfl, rfl⟩, hl.push _⟩, small_tup hlt, by simpa [intItems] using hsz, CmpOf.ints_lt (numAt xs) (fun _ _ => intItems_at), fun v h' tk hP hk => ?_⟩
  have hP : (intItems xs)[argBest (fun i j => decide (numAt xs i < numAt xs j)) (xs.size - 1)]? = some v := by simpa [intItems] using hP
  obtain ⟨t, rfl⟩ := intItems_at hP
  obtain ⟨h1, h2⟩ := argBest_lt (numAt xs) (xs.size - 1)
  refine h h' tk _ t (old_tup hk) ?_ fun a ha => ?_
  · rw [numAt_eq]; exact PySem.getD_mem (by rw [List.length_map, Array.length_toList]; omega)
  · obtain ⟨j, hj, rfl⟩ := mem_getD ha
    rw [List.length_map, Array.length_toList] at hj
    rw [← numAt_eq]; exact h2 j (by omega)
end
section
variable {X : Cx} {K : PySem.W.Frag}
def rMaxTu (K : PySem.W.Frag) : List V → Hp → VK → Prop := fun vs H Q => ∃ (a : Addr) (ns : List Int), vs = [V.ref a] ∧ SqT K H a (ns.map V.int) ∧ 0 < ns.length ∧ ∀ m, m ∈ ns → (∀ y, y ∈ ns → y ≤ m) → Q (.int m) H
def rMinTu (K : PySem.W.Frag) : List V → Hp → VK → Prop := fun vs H Q => ∃ (a : Addr) (ns : List Int), vs = [V.ref a] ∧ SqT K H a (ns.map V.int) ∧ 0 < ns.length ∧ ∀ m, m ∈ ns → (∀ y, y ∈ ns → m ≤ y) → Q (.int m) H
theorem call_maxTu (hc : X.calm = true) : CallR X (.builtin "max") (rMaxTu X.K) := by
  intro pins s σ H vs us Q I r h
  obtain ⟨a, ns, rfl, hs, hne, q⟩ := h
  obtain ⟨its, rv, p, _⟩ := I.tuple hs
  rw [Vals.ref1 r]
  exact maxT_raw (I.ok.hd hc) (show s.heap.IsTuple a its.toArray from p) rv.ints hne fun h' tk m t' hk h1 h2 => ⟨.int _, H, I.kept hk, ⟨_, rfl⟩, q m h1 h2⟩
theorem call_minTu (hc : X.calm = true) : CallR X (.builtin "min") (rMinTu X.K) := by
  intro pins s σ H vs us Q I r h
  obtain ⟨a, ns, rfl, hs, hne, q⟩ := h
  obtain ⟨its, rv, p, _⟩ := I.tuple hs
  rw [Vals.ref1 r]
  exact minT_raw (I.ok.hd hc) (show s.heap.IsTuple a its.toArray from p) rv.ints hne fun h' tk m t' hk h1 h2 => ⟨.int _, H, I.kept hk, ⟨_, rfl⟩, q m h1 h2⟩
def wIntsT (Z : List Int → (DV → Prop) → Prop) : List D → (DV → Prop) → Prop := fun ds P => match ds with
  | [.tup l] => ∃ ns, intsD l = some ns ∧ Z ns P
  | _ => False
def wMaxTu := wIntsT fun ns P => 0 < ns.length ∧ ∀ m, m ∈ ns → (∀ y, y ∈ ns → y ≤ m) → P (.fz (.int m))
def wMinTu := wIntsT fun ns P => 0 < ns.length ∧ ∀ m, m ∈ ns → (∀ y, y ∈ ns → m ≤ y) → P (.fz (.int m))
theorem intsT_arg {e : Ent} {ρ : DEnv} {F : Hp} {σ : St} {H : Hp} {vs : List V} {ds : List D} {Z : List Int → (DV → Prop) → Prop} {P : DV → Prop} (s : Sg K e ρ F σ H) (i : IsL K F ds vs) (w : wIntsT Z ds P) :
    ∃ a ns, vs = [V.ref a] ∧ SqT K H a (ns.map V.int) ∧ Z ns P := by
  unfold wIntsT at w
  split at w
  · obtain ⟨ns, h1, h2⟩ := w
    obtain ⟨v, rfl, iv⟩ := i.one_inv
    simp only [Is] at iv
    obtain ⟨a, us, rfl, h3, h4⟩ := iv
    rw [ints_of h1] at h4
    rw [IsL.ints.mp h4] at h3
    exact ⟨a, ns, rfl, Same.seqT s.fh h3, h2⟩
  · exact w.elim
theorem cr_maxTuD : CRl K (rMaxTu K) wMaxTu := by
  intro e ρ F σ H vs ds Q P s i w k
  obtain ⟨a, ns, h1, h2, h0, h3⟩ := intsT_arg s i w
  exact ⟨a, ns, h1, h2, h0, fun m hm hy => k F H _ _ s (Same.refl _) (Res.fz (by simp [Is])) (h3 m hm hy)⟩
theorem cr_minTuD : CRl K (rMinTu K) wMinTu := by
  intro e ρ F σ H vs ds Q P s i w k
  obtain ⟨a, ns, h1, h2, h0, h3⟩ := intsT_arg s i w
  exact ⟨a, ns, h1, h2, h0, fun m hm hy => k F H _ _ s (Same.refl _) (Res.fz (by simp [Is])) (h3 m hm hy)⟩
end
section
variable {X : Cx} {Wx : WX} {tg : Expr} {p pos : Pos}
/-- reversed(e) of a list, of a tuple -/
def wRevA (We : WE) : WI := fun EX ρ P => We EX ρ fun dv ρ1 => dv.thn fun d => match d with
  | .lst l => P l.reverse ρ1
  | .tup l => P l.reverse ρ1
  | _ => False
theorem walk_revTu {K : PySem.W.Frag} {a : Addr} {xs : List V} : Walk (ItvT K a xs.length) xs.length (fun H => SqT K H a xs) (fun i H x H' => H' = H ∧ xs[xs.length - 1 - i]? = some x) :=
  ⟨fun i H hi h => ⟨hi, xs, _, h, List.getElem?_eq_getElem (by omega)⟩, fun H h => Nat.le_refl _, fun i H x H' hi h y => ⟨y.1, y.2 xs h⟩⟩
theorem ji_revA {a : Expr} (hg : Gl X "reversed") (hm : X.mg "reversed" = none) (ha : JE X Wx a We) (hs : starEach [a] X.env = (false, eval a X.env) :: starEach [] X.env := by rfl) : JI X Wx tg (.Call (.Name "reversed" p) [a] [] pos) (wRevA We) := by
  refine PI.wk (pi_revA hg hm ha hs) fun σ H R h => ?_
  obtain ⟨e, ρ, F, EX, P, s, w0, hx, k⟩ := h
  refine ⟨e, ρ, F, EX, _, s, w0, hx, fun F1 H1 v1 d1 ρ1 s1 m1 r1 q1 => ?_⟩
  obtain ⟨F2, d, s2, m2, i2, q2⟩ := s1.data r1 q1
  split at q2
  · simp only [Is] at i2
    obtain ⟨a, us, rfl, h1, h2⟩ := i2
    refine ⟨a, us, rfl, .inl ⟨SqL.of (s2.fh _ _ h1), k F2 H1 _ ρ1 _ _ _ _ s2 (m1.trans m2) q2 (walk_rev (xs := us)) (by rw [List.length_reverse, h2.len]) ⟨fun e' ρ' F3 σ' H' s' m' _ => SqL.of (s'.fh _ _ (m' _ _ h1)), fun i H x H' hi _ y => ?_⟩⟩⟩
    obtain ⟨rfl, y⟩ := y
    refine .inl ⟨rfl, ?_⟩
    obtain ⟨d, h5, h6⟩ := h2.get' y
    refine ⟨d, ?_, h6⟩
    rw [List.length_reverse] at hi
    rw [List.getElem?_reverse hi, h2.len]
    exact h5
  · simp only [Is] at i2
    obtain ⟨a, us, rfl, h1, h2⟩ := i2
    refine ⟨a, us, rfl, .inr ⟨Same.seqT s2.fh h1, k F2 H1 _ ρ1 _ _ _ _ s2 (m1.trans m2) q2 (walk_revTu (xs := us)) (by rw [List.length_reverse, h2.len]) ⟨fun e' ρ' F3 σ' H' s' m' _ => Same.seqT s'.fh (Same.seqT m' h1), fun i H x H' hi _ y => ?_⟩⟩⟩
    obtain ⟨rfl, y⟩ := y
    refine .inl ⟨rfl, ?_⟩
    obtain ⟨d, h5, h6⟩ := h2.get' y
    refine ⟨d, ?_, h6⟩
    rw [List.length_reverse] at hi
    rw [List.getElem?_reverse hi, h2.len]
    exact h5
  · exact q2.elim
end
end L2.DL

/-! # DLl.lean -/
set_option Elab.async false
set_option linter.all false
set_option maxRecDepth 100000
namespace L2.DL
open PySem PySem.Spec PyProof.Rows
/-! ## own objects read as data, and own again behind it -/
def immD : D → Bool
  | .non => true
  | .bl _ => true
  | .int _ => true
  | .str _ => true
  | .ty _ => true
  | _ => false
def flatD : D → Bool
  | .tup ds => ds.all immD
  | d => immD d
def flatV : DV → Bool
  | .fz d => flatD d
  | .mu true (.lst ds) => ds.all flatD
  | _ => false
def borD (ρ : DEnv) : DEnv := ρ.map fun x => match x with
  | some (.fz d) => some (.fz d)
  | some (.mu _ c) => some (.fz c.d)
  | _ => none
section
variable {K : PySem.W.Frag} {e : Ent} {ρ : DEnv} {F F2 : Hp} {σ : St} {H H2 : Hp}
theorem borD_at {i : Nat} {dv : DV} (h : (borD ρ)[i]? = some (some dv)) : (∃ d, dv = .fz d ∧ ρ[i]? = some (some (.fz d))) ∨ ∃ b c, dv = .fz c.d ∧ ρ[i]? = some (some (.mu b c)) := by
  unfold borD at h
  rw [List.getElem?_map] at h
  cases hr : ρ[i]? with
  | none => rw [hr] at h; cases h
  | some x =>
    rw [hr] at h
    cases x with
    | none => cases h
    | some y =>
      cases y with
      | fz d => cases h; exact .inl ⟨d, rfl, rfl⟩
      | mu b c => cases h; exact .inr ⟨b, c, rfl, rfl⟩
      | lk p c => cases h
def Own (ρ : DEnv) (σ : St) (a : Addr) : Prop := ∃ (j : Nat) (b : Bool) (c : Mc), ρ[j]? = some (some (.mu b c)) ∧ σ[j]? = some (some (.ref a))
open Classical in
noncomputable def frzO (ρ : DEnv) (σ : St) (F H : Hp) : Hp := fun a => if Own ρ σ a then H a else F a
open Classical in
noncomputable def thaw (ρ : DEnv) (σ : St) (F : Hp) : Hp := fun a => if Own ρ σ a then none else F a
theorem Sg.own_out (s : Sg K e ρ F σ H) {a : Addr} (h : Own ρ σ a) : F a = none ∧ (∀ u, (a, u) ∉ e.pn) ∧ ∃ o, H a = some o ∧ ((∃ xs, o = .lst xs) ∨ (∃ xs, o = .dK xs) ∨ (∃ xs, o = .dT xs) ∨ ∃ C dx xs, o = .ins C dx xs) := by
  obtain ⟨j, b, c, h1, h2⟩ := h
  obtain ⟨v, g1, p, o, rfl, a1, a2, a3, a4, a5, a6⟩ := s.sl j _ h1
  rw [h2] at g1; cases g1
  refine ⟨a1, a4, o, a5, ?_⟩
  cases c with
  | lst ds => obtain ⟨vs, rfl, _⟩ := a6; exact .inl ⟨_, rfl⟩
  | dk ds => obtain ⟨vs, rfl, _⟩ := a6; exact .inr (.inl ⟨_, rfl⟩)
  | dt ds => obtain ⟨vs, rfl, _⟩ := a6; exact .inr (.inr (.inl ⟨_, rfl⟩))
  | ins C fs => obtain ⟨dx, vs, rfl, _⟩ := a6; exact .inr (.inr (.inr ⟨_, _, _, rfl⟩))
theorem Sg.same_frzO (s : Sg K e ρ F σ H) : Same F (frzO ρ σ F H) := fun a o h => by
  unfold frzO
  by_cases q : Own ρ σ a
  · rw [(s.own_out q).1] at h; cases h
  · rw [if_neg q]; exact h
theorem Sg.frzO_heap (s : Sg K e ρ F σ H) : Same (frzO ρ σ F H) H := fun a o h => by
  unfold frzO at h
  by_cases q : Own ρ σ a
  · rwa [if_pos q] at h
  · rw [if_neg q] at h; exact s.fh _ _ h
theorem Sg.bor (s : Sg K e ρ F σ H) : Sg K ⟨frzO ρ σ F H, H, [], []⟩ (borD ρ) (frzO ρ σ F H) σ H where
  fh := s.frzO_heap
  st := Stp.refl
  len := by unfold borD; rw [List.length_map]; exact s.len
  sl := fun i dv h => by
    rcases borD_at h with ⟨d, rfl, h1⟩ | ⟨b, c, rfl, h1⟩
    · obtain ⟨v, g1, g2⟩ := s.sl i _ h1
      exact ⟨v, g1, Is.mono s.same_frzO d g2⟩
    · obtain ⟨v, g1, p, o, rfl, a1, a2, a3, a4, a5, a6⟩ := s.sl i _ h1
      refine ⟨_, g1, (a6.mono s.same_frzO).is ?_⟩
      unfold frzO
      rw [if_pos ⟨i, b, c, h1, g1⟩]; exact a5
  ap := fun i j dv dw v h1 h2 o1 o2 _ _ => by
    rcases borD_at h1 with ⟨d, rfl, _⟩ | ⟨b, c, rfl, _⟩ <;> cases o1
  pin := fun p h => nomatch h
theorem is_imm {d : D} {v : V} {F F' : Hp} (h : immD d = true) (i : Is K F d v) : Is K F' d v := by
  cases d <;> first | (simp [immD] at h; done) | (simp only [Is] at i ⊢; exact i)
theorem isL_imm {F F' : Hp} : ∀ {ds : List D} {vs : List V}, ds.all immD = true → IsL K F ds vs → IsL K F' ds vs
  | [], vs, _, i => by simp only [IsL] at i ⊢; exact i
  | d :: ds, vs, h, i => by
    simp only [IsL] at i ⊢
    obtain ⟨v, r, rfl, h1, h2⟩ := i
    rw [List.all_cons, Bool.and_eq_true] at h
    exact ⟨v, r, rfl, is_imm h.1 h1, isL_imm h.2 h2⟩
theorem is_flat (s : Sg K e ρ F σ H) (keep : ∀ q o, H q = some o → H2 q = some o) (fh : Same F2 H2) {d : D} {v : V} (h : flatD d = true) (i : Is K F2 d v) : Is K (thaw ρ σ F2) d v := by
  cases d with
  | tup ds =>
    simp only [Is] at i ⊢
    obtain ⟨a, vs, rfl, h1, h2⟩ := i
    refine ⟨a, vs, rfl, ?_, isL_imm h h2⟩
    rcases h1 with (h1 | ⟨o, h1⟩) | h1
    · refine .inl (.inl ?_)
      unfold thaw
      rw [if_neg fun q => ?_]
      · exact h1
      · obtain ⟨_, _, o, ho, z⟩ := s.own_out q
        have := (keep _ _ ho).symm.trans (fh _ _ h1)
        rcases z with ⟨xs, rfl⟩ | ⟨xs, rfl⟩ | ⟨xs, rfl⟩ | ⟨_, _, xs, rfl⟩ <;> cases this
    · refine .inl (.inr ⟨o, ?_⟩)
      unfold thaw
      rw [if_neg fun q => ?_]
      · exact h1
      · obtain ⟨_, _, o', ho, z⟩ := s.own_out q
        have := (keep _ _ ho).symm.trans (fh _ _ h1)
        rcases z with ⟨xs, rfl⟩ | ⟨xs, rfl⟩ | ⟨xs, rfl⟩ | ⟨_, _, xs, rfl⟩ <;> cases this
    · exact .inr h1
  | _ => exact is_imm h i
theorem isL_flat (s : Sg K e ρ F σ H) (keep : ∀ q o, H q = some o → H2 q = some o) (fh : Same F2 H2) : ∀ {ds : List D} {vs : List V}, ds.all flatD = true → IsL K F2 ds vs → IsL K (thaw ρ σ F2) ds vs
  | [], vs, _, i => by simp only [IsL] at i ⊢; exact i
  | d :: ds, vs, h, i => by
    simp only [IsL] at i ⊢
    obtain ⟨v, r, rfl, h1, h2⟩ := i
    rw [List.all_cons, Bool.and_eq_true] at h
    exact ⟨v, r, rfl, is_flat s keep fh h.1 h1, isL_flat s keep fh h.2 h2⟩
/-- behind it: what was own is own, as it was -/
theorem Sg.unbor (s : Sg K e ρ F σ H) {ρ1 : DEnv} (s1 : Sg K ⟨frzO ρ σ F H, H, [], []⟩ ρ1 F2 σ H2) (m : Same (frzO ρ σ F H) F2) : Sg K e ρ (thaw ρ σ F2) σ H2 ∧ Same F (thaw ρ σ F2) := by
  have keep : ∀ q o, H q = some o → H2 q = some o := fun q o h => s1.st.keep q o h (fun z => nomatch z)
  have old : ∀ q o, H q = some o → frzO ρ σ F H q = none → F2 q = none := s1.st.old
  have sm : Same F (thaw ρ σ F2) := fun a o h => by
    unfold thaw
    by_cases q : Own ρ σ a
    · rw [(s.own_out q).1] at h; cases h
    · rw [if_neg q]; exact m _ _ (s.same_frzO _ _ h)
  have le : ∀ a o, thaw ρ σ F2 a = some o → F2 a = some o := fun a o h => by
    unfold thaw at h
    by_cases q : Own ρ σ a
    · rw [if_pos q] at h; cases h
    · rwa [if_neg q] at h
  refine ⟨⟨fun a o h => s1.fh _ _ (le a o h), ⟨s.st.ff.trans sm, fun q o h n => keep _ _ (s.st.keep q o h n), fun q o h => ?_, fun q o h n => ?_⟩, s.len, fun i dv h => ?_, s.ap, fun p hp => ?_⟩, sm⟩
  · obtain ⟨o', h'⟩ := s.st.there q o h
    exact ⟨o', keep _ _ h'⟩
  · have hF := s.st.old q o h n
    obtain ⟨o', h'⟩ := s.st.there q o h
    unfold thaw
    by_cases z : Own ρ σ q
    · rw [if_pos z]
    · rw [if_neg z]
      refine old q o' h' ?_
      unfold frzO
      rw [if_neg z]; exact hF
  · obtain ⟨v, g1, g2⟩ := s.sl i dv h
    refine ⟨v, g1, ?_⟩
    cases dv with
    | fz d => exact Is.mono sm d g2
    | lk q c =>
      obtain ⟨u, od, rfl, c1, c2⟩ := g2
      exact ⟨u, od, rfl, c1, c2.mono sm⟩
    | mu b c =>
      obtain ⟨q, u, rfl, c1, c2, c3, c4, c5, c6⟩ := g2
      refine ⟨q, u, rfl, ?_, c2, c3, c4, keep _ _ c5, c6.mono sm⟩
      unfold thaw
      rw [if_pos ⟨i, b, c, h, g1⟩]
  · obtain ⟨b1, b2, b3⟩ := s.pin p hp
    refine ⟨keep _ _ b1, ?_, b3⟩
    unfold thaw
    by_cases z : Own ρ σ p.1
    · rw [if_pos z]
    · rw [if_neg z]
      refine old _ _ b1 ?_
      unfold frzO
      rw [if_neg z]; exact b2
end
section
variable {X : Cx} {Wx : WX} {ex : Expr} {We : WE} {Wt : WT}
def wBor (W : WE) : WE := fun _ ρ P => W NX (borD ρ) fun dv _ => flatV dv = true ∧ P dv ρ
theorem je_bor (h : JE X NW ex We) : JE X Wx ex (wBor We) := by
  refine PE.wk h fun σ H Q h => ?_
  obtain ⟨e, ρ, F, EX, P, s, w0, hx, k⟩ := h
  refine ⟨_, borD ρ, _, NX, _, s.bor, w0, Hx.never, fun F2 H2 v dv ρ1 s1 m1 r1 q1 => ?_⟩
  obtain ⟨hf, q⟩ := q1
  obtain ⟨s2, m2⟩ := s.unbor s1 m1
  have keep : ∀ q o, H q = some o → H2 q = some o := fun q o h => s1.st.keep q o h (fun z => nomatch z)
  refine k _ H2 v dv ρ s2 m2 ?_ q
  cases dv with
  | fz d => exact Res.fz (is_flat s keep s1.fh hf r1.1)
  | lk _ _ => cases hf
  | mu b c =>
    cases b with
    | false => cases hf
    | true =>
      cases c with
      | dk _ => cases hf
      | dt _ => cases hf
      | ins _ _ => cases hf
      | lst ds =>
        obtain ⟨⟨r, u, rfl, c1, c2, c3, c4, c5, vs, rfl, c6⟩, nd⟩ := r1
        have hr : H r = none := c2 rfl
        have no : ¬ Own ρ σ r := fun z => by
          obtain ⟨_, _, o, ho, _⟩ := s.own_out z
          rw [hr] at ho; cases ho
        have eH : e.H r = none := by
          cases z : e.H r with
          | none => rfl
          | some o => obtain ⟨o', h'⟩ := s.st.there _ _ z; rw [hr] at h'; cases h'
        refine ⟨⟨r, _, rfl, ?_, fun _ => eH, (fun z => nomatch z), fun u' hu => ?_, c5, vs, rfl, isL_flat s keep s1.fh hf c6⟩, fun _ j dw hj ho z => ?_⟩
        · unfold thaw
          rw [if_neg no]; exact c1
        · have := (s.pin _ hu).1
          rw [hr] at this; cases this
        · obtain ⟨w, b1, b2⟩ := s.sl j dw hj
          rw [b1] at z; cases z
          cases dw with
          | fz d => cases ho
          | lk _ _ => cases ho
          | mu b' c' => exact no ⟨j, b', c', hj, b1⟩
def wBorT (W : WT) : WT := fun _ ρ P => W NX (borD ρ) fun b _ => P b ρ
theorem jt_bor (h : JT X NW ex Wt) : JT X Wx ex (wBorT Wt) := by
  refine PT.wk h fun σ H Q h => ?_
  obtain ⟨e, ρ, F, EX, P, s, w0, hx, k⟩ := h
  refine ⟨_, borD ρ, _, NX, _, s.bor, w0, Hx.never, fun F2 H2 b ρ1 s1 m1 q1 => ?_⟩
  obtain ⟨s2, m2⟩ := s.unbor s1 m1
  exact k _ H2 b ρ s2 m2 q1
end
end L2.DL

/-! # DLm.lean -/
set_option Elab.async false
set_option linter.all false
set_option maxRecDepth 100000
namespace L2.DL
open PySem PySem.Spec PyProof.Rows
/-! ## operators by name: no redexes in the goals -/
section
variable {K : PySem.W.Frag}
def wAdd : D → D → (DV → Prop) → Prop := fun a b P => match a, b with
  | .int i, .int j => P (.fz (.int (i + j)))
  | _, _ => False
def wSub : D → D → (DV → Prop) → Prop := fun a b P => match a, b with
  | .int i, .int j => P (.fz (.int (i - j)))
  | _, _ => False
def wMul : D → D → (DV → Prop) → Prop := fun a b P => match a, b with
  | .int i, .int j => CMul i j ∧ P (.fz (.int (i * j)))
  | _, _ => False
def wDiv : D → D → (DV → Prop) → Prop := fun a b P => match a, b with
  | .int i, .int j => CDiv i j ∧ P (.fz (.int (i / j)))
  | _, _ => False
def wMod : D → D → (DV → Prop) → Prop := fun a b P => match a, b with
  | .int i, .int j => 0 < j ∧ P (.fz (.int (i % j)))
  | _, _ => False
def wPow : D → D → (DV → Prop) → Prop := fun a b P => match a, b with
  | .int i, .int j => CPow i j ∧ P (.fz (.int (i ^ j.toNat)))
  | _, _ => False
def wShl : D → D → (DV → Prop) → Prop := fun a b P => match a, b with
  | .int i, .int j => CPow i j ∧ P (.fz (.int (i * 2 ^ j.toNat)))
  | _, _ => False
def wShr : D → D → (DV → Prop) → Prop := fun a b P => match a, b with
  | .int i, .int j => 0 ≤ j ∧ P (.fz (.int (i / 2 ^ j.toNat)))
  | _, _ => False
def wBand : D → D → (DV → Prop) → Prop := fun a b P => match a, b with
  | .int i, .int j => P (.fz (.int (Builtin.bitAnd i j)))
  | _, _ => False
def wBor2 : D → D → (DV → Prop) → Prop := fun a b P => match a, b with
  | .int i, .int j => P (.fz (.int (Builtin.bitOr i j)))
  | _, _ => False
def wBxor : D → D → (DV → Prop) → Prop := fun a b P => match a, b with
  | .int i, .int j => P (.fz (.int (Builtin.bitXor i j)))
  | _, _ => False
theorem br_add : BR K (rI0 fun i j => .int (i + j)) wAdd := br_i0 (g := fun i j => i + j)
theorem br_sub : BR K (rI0 fun i j => .int (i - j)) wSub := br_i0 (g := fun i j => i - j)
theorem br_mul : BR K (rI CMul fun i j => .int (i * j)) wMul := br_i (C := CMul) (g := fun i j => i * j)
theorem br_div : BR K (rI CDiv fun i j => .int (i / j)) wDiv := br_i (C := CDiv) (g := fun i j => i / j)
theorem br_mod : BR K (rI (fun _ j => 0 < j) fun i j => .int (i % j)) wMod := br_i (C := fun _ j => 0 < j) (g := fun i j => i % j)
theorem br_pow : BR K (rI CPow fun i j => .int (i ^ j.toNat)) wPow := br_i (C := CPow) (g := fun i j => i ^ j.toNat)
theorem br_shl : BR K (rI CPow fun i j => .int (i * 2 ^ j.toNat)) wShl := br_i (C := CPow) (g := fun i j => i * 2 ^ j.toNat)
theorem br_shr : BR K (rI (fun _ j => 0 ≤ j) fun i j => .int (i / 2 ^ j.toNat)) wShr := br_i (C := fun _ j => 0 ≤ j) (g := fun i j => i / 2 ^ j.toNat)
theorem br_band : BR K (rI0 fun i j => .int (Builtin.bitAnd i j)) wBand := br_i0 (g := Builtin.bitAnd)
theorem br_bor2 : BR K (rI0 fun i j => .int (Builtin.bitOr i j)) wBor2 := br_i0 (g := Builtin.bitOr)
theorem br_bxor : BR K (rI0 fun i j => .int (Builtin.bitXor i j)) wBxor := br_i0 (g := Builtin.bitXor)
def wLt : D → D → (DV → Prop) → Prop := fun a b P => match a, b with
  | .int i, .int j => P (.fz (.bl (decide (i < j))))
  | _, _ => False
def wLe : D → D → (DV → Prop) → Prop := fun a b P => match a, b with
  | .int i, .int j => P (.fz (.bl (decide (i ≤ j))))
  | _, _ => False
def wGt : D → D → (DV → Prop) → Prop := fun a b P => match a, b with
  | .int i, .int j => P (.fz (.bl (decide (j < i))))
  | _, _ => False
def wGe : D → D → (DV → Prop) → Prop := fun a b P => match a, b with
  | .int i, .int j => P (.fz (.bl (decide (j ≤ i))))
  | _, _ => False
def wEqI : D → D → (DV → Prop) → Prop := fun a b P => match a, b with
  | .int i, .int j => P (.fz (.bl (decide (i = j))))
  | _, _ => False
def wNeI : D → D → (DV → Prop) → Prop := fun a b P => match a, b with
  | .int i, .int j => P (.fz (.bl (!decide (i = j))))
  | _, _ => False
theorem br_lt : BR K (rI0 fun i j => .bl (decide (i < j))) wLt := br_b0 (p := fun i j => decide (i < j))
theorem br_le : BR K (rI0 fun i j => .bl (decide (i ≤ j))) wLe := br_b0 (p := fun i j => decide (i ≤ j))
theorem br_gt : BR K (rI0 fun i j => .bl (decide (j < i))) wGt := br_b0 (p := fun i j => decide (j < i))
theorem br_ge : BR K (rI0 fun i j => .bl (decide (j ≤ i))) wGe := br_b0 (p := fun i j => decide (j ≤ i))
theorem br_eqI : BR K (rI0 fun i j => .bl (decide (i = j))) wEqI := br_b0 (p := fun i j => decide (i = j))
theorem br_neI : BR K (rI0 fun i j => .bl (!decide (i = j))) wNeI := br_b0 (p := fun i j => !decide (i = j))
end
section
variable {X : Cx} {Wx : WX} {a b : Expr} {Wa Wb : WE} {pos : Pos}
def wNeg (Wa : WE) : WE := fun EX ρ P => Wa EX ρ fun a ρ1 => match a with
  | .fz (.int i) => P (.fz (.int (-i))) ρ1
  | _ => False
def wAbsI : List D → (DV → Prop) → Prop := fun ds P => match ds with
  | [.int i] => P (.fz (.int (if i < 0 then -i else i)))
  | _ => False
def wMaxI : List D → (DV → Prop) → Prop := fun ds P => match ds with
  | [.int i, .int j] => P (.fz (.int (if j > i then j else i)))
  | _ => False
def wMinI : List D → (DV → Prop) → Prop := fun ds P => match ds with
  | [.int i, .int j] => P (.fz (.int (if j < i then j else i)))
  | _ => False
theorem je_neg (h : JE X Wx a Wa) : JE X Wx (.UnaryOp .USub a pos) (wNeg Wa) := je_un un_neg h
end
section
variable {K : PySem.W.Frag}
theorem cr_absI : CRl K (fun xs H Q => ∃ i, xs = [.int i] ∧ Q (.int (if i < 0 then -i else i)) H) wAbsI := cr_absD
theorem cr_maxI : CRl K (fun xs H Q => ∃ i j, xs = [.int i, .int j] ∧ Q (.int (if j > i then j else i)) H) wMaxI := cr_max2D
theorem cr_minI : CRl K (fun xs H Q => ∃ i j, xs = [.int i, .int j] ∧ Q (.int (if j < i then j else i)) H) wMinI := cr_min2D
end
end L2.DL

/-! # DLn.lean -/
set_option Elab.async false
set_option linter.all false
set_option maxRecDepth 100000
namespace L2.DL
open PySem PySem.Spec PyProof.Rows
/-! ## defs that may raise -/
theorem Sg.new {K : PySem.W.Frag} {e : Ent} {ρ : DEnv} {F : Hp} {σ : St} {H : Hp} {dd : Addr} (s : Sg K e ρ F σ H) (h : H dd = none) : e.H dd = none ∧ ∀ u, (dd, u) ∉ e.pn :=
  ⟨(s.free h).2, fun u hu => by have := (s.pin _ hu).1; rw [h] at this; cases this⟩
abbrev RX := List D → (DV → Prop) → (Str → List (Str × D) → Prop) → Prop
def spX (K : PySem.W.Frag) (R : RX) : Sp := fun vs H Q E => ∃ F ds P EP, Same F H ∧ IsL K F ds vs ∧ R ds P EP ∧
  (∀ F' H' v dv, Stp F H F' H' [] → Same F' H' → Out K H F' H' dv v → P dv → Q v H') ∧
  ∀ C dd fs kvs F' H', Stp F H F' H' [] → Same F' H' → H' dd = some (.xd fs) → F' dd = none → H dd = none → IsKV K F' kvs fs → EP C kvs → E (.ref (He.ga K C)) (some dd) H'
section
variable {X : Cx} {Wx : WX} {f : Addr} {fd : FuncData} {ps : List Str} {k : Nat} {x : Str} {p pos : Pos} {a : Expr} {es : List Expr} {Wargs : WA} {K : PySem.W.Frag}
def wCallX (R : RX) (Wa : WA) : WE := fun EX ρ P => Wa EX ρ fun ds ρ1 => R ds (fun dv => P dv ρ1) fun C kvs => EX C kvs ρ1
theorem je_callX {R : RX} (G : FnOk X.prog X.w X.K X.mg X.base (L2.CX X.prog X.w) k f fd ps (spX X.K R)) (hr : Room k X.A) (tk : Takes X Wx) (hg : Gl X x) (hm : X.mg x = some (.ref f)) (hk : PySem.W.keepIn X.K (.ref f) = true) (hb : Binds X.K fd ps [])
    (ha : JA X Wx (a :: es) Wargs) (hdb : (x == ("__debug__" : Str)) = false := by decide) (he : starEach (a :: es) X.env = (false, eval a X.env) :: starEach es X.env := by rfl) (hpl : (backTo pos (starEach es X.env)).any (·.1) = false := by rfl) :
    JE X Wx (.Call (.Name x p) (a :: es) [] pos) (wCallX R Wargs) := by
  refine PE.wk (pe_callS G hr hg hm hk hb (fun σ => passAt tk σ) ha hdb he hpl) fun σ H Q h => ?_
  obtain ⟨e, ρ, F, EX, P, s, w0, hx, kk⟩ := h
  refine ⟨e, ρ, F, EX, _, s, w0, hx, fun F1 H1 vs ds ρ1 s1 m1 i1 q1 => ?_⟩
  refine ⟨F1, ds, _, _, s1.fh, i1, q1, fun F' H' v dv st fh o pp => ?_, fun C dd fs kvs F' H' st fh h1 h2 h0 h3 h4 => ?_⟩
  · have s2 := s1.later fh st
    exact kk F' H' v dv ρ1 s2 (m1.trans st.ff) (Out.res s1 o) pp
  · exact hx C dd fs kvs ρ1 F' σ H' (s1.later fh st) h1 h2 (s1.new h0) h3 h4
/-! ## an exception class's own __init__, raise -/
/-- __init__ that keeps its arguments under the names fl -/
def spI (C : Addr) (fl : List Str) : Sp := fun vs H Q _ => ∃ a ws, vs = .ref a :: ws ∧ ws.length = fl.length ∧ H a = some (exo a C none) ∧
  ∀ dx H', H dx = none → dx ≠ a → H' a = some (exo a C (some dx)) → H' dx = some (exd dx (fl.zip ws).reverse) → (∀ b, b ≠ a → b ≠ dx → H' b = H b) → Q .non H'
def wRaise (C : Str) (fl : List Str) (Wa : WA) : WS := fun E ρ => Wa E.ex ρ fun ds ρ1 => ds.length = fl.length ∧ E.ex C (fl.zip ds).reverse ρ1
theorem kvd_zip {F : Hp} : ∀ {fl : List Str} {ds : List D} {vs : List V}, IsL K F ds vs → IsKV K F (fl.zip ds) (fl.zip vs)
  | [], _, _, _ => by simp only [List.zip_nil_left]; exact .nil
  | f :: fl, [], vs, h => by
    simp only [IsL] at h
    subst h; simp only [List.zip_nil_right]; exact .nil
  | f :: fl, d :: ds, vs, h => by
    simp only [IsL] at h
    obtain ⟨v, r, rfl, h1, h2⟩ := h
    rw [List.zip_cons_cons, List.zip_cons_cons]
    exact .cons ⟨rfl, h1⟩ (kvd_zip h2)
theorem paired_app {α β : Type} {R : α → β → Prop} : ∀ {xs ys : List α} {us vs : List β}, Paired R xs us → Paired R ys vs → Paired R (xs ++ ys) (us ++ vs)
  | [], _, _, _, .nil, h => h
  | _ :: _, _, _ :: _, _, .cons a t, h => .cons a (paired_app t h)
theorem paired_rev {α β : Type} {R : α → β → Prop} : ∀ {xs : List α} {us : List β}, Paired R xs us → Paired R xs.reverse us.reverse
  | [], _, .nil => .nil
  | x :: xs, u :: us, .cons a t => by
    rw [List.reverse_cons, List.reverse_cons]
    exact paired_app (paired_rev t) (.cons a .nil)
theorem Sg.laid {e : Ent} {ρ : DEnv} {F H : Hp} {σ : St} {d : Addr} {o : HO} (s : Sg K e ρ F σ H) (hd : H d = none) : Sg K e ρ F σ (upd H d o) := by
  obtain ⟨hf, he⟩ := s.free hd
  exact s.later (fun b u h => by rw [upd_ne (ne_of_none (s.fh _ _ h) hd)]; exact s.fh _ _ h) ⟨Same.refl _, fun q u h _ => by rw [upd_ne (ne_of_none h hd)]; exact h, fun q u h => ⟨u, by rw [upd_ne (ne_of_none h hd)]; exact h⟩, fun _ _ _ h => h⟩
theorem js_raise {C fI : Addr} {fl : List Str} {k : Nat} {p2 : Pos} (hC : C = He.ga X.K x) (hc : X.calm = true) (tk : Takes X Wx) (T : OexC X.K C) (iC : PySem.W.findIn X.K (.ref C) "__init__" = some (some (.ref fI))) (tI : PySem.W.typeIn X.K (.ref fI) = some (.type "function"))
    (F1 : FnOk X.prog X.w X.K X.mg X.base CX0 k fI fd ps (spI C fl)) (hr : Room (k + 1) X.A) (hb : Binds X.K fd ps []) (hz : fl.length ≤ 1000) (hg : Gl X x) (hm : X.mg x = some (.ref C)) (ha : JA X Wx (a :: es) Wargs)
    (hdb : (x == ("__debug__" : Str)) = false := by decide) (he : starEach (a :: es) X.env = (false, eval a X.env) :: starEach es X.env := by rfl) (hpl : (backTo pos (starEach es X.env)).any (·.1) = false := by rfl) :
    JS X Wx (.Raise (some (.Call (.Name x p) (a :: es) [] pos)) none p2) (wRaise x fl Wargs) := by
  subst hC
  refine PS.wk (ps_raise hc tk (pmk_oex T iC tI F1 hr hb .nil pass0 hg hm ha hdb he hpl)) fun D σ H h => ?_
  obtain ⟨e, ρ, F, E, s, w0, rf⟩ := h
  refine ⟨e, ρ, F, E.ex, _, s, w0, rf.ex, fun F1 H1 vs ds ρ1 s1 m1 i1 q1 => ?_⟩
  obtain ⟨hl, q⟩ := q1
  have hv : vs.length = fl.length := by rw [← i1.len, hl]
  refine ⟨by rw [hv]; exact hz, fun ad na => ?_⟩
  refine ⟨ad, vs, by rw [List.append_nil], hv, upd_same, fun dx H' n1 n2 h1 h2 h3 => ⟨rfl, dx, _, h1, h2, ?_, ?_⟩⟩
  · rwa [upd_ne n2] at n1
  · have nd : H1 dx = none := by rwa [upd_ne n2] at n1
    have eq : upd (del H' ad) dx (.xd (fl.zip vs).reverse) = upd H1 dx (.xd (fl.zip vs).reverse) := by
      funext b
      by_cases hb1 : b = dx
      · subst hb1; rw [upd_same, upd_same]
      · rw [upd_ne hb1, upd_ne hb1]
        by_cases hb2 : b = ad
        · subst hb2; rw [del_same, na]
        · rw [del_ne hb2, h3 b hb2 hb1, upd_ne hb2]
    rw [eq]
    exact rf.ex x dx _ _ ρ1 F1 σ _ (s1.laid nd) upd_same (s1.free nd).1 (s1.new nd) (paired_rev (kvd_zip i1)) q
/-- a def that may raise keeps its promise by its body's reading -/
def endX (P : DV → Prop) (EP : Str → List (Str × D) → Prop) : DEnds := { nx := fun _ => P (.fz .non), rt := fun dv _ => dv.mine ∧ P dv, ex := fun C kvs _ => EP C kvs }
end
section
variable {P : Program} {w : World} {K : PySem.W.Frag} {mg : Str → Option Value} {base : Heap}
theorem Fun.okFX {x qual : Str} {st : Stmt} {f : Addr} {fd : FuncData} {N ps : List Str} {k : Nat} {R : RX} {W : WS} (Fn : Fun K x qual st f fd) (S : FnScope N ps (defScope st)) (hl : ∀ ds Q E, R ds Q E → ds.length = ps.length) (hN : ps.length ≤ N.length)
    (hj : ∀ (cdv : Value) (A : Around) (outer : List Env) (s : Shared) (H : Hp) (E : XK), Room k (A.deeper (envOfC qual (defScope st) s.heap.objs.size f cdv)) →
      JSs (cxOf (L2.CX P w) P w K mg base N qual (defScope st) f cdv A outer s H E) (fun cls d _ H' => E cls d H') (defBody st) W)
    (hv : ∀ ds Q E, R ds Q E → W (endX Q E) (argD N ds)) : FnOk P w K mg base (L2.CX P w) (k + 1) f fd ps (spX K R) := by
  refine Fn.okX S (fun vs H Q E h => ?_) fun cdv A outer s H vs Q E hr h => ⟨_, hj cdv A outer s H E hr, ?_⟩
  · obtain ⟨F, ds, P, EP, _, i, r, _⟩ := h
    rw [← i.len]; exact hl ds P EP r
  · obtain ⟨F, ds, P', EP, m, i, r, q, q2⟩ := h
    have hlen := hl ds _ _ r
    refine ⟨⟨F, H, [], []⟩, argD N ds, F, endX P' EP, sg_args m (by rw [← i.len, hlen]; exact hN) i rfl rfl rfl, hv ds P' EP r, ⟨fun ρ F' σ' H' s' h' => ?_, fun ρ F' σ' H' v dv s' res h' => ?_, fun _ _ _ _ _ h => h, fun _ _ _ _ _ h => h, fun C dd fs kvs ρ' F' σ' H' s' h1 h2 h0 h3 h4 => q2 C dd fs kvs F' H' s'.st s'.fh h1 h2 h0.1 h3 h4⟩⟩
    · exact q F' H' .non (.fz .non) s'.st s'.fh (by simp [Out, Is]) h'
    · refine q F' H' v dv s'.st s'.fh ?_ h'.2
      cases dv with
      | fz d => exact res.1
      | lk _ c => exact h'.1.elim
      | mu b c =>
        obtain ⟨p, o, rfl, h1, h2, h3, h4, h5, h6⟩ := res.1
        exact ⟨p, o, rfl, h'.1, h1, h2 h'.1, h5, h6⟩
end
end L2.DL

/-! # DLo.lean -/
set_option Elab.async false
set_option linter.all false
set_option maxRecDepth 100000
namespace L2.DL
open PySem PySem.Spec PyProof.Rows
section
variable {P : Program} {w : World} {K : PySem.W.Frag} {mg : Str → Option Value} {base : Heap} {C : Addr}
theorem init1 {qual n1 p0 p1 : Str} {st : Stmt} {f : Addr} {fd : FuncData} (F : Fun K "__init__" qual st f fd) (S : FnScope [p0, p1] [p0, p1] (defScope st)) (T : OexC K C) (no : PySem.W.findIn K (.ref C) n1 = some none)
    (hb : ∀ (cdv : Value) (A : Around) (outer : List Env) (s : Shared) (H : Hp) (E : XK), PSs (cxOf CX0 P w K mg base [p0, p1] qual (defScope st) f cdv A outer s H E).nox (defBody st) (tOst K n1 (tVar 0) (tVar 1))) : FnOk P w K mg base CX0 1 f fd [p0, p1] (spI C [n1]) := by
  refine F.ok S (fun vs H Q E h => ?_) fun cdv A outer s H vs Q E hr h => ⟨_, hb cdv A outer s H E, ?_⟩
  · obtain ⟨a, ws, rfl, hl, _⟩ := h
    show ws.length + 1 = 2
    rw [hl]; rfl
  · obtain ⟨a, ws, rfl, hl, ha, q⟩ := h
    match ws, hl with
    | [y], _ =>
      refine ⟨y, rfl, .ref a, rfl, a, C, rfl, T, no, .inl ⟨ha, fun dx nd ne => ?_⟩⟩
      exact q dx _ nd ne upd_same (by rw [upd_ne ne, upd_same]; rfl) fun b h1 h2 => by rw [upd_ne h1, upd_ne h2]
theorem init2 {qual n1 n2 p0 p1 p2 : Str} {st : Stmt} {f : Addr} {fd : FuncData} (F : Fun K "__init__" qual st f fd) (S : FnScope [p0, p1, p2] [p0, p1, p2] (defScope st)) (T : OexC K C) (no1 : PySem.W.findIn K (.ref C) n1 = some none) (no2 : PySem.W.findIn K (.ref C) n2 = some none)
    (hb : ∀ (cdv : Value) (A : Around) (outer : List Env) (s : Shared) (H : Hp) (E : XK), PSs (cxOf CX0 P w K mg base [p0, p1, p2] qual (defScope st) f cdv A outer s H E).nox (defBody st) (tSeq (tOst K n1 (tVar 0) (tVar 1)) (tOst K n2 (tVar 0) (tVar 2)))) : FnOk P w K mg base CX0 1 f fd [p0, p1, p2] (spI C [n1, n2]) := by
  refine F.ok S (fun vs H Q E h => ?_) fun cdv A outer s H vs Q E hr h => ⟨_, hb cdv A outer s H E, ?_⟩
  · obtain ⟨a, ws, rfl, hl, _⟩ := h
    show ws.length + 1 = 3
    rw [hl]; rfl
  · obtain ⟨a, ws, rfl, hl, ha, q⟩ := h
    match ws, hl with
    | [y, z], _ =>
      refine ⟨y, rfl, .ref a, rfl, a, C, rfl, T, no1, .inl ⟨ha, fun dx nd ne => ?_⟩⟩
      refine ⟨z, rfl, .ref a, rfl, a, C, rfl, T, no2, .inr ⟨dx, [(n1, y)], upd_same, by rw [upd_ne ne, upd_same], by show 1 ≤ 900; decide, ?_⟩⟩
      exact q dx _ nd ne (by rw [upd_ne (Ne.symm ne), upd_same]) (by rw [upd_same]; rfl) fun b h1 h2 => by rw [upd_ne h2, upd_ne h1, upd_ne h2]
end
end L2.DL

/-! # DLp.lean -/
set_option Elab.async false
set_option linter.all false
set_option maxRecDepth 100000
namespace L2.DL
open PySem PySem.Spec PyProof.Rows
/-- the ends of a suite whose name is slot i -/
def offE (i : Nat) (D : Ends) : Ends := { nx := fun σ1 G => D.nx (σ1.set i none) G, rt := D.rt, bk := fun σ1 G => D.bk (σ1.set i none) G, ct := fun σ1 G => D.ct (σ1.set i none) G }
/-- the clauses in turn, each with a name or without -/
def wClz (K : PySem.W.Frag) (Wout : WX) (D : Ends) : List (Value × Option Nat × (Addr → Value → Option Addr → TS)) → WX
  | [] => Wout
  | (c, none, ts) :: r => fun cls d σ H => ∃ b, PySem.W.exmOne K cls c = some b ∧ (b = true → ∀ a, H a = none → ts a cls d D σ H) ∧ (b = false → wClz K Wout D r cls d σ H)
  | (c, some i, ts) :: r => fun cls d σ H => ∃ b, PySem.W.exmOne K cls c = some b ∧ (b = true → ∀ a, H a = none → ts a cls d (offE i D) (σ.set i (some (.ref a))) H) ∧ (b = false → wClz K Wout D r cls d σ H)
abbrev HdL : Type := List (Value × Option Nat × (Addr → Value → Option Addr → TS))
inductive HdA (X : Cx) : List ExceptHandler → HdL → Prop
  | nil : HdA X [] []
  | cons {x : Str} {c : Value} {ts : Addr → Value → Option Addr → TS} {b₀ : Stmt} {suite : List Stmt} {np pos' : Pos} {hds : List ExceptHandler} {l : HdL} (hc : Names X x c)
      (hsu : ∀ (a : Addr) (oe : Obj) (cls : Value) (d : Option Addr) (pn : List (Addr × Obj)), Zc cls d oe → (∃ vs, oe.data = .fields vs) → PSs (X.suite a ((a, oe) :: pn)) (b₀ :: suite) (ts a cls d)) (r : HdA X hds l) :
      HdA X (.ExceptHandler (some (.Name x np)) none (b₀ :: suite) pos' :: hds) ((c, none, ts) :: l)
  | as {x n : Str} {i : Nat} {c : Value} {ts : Addr → Value → Option Addr → TS} {b₀ : Stmt} {suite : List Stmt} {np pos' : Pos} {hds : List ExceptHandler} {l : HdL} (hN : X.N.Nodup) (hi : X.N[i]? = some n) (hln : X.env.kindOf n = some .local) (hc : Names X x c)
      (hsu : ∀ (a : Addr) (oe : Obj) (cls : Value) (d : Option Addr) (pn : List (Addr × Obj)), Zc cls d oe → (∃ vs, oe.data = .fields vs) → PSs (X.suite a ((a, oe) :: pn)) (b₀ :: suite) (ts a cls d)) (r : HdA X hds l) :
      HdA X (.ExceptHandler (some (.Name x np)) (some n) (b₀ :: suite) pos' :: hds) ((c, some i, ts) :: l)
section
variable {X : Cx} {body : List Stmt} {h₀ : ExceptHandler} {hds : List ExceptHandler} {l : HdL} {pos : Pos} {tb : WX → TS} {Wout : WX}
theorem ps_try_all (hs : X.stack = X.env :: X.outer) (hf : X.env.frame = some X.env.locals) (tk : Takes X Wout)
    (hb : ∀ (W : WX) (pq : List (Addr × Obj)) (xz : Value → Shared → Prop), Takes (X.tr pq xz) W → PassesOwn (model X.prog X.w) X.A X.env xz → PSs (X.tr pq xz) body (tb W))
    (hh : HdA X (h₀ :: hds) l) : PS X (.Try body (h₀ :: hds) [] [] pos) (fun D σ H => tb (wClz X.K Wout D l) D σ H) := by
  refine ⟨fun pnn s σ H D I h => ?_⟩
  have okk := I.ok
  have frm : X.A.frames = some (X.env :: X.outer) := by rw [okk.frames, hs]
  refine wpAny_Try_except ?_
  refine wpAny_mono ((hb (wClz X.K Wout D l) (X.pn ++ pnn) (fun ev s₁ => wpAny (model X.prog X.w) X.A (noteFrame ev X.env) (fun _ s₂ => wpAny (model X.prog X.w) X.A (setFlight ev none) (fun _ s₃ =>
    wpAny (model X.prog X.w) X.A (handleBy ev X.env (h₀ :: hds)) (SP X pnn D) X.xe s₃) X.xe s₂) X.xe s₁) (fun uv sz xx => ?_) PassesOwn.looking).run [] s σ H D (I.toTry _) h) (fun fl s1 hp6 => ?_) (fun ev s1 hea => hea)
  · -- the catch
    obtain ⟨a, B, s0, pz, τ, G1, cls, d, rfl, K0, gn, ux, sk, an, oz, bg, w⟩ := xx
    have K1 : Inv X pnn τ G1 s0 := K0.ofTry okk
    have sk1 : Sky B (X.env :: X.outer) a (Zc cls d) X.env.locals sz.heap := by rw [← hs]; exact sk
    show wpAny (model X.prog X.w) X.A (noteFrame (Value.ref a) X.env) _ _ _
    refine Sky.land Zc.steady frm hf sk1 fun k3 fy3 ux3 => ?_
    have Ka : Inv X pnn τ G1 { sz with heap := k3 } := K1.landed gn fy3.1 (ux.trans ux3) oz bg
    obtain ⟨ob3, fs3, ge3, gz3, gd3⟩ := fy3.there
    have unFr : ∀ {h : Heap} {o : Obj} {vs : Array Value}, h.FunFrames B (X.env :: X.outer) → h.get? a = some o → o.data = .fields vs → a ∉ frs (X.env :: X.outer) := fun {h o vs} ff ev dd hmm => by
      obtain ⟨_, oo, ee, hf0⟩ := ff.mem hmm
      rw [ev] at ee; cases ee
      exact hf0 _ dd
    have nf0 := unFr fy3.2.2.1 ge3 gd3
    have nl0 : a ≠ X.env.locals := fun z => nf0 (List.mem_filterMap.mpr ⟨X.env, List.mem_cons_self, by rw [hf, z]⟩)
    have nf1 : a ∉ X.fs := fun hmm => by
      obtain ⟨ev, hea, q⟩ := List.mem_filterMap.mp hmm
      exact nf0 (List.mem_filterMap.mpr ⟨ev, List.mem_cons_of_mem _ hea, q⟩)
    have T3 := Ka.suite ge3 gd3 an nl0 nf1
    have goo : ∀ {hx' : List ExceptHandler} {lx' : HdL}, HdA X hx' lx' → wClz X.K Wout D lx' cls d τ G1 →
        wpAny (model X.prog X.w) X.A (handleBy (.ref a) X.env hx') (SP X pnn D) X.xe { sz with heap := k3 } := by
      intro hx' lx' hkk
      induction hkk with
      | nil =>
        intro w
        refine wpAny_handleBy_nil ?_
        obtain ⟨m1, m2, m3, oe, vs, Tb, oT, ts', hea, hz, hda, h1a, hr⟩ := id fy3
        unfold PySem.passOn
        refine wpAny_bind (wpAny_field hea hda h1a ?_)
        rw [if_neg (show ¬ ((Value.ref Tb == Value.none) = true) by simp)]
        have fn0 : wpAny (model X.prog X.w) X.A (setFlight (.ref a) X.env.frame) (fun _ s4 => wpAny (model X.prog X.w) X.A (throw (.ref a) : Sem Flow) (SP X pnn D) X.xe s4) X.xe { sz with heap := k3 } := by
          rw [hf]
          refine HandSPX.setFlight_upZ fy3 fun k4 gh4 ux4 => wpAny_throw (tk _ _ ?_)
          exact ⟨a, B, s0, pnn, τ, G1, cls, d, rfl, K1, gn, (ux.trans ux3).trans ux4, .inr (.inr (by rw [hs]; exact gh4)), an, oz, bg, w⟩
        first
          | exact wpAny_bind (wpAny_pure (wpAny_bind fn0))
          | exact wpAny_bind fn0
      | @cons x c ts b₀ suite np pos' hx2 lx2 hc hsu r ih =>
        intro w
        obtain ⟨b, bq, yes0, no0⟩ := w
        refine wpAny_handleBy_cons (codeAny_handlers_test ?_) (by intro qz; cases qz)
        have Lt : PySem.W.Looks (model X.prog X.w) k3 (typeOf (.ref a)) cls := fun A Q E s k q => wpAny_typeOf_ref (k _ _ ge3) (by rw [gz3.1]; exact q)
        have Lm := PySem.W.exm_one (M := model X.prog X.w) (Ka.kIn) Lt bq
        have tst : ∀ {Q : Value → Shared → Prop} {E : Value → Shared → Prop}, Q c { sz with heap := k3 } → wpAny (model X.prog X.w) (X.A.mark (some (.ref a))) (eval (.Name x np) X.env) Q E { sz with heap := k3 } := fun {Q E} q => by
          obtain ⟨hg, dbg, hmm | ⟨hmm, hv, nn1⟩⟩ := hc
          · exact ld_glob (X := X.suite a ((a, ob3) :: (X.pn ++ pnn))) T3 hg hmm q dbg
          · exact ld_blt (X := X.suite a ((a, ob3) :: (X.pn ++ pnn))) T3 hg hmm hv q nn1 dbg
        refine tst (Lm.here ?_)
        cases b with
        | true =>
          refine (codeAny_handlers_suite ?_)
          refine HandSPX.lands_againZ fy3 fun k4 fy4 ux4 => ?_
          have Kb : Inv X pnn τ G1 { sz with heap := k4 } := K1.landed gn fy4.1 ((ux.trans ux3).trans ux4) oz bg
          obtain ⟨ob4, fs4, ge4, gz4, gd4⟩ := fy4.there
          have T4 := Kb.suite ge4 gd4 an nl0 nf1
          refine wpAny_mono ((hsu a ob4 cls d (X.pn ++ pnn) gz4 ⟨_, gd4⟩).run [] _ _ G1 _ T4 (yes0 rfl a an)) (fun fl u6 hp6 => ?_) (fun _ _ z => False.elim z)
          cases fl with
          | next =>
            obtain ⟨τ6, G6, T6, w6⟩ := hp6
            exact ⟨_, _, T6.unsuite okk, w6⟩
          | brk =>
            obtain ⟨τ6, G6, T6, w6⟩ := hp6
            exact ⟨_, _, T6.unsuite okk, w6⟩
          | cont =>
            obtain ⟨τ6, G6, T6, w6⟩ := hp6
            exact ⟨_, _, T6.unsuite okk, w6⟩
          | ret uv =>
            obtain ⟨y6, τ6, G6, T6, z6, w6⟩ := hp6
            exact ⟨_, _, _, T6.unsuite okk, z6, w6⟩
        | false =>
          show wpAny _ X.A (handleBy (.ref a) X.env hx2) _ _ _
          exact ih (no0 rfl)
      | @as x n i c ts b₀ suite np pos' hx2 lx2 hN hi hln hc hsu r ih =>
        intro w
        obtain ⟨b, bq, yes0, no0⟩ := w
        have hlc : Loc X.env.scope n := .inl hln
        refine wpAny_handleBy_cons (codeAny_handlers_test ?_) (by intro qz; cases qz)
        have Lt : PySem.W.Looks (model X.prog X.w) k3 (typeOf (.ref a)) cls := fun A Q E s k q => wpAny_typeOf_ref (k _ _ ge3) (by rw [gz3.1]; exact q)
        have Lm := PySem.W.exm_one (M := model X.prog X.w) (Ka.kIn) Lt bq
        have tst : ∀ {Q : Value → Shared → Prop} {E : Value → Shared → Prop}, Q c { sz with heap := k3 } → wpAny (model X.prog X.w) (X.A.mark (some (.ref a))) (eval (.Name x np) X.env) Q E { sz with heap := k3 } := fun {Q E} q => by
          obtain ⟨hg, dbg, hmm | ⟨hmm, hv, nn1⟩⟩ := hc
          · exact ld_glob (X := X.suite a ((a, ob3) :: (X.pn ++ pnn))) T3 hg hmm q dbg
          · exact ld_blt (X := X.suite a ((a, ob3) :: (X.pn ++ pnn))) T3 hg hmm hv q nn1 dbg
        refine tst (Lm.here ?_)
        cases b with
        | true =>
          refine (codeAny_handlers_suite_as ?_)
          refine HandSPX.lands_againZ fy3 fun k4 fy4 ux4 => ?_
          have Kb : Inv X pnn τ G1 { sz with heap := k4 } := K1.landed gn fy4.1 ((ux.trans ux3).trans ux4) oz bg
          obtain ⟨ob4, fs4, ge4, gz4, gd4⟩ := fy4.there
          have T4 := Kb.suite ge4 gd4 an nl0 nf1
          refine store_ok (X := X.suite a ((a, ob4) :: (X.pn ++ pnn))) (v := .ref a) T4 hN hi hlc rfl (fun u5 T5 => ?_) (.inr hln)
          refine wpAny_mono ((hsu a ob4 cls d (X.pn ++ pnn) gz4 ⟨_, gd4⟩).run [] u5 _ G1 _ T5 (yes0 rfl a an)) (fun fl u6 hp6 => ?_) (fun _ _ z => False.elim z)
          have fin_ : ∀ {τ6 : St} {G6 : Hp} {Q : Shared → Prop}, Inv (X.suite a ((a, ob4) :: (X.pn ++ pnn))) [] τ6 G6 u6 → (∀ u7, Inv X pnn (τ6.set i none) G6 u7 → Q u7) →
              wpAny (model X.prog X.w) X.A (do bindName X.env n .none; unbindBehindTheSuite X.env n pos') (fun _ u7 => Q u7) X.xe u6 := fun {τ6 G6 Q} T6 hq => gone_ok (T6.unsuite okk) hN hi hln hq
          cases fl with
          | next =>
            obtain ⟨τ6, G6, T6, w6⟩ := hp6
            exact fin_ T6 fun u7 Kd => ⟨_, _, Kd, w6⟩
          | brk =>
            obtain ⟨τ6, G6, T6, w6⟩ := hp6
            exact fin_ T6 fun u7 Kd => ⟨_, _, Kd, w6⟩
          | cont =>
            obtain ⟨τ6, G6, T6, w6⟩ := hp6
            exact fin_ T6 fun u7 Kd => ⟨_, _, Kd, w6⟩
          | ret uv =>
            obtain ⟨y6, τ6, G6, T6, z6, w6⟩ := hp6
            exact fin_ T6 fun u7 Kd => ⟨_, _, _, Kd, z6, w6⟩
        | false =>
          show wpAny _ X.A (handleBy (.ref a) X.env hx2) _ _ _
          exact ih (no0 rfl)
    exact goo hh w
  · cases fl with
    | next =>
      obtain ⟨τ, G1, K0, q⟩ := hp6
      exact wpAny_execs_nil ⟨τ, G1, K0.ofTry okk, q⟩
    | brk =>
      obtain ⟨τ, G1, K0, q⟩ := hp6
      exact ⟨τ, G1, K0.ofTry okk, q⟩
    | cont =>
      obtain ⟨τ, G1, K0, q⟩ := hp6
      exact ⟨τ, G1, K0.ofTry okk, q⟩
    | ret uv =>
      obtain ⟨v, τ, G1, K0, r, q⟩ := hp6
      exact ⟨v, τ, G1, K0.ofTry okk, r, q⟩
end
end L2.DL

/-! # DLq.lean -/
set_option Elab.async false
set_option linter.all false
set_option maxRecDepth 100000
namespace L2.DL
open PySem PySem.Spec PyProof.Rows
/-! ## try .. except -/
theorem set_get {α : Type} {xs : List α} {i j : Nat} {v : α} {x : α} (h : (xs.set i v)[j]? = some x) : (j = i ∧ x = v ∧ i < xs.length) ∨ (j ≠ i ∧ xs[j]? = some x) := by
  by_cases e : i = j
  · subst e
    have hl : i < xs.length := by
      have := (List.getElem?_eq_some_iff.mp h).1
      simpa using this
    rw [List.getElem?_set_self hl] at h
    exact .inl ⟨rfl, (Option.some.inj h).symm, hl⟩
  · rw [List.getElem?_set_ne e] at h
    exact .inr ⟨fun z => e z.symm, h⟩
section
variable {K : PySem.W.Frag} {e : Ent} {ρ : DEnv} {F : Hp} {σ : St} {H : Hp} {i : Nat}
/-- a slot is let go -/
theorem Sg.clr (s : Sg K e ρ F σ H) : Sg K e (ρ.set i none) F (σ.set i none) H where
  fh := s.fh
  st := s.st
  len := by simp [s.len]
  sl := fun j dv h => by
    rcases set_get h with ⟨_, z, _⟩ | ⟨ne, h⟩
    · cases z
    · obtain ⟨v, a, b⟩ := s.sl j dv h
      exact ⟨v, by rw [List.getElem?_set_ne (Ne.symm ne)]; exact a, b⟩
  ap := fun j k dv dw v h1 h2 o1 o2 g1 g2 => by
    rcases set_get h1 with ⟨_, z, _⟩ | ⟨n1, h1⟩
    · cases z
    · rcases set_get h2 with ⟨_, z, _⟩ | ⟨n2, h2⟩
      · cases z
      · rw [List.getElem?_set_ne (Ne.symm n1)] at g1
        rw [List.getElem?_set_ne (Ne.symm n2)] at g2
        exact s.ap j k dv dw v h1 h2 o1 o2 g1 g2
  pin := s.pin
/-- a new object of another kind is frozen -/
theorem Sg.frzX {dd : Addr} {fs : List (Str × V)} (s : Sg K e ρ F σ H) (h1 : H dd = some (.xd fs)) (h2 : F dd = none) (h3 : e.H dd = none) (hp : ∀ u, (dd, u) ∉ e.pn) : Sg K e ρ (upd F dd (.xd fs)) σ H := by
  have sm : Same F (upd F dd (.xd fs)) := fun b u h => by rw [upd_ne (ne_of_none h h2)]; exact h
  refine ⟨fun b u h => ?_, ⟨s.st.ff.trans sm, s.st.keep, s.st.there, fun q u h n => ?_⟩, s.len, fun j dv h => ?_, s.ap, fun p hq => ?_⟩
  · by_cases hb : b = dd
    · subst hb; rw [upd_same] at h; cases h; exact h1
    · rw [upd_ne hb] at h; exact s.fh _ _ h
  · by_cases hb : q = dd
    · subst hb; rw [h3] at h; cases h
    · rw [upd_ne hb]; exact s.st.old q u h n
  · obtain ⟨v, a, b⟩ := s.sl j dv h
    refine ⟨v, a, ?_⟩
    cases dv with
    | fz d => exact Is.mono sm d b
    | lk q c =>
      obtain ⟨u, od, rfl, c1, c2⟩ := b
      exact ⟨u, od, rfl, c1, c2.mono sm⟩
    | mu b' c =>
      obtain ⟨q, u, rfl, c1, c2, c3, c4, c5, c6⟩ := b
      have ne : q ≠ dd := fun z => by
        rw [z, h1] at c5
        cases c5
        cases c with
        | lst _ => obtain ⟨_, z, _⟩ := c6; cases z
        | dk _ => obtain ⟨_, z, _⟩ := c6; cases z
        | dt _ => obtain ⟨_, z, _⟩ := c6; cases z
        | ins _ _ => obtain ⟨_, _, z, _⟩ := c6; cases z
      exact ⟨q, u, rfl, by rw [upd_ne ne]; exact c1, c2, c3, c4, c5, c6.mono sm⟩
  · obtain ⟨b1, b2, b3⟩ := s.pin p hq
    have ne : p.1 ≠ dd := fun z => hp p.2 (by rw [← z]; exact hq)
    exact ⟨b1, by rw [upd_ne ne]; exact b2, b3⟩
end
def offD (i : Nat) (E : DEnds) : DEnds := { nx := fun ρ => E.nx (ρ.set i none), rt := E.rt, bk := fun ρ => E.bk (ρ.set i none), ct := fun ρ => E.ct (ρ.set i none) }
abbrev Clz : Type := List (Str × Option Nat × (Addr → Str → Option Addr → WS))
def wHd (sub : Str → Str → Option Bool) (E : DEnds) : Clz → EXt
  | [] => E.ex
  | (c, none, Ws) :: r => fun C kvs ρ => ∃ b, sub C c = some b ∧ (b = true → ∀ a dd, Ws a C (some dd) { E with ex := NX } ρ) ∧ (b = false → wHd sub E r C kvs ρ)
  | (c, some i, Ws) :: r => fun C kvs ρ => ∃ b, sub C c = some b ∧ (b = true → ∀ a dd, Ws a C (some dd) (offD i E) (ρ.set i (some (.fz (.exc C a dd (kvs.map (·.1)) (kvs.map (·.2))))))) ∧ (b = false → wHd sub E r C kvs ρ)
def wTry (sub : Str → Str → Option Bool) (cl : Clz) (Wb : WS) : WS := fun E ρ => Wb { E with ex := wHd sub E cl } ρ
/-- a suite's wish: the exception is of a class that has a name -/
def suT (K : PySem.W.Frag) (Ws : Addr → Str → Option Addr → WS) : Addr → Value → Option Addr → TS := fun a cls d D σ H => ∃ C, cls = .ref (He.ga K C) ∧ cS K NW (Ws a C d) D σ H
def clzL (K : PySem.W.Frag) (cl : Clz) : HdL := cl.map fun q => (.ref (He.ga K q.1), q.2.1, suT K q.2.2)
section
variable {X : Cx} {Wx : WX} {body : List Stmt} {h₀ : ExceptHandler} {hds : List ExceptHandler} {Wb : WS} {pos : Pos} {sub : Str → Str → Option Bool} {cl : Clz}
theorem hd_ok {K : PySem.W.Frag} (hsub : ∀ C c b, sub C c = some b → PySem.W.exmOne K (.ref (He.ga K C)) (.ref (He.ga K c)) = some b) {e : Ent} {E : DEnds} {D : Ends} (rf : Rf K Wx e E D) : ∀ cl : Clz, Hx K (wClz K Wx D (clzL K cl)) e (wHd sub E cl)
  | [] => rf.ex
  | (c, none, Ws) :: r => fun C dd fs kvs ρ F σ H s h1 h2 h0 h3 hE => by
    obtain ⟨b, hb, yes, no⟩ := hE
    refine ⟨b, hsub _ _ _ hb, fun hb1 a na => ⟨C, rfl, e, ρ, F, _, s, yes hb1 a dd, ⟨rf.nx, rf.rt, rf.bk, rf.ct, Hx.never⟩⟩, fun hb0 => ?_⟩
    exact hd_ok hsub rf r C dd fs kvs ρ F σ H s h1 h2 h0 h3 (no hb0)
  | (c, some i, Ws) :: r => fun C dd fs kvs ρ F σ H s h1 h2 h0 h3 hE => by
    obtain ⟨b, hb, yes, no⟩ := hE
    refine ⟨b, hsub _ _ _ hb, fun hb1 a na => ?_, fun hb0 => hd_ok hsub rf r C dd fs kvs ρ F σ H s h1 h2 h0 h3 (no hb0)⟩
    have s2 := s.frzX h1 h2 h0.1 h0.2
    have sm : Same F (upd F dd (.xd fs)) := fun b u h => by rw [upd_ne (ne_of_none h h2)]; exact h
    obtain ⟨vs, e1, e2, e3⟩ := KVD.split h3
    have is : Is K (upd F dd (.xd fs)) (.exc C a dd (kvs.map (·.1)) (kvs.map (·.2))) (.ref a) := by
      simp only [Is]
      have e4 := e3.mono sm
      rw [e1] at e4 ⊢
      exact ⟨vs, trivial, upd_same, e2, e4⟩
    exact ⟨C, rfl, e, _, _, _, s2.set (Res.fz is), yes hb1 a dd, ⟨fun ρ1 F1 σ1 H1 s1 n1 => rf.nx _ _ _ _ s1.clr n1, rf.rt, fun ρ1 F1 σ1 H1 s1 n1 => rf.bk _ _ _ _ s1.clr n1, fun ρ1 F1 σ1 H1 s1 n1 => rf.ct _ _ _ _ s1.clr n1, Hx.never⟩⟩
theorem js_try (hsub : ∀ C c b, sub C c = some b → PySem.W.exmOne X.K (.ref (He.ga X.K C)) (.ref (He.ga X.K c)) = some b) (hs : X.stack = X.env :: X.outer) (hf : X.env.frame = some X.env.locals) (tk : Takes X Wx)
    (hb : ∀ (W : WX) (pq : List (Addr × Obj)) (xz : Value → Shared → Prop), Takes (X.tr pq xz) W → PassesOwn (model X.prog X.w) X.A X.env xz → JSs (X.tr pq xz) W body Wb)
    (hh : HdA X (h₀ :: hds) (clzL X.K cl)) : JS X Wx (.Try body (h₀ :: hds) [] [] pos) (wTry sub cl Wb) := by
  refine PS.wk (ps_try_all (tb := fun W => cS X.K W Wb) hs hf tk (fun W pq xz t p => hb W pq xz t p) hh) fun D σ H h => ?_
  obtain ⟨e, ρ, F, E, s, w0, rf⟩ := h
  exact ⟨e, ρ, F, _, s, w0, ⟨rf.nx, rf.rt, rf.bk, rf.ct, hd_ok hsub rf cl⟩⟩
end
section
variable {X : Cx} {a : Addr} {oe : Obj} {cls : Value} {d : Option Addr} {pn : List (Addr × Obj)}
theorem pss_su {ss : List Stmt} {Ws : Addr → Str → Option Addr → WS} (h : ∀ C, cls = .ref (He.ga X.K C) → JSs (X.suite a ((a, oe) :: pn)) NW ss (Ws a C d)) : PSs (X.suite a ((a, oe) :: pn)) ss (suT X.K Ws a cls d) := ⟨fun pins s σ H D I q => by
  obtain ⟨C, hC, q⟩ := q
  exact (h C hC).run pins s σ H D I q⟩
/-- e.n of a caught exception of the class C0 -/
def wXf (a : Addr) (C : Str) (d : Option Addr) (C0 n : Str) (We : WE) : WE := fun EX ρ P => We EX ρ fun dv ρ1 => match dv with
  | .fz (.exc _ a' dd ns ds) => a' = a ∧ d = some dd ∧ C = C0 ∧ ∃ v, (ns.zip ds).lookup n = some v ∧ P (.fz v) ρ1
  | _ => False
theorem lookup_is {K : PySem.W.Frag} {F : Hp} {n : Str} : ∀ {ns : List Str} {ds : List D} {vs : List V} {x : D}, IsL K F ds vs → (ns.zip ds).lookup n = some x → ∃ v, (ns.zip vs).lookup n = some v ∧ Is K F x v
  | [], _, _, _, _, h => by simp at h
  | _ :: _, [], _, _, _, h => by simp at h
  | m :: ns, y :: ds, vs, x, i, h => by
    simp only [IsL] at i
    obtain ⟨v, r, rfl, i1, i2⟩ := i
    rw [List.zip_cons_cons, List.lookup_cons] at h ⊢
    cases e : n == m with
    | true => rw [e] at h; cases h; exact ⟨v, rfl, i1⟩
    | false => rw [e] at h; exact lookup_is i2 h
theorem je_xf {C C0 n : Str} {ex : Expr} {We : WE} {pos : Pos} (hC : cls = .ref (He.ga X.K C)) (T : XfC X.K (He.ga X.K C0)) (hno : PySem.W.findIn X.K (.ref (He.ga X.K C0)) n = some none) (hz : Zc cls d oe) (hf : ∃ vs, oe.data = .fields vs)
    (h : JE (X.suite a ((a, oe) :: pn)) NW ex We) (hb : attributeBase ex n X.env (eval ex X.env) = eval ex X.env := by rfl) : JE (X.suite a ((a, oe) :: pn)) NW (.Attribute ex n pos) (wXf a C d C0 n We) := by
  refine PE.wk (pe_xf T hno hz hf h hb) fun σ H Q h => ?_
  obtain ⟨e, ρ, F, EX, P, s, w0, hx, k⟩ := h
  refine ⟨e, ρ, F, EX, _, s, w0, hx, fun F1 H1 v1 d1 ρ1 s1 m1 r1 q1 => ?_⟩
  split at q1
  · obtain ⟨rfl, rfl, rfl, y, hy, q⟩ := q1
    have i1 := r1.1
    simp only [Sl, Is] at i1
    obtain ⟨vs, rfl, hF, hl, i2⟩ := i1
    obtain ⟨v, hv, iv⟩ := lookup_is i2 hy
    exact ⟨rfl, hC, _, _, v, rfl, s1.fh _ _ hF, hv, k F1 H1 v _ ρ1 s1 m1 (Res.fz iv) q⟩
  · exact q1.elim
end
end L2.DL

/-! # DLr.lean -/
set_option Elab.async false
set_option linter.all false
set_option maxRecDepth 100000
set_option maxHeartbeats 4000000
namespace PySem.W
open PySem PySem.Spec PySem.Calls PyProof.Rows
section
variable {prog : Program} {w : World} {A : Around} {E : Value → Shared → Prop} {s : Shared} {K : Frag} {x D : Addr} {ox : Obj}
theorem fo_data {od : Option Obj} {C : Addr} {name : Str} {a gg : Value} (hc : (clsIn K C).isSome = true) (aa : findIn K (.ref C) name = some (some a)) (hg : specialIn K a "__get__" = some (some gg)) (ht : takesIn K a = some true) : findObj K C od name = some (.bind gg a) := by
  obtain ⟨cd, hc⟩ := Option.isSome_iff_exists.mp hc
  unfold findObj
  rw [hc, Option.bind_some, aa, Option.bind_some]
  simp [hg, ht]
theorem cls_ofE {od : Option Obj} {Q : Option Value → Shared → Prop} (qa : findIn K (.ref D) "__getattribute__" = some (some (.builtin "BaseException.__getattribute__"))) (qg : findIn K (.ref D) "__getattr__" = some none) (qs : subIn K (.ref D) (.type "BaseException") = some true)
    (qd : hasDictIn K D = true) (aa : findIn K (.ref D) "__class__" = some (some (.builtin "object.__class__")))
    (nn : specialIn K (.builtin "object.__class__") "__get__" = some (some (.builtin "getset_descriptor.__get__"))) (qt : takesIn K (.builtin "object.__class__") = some true) (mm : mroIn K D (.type "object") = some true)
    (XX : K.In s.heap) (II : InstAt s.heap x ox D od) (hh : Q (some (.ref D)) { s with toks := s.toks + 1 }) : wpAny (model prog w) A (getAttr? (.ref x) "__class__") Q E s := by
  have ff0 : findObj K D od "__class__" = some (.bind (.builtin "getset_descriptor.__get__") (.builtin "object.__class__")) := fo_data (by obtain ⟨cd, hc, _⟩ := any_some qd; rw [hc]; rfl) aa nn qt
  obtain ⟨hpp, gg, d, t, oz⟩ := s
  have M0 := II.type (M := model prog w)
  have M1 := looks_findIn (M := model prog w) XX qa
  have M2 := looks_findIn (M := model prog w) XX qg
  have M3 := looks_find (M := model prog w) XX II ff0
  have sb : Looks (model prog w) hpp (isInstance (.ref x) (.type "BaseException")) true := M0.andThen (looks_subIn XX qs)
  have y0 : (false && onTheHeap (Value.builtin "BaseException.__getattribute__")) = false := rfl
  have y2 : (Value.builtin "BaseException.__getattribute__" == Value.builtin "object.__getattribute__") = false := by decide +kernel
  have y1 : (onTheHeap (Value.ref D) && Value.builtin "BaseException.__getattribute__" == Value.builtin "object.__getattribute__") = false := by rw [y2]; rfl
  unfold getAttr? getAttrBy? getAttrBy
  refine wpAny_bind (wpAny_mkText (wpAny_bind (wpAny_attempt (wpAny_holding (wpAny_bind (M0.at (wpAny_bind (M1.at ?_))))))))
  show wpAny _ _ (if (onTheHeap (Value.ref D) && Value.builtin "BaseException.__getattribute__" == Value.builtin "object.__getattribute__") = true then _ else _) _ _ _
  rw [y1, if_neg Bool.false_ne_true]
  unfold getAttrByItsOwn hookBefore
  refine wpAny_bind ?_
  rw [if_pos (show onTheHeap (Value.ref D) = true from rfl)]
  refine M2.at ?_
  refine wpAny_bind (wpAny_attempt (wpAny_holding ?_))
  unfold callGetattribute
  rw [y0, if_neg Bool.false_ne_true]
  unfold boundAndCalled
  rw [PySem.F.excAttr_ValueError.ga.bind (.ref x)]
  refine wpAny_bind (wpAny_pure ?_)
  show wpAny _ _ (call (.builtin "BaseException.__getattribute__") [.ref x, .str "__class__" t]) _ _ _
  refine wpAny_call (codeAny_call_builtin PySem.F.excAttr_ValueError.ga.plain PySem.F.entry_bexc_ga ?_)
  refine @check_slot (model prog w) _ _ ⟨hpp, gg, d, t + 1, oz⟩ "BaseException.__getattribute__" "BaseException" "__getattribute__" (.ref x) [.str "__class__" t] [] _ (by decide +kernel) (by decide +kernel) sb (PySem.F.args_bexc_ga (.ref x) (.str "__class__" t)) ?_
  unfold Builtin.«object.__getattribute__»
  refine wpAny_bind (wpAny_of_eq (a := ((Value.ref x : Value), [Value.str "__class__" t])) (by first | rfl | (simp only [slotArgs]; rfl)) ?_)
  refine wpAny_bind (wpAny_pure (wpAny_bind (M0.at (wpAny_bind (M3.at ?_)))))
  show wpAny _ _ (holding [Value.builtin "object.__class__"] (call (.builtin "getset_descriptor.__get__") [.builtin "object.__class__", .ref x, .ref D]) >>= ret) _ _ _
  refine wpAny_bind (wpAny_holding (wpAny_call (class_get (s := ⟨hpp, gg, d, t + 1, oz⟩) (ox := ox) (od := od) XX II mm ?_)))
  refine wpAny_pure ?_
  show wpAny _ _ (handedOut (.ref D)) _ _ _
  rw [handedOut_of (v := .ref D) rfl]
  first
    | exact wpAny_pure (wpAny_pure hh)
    | exact wpAny_pure hh
    | exact wpAny_pure (wpAny_bind (wpAny_pure (wpAny_pure hh)))
theorem kitx_exO {od : Option Obj} (qa : findIn K (.ref D) "__getattribute__" = some (some (.builtin "BaseException.__getattribute__"))) (qg : findIn K (.ref D) "__getattr__" = some none) (qs : subIn K (.ref D) (.type "BaseException") = some true) (qd : hasDictIn K D = true) (aa : findIn K (.ref D) "__class__" = some (some (.builtin "object.__class__")))
    (nn : specialIn K (.builtin "object.__class__") "__get__" = some (some (.builtin "getset_descriptor.__get__"))) (qt : takesIn K (.builtin "object.__class__") = some true) (mm : mroIn K D (.type "object") = some true) :
    KitX K (.ref x) (.ref D) (fun hh => InstAt hh x ox D od) where
  ty := fun _ _ _ II => II.type
  it := fun _ _ XX _ => by
    obtain ⟨cD, gD, _⟩ := any_some qd
    unfold clsIn at gD
    split at gD
    · rename_i c' d' cd' sl' oo
      intro A' Q' E' s' kk qq
      unfold isType loadHead
      exact wpAny_bind (wpAny_loadPart (kk _ _ (XX _ _ oo)) (wpAny_pure qq))
    · cases gD
  ne := fun hh tpp ddd itt n sl XX tq => by
    obtain ⟨cD, gD, _⟩ := any_some qd
    refine Bool.eq_false_iff.mpr fun qq => ?_
    have ee : D = tpp := Value.ref.inj (beq_iff_eq.mp qq)
    subst ee
    unfold clsIn at gD
    split at gD
    · rename_i c' d' cd' sl' oo
      have z := (XX _ _ oo).symm.trans tq
      cases z
    · cases gD
  ca := fun XX II kk => cls_ofE qa qg qs qd aa nn qt mm XX II kk
end
end PySem.W
namespace L2.DL
open PySem PySem.Spec PyProof.Rows
/-- isinstance(e, c) of a caught exception with a dict of its own -/
def rIsO (K : PySem.W.Frag) (D a dd : Addr) : List V → Hp → VK → Prop := fun xs H Q => ∃ (c : V) (cv : Value) (b : Bool) (fs : List (Str × V)), xs = [.ref a, c] ∧ (∀ u, RelV c u → u = cv) ∧ PySem.W.kitOne K (.ref D) cv = some b ∧ H dd = some (.xd fs) ∧ Q (.bl b) H
theorem call_isO {X : Cx} {a D dd : Addr} {oe : Obj} {pn : List (Addr × Obj)} (C : ExcC X.K D) (hz : Zc (.ref D) (some dd) oe) (hf : ∃ vs, oe.data = .fields vs) : CallR (X.suite a ((a, oe) :: pn)) (.builtin "isinstance") (rIsO X.K D a dd) := by
  intro pins s σ H xs us Q I r h
  obtain ⟨c, cv, b, fs, rfl, hcv, e, hd, q⟩ := h
  cases r with
  | cons rx rr =>
    cases rr with
    | cons rt rr =>
      cases rr
      cases rx
      have ec := hcv _ rt
      subst ec
      obtain ⟨hget, _⟩ := I.pin (a, oe) (List.mem_append.mpr (.inl List.mem_cons_self))
      have hx : ObjOk X.prog X.w H s.heap dd (.xd fs) := I.hok dd _ hd
      obtain ⟨mA, hns, _⟩ := hx
      obtain ⟨od, ho, _⟩ := lookIn_ns hns
      obtain ⟨vs, hv⟩ := hf
      have J : PySem.W.InstAt s.heap a oe D (some od) := ⟨hget, hz.1, by unfold PySem.W.notCls; rw [hv] <;> rfl, by rw [hz.2]; exact ho⟩
      exact PySem.W.kia_one (PySem.W.kitx_exO C.hg C.hk C.hs C.hd C.ha C.hn C.ht C.hm) I.kIn J e (fun z => nomatch z) fun tk => ⟨.bl b, H, I.kept (t' := tk) fun _ _ z => z, rfl, q⟩
end L2.DL

/-! # DLs.lean -/
set_option Elab.async false
set_option linter.all false
set_option maxRecDepth 100000
set_option maxHeartbeats 4000000
/-! ## enumerate over a tuple (turned from the rules over a list) -/
namespace L2.DL.En
open PySem PySem.Spec PyProof.Rows L2
open Sem (wp)
open AutoSeq1 (wpAny_loadPart')
theorem enT_new (lt : Addr) (its0 : Array Value) (n : Nat) (dct : Option Addr) (sl : Array (Option Value)) :
    Meets (Builtin.«enumerate.__new__» ⟨[.type "enumerate", .ref lt], []⟩) (fun _ Rr sh => sh.heap.get? lt = some { cls := .type "tuple", dict := dct, data := .seq its0 n, slots := sl } ∧
      Rr (.ok (.ret (.ref (sh.heap.push { cls := .type "tuple_iterator", data := .fields #[.ref lt, .int 0 0] }).objs.size)))
        { sh with heap := (sh.heap.push { cls := .type "tuple_iterator", data := .fields #[.ref lt, .int 0 0] }).push { cls := .type "enumerate", data := .fields #[.none, .bool false, .ref sh.heap.objs.size, rawInt 0, .none, .none] } }) :=
  .of_wp fun pr0 wo Ar Rr sh h => by
    obtain ⟨mm, gg, dr, tt, oz⟩ := sh; obtain ⟨gl, h⟩ := h
    have gsub := sub_enumerate
    have gL : Heap.IsTuple (Shared.heap ⟨mm, gg, dr, tt, oz⟩) lt its0 := ⟨_, gl, rfl, n, rfl⟩
    wp_walk using wpAny_loadPart' gl
    refine wpAny_stack_any fun sT => wpAny_pure ?_
    split
    · rename_i cc _ _ _ _ _
      cases (cc == Value.type "enumerate")
      · wp_walk using wpAny_loadPart' gl, wpAny_pyIter_tuple gL
        exact ⟨_, rfl, h⟩
      · wp_walk using wpAny_loadPart' gl, wpAny_pyIter_tuple gL
        exact ⟨_, rfl, h⟩
    · wp_walk using wpAny_loadPart' gl, wpAny_pyIter_tuple gL
      exact ⟨_, rfl, h⟩

section
variable {pr0 : Program} {wo : World} {Ar : Around} {Ex : Value → Shared → Prop} {sh : Shared}
theorem enT_next {en it lt : Addr} {i : Nat} {its0 : Array Value} {xv od0 : Value} {Qw : Value → Shared → Prop}
    (ge : IsEnum sh.heap en it i od0) (git : sh.heap.IsTupleIter it lt i) (gl : sh.heap.IsTuple lt its0) (gx : its0[i]? = some xv) (gne : en ≠ it)
    (gQ : ∀ kk, IsEnumOut kk en it ((i : Int) + 1) xv sh.heap.objs.size → kk.IsTupleIter it lt (i + 1) →
      kk.get? sh.heap.objs.size = some { cls := .type "tuple", data := .seq #[.int i sh.toks, xv] } → kk.objs.size = sh.heap.objs.size + 1 →
      (∀ bb ob, bb ≠ en → bb ≠ it → sh.heap.get? bb = some ob → kk.get? bb = some ob) → Qw (.ref sh.heap.objs.size) { sh with heap := kk, toks := sh.toks + 1 }) :
    wpAny (model pr0 wo) Ar (Builtin.«enumerate.__next__» ⟨[.ref en], []⟩) (fun fi s' => ∃ vv, fi = .done (.ret vv) ∧ Qw vv s') Ex sh := by
  obtain ⟨mm, gg, dr, tt, oz⟩ := sh
  show wpAny _ _ (field (.ref en) 2 >>= _) _ _ _
  refine wpAny_bind (wpAny_field ge rfl (x := .ref it) rfl ?_)
  refine wpAny_bind (RZ.nextOf_tuple_item git gl gx fun k1 git1 gs1 => ?_)
  replace gs1 : Heap.SameBut it mm k1 := gs1
  have ge1 : IsEnum k1 en it i od0 := (gs1.2 en gne).trans ge
  show wpAny _ _ (field (.ref en) 3 >>= _) _ _ ⟨k1, gg, dr, tt, oz⟩
  refine wpAny_bind (wpAny_field ge1 rfl (x := rawInt i) rfl ?_)
  show wpAny _ _ (field (.ref en) 4 >>= _) _ _ ⟨k1, gg, dr, tt, oz⟩
  refine wpAny_bind (wpAny_field ge1 rfl (x := .none) rfl ?_)
  show wpAny _ _ (mkInt i >>= _) _ _ ⟨k1, gg, dr, tt, oz⟩
  refine wpAny_bind (wpAny_mkInt ?_); show wpAny _ _ (setField (.ref en) 3 (rawInt ((i : Int) + 1)) >>= _) _ _ ⟨k1, gg, dr, tt + 1, oz⟩
  refine wpAny_bind (wpAny_setField_rec ge1 (by simp) fun k2 ge2 gs2 => ?_)
  replace gs2 : Heap.SameBut en k1 k2 := gs2
  replace ge2 : IsEnum k2 en it ((i : Int) + 1) od0 := ge2
  show wpAny _ _ (setField (.ref en) 4 .none >>= _) _ _ ⟨k2, gg, dr, tt + 1, oz⟩
  refine wpAny_bind (wpAny_setField_rec ge2 (by simp) fun k3 ge3 gs3 => ?_)
  replace gs3 : Heap.SameBut en k2 k3 := gs3
  replace ge3 : IsEnum k3 en it ((i : Int) + 1) od0 := ge3
  show wpAny _ _ (newTuple [.int i tt, xv] >>= _) _ _ ⟨k3, gg, dr, tt + 1, oz⟩
  refine wpAny_bind (wpAny_newTuple ?_); have ge4 : IsEnum (k3.push { cls := .type "tuple", data := .seq #[.int i tt, xv] }) en it ((i : Int) + 1) od0 := Heap.get?_push_of_some _ ge3
  generalize gh4 : k3.push { cls := .type "tuple", data := .seq #[.int i tt, xv] } = k4 at ge4
  have gsz : k3.objs.size = mm.objs.size := by rw [gs3.1, gs2.1, gs1.1]
  have gel : en < mm.objs.size := Heap.lt_size ge
  have gt4 : k4.get? mm.objs.size = some { cls := .type "tuple", data := .seq #[.int i tt, xv] } := by rw [← gh4, ← gsz]; exact Heap.get?_push_size _ rfl
  have gz4 : k4.objs.size = mm.objs.size + 1 := by rw [← gh4, Heap.size_push, gsz]
  have gk4 : ∀ bb ob, bb ≠ en → bb ≠ it → mm.get? bb = some ob → k4.get? bb = some ob := fun bb ob nbe nbi hb => by
    rw [← gh4]; exact Heap.get?_push_of_some _ (gs3.extBut bb ob nbe (gs2.extBut bb ob nbe (gs1.extBut bb ob nbi hb)))
  have git4 : k4.IsTupleIter it lt (i + 1) := by
    rw [← gh4]; obtain ⟨ob, ho, r⟩ := (git1.extBut gs2.extBut (Ne.symm gne)).extBut gs3.extBut (Ne.symm gne); exact ⟨ob, Heap.get?_push_of_some _ ho, r⟩
  show wpAny _ _ (Builtin.SmallTypes.ownedTupleIsFree (.ref en) >>= _) _ _ ⟨k4, gg, dr, tt + 1, oz⟩
  rw [gsz]
  clear gh4 ge3 gs3 ge2 gs2 ge1 gs1 git1 gsz k3 k2 k1
  refine wpAny_bind ?_
  · (unfold Builtin.SmallTypes.ownedTupleIsFree); refine wpAny_bind (wpAny_field ge4 rfl (x := .none) rfl (wpAny_pure ?_))
    simp only [if_true]
    refine wpAny_bind (wpAny_rule ?_); refine wpAny_bind (wpAny_field ge4 rfl (x := od0) rfl ?_)
    refine wpAny_bind (wpAny_setField_rec ge4 (by simp) fun k5 ge5 gs5 => ?_)
    replace gs5 : Heap.SameBut en k4 k5 := gs5
    replace ge5 : IsEnum k5 en it ((i : Int) + 1) xv := ge5
    show wpAny _ _ (Builtin.SmallTypes.ownedTupleHandOut (.ref en) (.ref mm.objs.size) >>= _) _ _ ⟨k5, gg, dr, tt + 1, oz⟩
    refine wpAny_bind ?_
    · (unfold Builtin.SmallTypes.ownedTupleHandOut); refine wpAny_bind (wpAny_setField_rec ge5 (by simp) fun k6 ge6 gs6 => ?_)
      replace gs6 : Heap.SameBut en k5 k6 := gs6
      replace ge6 : IsEnumOut k6 en it ((i : Int) + 1) xv mm.objs.size := ge6
      refine wpAny_setField_rec ge6 (by simp) fun k7 ge7 gs7 => ?_
      replace gs7 : Heap.SameBut en k6 k7 := gs7
      replace ge7 : IsEnumOut k7 en it ((i : Int) + 1) xv mm.objs.size := ge7
      refine wpAny_bind (wpAny_letGo (wpAny_pure ⟨_, rfl, gQ k7 ge7 ?_ ?_ ?_ ?_⟩))
      · exact ((git4.extBut gs5.extBut (Ne.symm gne)).extBut gs6.extBut (Ne.symm gne)).extBut gs7.extBut (Ne.symm gne)
      · exact gs7.extBut _ _ (Nat.ne_of_gt gel) (gs6.extBut _ _ (Nat.ne_of_gt gel) (gs5.extBut _ _ (Nat.ne_of_gt gel) gt4))
      · rw [gs7.1, gs6.1, gs5.1, gz4]
      · exact fun bb ob nbe nbi hb => gs7.extBut bb ob nbe (gs6.extBut bb ob nbe (gs5.extBut bb ob nbe (gk4 bb ob nbe nbi hb)))

theorem enT_item {en it lt : Addr} {i : Nat} {its0 : Array Value} {xv od0 : Value} {Qw : Option Value → Shared → Prop}
    (ge : IsEnum sh.heap en it i od0) (git : sh.heap.IsTupleIter it lt i) (gl : sh.heap.IsTuple lt its0) (gx : its0[i]? = some xv) (gne : en ≠ it)
    (gQ : ∀ kk, IsEnumOut kk en it ((i : Int) + 1) xv sh.heap.objs.size → kk.IsTupleIter it lt (i + 1) →
      kk.get? sh.heap.objs.size = some { cls := .type "tuple", data := .seq #[.int i sh.toks, xv] } → kk.objs.size = sh.heap.objs.size + 1 →
      (∀ bb ob, bb ≠ en → bb ≠ it → sh.heap.get? bb = some ob → kk.get? bb = some ob) → Qw (some (.ref sh.heap.objs.size)) { sh with heap := kk, toks := sh.toks + 1 }) :
    wpAny (model pr0 wo) Ar (pyNext (.ref en)) Qw Ex sh := by
  have gT : sh.TypeIs (.ref en) "enumerate" := ⟨_, ge, rfl⟩
  unfold pyNext
  exact wpAny_bind (wpAny_attempt (wpAny_callSpecial?_slot (name := Str.ofString "__next__") gT F.slot_enumerate_next
    (wpAny_call_entry F.slot_enumerate_next gT F.entry_enumerate_next
      (enT_next ge git gl gx gne fun kk a bb cc dr k => wpAny_pure (gQ kk a bb cc dr k)) (F.args_enumerate_next_1 _))))

theorem enT_end {en it lt : Addr} {i : Nat} {its0 : Array Value} {od0 : Value} {Qw : Option Value → Shared → Prop} (gh : Ar.handled = none)
    (ge : IsEnum sh.heap en it i od0) (git : sh.heap.IsTupleIter it lt i) (gl : sh.heap.IsTuple lt its0) (gx : its0[i]? = none)
    (gQ : ∀ kk, Heap.ExtBut it sh.heap kk → Qw none { sh with heap := kk }) : wpAny (model pr0 wo) Ar (pyNext (.ref en)) Qw Ex sh := by
  have gT : sh.TypeIs (.ref en) "enumerate" := ⟨_, ge, rfl⟩
  unfold pyNext
  refine wpAny_bind (wpAny_attempt (wpAny_callSpecial?_slot (name := Str.ofString "__next__") gT F.slot_enumerate_next
    (wpAny_call_entry F.slot_enumerate_next gT F.entry_enumerate_next ?_ (F.args_enumerate_next_1 _))))
  show wpAny _ _ (field (.ref en) 2 >>= _) _ _ _
  refine wpAny_bind (wpAny_field ge rfl (x := .ref it) rfl ?_)
  refine wpAny_bind (RZ.nextOf_tuple_end gh git gl gx fun kk xv he' hx' => ?_)
  obtain ⟨ob, ho, hc⟩ := hx'
  refine wpAny_bind (wpAny_isInstance (T := "StopIteration") (b := true) ⟨ob, ho, hc⟩ isSubtype_stop ?_)
  exact wpAny_pure (gQ _ he')
theorem enT_call {lt : Addr} {its0 : Array Value} {Qw : Value → Shared → Prop} (gL : sh.heap.IsTuple lt its0)
    (h : ∀ kk, IsEnum kk (sh.heap.objs.size + 1) sh.heap.objs.size 0 .none → kk.IsTupleIter sh.heap.objs.size lt 0 → kk.objs.size = sh.heap.objs.size + 2 →
      (∀ bb ob, sh.heap.get? bb = some ob → kk.get? bb = some ob) → Qw (.ref (sh.heap.objs.size + 1)) { sh with heap := kk }) :
    wpAny (model pr0 wo) Ar (call (.type "enumerate") [.ref lt]) Qw Ex sh := by
  obtain ⟨⟨cc, dct, dt, sl⟩, gl, hc, n, hd⟩ := gL
  replace hc : cc = .type "tuple" := hc
  replace hd : dt = .seq its0 n := hd
  subst hc hd
  refine callType_new F.called_enumerate (by decide) (F.typeCall_enumerate_1 _) (F.newCall_enumerate_1 _) (fun obj' => F.args_object_init_2 obj' _) F.entry_enumerate_new
    (enT_new lt its0 n dct sl) ⟨gl, ?_⟩
  have gz : (sh.heap.push { cls := .type "tuple_iterator", data := .fields #[.ref lt, .int 0 0] }).objs.size = sh.heap.objs.size + 1 := Heap.size_push ..
  show _ ∧ _
  rw [gz]
  have ge : IsEnum ((sh.heap.push { cls := .type "tuple_iterator", data := .fields #[.ref lt, .int 0 0] }).push
      { cls := .type "enumerate", data := .fields #[.none, .bool false, .ref sh.heap.objs.size, rawInt 0, .none, .none] }) (sh.heap.objs.size + 1) sh.heap.objs.size 0 .none := by
    have := Heap.get?_push_size (sh.heap.push { cls := .type "tuple_iterator", data := .fields #[.ref lt, .int 0 0] })
      (o := { cls := .type "enumerate", data := .fields #[.none, .bool false, .ref sh.heap.objs.size, rawInt 0, .none, .none] }) rfl
    rw [gz] at this; exact this
  refine ⟨⟨_, ge, rfl⟩, h _ ge ⟨_, Heap.get?_push_of_some _ (Heap.get?_push_size _ rfl), rfl, rfl⟩ (by rw [Heap.size_push, gz]) fun bb ob xv => Heap.get?_push_of_some _ (Heap.get?_push_of_some _ xv)⟩

end
/-- the tuple at a as it stands at each turn, each item in a nw pair -/
def ItT (K : PySem.W.Frag) (a : Addr) : It :=
  ⟨fun i H => ∃ (xs : List V) (x : V), SqT K H a xs ∧ xs[i]? = some x, fun i H vv H' => ∃ T x, vv = .ref T ∧ H T = none ∧ H' = upd H T (.tup [.int (i : Nat), x]) ∧ ∀ xs, SqT K H a xs → xs[i]? = some x, fun i H => ∃ xs : List V, SqT K H a xs ∧ xs.length ≤ i⟩
theorem turn_enT {P : Program} {wo : World} {K : PySem.W.Frag} {elts : List Expr} {kk : Nat} {tpos : Pos} (a en it : Addr) :
    Turn P wo K (.Tuple elts kk tpos) (ItT K a) [en, it] en (fun i h => (∃ od0, IsEnum h en it ((i : Nat) : Int) od0) ∧ h.IsTupleIter it a i ∧ en ≠ it) where
  mem := by simp
  obj := fun i h sT bb nb => by
    obtain ⟨⟨od0, ge⟩, ⟨ob, go, hc, hd⟩, _⟩ := sT
    have ee : bb = en ∨ bb = it := by simpa using nb
    rcases ee with zz | zz
    · rw [zz]; exact ⟨_, ge, fun vv qq => nomatch qq⟩
    · rw [zz]; exact ⟨ob, go, fun vv qq => by rw [hd] at qq; cases qq⟩
  keep := fun i h kk sT k => let ⟨⟨od0, ge⟩, hi, gne⟩ := sT; ⟨⟨od0, k en (by simp) _ ge⟩, hi.at fun ob qq => k it (by simp) ob qq, gne⟩
  item := by
    intro X hP hw hK hc i pn0 sh σ H Ex I fO sT gG
    subst hP hw hK
    obtain ⟨⟨od0, ge⟩, git, gne⟩ := sT
    obtain ⟨xs, x, gq, gx⟩ := gG
    obtain ⟨its, rw0, pp, gz⟩ := I.tuple gq
    obtain ⟨u, gu, rU⟩ := rw0.get gx
    have gel : en < sh.heap.objs.size := Heap.lt_size ge
    have gil : it < sh.heap.objs.size := by obtain ⟨_, qq, _⟩ := git; exact Heap.lt_size qq
    refine enT_item ge git pp (xv := u) (by simpa using gu) gne fun kk go git9 gT gsz gk => ?_
    refine ⟨_, rfl, wpAny_letOwnedTupleGo_enum (s := { sh with heap := kk, toks := sh.toks + 1 }) go fun k9 ge9 sB => ?_⟩
    have gT2 : k9.get? sh.heap.objs.size = some { cls := .type "tuple", data := .seq #[.int i sh.toks, u] } := (sB.2 _ (Nat.ne_of_gt gel)).trans gT
    have nw : ObjOk X.prog X.w (upd H sh.heap.objs.size (.tup [.int (i : Nat), x])) k9 sh.heap.objs.size (.tup [.int (i : Nat), x]) :=
      ⟨by show 2 ≤ sizeLine; decide, [.int i sh.toks, u], .cons ⟨_, rfl⟩ (.cons rU .nil), ⟨_, gT2, rfl, _, rfl⟩⟩
    have J1 : Inv X pn0 σ (upd H sh.heap.objs.size (.tup [.int (i : Nat), x])) { sh with heap := k9, toks := sh.toks + 1 } :=
      I.turnedNew (ch := [en, it]) (fun bb ob nb qq => (sB.2 bb (fun zz => nb (by simp [zz]))).trans (gk bb ob (fun zz => nb (by simp [zz])) (fun zz => nb (by simp [zz])) qq)) fO (Nat.le_refl _) nw
    refine ⟨.ref sh.heap.objs.size, _, J1, rfl, ⟨_, x, rfl, I.hok.fresh (Nat.le_refl _), rfl, fun ys hy => by rw [I.tuple_inj hy gq]; exact gx⟩, ⟨⟨u, ?_⟩, git9.at fun ob qq => (sB.2 it (Ne.symm gne)).trans qq, gne⟩, fun bb nb => ?_⟩
    · have e2 : ((i + 1 : Nat) : Int) = (i : Int) + 1 := by omega
      rw [e2]; exact ge9
    · have nb' : bb < sh.heap.objs.size := by
        have ee : bb = en ∨ bb = it := by simpa using nb
        rcases ee with zz | zz
        · rw [zz]; exact gel
        · rw [zz]; exact gil
      rw [upd_ne (Nat.ne_of_lt nb')]
      exact (fO bb nb).1
  done := by
    intro X hP hw hK hc i pn0 sh σ H Ex I fO sT gG
    subst hP hw hK
    obtain ⟨⟨od0, ge⟩, git, gne⟩ := sT
    obtain ⟨xs, gq, gx⟩ := gG
    obtain ⟨its, rw0, pp, gz⟩ := I.tuple gq
    obtain ⟨w0, w1, w2, w3, w4, w5⟩ := fO it (by simp)
    have gl := rw0.length
    exact enT_end (I.ok.hd hc) ge git pp (by simp; omega) fun kk eb => ⟨rfl, I.turned (t' := sh.toks) (fun bb ob nb qq => eb bb ob nb qq) w0 w1 w3 w4 w5⟩
  self := fun Ar i sh Qw Ex sT h => let ⟨⟨_, ge⟩, _⟩ := sT; wpAny_pyIter_enum ge h
def iEnT (K : PySem.W.Frag) (ta : TA) : TI := fun σ H Rr => ta σ H fun vs H1 => ∃ a xs, vs = [.ref a] ∧ SqT K H1 a xs ∧ Rr (ItT K a) H1
theorem pi_enT {X : Cx} {en : Expr} {ta : TA} {pp pos tpos : Pos} {elts : List Expr} {kk : Nat} (gG : Gl X "enumerate") (gm : X.mg "enumerate" = none) (gA : PA X [en] ta) (gS : starEach [en] X.env = [(false, eval en X.env)] := by rfl) :
    PI X (.Tuple elts kk tpos) (.Call (.Name "enumerate" pp) [en] [] pos) (iEnT X.K ta) := by
  refine ⟨fun pn0 sh σ H Rr I h => ?_⟩
  refine Call_ (ld_blt I gG gm boot_enumerate (PyProof.Rows.callWith_type1 (thn (gA.run pos pn0 sh σ H _ I h) fun us s1 ⟨vs, H1, J1, rA, qA⟩ => ?_) gS rfl))
  obtain ⟨a, xs, eX, gq, qq⟩ := qA
  subst eX
  cases rA with
  | cons r rB =>
    cases rB
    cases r
    obtain ⟨its, rw0, pq, gz⟩ := J1.tuple gq
    refine enT_call pq fun kk ge git gsz gk => wpAny_pyIter_enum ge ?_
    have J2 : Inv X pn0 σ H1 { s1 with heap := kk } := J1.kept (t' := s1.toks) gk
    refine ⟨s1.heap.objs.size + 1, [s1.heap.objs.size + 1, s1.heap.objs.size], _, _, H1, rfl, J2, turn_enT a (s1.heap.objs.size + 1) s1.heap.objs.size, ⟨⟨.none, ge⟩, git, Nat.succ_ne_self _⟩, fun bb nb => ?_, qq⟩
    have ee : bb = s1.heap.objs.size + 1 ∨ bb = s1.heap.objs.size := by simpa using nb
    have gle : s1.heap.objs.size ≤ bb := by
      rcases ee with zz | zz
      · rw [zz]; exact Nat.le_add_right _ _
      · rw [zz]; exact Nat.le_refl _
    exact J1.fpOk gle (J1.hok.fresh gle)
end L2.DL.En

/-! # DLt.lean -/
set_option Elab.async false
set_option linter.all false
set_option maxRecDepth 100000
namespace L2.DL
open PySem PySem.Spec PyProof.Rows
/-! ## calls of defs that may raise, where they don't; calls by keywords -/
section
variable {X : Cx} {Wx : WX} {f : Addr} {fd : FuncData} {ps ks : List Str} {k : Nat} {x : Str} {p pos kpos : Pos} {a ex : Expr} {es : List Expr} {Wargs : WA} {We : WE} {kws : List Keyword} {CX : CXT} {sp : Sp} {E : XK} {g : List Value → List Value → List Value} {gV : List V → List V → List V} {tk : TA} {nm : Option Str}
theorem passN : Passes (L2.CX X.prog X.w) X E0 := fun _ _ _ _ _ _ _ h => by
  obtain ⟨_, _, _, _, _, _, _, _, _, _, _, _, z⟩ := h
  exact z.elim
def wCallN (R : RX) (Wa : WA) : WE := fun EX ρ P => Wa EX ρ fun ds ρ1 => R ds (fun dv => P dv ρ1) fun _ _ => False
theorem spX_quiet {K : PySem.W.Frag} {R : RX} {F H : Hp} {vs : List V} {ds : List D} {P : DV → Prop} {Q : VK} (m : Same F H) (i : IsL K F ds vs) (r : R ds P fun _ _ => False) (q : ∀ F' H' v dv, Stp F H F' H' [] → Same F' H' → Out K H F' H' dv v → P dv → Q v H') : spX K R vs H Q E0 :=
  ⟨F, ds, P, _, m, i, r, q, fun _ _ _ _ _ _ _ _ _ _ _ _ z => z.elim⟩
theorem je_callN {R : RX} (G : FnOk X.prog X.w X.K X.mg X.base (L2.CX X.prog X.w) k f fd ps (spX X.K R)) (hr : Room k X.A) (hg : Gl X x) (hm : X.mg x = some (.ref f)) (hk : PySem.W.keepIn X.K (.ref f) = true) (hb : Binds X.K fd ps [])
    (ha : JA X Wx (a :: es) Wargs) (hdb : (x == ("__debug__" : Str)) = false := by decide) (he : starEach (a :: es) X.env = (false, eval a X.env) :: starEach es X.env := by rfl) (hpl : (backTo pos (starEach es X.env)).any (·.1) = false := by rfl) :
    JE X Wx (.Call (.Name x p) (a :: es) [] pos) (wCallN R Wargs) := by
  refine PE.wk (pe_call G hr hg hm hk hb .nil passN ha hdb he hpl) fun σ H Q h => ?_
  obtain ⟨e, ρ, F, EX, P, s, w0, hx, kk⟩ := h
  refine ⟨e, ρ, F, EX, _, s, w0, hx, fun F1 H1 vs ds ρ1 s1 m1 r1 q1 => ?_⟩
  show spX X.K R (vs ++ []) H1 Q E0
  rw [List.append_nil]
  exact spX_quiet s1.fh r1 q1 fun F' H' v dv st sm o p => kk F' H' v dv ρ1 (s1.later sm st) (m1.trans st.ff) (Out.res s1 o) p
theorem pe_kw0 (F : FnOk X.prog X.w X.K X.mg X.base CX k f fd ps sp) (hr : Room k X.A) (hg : Gl X x) (hm : X.mg x = some (.ref f)) (hk : PySem.W.keepIn X.K (.ref f) = true) (hb : KBn X.K fd ps 0 ks g gV) (hx : Passes CX X E) (hkw : PK X kws tk)
    (hdb : (x == ("__debug__" : Str)) = false) (hall : (backToKw pos (keywordEach kws X.env)).all (·.1.isSome) = true) (hks : (backToKw pos (keywordEach kws X.env)).filterMap (·.1) = ks)
    (hpl : ((backTo pos (starEach [] X.env)).any (·.1) || (backToKw pos (keywordEach kws X.env)).any (·.1.isNone)) = false) :
    PE X (.Call (.Name x p) [] kws pos) (fun σ H Q => tk σ H fun zs H2 => zs.length = ks.length ∧ sp (gV [] zs) H2 Q E) := by
  refine ⟨fun pins s σ H Q I h => ?_⟩
  refine wpAny_Call_Name_kw (ld_glob I hg hm ?_ hdb)
  refine PySem.W.callWith_KW0 (h₀ := X.base) I.ok.mod.kin hk hall (thn (hkw.run pos pins s σ H _ I h) fun ws s2 z => ?_) hpl
  obtain ⟨zs, H2, I2, rz, l2, q2⟩ := z
  refine ⟨I2.kIn, ?_⟩
  rw [hks]
  exact run_fnN F hr hb hx I2 .nil rz rfl l2 q2
abbrev JK (X : Cx) (Wx : WX) (kws : List Keyword) (W : WA) : Prop := PK X kws (cA X.K Wx W)
theorem PK.wk {t t' : TA} (h : PK X kws t) (i : ∀ σ H Q, t' σ H Q → t σ H Q) : PK X kws t' := ⟨fun p pins s σ H Q I q => h.run p pins s σ H Q I (i σ H Q q)⟩
theorem jk_nil : JK X Wx [] wNil := by
  refine PK.wk pk_nil fun σ H Q h => ?_
  obtain ⟨e, ρ, F, EX, P, s, w0, hx, kk⟩ := h
  exact kk F H [] [] ρ s (Same.refl _) IsL.nil w0
theorem jk_cons (ha : JE X Wx ex We) (hr : JK X Wx kws Wargs) : JK X Wx (⟨nm, ex, kpos⟩ :: kws) (wCons We Wargs) := by
  refine PK.wk (pk_cons ha hr) fun σ H Q h => ?_
  obtain ⟨e, ρ, F, EX, P, s, w0, hx, kk⟩ := h
  refine ⟨e, ρ, F, EX, _, s, w0, hx, fun F1 H1 v1 d1 ρ1 s1 m1 r1 q1 => ?_⟩
  obtain ⟨F1', a1, s1', m1', i1, q1'⟩ := s1.data r1 q1
  refine ⟨e, ρ1, F1', EX, _, s1', q1', hx, fun F2 H2 vs ds ρ2 s2 m2 r2 q2 => ?_⟩
  exact kk F2 H2 _ _ ρ2 s2 (m1.trans (m1'.trans m2)) (IsL.cons (Is.mono m2 _ i1) r2) q2
def wCallK (n : Nat) (R : RF) (Wa : WA) : WE := fun EX ρ P => Wa EX ρ fun ds ρ1 => ds.length = n ∧ R ds fun dv => P dv ρ1
theorem je_callK {R : RF} (G : FnOk X.prog X.w X.K X.mg X.base CX0 k f fd ps (spF X.K R)) (hr : Room k X.A) (hg : Gl X x) (hm : X.mg x = some (.ref f)) (hk : PySem.W.keepIn X.K (.ref f) = true) (hb : KBn X.K fd ps 0 ks (fun _ ws => ws) (fun _ zs => zs))
    (ha : JK X Wx kws Wargs) (hdb : (x == ("__debug__" : Str)) = false := by decide) (hall : (backToKw pos (keywordEach kws X.env)).all (·.1.isSome) = true := by rfl) (hks : (backToKw pos (keywordEach kws X.env)).filterMap (·.1) = ks := by rfl)
    (hpl : ((backTo pos (starEach [] X.env)).any (·.1) || (backToKw pos (keywordEach kws X.env)).any (·.1.isNone)) = false := by rfl) : JE X Wx (.Call (.Name x p) [] kws pos) (wCallK ks.length R Wargs) := by
  refine PE.wk (pe_kw0 G hr hg hm hk hb pass0 ha hdb hall hks hpl) fun σ H Q h => ?_
  obtain ⟨e, ρ, F, EX, P, s, w0, hx, kk⟩ := h
  refine ⟨e, ρ, F, EX, _, s, w0, hx, fun F1 H1 vs ds ρ1 s1 m1 r1 q1 => ⟨by rw [← r1.len]; exact q1.1, ?_⟩⟩
  exact ⟨F1, ds, _, s1.fh, r1, q1.2, fun F' H' v dv st sm o p => kk F' H' v dv ρ1 (s1.later sm st) (m1.trans st.ff) ((Out.res s1 o)) p⟩
def wCallKN (n : Nat) (R : RX) (Wa : WA) : WE := fun EX ρ P => Wa EX ρ fun ds ρ1 => ds.length = n ∧ R ds (fun dv => P dv ρ1) fun _ _ => False
theorem je_callKN {R : RX} (G : FnOk X.prog X.w X.K X.mg X.base (L2.CX X.prog X.w) k f fd ps (spX X.K R)) (hr : Room k X.A) (hg : Gl X x) (hm : X.mg x = some (.ref f)) (hk : PySem.W.keepIn X.K (.ref f) = true) (hb : KBn X.K fd ps 0 ks (fun _ ws => ws) (fun _ zs => zs))
    (ha : JK X Wx kws Wargs) (hdb : (x == ("__debug__" : Str)) = false := by decide) (hall : (backToKw pos (keywordEach kws X.env)).all (·.1.isSome) = true := by rfl) (hks : (backToKw pos (keywordEach kws X.env)).filterMap (·.1) = ks := by rfl)
    (hpl : ((backTo pos (starEach [] X.env)).any (·.1) || (backToKw pos (keywordEach kws X.env)).any (·.1.isNone)) = false := by rfl) : JE X Wx (.Call (.Name x p) [] kws pos) (wCallKN ks.length R Wargs) := by
  refine PE.wk (pe_kw0 G hr hg hm hk hb passN ha hdb hall hks hpl) fun σ H Q h => ?_
  obtain ⟨e, ρ, F, EX, P, s, w0, hx, kk⟩ := h
  refine ⟨e, ρ, F, EX, _, s, w0, hx, fun F1 H1 vs ds ρ1 s1 m1 r1 q1 => ⟨by rw [← r1.len]; exact q1.1, ?_⟩⟩
  exact spX_quiet s1.fh r1 q1.2 fun F' H' v dv st sm o p => kk F' H' v dv ρ1 (s1.later sm st) (m1.trans st.ff) (Out.res s1 o) p
theorem takesN : Takes X NW := fun u s' h => by
  obtain ⟨_, _, _, _, _, _, _, _, _, _, _, _, _, _, _, _, z⟩ := h
  exact z.elim
/-- a def called with no argument that may raise -/
def wCallX0 (R : RX) : WE := fun EX ρ P => R [] (fun dv => P dv ρ) fun C kvs => EX C kvs ρ
end
section
variable {K : PySem.W.Frag} {x qual : Str} {params : Arguments} {body : List Stmt} {scope : Scope} {kws : List (Str × V)} {f : Addr} {fd : FuncData} {ps ks : List Str}
theorem kb_all (F : FunD K x qual params body scope [] kws f fd) (hk : ks.length = ps.length)
    (h : ∀ (kV doc pm : Value) (an : Option Addr) (cdv ct : Value) (ws : List Value), ws.length = ps.length → bindArgs (PySem.W.fnOf x qual params body scope .none kV doc pm an cdv ct) ⟨[], ks.zip ws⟩ = pure (ps.zip ws)) : KBn K fd ps 0 ks (fun _ ws => ws) (fun _ zs => zs) := by
  refine ⟨fun s us ws X l1 l2 => ?_, fun _ r => r⟩
  obtain ⟨oc, od, dV, kV, doc, pm, an, cdv, ct, osl, rfl, lk, hcd, hD, hK⟩ := F.ex
  have e : us = [] := List.eq_nil_of_length_eq_zero l1
  subst e
  rcases hD with ⟨_, rfl⟩ | ⟨e, _⟩
  · exact .of_eq (h kV doc pm an cdv ct ws (l2.trans hk))
  · exact absurd rfl e
end
/-! ## classes of exceptions: facts -/
def oexB (K : PySem.W.Frag) (C : Addr) : Bool := match K.lookup C with
  | some ⟨.type ty, _, .cls cd, sl⟩ => (match cd.mro, sl.toList with
    | .ref C' :: bm, [_, _, _, _, some (.builtin n), _] => decide (ty = "type") && (decide (C' = C) && (decide (n = "ValueError.__new__") && (!cd.hasDel && (cd.hasDict && PySem.HandSPX.refsVE bm))))
    | _, _ => false)
  | _ => false
theorem oexB_ok {K : PySem.W.Frag} {C : Addr} (h : oexB K C = true) : ∃ nm q N bs bm sn sub ab col dd k0 k1 k2 k3 k5, K.lookup C = some (excClassObj nm q C N bs bm true sn sub ab col dd k0 k1 k2 k3 k5 "ValueError.__new__") ∧ PySem.HandSPX.refsVE bm = true := by
  unfold oexB at h
  split at h
  · rename_i ty dd cd sl ho
    split at h
    · rename_i C' bm k0 k1 k2 k3 n k5 hm hs
      obtain ⟨h0, h⟩ := He.ba h
      obtain ⟨h1, h⟩ := He.ba h
      obtain ⟨h2, h⟩ := He.ba h
      obtain ⟨h3, h⟩ := He.ba h
      obtain ⟨h4, h5⟩ := He.ba h
      obtain ⟨nm, bs, mro, ns, qn, hd, sn, sub, ab, col, del⟩ := cd
      have e0 := of_decide_eq_true h0
      have e1 := of_decide_eq_true h1
      have e2 := of_decide_eq_true h2
      dsimp only at hm h3 h4
      subst e0 e1 e2 hm h4
      have e3 : del = false := by cases del <;> first | rfl | cases h3
      subst e3
      have hsl : sl = #[k0, k1, k2, k3, some (.builtin "ValueError.__new__"), k5] := by
        obtain ⟨l⟩ := sl
        simp only at hs
        rw [hs]
      subst hsl
      exact ⟨nm, qn, ns, bs, bm, sn, sub, ab, col, dd, k0, k1, k2, k3, k5, ho, h5⟩
    · cases h
  · cases h
structure XCls (K : PySem.W.Frag) (x : Str) (fls : List Str) : Prop where
  oe : OexC K (He.ga K x)
  xf : XfC K (He.ga K x)
  ec : ExcC K (He.ga K x)
  no : ∀ f, f ∈ fls → PySem.W.findIn K (.ref (He.ga K x)) f = some none
  ini : PySem.W.findIn K (.ref (He.ga K x)) "__init__" = some (some (.ref (He.ma K (He.ga K x) "__init__")))
  tI : PySem.W.typeIn K (.ref (He.ma K (He.ga K x) "__init__")) = some (.type "function")
def xclsB (K : PySem.W.Frag) (x : Str) (fls : List Str) : Bool := oexB K (He.ga K x) && (xfB K (He.ga K x) && (decide (PySem.W.findIn K (.ref (He.ga K x)) "__setattr__" = some (some (.builtin "object.__setattr__"))) && (decide (PySem.W.typeIn K (.ref (He.ga K x)) = some (.type "type")) && (PySem.W.keepIn K (.ref (He.ga K x)) &&
  (decide (PySem.W.findIn K (.ref (He.ga K x)) "__class__" = some (some (.builtin "object.__class__"))) && (decide (PySem.W.specialIn K (.builtin "object.__class__") "__get__" = some (some (.builtin "getset_descriptor.__get__"))) && (decide (PySem.W.takesIn K (.builtin "object.__class__") = some true) && (decide (PySem.W.mroIn K (He.ga K x) (.type "object") = some true) &&
  ((fls.all fun f => decide (PySem.W.findIn K (.ref (He.ga K x)) f = some none)) && (decide (PySem.W.findIn K (.ref (He.ga K x)) "__init__" = some (some (.ref (He.ma K (He.ga K x) "__init__")))) && decide (PySem.W.typeIn K (.ref (He.ma K (He.ga K x) "__init__")) = some (.type "function"))))))))))))
theorem xclsB_ok {K : PySem.W.Frag} {x : Str} {fls : List Str} (h : xclsB K x fls = true) : XCls K x fls := by
  obtain ⟨h1, h⟩ := He.ba h
  obtain ⟨h2, h⟩ := He.ba h
  obtain ⟨h3, h⟩ := He.ba h
  obtain ⟨h4, h⟩ := He.ba h
  obtain ⟨h5, h⟩ := He.ba h
  obtain ⟨h6, h⟩ := He.ba h
  obtain ⟨h7, h⟩ := He.ba h
  obtain ⟨h8, h⟩ := He.ba h
  obtain ⟨h9, h⟩ := He.ba h
  obtain ⟨h10, h⟩ := He.ba h
  obtain ⟨h11, h12⟩ := He.ba h
  have xf := xfB_ok h2
  exact ⟨⟨oexB_ok h1, of_decide_eq_true h3, xf.exC, of_decide_eq_true h4, h5⟩, xf, ⟨xf.ga, xf.gg, xf.exC, xf.hdC, of_decide_eq_true h6, of_decide_eq_true h7, of_decide_eq_true h8, of_decide_eq_true h9⟩,
    fun f hf => of_decide_eq_true (List.all_eq_true.mp h10 f hf), of_decide_eq_true h11, of_decide_eq_true h12⟩
/-- which class is caught by which -/
abbrev Tab3 : Type := List (Str × Str × Bool)
def tab3 (tab : Tab3) (C c : Str) : Option Bool := (tab.find? fun t => decide (t.1 = C ∧ t.2.1 = c)).map (·.2.2)
def exmB (K : PySem.W.Frag) (tab : Tab3) : Bool := tab.all fun t => decide (PySem.W.exmOne K (.ref (He.ga K t.1)) (.ref (He.ga K t.2.1)) = some t.2.2)
def kitB3 (K : PySem.W.Frag) (tab : Tab3) : Bool := tab.all fun t => decide (PySem.W.kitOne K (.ref (He.ga K t.1)) (.ref (He.ga K t.2.1)) = some t.2.2)
theorem tab3_mem {tab : Tab3} {C c : Str} {b : Bool} (h : tab3 tab C c = some b) : (C, c, b) ∈ tab := by
  unfold tab3 at h
  obtain ⟨t, h1, h2⟩ := Option.map_eq_some_iff.mp h
  have h3 := List.find?_some h1
  obtain ⟨e1, e2⟩ := of_decide_eq_true h3
  have := List.mem_of_find?_eq_some h1
  rw [← e1, ← e2, ← h2]
  exact this
theorem exmB_ok {K : PySem.W.Frag} {tab : Tab3} (h : exmB K tab = true) : ∀ C c b, tab3 tab C c = some b → PySem.W.exmOne K (.ref (He.ga K C)) (.ref (He.ga K c)) = some b := fun C c b q => of_decide_eq_true (List.all_eq_true.mp h _ (tab3_mem q))
theorem kitB3_ok {K : PySem.W.Frag} {tab : Tab3} (h : kitB3 K tab = true) : ∀ C c b, tab3 tab C c = some b → PySem.W.kitOne K (.ref (He.ga K C)) (.ref (He.ga K c)) = some b := fun C c b q => of_decide_eq_true (List.all_eq_true.mp h _ (tab3_mem q))
/-! ## isinstance of a caught exception -/
section
variable {X : Cx} {Wx : WX} {a : Addr} {oe : Obj} {cls : Value} {d : Option Addr} {pn : List (Addr × Obj)} {K : PySem.W.Frag}
theorem je_cn {x : Str} {pos : Pos} (hg : Gl X x) (hm : X.mg x = some (.ref (He.ga X.K x))) (hd : (x == ("__debug__" : Str)) = false := by decide) : JE X Wx (.Name x pos) (wK (.cn x)) :=
  je_const (pe_glob hg hm (v := .ref (He.ga X.K x)) rfl hd) fun _ => by simp [Is]
def rIsX (K : PySem.W.Frag) (cls : Value) (d : Option Addr) (a : Addr) : List V → Hp → VK → Prop := fun xs H Q => ∃ D dd, cls = .ref D ∧ d = some dd ∧ ExcC K D ∧ rIsO K D a dd xs H Q
theorem call_isX (hz : Zc cls d oe) (hf : ∃ vs, oe.data = .fields vs) : CallR (X.suite a ((a, oe) :: pn)) (.builtin "isinstance") (rIsX X.K cls d a) := by
  intro pins s σ H xs us Q I r h
  obtain ⟨D, dd, rfl, rfl, C, h⟩ := h
  exact call_isO C hz hf pins s σ H xs us Q I r h
def wIsX (tab : Tab3) (a : Addr) (C : Str) (d : Option Addr) : List D → (DV → Prop) → Prop := fun ds P => match ds with
  | [.exc _ a' dd _ _, .cn c] => a' = a ∧ d = some dd ∧ ∃ b, tab3 tab C c = some b ∧ P (.fz (.bl b))
  | _ => False
theorem cr_isX {tab : Tab3} {C : Str} (hC : cls = .ref (He.ga K C)) (hx : ∀ c b, tab3 tab C c = some b → ExcC K (He.ga K C)) (hk : ∀ C c b, tab3 tab C c = some b → PySem.W.kitOne K (.ref (He.ga K C)) (.ref (He.ga K c)) = some b) : CRl K (rIsX K cls d a) (wIsX tab a C d) := by
  intro e ρ F σ H vs ds Q P s i w k
  unfold wIsX at w
  split at w
  · obtain ⟨v, u, rfl, iv, iu⟩ := i.two_inv
    simp only [Is] at iv iu
    obtain ⟨rfl, rfl, b, hb, q⟩ := w
    obtain ⟨ws, rfl, h1, h2, h3⟩ := iv
    subst iu
    exact ⟨_, _, hC, rfl, hx _ _ hb, .ref _, .ref _, b, _, rfl, fun u r => r, hk _ _ _ hb, s.fh _ _ h1, k F H _ _ s (Same.refl _) (Res.fz (by simp [Is])) q⟩
  · exact w.elim
end
end L2.DL

/-! # DLu.lean -/
set_option Elab.async false
set_option linter.all false
set_option maxRecDepth 100000
namespace L2.DL
open PySem PySem.Spec PyProof.Rows
/-! ## instances of own classes -/
section
variable {K : PySem.W.Frag} {e : Ent} {ρ : DEnv} {F H F' H' : Hp} {σ : St} {p : Addr}
/-- later, where an object that no slot owns is changed -/
theorem Sg.laterX (s : Sg K e ρ F σ H) (fh : Same F' H') (st : Stp F H F' H' [p]) (hx : ∀ (i : Nat) (dw : DV), ρ[i]? = some (some dw) → dw.own = true → σ[i]? ≠ some (some (.ref p))) (np : ∀ u, (p, u) ∉ e.pn) (he : e.H p = none) : Sg K e ρ F' σ H' := by
  have kp : ∀ q u, H q = some u → q ≠ p → H' q = some u := fun q u h n => st.keep q u h (by simpa using n)
  refine ⟨fh, ⟨s.st.ff.trans st.ff, fun q u h n => ?_, fun q u h => ?_, fun q u h n => ?_⟩, s.len, fun j dw h => ?_, s.ap, fun r hr => ?_⟩
  · have ne : q ≠ p := fun z => by rw [z, he] at h; cases h
    exact kp q u (s.st.keep q u h n) ne
  · obtain ⟨u', h'⟩ := s.st.there q u h
    exact st.there q u' h'
  · obtain ⟨u', h'⟩ := s.st.there q u h
    exact st.old q u' h' (s.st.old q u h n)
  · obtain ⟨w, b1, b2⟩ := s.sl j dw h
    refine ⟨w, b1, ?_⟩
    cases dw with
    | fz d => exact Is.mono st.ff d b2
    | lk q c =>
      obtain ⟨u, od, rfl, c1, c2⟩ := b2
      exact ⟨u, od, rfl, c1, c2.mono st.ff⟩
    | mu b' c2 =>
      obtain ⟨r, u2, rfl, c1, c2, c3, c4, c5, c6⟩ := b2
      have ne : r ≠ p := fun z => hx j _ h rfl (by rw [b1, z])
      exact ⟨r, u2, rfl, st.old r u2 c5 c1, c2, c3, c4, kp r u2 c5 ne, c6.mono st.ff⟩
  · obtain ⟨b1, b2, b3⟩ := s.pin r hr
    have ne : r.1 ≠ p := fun z => np r.2 (by rw [← z]; exact hr)
    exact ⟨kp _ _ b1 ne, st.old _ _ b1 b2, b3⟩
theorem KVD.look {xs : List (Str × D)} {ys : List (Str × V)} (h : KVD K F xs ys) {f : Str} {d : D} (e : xs.lookup f = some d) : ∃ v, ys.lookup f = some v ∧ Is K F d v := by
  induction h with
  | nil => cases e
  | @cons a b xs ys q t ih =>
    obtain ⟨g, x⟩ := a
    obtain ⟨g', y⟩ := b
    have hg : g = g' := q.1
    subst hg
    rw [List.lookup_cons] at e ⊢
    cases z : f == g with
    | true => rw [z] at e; cases e; exact ⟨y, rfl, q.2⟩
    | false => rw [z] at e; exact ih e
def putFD (f : Str) (v : D) : List (Str × D) → List (Str × D)
  | [] => [(f, v)]
  | (g, x) :: r => if g = f then (g, v) :: r else (g, x) :: putFD f v r
theorem KVD.putF {xs : List (Str × D)} {ys : List (Str × V)} (h : KVD K F xs ys) {f : Str} {d : D} {v : V} (i : Is K F d v) : KVD K F (putFD f d xs) (L2.putF f v ys) := by
  induction h with
  | nil => exact .cons ⟨rfl, i⟩ .nil
  | @cons a b xs ys q t ih =>
    obtain ⟨g, x⟩ := a
    obtain ⟨g', y⟩ := b
    have hg : g = g' := q.1
    subst hg
    unfold putFD L2.putF
    by_cases z : g = f
    · rw [if_pos z, if_pos z]; exact .cons ⟨rfl, i⟩ t
    · rw [if_neg z, if_neg z]; exact .cons ⟨rfl, q.2⟩ ih
theorem zip_none {ns : List Str} {vs : List V} {m : Str} (h : m ∉ ns) : (ns.zip vs).lookup m = none := by
  induction ns generalizing vs with
  | nil => rfl
  | cons n ns ih =>
    cases vs with
    | nil => rfl
    | cons v vs =>
      rw [List.zip_cons_cons, List.lookup_cons]
      simp only [List.mem_cons, not_or] at h
      have : (m == n) = false := by rw [beq_eq_false_iff_ne]; exact h.1
      rw [this]
      exact ih h.2
end
section
variable {X : Cx} {Wx : WX} {C f x m y : Str} {fa : Addr} {fd : FuncData} {ps : List Str} {k i : Nat} {p pos py apos : Pos} {a ex o : Expr} {es : List Expr} {We Wo : WE} {Wargs : WA}
def wFld (C f : Str) (We : WE) : WE := fun EX ρ P => We EX ρ fun dv ρ1 => match dv with
  | .fz (.ins C' ns ds) => C' = C ∧ ∃ d, (ns.zip ds).lookup f = some d ∧ P (.fz d) ρ1
  | _ => False
theorem je_fld (T : Cls X.K (He.ga X.K C)) (no : NoAttr X.K (He.ga X.K C) f) (h : JE X Wx ex We) (hb : attributeBase ex f X.env (eval ex X.env) = eval ex X.env := by rfl) : JE X Wx (.Attribute ex f pos) (wFld C f We) := by
  refine PE.wk (pe_fld h hb) fun σ H Q h => ?_
  obtain ⟨e, ρ, F, EX, P, s, w0, hx, kk⟩ := h
  refine ⟨e, ρ, F, EX, _, s, w0, hx, fun F1 H1 v1 d1 ρ1 s1 m1 r1 q1 => ?_⟩
  split at q1
  · obtain ⟨rfl, d, hd, q⟩ := q1
    have i1 := r1.1
    simp only [Sl, Is] at i1
    obtain ⟨a, dx, vs, rfl, h1, h2, h3⟩ := i1
    obtain ⟨v, hv, iv⟩ := lookup_is h3 hd
    exact ⟨a, _, dx, _, v, rfl, s1.fh _ _ h1, T, no, hv, kk F1 H1 v _ ρ1 s1 m1 (Res.fz iv) q⟩
  · exact q1.elim
/-- a field of the own object of a slot -/
def wFldM (i : Nat) (C f : Str) : WE := fun _ ρ P => match ρ[i]? with
  | some (some (.mu _ (.ins C' fs))) => C' = C ∧ ∃ d, fs.lookup f = some d ∧ P (.fz d) ρ
  | _ => False
theorem je_fldM (T : Cls X.K (He.ga X.K C)) (no : NoAttr X.K (He.ga X.K C) f) (h : PE X (.Name y py) (tVar i)) (hb : attributeBase (.Name y py) f X.env (eval (.Name y py) X.env) = eval (.Name y py) X.env := by rfl) : JE X Wx (.Attribute (.Name y py) f pos) (wFldM i C f) := by
  refine PE.wk (pe_fld h hb) fun σ H Q h => ?_
  obtain ⟨e, ρ, F, EX, P, s, w0, hx, kk⟩ := h
  unfold wFldM at w0
  split at w0
  · rename_i b C' fs hi
    obtain ⟨rfl, d, hd, q⟩ := w0
    obtain ⟨v, hσ, q', o', rfl, b1, b2, b3, b4, b5, dx, vs, rfl, b6⟩ := s.sl i _ hi
    obtain ⟨v, hv, iv⟩ := b6.look hd
    exact ⟨_, hσ, q', _, dx, vs, v, rfl, b5, T, no, hv, kk F H v _ ρ s (Same.refl _) (Res.fz iv) q⟩
  · exact w0.elim
def wFldS (i : Nat) (C f : Str) (We : WE) : WS := fun E ρ => We E.ex ρ fun dv ρ1 => dv.thn fun d => match ρ1[i]? with
  | some (some (.mu b (.ins C' fs))) => C' = C ∧ fs.length < 1000 ∧ E.nx (ρ1.set i (some (.mu b (.ins C' (putFD f d fs)))))
  | _ => False
theorem js_fldS (T : Cls X.K (He.ga X.K C)) (no : NoAttr X.K (He.ga X.K C) f) (h : PE X (.Name y py) (tVar i)) (he : JE X Wx ex We) (hs : swapsWith ex (some (.Attribute (.Name y py) f p)) pos.line X.env = pure false := by rfl) :
    JS X Wx (.Assign [.Attribute (.Name y py) f p] ex pos) (wFldS i C f We) := PS.wk (ps_fld h he hs) fun D σ H h => by
  obtain ⟨e, ρ, F, E, s, w, r⟩ := h
  refine ⟨e, ρ, F, E.ex, _, s, w, r.ex, fun F1 H1 v1 d1 ρ1 s1 m1 r1 q1 => ?_⟩
  obtain ⟨F2, d, s2, m2, i2, q2⟩ := s1.data r1 q1
  split at q2
  · rename_i b C' fs hi
    obtain ⟨rfl, hl, q⟩ := q2
    obtain ⟨v, hσ, q', o', rfl, b1, b2, b3, b4, b5, dx, vs, rfl, b6⟩ := s2.sl i _ hi
    refine ⟨_, hσ, q', _, dx, vs, rfl, b5, T, no, by rw [← b6.len]; exact hl, ?_⟩
    exact r.nx _ F2 σ _ (s2.mut (c' := .ins C' (putFD f d fs)) hi hσ (o := .ins (He.ga X.K C') dx (L2.putF f v1 vs)) ⟨_, _, rfl, b6.putF i2⟩) q
  · exact q2.elim
def wMake (C : Str) (R : RB) (Wa : WA) : WE := fun EX ρ P => Wa EX ρ fun ds ρ1 => R (.ins C []) ds fun dv c => dv = .fz .non ∧ P (.mu true c) ρ1
theorem je_make {R : RB} (M : Mk X.K (He.ga X.K C) fa) (G : FnOk X.prog X.w X.K X.mg X.base CX0 k fa fd ps (spB X.K R)) (hr : Room (k + 1) X.A) (hg : Gl X C) (hm : X.mg C = some (.ref (He.ga X.K C))) (hb : Binds X.K fd ps [])
    (ha : JA X Wx (a :: es) Wargs) (hdb : (C == ("__debug__" : Str)) = false := by decide) (he : starEach (a :: es) X.env = (false, eval a X.env) :: starEach es X.env := by rfl) (hpl : (backTo pos (starEach es X.env)).any (·.1) = false := by rfl) :
    JE X Wx (.Call (.Name C p) (a :: es) [] pos) (wMake C R Wargs) := by
  refine PE.wk (pe_make M G hr hg hm hb .nil pass0 ha hdb he hpl) fun σ H Q h => ?_
  obtain ⟨e, ρ, F, EX, P, s, w0, hx, kk⟩ := h
  refine ⟨e, ρ, F, EX, _, s, w0, hx, fun F1 H1 vs ds ρ1 s1 m1 r1 q1 => ?_⟩
  intro xx dx nx ndx ne
  show spB X.K R (.ref xx :: (vs ++ [])) _ _ E0
  rw [List.append_nil]
  have s2 : Sg X.K e ρ1 F1 σ (upd H1 dx (.own xx)) := s1.laid ndx
  have nx2 : (upd H1 dx (.own xx)) xx = none := by rw [upd_ne (Ne.symm ne)]; exact nx
  obtain ⟨s3, r3⟩ := s2.alloc (o := .ins (He.ga X.K C) dx []) (c := .ins C []) nx2 ⟨dx, [], rfl, .nil⟩
  obtain ⟨hf, heH⟩ := s2.free nx2
  have np : ∀ u, (xx, u) ∉ e.pn := fun u hu => by have := (s2.pin _ hu).1; rw [nx2] at this; cases this
  refine ⟨F1, .ins C [], ds, _, xx, _, vs, rfl, s3.fh, hf, upd_same, ⟨dx, [], rfl, .nil⟩, r1, q1, fun F' H' v dv c' o' st sm h1 h2 h3 ho hp => ?_⟩
  obtain ⟨rfl, hp⟩ := hp
  have hv : v = .non := by simpa [Out, Is] using ho
  refine ⟨hv, ?_⟩
  have s4 := s3.laterX sm st (fun i dw hi hw => r3.2 rfl i dw hi hw) np heH
  exact kk F' H' (.ref xx) (.mu true c') ρ1 s4 (m1.trans st.ff) ⟨⟨xx, o', rfl, h1, fun _ => heH, (fun z => nomatch z), np, h2, h3⟩, fun _ i dw hi hw => r3.2 rfl i dw hi hw⟩ hp
/-- a method of a frozen instance -/
def wMeth (C m : Str) (R : RF) (Wo : WE) (Wa : WA) : WE := fun EX ρ P => Wo EX ρ fun dv ρ1 => match dv with
  | .fz (.ins C' ns ds) => C' = C ∧ m ∉ ns ∧ Wa EX ρ1 fun as ρ2 => R (.ins C' ns ds :: as) fun dv => P dv ρ2
  | _ => False
theorem meth_wk {R : RF} {t : TA} (hi : ∀ σ H (Q : List V → Hp → Prop), cA X.K Wx Wargs σ H Q → t σ H Q) (σ : St) (H : Hp) (Q : VK) (h : cE X.K Wx (wMeth C m R Wo Wargs) σ H Q) : tMeth (He.ga X.K C) m (spF X.K R) [] E0 (cE X.K Wx Wo) t σ H Q := by
  obtain ⟨e, ρ, F, EX, P, s, w0, hx, kk⟩ := h
  refine ⟨e, ρ, F, EX, _, s, w0, hx, fun F1 H1 v1 d1 ρ1 s1 m1 r1 q1 => ?_⟩
  split at q1
  · obtain ⟨rfl, nm, q⟩ := q1
    rename_i C' ns ds
    have i1 := r1.1
    have i1' : Is X.K F1 (.ins C' ns ds) v1 := i1
    simp only [Sl, Is] at i1
    obtain ⟨a, dx, vs, rfl, h1, h2, h3⟩ := i1
    refine ⟨a, dx, _, rfl, s1.fh _ _ h1, zip_none nm, hi _ _ _ ⟨e, ρ1, F1, EX, _, s1, q, hx, fun F2 H2 us as ρ2 s2 m2 r2 q2 => ?_⟩⟩
    show spF X.K R (V.ref a :: (us ++ [])) H2 Q E0
    rw [List.append_nil]
    exact ⟨F2, _ :: as, _, s2.fh, IsL.cons (Is.mono m2 _ i1') r2, q2, fun F' H' v dv st sm o p => kk F' H' v dv ρ2 (s2.later sm st) (m1.trans (m2.trans st.ff)) (Out.res s2 o) p⟩
  · exact q1.elim
theorem je_meth {R : RF} {pl : Sem Bool} (c : Cls X.K (He.ga X.K C)) (hm : Meth X.K (He.ga X.K C) m fa) (G : FnOk X.prog X.w X.K X.mg X.base CX0 k fa fd ps (spF X.K R)) (hr : Room k X.A) (hb : Binds X.K fd ps []) (ho : JE X Wx o Wo) (ha : JA X Wx (a :: es) Wargs)
    (hst : starEach (a :: es) X.env = (false, eval a X.env) :: starEach es X.env := by rfl) (hpl : (backTo pos (starEach es X.env)).any (·.1) = false := by rfl)
    (ht : eval (.Call (.Attribute o m apos) (a :: es) [] pos) X.env = (do
      let ov ← eval o X.env
      standAt apos.atName
      let (f, first) ← holding [ov] (getMethod ov m pl)
      callWith pos f first (backTo pos (starEach (a :: es) X.env)) (backToKw pos (keywordEach [] X.env))) := by rfl) :
    JE X Wx (.Call (.Attribute o m apos) (a :: es) [] pos) (wMeth C m R Wo Wargs) := PE.wk (pe_meth ho c hm G hr hb .nil pass0 ha hst hpl ht) (meth_wk fun _ _ _ h => h)
theorem je_meth0 {R : RF} {pl : Sem Bool} (c : Cls X.K (He.ga X.K C)) (hm : Meth X.K (He.ga X.K C) m fa) (G : FnOk X.prog X.w X.K X.mg X.base CX0 k fa fd ps (spF X.K R)) (hr : Room k X.A) (hb : Binds X.K fd ps []) (ho : JE X Wx o Wo)
    (ht : eval (.Call (.Attribute o m apos) [] [] pos) X.env = (do
      let ov ← eval o X.env
      standAt apos.atName
      let (f, first) ← holding [ov] (getMethod ov m pl)
      callWith pos f first (backTo pos (starEach [] X.env)) (backToKw pos (keywordEach [] X.env))) := by rfl) :
    JE X Wx (.Call (.Attribute o m apos) [] [] pos) (wMeth C m R Wo wNil) := PE.wk (pe_meth0 ho c hm G hr hb .nil pass0 ht) (meth_wk fun σ H Q h => by
      obtain ⟨e, ρ, F, EX, P, s, w0, hx, kk⟩ := h
      exact kk F H [] [] ρ s (Same.refl _) IsL.nil w0)
/-! ### isinstance, with instances of own classes -/
structure InsT (K : PySem.W.Frag) (C : Str) : Prop where
  cl : Cls K (He.ga K C)
  ha : PySem.W.findIn K (.ref (He.ga K C)) "__class__" = some (some (.builtin "object.__class__"))
  hn : PySem.W.specialIn K (.builtin "object.__class__") "__get__" = some (some (.builtin "getset_descriptor.__get__"))
  ht : PySem.W.takesIn K (.builtin "object.__class__") = some true
  hm : PySem.W.mroIn K (He.ga K C) (.type "object") = some true
  kt : ∀ t : Ty, PySem.W.kitOne K (.ref (He.ga K C)) (.type t.nm) = some false
def insB (K : PySem.W.Frag) (C : Str) : Bool := decide (PySem.W.findIn K (.ref (He.ga K C)) "__class__" = some (some (.builtin "object.__class__"))) && (decide (PySem.W.specialIn K (.builtin "object.__class__") "__get__" = some (some (.builtin "getset_descriptor.__get__"))) && (decide (PySem.W.takesIn K (.builtin "object.__class__") = some true) &&
  (decide (PySem.W.mroIn K (He.ga K C) (.type "object") = some true) && ([Ty.int, Ty.bool, Ty.tuple, Ty.list, Ty.str].all fun t => decide (PySem.W.kitOne K (.ref (He.ga K C)) (.type t.nm) = some false)))))
theorem insB_ok {K : PySem.W.Frag} {C : Str} (c : Cls K (He.ga K C)) (h : insB K C = true) : InsT K C := by
  obtain ⟨h1, h⟩ := He.ba h
  obtain ⟨h2, h⟩ := He.ba h
  obtain ⟨h3, h⟩ := He.ba h
  obtain ⟨h4, h5⟩ := He.ba h
  exact ⟨c, of_decide_eq_true h1, of_decide_eq_true h2, of_decide_eq_true h3, of_decide_eq_true h4, fun t => of_decide_eq_true (List.all_eq_true.mp h5 t (by cases t <;> simp))⟩
def plainX (oc : List Str) : D → Bool
  | .ins C _ _ => decide (C ∈ oc)
  | d => d.plain
def wIsiX (oc : List Str) (t : Ty) : List D → (DV → Prop) → Prop := fun ds P => match ds with
  | [d, .ty n] => n = t.nm ∧ plainX oc d = true ∧ P (.fz (.bl (d.isT t)))
  | _ => False
theorem cr_isiX {K : PySem.W.Frag} {oc : List Str} {t : Ty} (T : ∀ C, C ∈ oc → InsT K C) : CRl K (rIsi K) (wIsiX oc t) := by
  intro e ρ F σ H vs ds Q P s i w k
  unfold wIsiX at w
  split at w
  · rename_i d n
    obtain ⟨v, u, rfl, iv, iu⟩ := i.two_inv
    simp only [Is] at iu
    subst iu
    obtain ⟨rfl, w1, w2⟩ := w
    by_cases hi : ∃ C ns ds, d = .ins C ns ds
    · obtain ⟨C, ns, ds, rfl⟩ := hi
      have hC : C ∈ oc := of_decide_eq_true w1
      simp only [Is] at iv
      obtain ⟨a, dx, vs, rfl, h1, h2, h3⟩ := iv
      have T1 := T C hC
      exact ⟨_, _, _, _, _, rfl, .ty _, .base (.ins (s.fh _ _ h1) T1.cl T1.ha T1.hn T1.ht T1.hm), T1.kt t, k F H _ _ s (Same.refl _) (Res.fz (by simp [Is]; cases t <;> rfl)) w2⟩
    · have w1 : d.plain = true := by
        cases d <;> first | exact w1 | exact absurd ⟨_, _, _, rfl⟩ hi
      exact ⟨v, _, _, _, _, rfl, .ty _, tyX_of s.fh iv w1, kit_ty (kit_is t w1), k F H _ _ s (Same.refl _) (Res.fz (by simp [Is])) w2⟩
  · exact w.elim
end
/-! ## methods of lists, gcd -/
section
variable {X : Cx} {Wx : WX} {y x : Str} {i : Nat} {p pos py apos cpos : Pos} {a ex : Expr} {es : List Expr} {We : WE} {Wargs : WA}
def wRevS (i : Nat) : WS := fun E ρ => match ρ[i]? with
  | some (some (.mu b (.lst ds))) => E.nx (ρ.set i (some (.mu b (.lst ds.reverse))))
  | _ => False
theorem js_revS (h0 : PS X (.Expr (.Call (.Attribute (.Name y py) "reverse" apos) [] [] cpos) pos) (tDrop (tBM0 X.K "list" rReverse (tVar i)))) : JS X Wx (.Expr (.Call (.Attribute (.Name y py) "reverse" apos) [] [] cpos) pos) (wRevS i) := PS.wk h0 fun D σ H h => by
  obtain ⟨e, ρ, F, E, s, w, r⟩ := h
  unfold wRevS at w
  split at w
  · rename_i b ds hi
    obtain ⟨v, hσ, q', o', rfl, b1, b2, b3, b4, b5, vs, rfl, b6⟩ := s.sl i _ hi
    exact ⟨_, hσ, .inl ⟨rfl, vs, SqL.of b5⟩, q', vs, rfl, rfl, b5, r.nx _ F σ _ (s.mut (c' := .lst ds.reverse) hi hσ (o := .lst vs.reverse) ⟨_, rfl, b6.reverse⟩) w⟩
  · exact w.elim
def wExt (i : Nat) (We : WE) : WS := fun E ρ => isMu ρ i ∧ We E.ex ρ fun dv ρ1 => dv.thn fun d => match d with
  | .lst es => (match ρ1[i]? with
    | some (some (.mu b (.lst ds))) => ds.length + es.length ≤ sizeLine ∧ E.nx (ρ1.set i (some (.mu b (.lst (ds ++ es)))))
    | _ => False)
  | _ => False
def isMuL (ρ : DEnv) (i : Nat) : Prop := match ρ[i]? with
  | some (some (.mu _ (.lst _))) => True
  | _ => False
def wExtL (i : Nat) (We : WE) : WS := fun E ρ => isMuL ρ i ∧ We E.ex ρ fun dv ρ1 => dv.thn fun d => match d with
  | .lst es => (match ρ1[i]? with
    | some (some (.mu b (.lst ds))) => ds.length + es.length ≤ sizeLine ∧ E.nx (ρ1.set i (some (.mu b (.lst (ds ++ es)))))
    | _ => False)
  | _ => False
theorem js_extL (h0 : PS X (.Expr (.Call (.Attribute (.Name y py) "extend" apos) [ex] [] cpos) pos) (tDrop (tBM X.K "list" rExtend (tVar i) (tCons (cE X.K Wx We) tNil)))) : JS X Wx (.Expr (.Call (.Attribute (.Name y py) "extend" apos) [ex] [] cpos) pos) (wExtL i We) := PS.wk h0 fun D σ H h => by
  obtain ⟨e, ρ, F, E, s, ⟨hm, w⟩, r⟩ := h
  unfold isMuL at hm
  split at hm
  · rename_i b c hb
    obtain ⟨v, hσ, q, o, rfl, a1, a2, a3, a4, a5, vs, rfl, a6⟩ := s.sl i _ hb
    refine ⟨_, hσ, .inl ⟨rfl, vs, SqL.of a5⟩, e, ρ, F, E.ex, _, s, w, r.ex, fun F1 H1 v1 d1 ρ1 s1 m1 r1 q1 => ?_⟩
    obtain ⟨F2, d, s2, m2, i2, q2⟩ := s1.data r1 q1
    split at q2
    · simp only [Is] at i2
      obtain ⟨pb, zs, rfl, hz, iz⟩ := i2
      split at q2
      · rename_i b' ds hb'
        obtain ⟨v', hσ', q', o', e', b1, b2, b3, b4, b5, vs', rfl, b6⟩ := s2.sl i _ hb'
        rw [hσ] at hσ'
        cases hσ'
        cases e'
        refine ⟨q, pb, vs', zs, rfl, rfl, b5, s2.fh _ _ hz, by rw [← b6.len, ← iz.len]; exact q2.1, ?_⟩
        exact r.nx _ F2 σ _ (s2.mut (c' := .lst _) hb' hσ (o := .lst (vs' ++ zs)) ⟨_, rfl, b6.append iz⟩) q2.2
      · exact q2.elim
    · exact q2.elim
  · exact hm.elim
/-- x.pop(e), x the own list of a slot -/
def wPopAt (i : Nat) (We : WE) : WE := fun EX ρ P => isMuL ρ i ∧ We EX ρ fun dv ρ1 => match dv with
  | .fz (.int k) => (match ρ1[i]? with
    | some (some (.mu b (.lst ds))) => -(2 ^ 63) ≤ k ∧ k < 2 ^ 63 ∧ ∃ j d, seqIndex? k ds.length = some j ∧ ds[j]? = some d ∧ P (.fz d) (ρ1.set i (some (.mu b (.lst (ds.eraseIdx j)))))
    | _ => False)
  | _ => False
theorem IsL.erase {K : PySem.W.Frag} {F : Hp} : ∀ {ds : List D} {vs : List V} (j : Nat), IsL K F ds vs → IsL K F (ds.eraseIdx j) (vs.eraseIdx j)
  | [], _, _, q => by simp only [IsL] at q; subst q; simp [IsL]
  | c :: ds, _, 0, q => by
    simp only [IsL] at q
    obtain ⟨w, r, rfl, a, b⟩ := q
    exact b
  | c :: ds, _, j + 1, q => by
    simp only [IsL] at q
    obtain ⟨w, r, rfl, a, b⟩ := q
    exact IsL.cons a (IsL.erase j b)
theorem je_popAt (h0 : PE X (.Call (.Attribute (.Name y py) "pop" apos) [ex] [] cpos) (tBM X.K "list" rPopAt (tVar i) (tCons (cE X.K Wx We) tNil))) : JE X Wx (.Call (.Attribute (.Name y py) "pop" apos) [ex] [] cpos) (wPopAt i We) := by
  refine PE.wk h0 fun σ H Q h => ?_
  obtain ⟨e, ρ, F, EX, P, s, ⟨hm, w⟩, hx, kk⟩ := h
  unfold isMuL at hm
  split at hm
  · rename_i b c hb
    obtain ⟨v, hσ, q, o, rfl, a1, a2, a3, a4, a5, vs, rfl, a6⟩ := s.sl i _ hb
    refine ⟨_, hσ, .inl ⟨rfl, vs, SqL.of a5⟩, e, ρ, F, EX, _, s, w, hx, fun F1 H1 v1 d1 ρ1 s1 m1 r1 q1 => ?_⟩
    split at q1
    · rename_i k
      have hk : v1 = .int k := by simpa [Res, Sl, Is] using r1.1
      split at q1
      · rename_i b' ds hb'
        obtain ⟨v', hσ', q', o', e', b1, b2, b3, b4, b5, vs', rfl, b6⟩ := s1.sl i _ hb'
        rw [hσ] at hσ'
        cases hσ'
        cases e'
        obtain ⟨k1, k2, j, d, hj, hd, hq⟩ := q1
        obtain ⟨w, hw, iw⟩ := b6.get hd
        refine ⟨q, vs', k, j, w, rfl, by rw [hk], b5, k1, k2, by rw [← b6.len]; exact hj, hw, ?_⟩
        exact kk F1 _ w _ _ (s1.mut (c' := .lst _) hb' hσ (o := .lst (vs'.eraseIdx j)) ⟨_, rfl, b6.erase j⟩) m1 (Res.fz iw) hq
      · exact q1.elim
    · exact q1.elim
  · exact hm.elim
/-- o.index(e), o a list of ints -/
def wLIx (Wo We : WE) : WE := fun EX ρ P => Wo EX ρ fun ov ρ1 => ov.thn fun od => match od with
  | .lst ds => We EX ρ1 fun dv ρ2 => (match dv with
    | .fz (.int z) => ∃ (ns : List Int) (j : Nat), intsD ds = some ns ∧ ns[j]? = some z ∧ (∀ m, m < j → ns[m]? ≠ some z) ∧ P (.fz (.int (j : Nat))) ρ2
    | _ => False)
  | _ => False
theorem je_lix {o : Expr} {Wo : WE} (h0 : PE X (.Call (.Attribute o "index" apos) [ex] [] cpos) (tBM X.K "list" (rIndex X.K) (cE X.K Wx Wo) (tCons (cE X.K Wx We) tNil))) : JE X Wx (.Call (.Attribute o "index" apos) [ex] [] cpos) (wLIx Wo We) := by
  refine PE.wk h0 fun σ H Q h => ?_
  obtain ⟨e, ρ, F, EX, P, s, w0, hx, kk⟩ := h
  refine ⟨e, ρ, F, EX, _, s, w0, hx, fun F1 H1 v1 d1 ρ1 s1 m1 r1 q1 => ?_⟩
  obtain ⟨F2, d, s2, m2, i2, q2⟩ := s1.data r1 q1
  split at q2
  · rename_i ds
    simp only [Is] at i2
    obtain ⟨a, vs, rfl, hF, iv⟩ := i2
    refine ⟨.inl ⟨rfl, vs, SqL.of (s2.fh _ _ hF)⟩, e, ρ1, F2, EX, _, s2, q2, hx, fun F3 H3 v3 d3 ρ3 s3 m3 r3 q3 => ?_⟩
    split at q3
    · rename_i z
      have hz : v3 = .int z := by simpa [Res, Sl, Is] using r3.1
      obtain ⟨ns, j, hn, hj, hno, q⟩ := q3
      rw [ints_of hn] at iv
      have ev := IsL.ints.mp iv
      subst ev hz
      refine ⟨a, ns.map V.int, .int z, j, .int z, rfl, rfl, SqL.of (s3.fh _ _ (m3 _ _ hF)), rfl, ?_, ?_, ?_, fun m z' hm hz' => ?_, kk F3 H3 _ _ ρ3 s3 (m1.trans (m2.trans m3)) (Res.fz (by simp [Is])) q⟩
      · rw [List.all_map]; exact List.all_eq_true.mpr fun _ _ => rfl
      · rw [List.getElem?_map, hj]; rfl
      · show (z == z) = true
        exact beq_self_eq_true z
      · rw [List.getElem?_map] at hz'
        obtain ⟨n, hn1, rfl⟩ := Option.map_eq_some_iff.mp hz'
        show (n == z) = false
        rw [beq_eq_false_iff_ne]
        intro ee
        exact hno m hm (by rw [hn1, ee])
    · exact q3.elim
  · exact q2.elim
/-- f(e, ..), f a module's name for a built-in function -/
theorem je_callBf {id : String} {r : List V → Hp → VK → Prop} {w : List D → (DV → Prop) → Prop} (hc : CallR X (.builtin id) r) (hr : CRl X.K r w) (hg : Gl X x) (hm : X.mg x = some (.builtin id)) (ha : JA X Wx (a :: es) Wargs) (hdb : (x == ("__debug__" : Str)) = false := by decide)
    (he : starEach (a :: es) X.env = (false, eval a X.env) :: starEach es X.env := by rfl) (hpl : (backTo pos (starEach es X.env)).any (·.1) = false := by rfl) : JE X Wx (.Call (.Name x p) (a :: es) [] pos) (wCB w Wargs) := PE.wk (pe_callBfun hc hg hm ha hdb he hpl) (cE_cb hr)
def wGcd : List D → (DV → Prop) → Prop := fun ds P => match ds with
  | [.int i, .int j] => P (.fz (.int ((Nat.gcd i.natAbs j.natAbs : Nat) : Int)))
  | _ => False
theorem cr_gcdD {K : PySem.W.Frag} : CRl K rGcd wGcd := two_ints fun i j _ _ q => ⟨i, j, rfl, q⟩
/-- is, is not of truth values -/
def wIsB (neg : Bool) : D → D → (DV → Prop) → Prop := fun a b P => match a, b with
  | .bl i, .bl j => P (.fz (.bl (if neg then !decide (i = j) else decide (i = j))))
  | _, _ => False
theorem br_isB {K : PySem.W.Frag} : BR K rIsB (wIsB false) := by
  intro e ρ F σ H x y a b Q P s ia ib w k
  unfold wIsB at w
  split at w
  · simp only [Is] at ia ib
    subst ia ib
    exact ⟨_, _, rfl, rfl, k F H _ _ s (Same.refl _) (Res.fz (by simp [Is])) w⟩
  · exact w.elim
theorem br_notB {K : PySem.W.Frag} : BR K rNotB (wIsB true) := by
  intro e ρ F σ H x y a b Q P s ia ib w k
  unfold wIsB at w
  split at w
  · simp only [Is] at ia ib
    subst ia ib
    exact ⟨_, _, rfl, rfl, k F H _ _ s (Same.refl _) (Res.fz (by simp [Is])) w⟩
  · exact w.elim
/-- xs[::-1] -/
def wRevL (We : WE) : WE := fun EX ρ P => We EX ρ fun dv ρ1 => dv.thn fun d => match d with
  | .lst ds => P (.mu true (.lst ds.reverse)) ρ1
  | _ => False
theorem je_revL {k : Nat} {p1 p2 p3 : Pos} (h : JE X Wx ex We) : JE X Wx (.Subscript ex (.Slice none none (some (.UnaryOp .USub (.Constant (.int 1) k p1) p2)) p3) pos) (wRevL We) := by
  refine PE.wk (pe_revL h) fun σ H Q h => ?_
  obtain ⟨e, ρ, F, EX, P, s, w0, hx, kk⟩ := h
  refine ⟨e, ρ, F, EX, _, s, w0, hx, fun F1 H1 v1 d1 ρ1 s1 m1 r1 q1 => ?_⟩
  obtain ⟨F2, d, s2, m2, i2, q2⟩ := s1.data r1 q1
  split at q2
  · simp only [Is] at i2
    obtain ⟨a, vs, rfl, hF, iv⟩ := i2
    refine ⟨a, vs, rfl, SqL.of (s2.fh _ _ hF), fun pp hp => ?_⟩
    obtain ⟨s4, r4⟩ := s2.alloc (o := .lst _) (c := .lst _) hp ⟨_, rfl, iv.reverse⟩
    exact kk _ _ _ _ ρ1 s4 (m1.trans m2) r4 q2
  · exact q2.elim
/-- enumerate, zip over tuples -/
def wEnumT (Wa : WA) : WI := fun EX ρ P => Wa EX ρ fun ds ρ1 => match ds with
  | [.tup l] => P (enumD l) ρ1
  | _ => False
theorem walk_enT {K : PySem.W.Frag} {a : Addr} {xs : List V} : Walk (En.ItT K a) xs.length (fun H => SqT K H a xs) (YPair (fun i => some (.int (i : Nat))) (fun i => xs[i]?)) := by
  refine ⟨fun i _ hi q => ⟨xs, xs[i], q, by simp [hi]⟩, fun _ q => ⟨xs, q, Nat.le_refl _⟩, fun i H v H' _ q y => ?_⟩
  obtain ⟨T, x, h1, h2, h3, h4⟩ := y
  exact ⟨T, .int (i : Nat), x, h1, h2, h3, rfl, h4 xs q⟩
theorem ji_enumT {b : Expr} {elts : List Expr} {kk : Nat} {tpos : Pos} (hg : Gl X "enumerate") (hm : X.mg "enumerate" = none) (ha : JA X Wx [b] Wargs) (hs : starEach [b] X.env = [(false, eval b X.env)] := by rfl) :
    JI X Wx (.Tuple elts kk tpos) (.Call (.Name "enumerate" p) [b] [] pos) (wEnumT Wargs) := by
  refine PI.wk (En.pi_enT hg hm ha hs) fun σ H R h => ?_
  obtain ⟨e, ρ, F, EX, P, s, w0, hx, k⟩ := h
  refine ⟨e, ρ, F, EX, _, s, w0, hx, fun F1 H1 vs ds ρ1 s1 m1 r1 q1 => ?_⟩
  split at q1
  · obtain ⟨v, rfl, iv⟩ := r1.one_inv
    simp only [Is] at iv
    obtain ⟨a, us, rfl, h1, h2⟩ := iv
    refine ⟨a, us, rfl, Same.seqT s1.fh h1, k F1 H1 _ ρ1 _ _ _ _ s1 m1 q1 (walk_enT (xs := us)) (by rw [enumD_len, h2.len]) ⟨fun e' ρ' F2 σ' H' s' m' _ => Same.seqT s'.fh (Same.seqT m' h1), fun i H x H' hi _ y => ?_⟩⟩
    obtain ⟨T, y1, y2, rfl, hT, rfl, e1, e2⟩ := y
    cases e1
    obtain ⟨d, h3, h4⟩ := h2.get' e2
    refine .inr ⟨T, _, [.int (i : Nat), d], rfl, hT, rfl, ?_, ?_⟩
    · rw [List.getElem?_eq_getElem hi, enumD_get]
      have := (List.getElem?_eq_some_iff.mp h3).2
      rw [this]
    · exact .cons (by simp [Is]) (.one h4)
  · exact q1.elim
def wZipT (Wa : WA) : WI := fun EX ρ P => Wa EX ρ fun ds ρ1 => match ds with
  | [.tup l, .tup m] => P (zipD l m) ρ1
  | _ => False
theorem walk_zipT {K : PySem.W.Frag} {a b : Addr} {xs ys : List V} {n : Nat} (hn : n = min xs.length ys.length) : Walk (RZ.ItzT K a b) n (fun H => SqT K H a xs ∧ SqT K H b ys) (YPair (fun i => xs[i]?) (fun i => ys[i]?)) := by
  subst hn
  refine ⟨fun i _ hi q => ?_, fun _ q => ⟨xs, ys, q.1, q.2, by omega⟩, fun i H v H' _ q y => ?_⟩
  · have h1 : i < xs.length := by omega
    have h2 : i < ys.length := by omega
    exact ⟨xs, ys, xs[i], ys[i], q.1, q.2, by simp [h1], by simp [h2]⟩
  · obtain ⟨T, x, z, h1, h2, h3, h4, h5⟩ := y
    exact ⟨T, x, z, h1, h2, h3, h4 xs q.1, h5 ys q.2⟩
theorem ji_zipT {c b : Expr} {elts : List Expr} {kk : Nat} {tpos : Pos} (hg : Gl X "zip") (hm : X.mg "zip" = none) (ha : JA X Wx [c, b] Wargs) (hs : starEach [c, b] X.env = (false, eval c X.env) :: starEach [b] X.env := by rfl) (hpl : (backTo pos (starEach [b] X.env)).any (·.1) = false := by rfl) :
    JI X Wx (.Tuple elts kk tpos) (.Call (.Name "zip" p) [c, b] [] pos) (wZipT Wargs) := by
  refine PI.wk (RZ.pi_zipA hg hm ha hs hpl) fun σ H R h => ?_
  obtain ⟨e, ρ, F, EX, P, s, w0, hx, k⟩ := h
  refine ⟨e, ρ, F, EX, _, s, w0, hx, fun F1 H1 vs ds ρ1 s1 m1 r1 q1 => ?_⟩
  split at q1
  · obtain ⟨v, u, rfl, iv, iu⟩ := r1.two_inv
    simp only [Is] at iv iu
    obtain ⟨a, us, rfl, h1, h2⟩ := iv
    obtain ⟨b, ws, rfl, h3, h4⟩ := iu
    refine ⟨a, b, us, ws, rfl, .inr ⟨Same.seqT s1.fh h1, Same.seqT s1.fh h3, k F1 H1 _ ρ1 _ _ _ _ s1 m1 q1 (walk_zipT (xs := us) (ys := ws) rfl) (by rw [zipD_len, h2.len, h4.len]) ⟨fun e' ρ' F2 σ' H' s' m' _ => ⟨Same.seqT s'.fh (Same.seqT m' h1), Same.seqT s'.fh (Same.seqT m' h3)⟩, fun i H x H' hi _ y => ?_⟩⟩⟩
    obtain ⟨T, y1, y2, rfl, hT, rfl, e1, e2⟩ := y
    obtain ⟨d, h5, h6⟩ := h2.get' e1
    obtain ⟨c, h7, h8⟩ := h4.get' e2
    refine .inr ⟨T, _, [d, c], rfl, hT, rfl, ?_, ?_⟩
    · rw [List.getElem?_eq_getElem hi, zipD_get]
      rw [(List.getElem?_eq_some_iff.mp h5).2, (List.getElem?_eq_some_iff.mp h7).2]
    · exact .cons h6 (.one h8)
  · exact q1.elim
end
end L2.DL

/-! # DLv.lean -/
set_option Elab.async false
set_option linter.all false
set_option maxRecDepth 100000
namespace L2.DL
open PySem PySem.Spec PyProof.Rows
/-! ## for the proofs: loops over mapped lists, items, slices, bits -/
theorem line : sizeLine = 16777216 := sizeLine_eq
section
variable {α σ : Type} {l : List α} {c : α → D} {g : WG} {Wt : WT} {We : WE} {W : WS} {E : DEnds} {vs : List Nat} {ρ ρw : DEnv} {P : DV → DEnv → Prop}
/-- a comprehension over a mapped list -/
theorem LcP.mapL (f : α → D) (hz : l.length ≤ sizeLine) (hw : Wk (wipeD ρ vs) ρw) (hs : ∀ a, a ∈ l → ∀ T : D → DEnv → Prop, (∀ ρ4, Wk (wipeD ρ4 vs) ρw → T (f a) ρ4) → g (c a) ρw fun ρ2 => We NX ρ2 fun y ρ4 => y.thn fun d => T d ρ4)
    (he : P (.mu true (.lst (l.map f))) (backD ρ ρw vs)) : LcP (l.map c) g wYes We vs ρ P := by
  refine ⟨fun i acc ρ' => acc = (l.take i).map f ∧ ρ' = ρw, ⟨ρw, hw, by simp, rfl⟩, fun i acc ρ' hi h => ?_, fun acc ρ' h => ?_⟩
  · obtain ⟨h1, rfl⟩ := h
    have hi' : i < l.length := by simpa using hi
    rw [List.getElem_map]
    refine hs _ (List.getElem_mem hi') (fun d ρ4 => acc.length < sizeLine ∧ ∃ ρ5, Wk (wipeD ρ4 vs) ρ5 ∧ acc ++ [d] = (l.take (i + 1)).map f ∧ ρ5 = ρ') fun ρ4 e2 => ?_
    refine ⟨by subst h1; simp; omega, ρ', e2, ?_, rfl⟩
    rw [h1, List.take_succ_eq_append_getElem hi', List.map_append]; rfl
  · obtain ⟨rfl, rfl⟩ := h
    have : l.take (l.map c).length = l := by simp
    rw [this]
    exact he
/-- .. with a test -/
theorem LcP.filtL (q : α → Bool) (f : α → D) (hz : l.length ≤ sizeLine) (hw : Wk (wipeD ρ vs) ρw)
    (hs : ∀ a, a ∈ l → ∀ (T : D → DEnv → Prop) (S : DEnv → Prop), (q a = true → ∀ ρ4, Wk (wipeD ρ4 vs) ρw → T (f a) ρ4) → (q a = false → ∀ ρ4, Wk (wipeD ρ4 vs) ρw → S ρ4) →
      g (c a) ρw fun ρ2 => Wt NX ρ2 fun b ρ3 => ift b (We NX ρ3 fun y ρ4 => y.thn fun d => T d ρ4) (S ρ3))
    (he : P (.mu true (.lst ((l.filter q).map f))) (backD ρ ρw vs)) : LcP (l.map c) g Wt We vs ρ P := by
  refine ⟨fun i acc ρ' => acc = ((l.take i).filter q).map f ∧ ρ' = ρw, ⟨ρw, hw, by simp, rfl⟩, fun i acc ρ' hi h => ?_, fun acc ρ' h => ?_⟩
  · obtain ⟨h1, rfl⟩ := h
    have hi' : i < l.length := by simpa using hi
    rw [List.getElem_map]
    refine hs _ (List.getElem_mem hi') (fun d ρ4 => acc.length < sizeLine ∧ ∃ ρ5, Wk (wipeD ρ4 vs) ρ5 ∧ acc ++ [d] = ((l.take (i + 1)).filter q).map f ∧ ρ5 = ρ') (fun ρ4 => ∃ ρ5, Wk (wipeD ρ4 vs) ρ5 ∧ acc = ((l.take (i + 1)).filter q).map f ∧ ρ5 = ρ') (fun hq ρ4 e2 => ?_) fun hq ρ4 e2 => ?_
    · refine ⟨?_, ρ', e2, ?_, rfl⟩
      · subst h1
        rw [List.length_map]
        have := List.length_filter_le q (l.take i)
        rw [List.length_take] at this
        omega
      · rw [h1, List.take_succ_eq_append_getElem hi', List.filter_append, List.map_append]; simp [hq]
    · refine ⟨ρ', e2, ?_, rfl⟩
      rw [h1, List.take_succ_eq_append_getElem hi', List.filter_append, List.map_append]; simp [hq]
  · obtain ⟨rfl, rfl⟩ := h
    have : l.take (l.map c).length = l := by simp
    rw [this]
    exact he
/-- a loop over a mapped list, by what holds of the part taken and the state -/
theorem ForP.inv (J : List α → σ → Prop) (env : σ → DEnv) (s0 : σ) (hw : Wk ρ (env s0)) (h0 : J [] s0)
    (hs : ∀ pre a post s, l = pre ++ a :: post → J pre s → ∀ N : DEnv → Prop, (∀ s' ρ3, J (pre ++ [a]) s' → Wk ρ3 (env s') → N ρ3) → g (c a) (env s) fun ρ2 => W { E with nx := N, ct := N, bk := E.nx } ρ2)
    (he : ∀ s, J l s → E.nx (env s)) : ForP (l.map c) g W E ρ := by
  refine ⟨fun i ρ' => ∃ s, J (l.take i) s ∧ ρ' = env s, ⟨env s0, hw, s0, by simpa using h0, rfl⟩, fun i ρ' hi h => ?_, fun ρ' h => ?_⟩
  · obtain ⟨s, hj, rfl⟩ := h
    have hi' : i < l.length := by simpa using hi
    rw [List.getElem_map]
    refine hs (l.take i) l[i] (l.drop (i + 1)) s ?_ hj (fun ρ3 => ∃ ρ4, Wk ρ3 ρ4 ∧ ∃ s, J (l.take (i + 1)) s ∧ ρ4 = env s) fun s' ρ3 hj' hw' => ?_
    · conv => lhs; rw [← List.take_append_drop i l]
      rw [List.drop_eq_getElem_cons hi']
    · exact ⟨env s', hw', s', by rw [List.take_succ_eq_append_getElem hi']; exact hj', rfl⟩
  · obtain ⟨s, hj, rfl⟩ := h
    have : l.take (l.map c).length = l := by simp
    rw [this] at hj
    exact he s hj
/-- .. the state a fold -/
theorem ForP.fold (env : σ → DEnv) (st : σ → α → σ) (s0 : σ) (hw : Wk ρ (env s0))
    (hs : ∀ pre a post, l = pre ++ a :: post → ∀ N : DEnv → Prop, (∀ ρ3, Wk ρ3 (env (st (pre.foldl st s0) a)) → N ρ3) → g (c a) (env (pre.foldl st s0)) fun ρ2 => W { E with nx := N, ct := N, bk := E.nx } ρ2)
    (he : E.nx (env (l.foldl st s0))) : ForP (l.map c) g W E ρ := by
  refine ForP.inv (fun pre s => s = pre.foldl st s0) env s0 hw rfl (fun pre a post s e hj N hN => ?_) fun s hj => by rw [hj]; exact he
  rw [hj]
  exact hs pre a post e N fun ρ3 h3 => hN _ ρ3 (by simp) h3
theorem rng_map (lo : Int) (n : Nat) : rngD lo 1 n = (List.range n).map fun i : Nat => D.int (lo + (i : Int) * 1) := rfl
theorem rng0 (n : Nat) : rngD 0 1 n = (List.range n).map fun i : Nat => D.int i := by
  rw [rng_map]; apply List.map_congr_left; intro i _; simp
theorem enum_map (f : α → D) (l : List α) : enumD (l.map f) = l.zipIdx.map fun x => .tup [.int (x.2 : Nat), f x.1] := by
  unfold enumD
  rw [List.zipIdx_map, List.map_map]; rfl
theorem zip_map {β : Type} (f : α → D) (h : β → D) (l : List α) (m : List β) : zipD (l.map f) (m.map h) = (l.zip m).map fun x => .tup [f x.1, h x.2] := by
  unfold zipD
  rw [List.zip_map, List.map_map]; rfl
theorem mem_zipIdx' {l : List α} {x : α × Nat} (h : x ∈ l.zipIdx) : ∃ (hi : x.2 < l.length), x.1 = l[x.2] := by
  obtain ⟨_, h2, h3⟩ := List.mem_zipIdx h
  simp only [Nat.zero_add, Nat.sub_zero] at h2 h3
  exact ⟨h2, h3⟩
/-- items -/
theorem atM {i : Int} (h0 : 0 ≤ i) (h1 : i < l.length) : atI (l.map c) i = some (c (l[i.toNat]'(by omega))) := by
  have hn : i.toNat < l.length := by omega
  have := atI_nat (xs := l.map c) (j := i.toNat) (v := c l[i.toNat]) (by simp [hn])
  rwa [Int.toNat_of_nonneg h0] at this
theorem atN {i : Nat} (h1 : i < l.length) : atI (l.map c) (i : Int) = some (c l[i]) := by
  have := atM (l := l) (c := c) (i := (i : Int)) (by omega) (by omega)
  simpa using this
end
theorem getD_at {α : Type} {l : List α} {d : α} {i : Nat} (h : i < l.length) : l.getD i d = l[i] := by
  rw [List.getD_eq_getElem?_getD, List.getElem?_eq_getElem h]; rfl
theorem atG {xs : List Int} {i : Int} (h0 : 0 ≤ i) (h1 : i < xs.length) : atI (xs.map D.int) i = some (.int (xs.getD i.toNat 0)) := by
  rw [atM h0 h1, getD_at (by omega)]
theorem ixN_at {n : Nat} {i : Int} (h0 : 0 ≤ i) (h1 : i < n) : ixN n i = some i.toNat := by
  unfold ixN; rw [if_pos h0, if_pos h1]
theorem setG {cs : List Int} {j : Nat} {v : Int} : (cs.map D.int).set j (.int v) = (cs.set j v).map D.int := by rw [List.map_set]
/-- slices -/
theorem cut_ab (xs : List D) (a b : Nat) : cutD xs (some (a : Int)) (some (b : Int)) = (xs.take b).drop a := by
  unfold cutD
  rw [HT.sIx_nat, HT.sIx_nat, List.drop_take]
  by_cases h : a ≤ xs.length
  · rw [Nat.min_eq_left h]
    by_cases hb : b ≤ xs.length
    · rw [Nat.min_eq_left hb]
    · rw [Nat.min_eq_right (by omega), List.take_of_length_le (by simp), List.take_of_length_le (by simp; omega)]
  · have h1 : xs.drop a = [] := List.drop_eq_nil_of_le (by omega)
    have h2 : xs.drop (min a xs.length) = [] := List.drop_eq_nil_of_le (by omega)
    rw [h1, h2]; simp
theorem cut_b (xs : List D) (b : Nat) : cutD xs none (some (b : Int)) = xs.take b := by
  unfold cutD
  rw [HT.sIx_none, HT.sIx_nat, List.drop_zero, Nat.sub_zero]
  by_cases hb : b ≤ xs.length
  · rw [Nat.min_eq_left hb]
  · rw [Nat.min_eq_right (by omega), List.take_of_length_le (Nat.le_refl _), List.take_of_length_le (by omega)]
theorem cut_a (xs : List D) (a : Nat) : cutD xs (some (a : Int)) none = xs.drop a := by
  unfold cutD
  rw [HT.sIx_nat, HT.sIx_none]
  by_cases h : a ≤ xs.length
  · rw [Nat.min_eq_left h, List.take_of_length_le (by simp)]
  · have h1 : xs.drop a = [] := List.drop_eq_nil_of_le (by omega)
    have h2 : xs.drop (min a xs.length) = [] := List.drop_eq_nil_of_le (by omega)
    rw [h1, h2]; simp
theorem cut_m1 (xs : List D) : cutD xs none (some (-1)) = xs.dropLast := by
  unfold cutD
  rw [HT.sIx_none]
  have : HT.sIx xs.length xs.length (some (-1)) = xs.length - 1 := by
    show (if (-1 : Int) < 0 then ((-1 : Int) + (xs.length : Int)).toNat else min (-1 : Int).toNat xs.length) = _
    rw [if_pos (by decide)]; omega
  rw [this, List.dropLast_eq_take]; simp
theorem toI {z : Int} (h : 0 ≤ z) : ∃ n : Nat, z = n := ⟨z.toNat, (Int.toNat_of_nonneg h).symm⟩
/-- bits -/
theorem xorN (a b : Nat) : Builtin.bitXor (a : Int) (b : Int) = ((a ^^^ b : Nat) : Int) := by
  rw [_root_.Bits.bitXor_pp (by omega) (by omega)]; simp
theorem orN (a b : Nat) : Builtin.bitOr (a : Int) (b : Int) = ((a ||| b : Nat) : Int) := by
  rw [_root_.Bits.bitOr_pp (by omega) (by omega)]; simp
theorem cmulR {i j : Int} (h1 : -(2 ^ 64) < j) (h2 : j < 2 ^ 64) : CMul i j := .inr ⟨h1, h2⟩
theorem cmulL {i j : Int} (h1 : -(2 ^ 64) < i) (h2 : i < 2 ^ 64) : CMul i j := .inl ⟨h1, h2⟩
/-- a sum, a count -/
theorem bls_of_map {α : Type} (l : List α) (f : α → Bool) : bls (l.map fun a => D.bl (f a)) = some (l.map f) := by
  rw [← bls_map, List.map_map]; rfl
theorem ints_of_map {α : Type} (l : List α) (f : α → Int) : intsD (l.map fun a => D.int (f a)) = some (l.map f) := by
  rw [← ints_map, List.map_map]; rfl
theorem map_int {α : Type} (l : List α) (f : α → Int) : (l.map fun a => D.int (f a)) = (l.map f).map D.int := by rw [List.map_map]; rfl
theorem mem_post {α : Type} {l pre post : List α} {a : α} (e : l = pre ++ a :: post) : a ∈ l := by rw [e]; exact List.mem_append_right _ List.mem_cons_self
theorem pre_lt {α : Type} {l pre post : List α} {a : α} (e : l = pre ++ a :: post) : pre.length < l.length := by rw [e, List.length_append, List.length_cons]; omega
theorem pre_at {α : Type} {l pre post : List α} {a : α} (e : l = pre ++ a :: post) : l[pre.length]? = some a := by rw [e]; simp
theorem rng_pre {n : Nat} {pre post : List Nat} {a : Nat} (e : List.range n = pre ++ a :: post) : a = pre.length ∧ pre = List.range a ∧ a < n := by
  have h1 := pre_lt e
  rw [List.length_range] at h1
  have h2 := pre_at e
  rw [List.getElem?_range h1] at h2
  have ha : a = pre.length := (Option.some.inj h2).symm
  refine ⟨ha, ?_, by omega⟩
  have h3 : pre = (List.range n).take pre.length := by rw [e]; simp
  rw [h3, List.take_range, ha]
  have : min pre.length n = pre.length := Nat.min_eq_left (by omega)
  rw [this]
/-- what is made next, by its name -/
theorem wk_refl {ρ : DEnv} : Wk ρ ρ := Wk.refl ρ

theorem andN (a b : Nat) : Builtin.bitAnd (a : Int) (b : Int) = ((a &&& b : Nat) : Int) := by
  rw [PyProof.Rows.bitAnd_pp (by omega) (by omega)]; simp
end L2.DL

/-! # DLw.lean -/
set_option Elab.async false
set_option linter.all false
set_option maxRecDepth 100000
namespace L2.DL
open PySem PySem.Spec PyProof.Rows
/-! ## dicts that are data and are walked: locked where they are made data -/
def Mc.z : Mc → Option D
  | .dk kvs => some (.dkz (kvs.map (·.1)) (kvs.map (·.2)))
  | .dt kvs => some (.dtz (kvs.map (·.1)) (kvs.map (·.2)))
  | _ => none
def tPost (t : TE) : TE := fun σ H Q => t σ H fun v H1 => ∃ d u, H1 d = some u ∧ Mut (some u) ∧ ∀ od, Q v (upd H1 d (.frz od u))
theorem pe_post {X : Cx} {e : Expr} {t : TE} (h : PE X e t) : PE X e (tPost t) := by
  refine ⟨fun pins s σ H Q I hw => ?_⟩
  refine thn (h.run pins s σ H _ I hw) fun v s1 ⟨x, H1, I1, r, d, u, hd, mu, q⟩ => ?_
  obtain ⟨od, I2⟩ := I1.lock hd mu
  exact ⟨x, _, I2, r, q od⟩
section
variable {K : PySem.W.Frag} {e : Ent} {ρ : DEnv} {F : Hp} {σ : St} {H : Hp} {i : Nat} {c : Mc} {v : V} {d : D}
theorem Sg.frzZ (s : Sg K e ρ F σ H) (r : Res K e F H ρ σ (.mu true c) v) (hz : c.z = some d) : ∃ p u, v = .ref p ∧ H p = some u ∧ Mut (some u) ∧ ∀ od, ∃ F', Sg K e ρ F' σ (upd H p (.frz od u)) ∧ Same F F' ∧ Is K F' d v := by
  obtain ⟨⟨p, o, rfl, a1, a2, a3, a4, a5, a6⟩, nd⟩ := r
  refine ⟨p, o, rfl, a5, mut_of a6, fun od => ?_⟩
  have sm : Same F (upd F p (.frz od o)) := fun b u h => by
    by_cases hb : b = p
    · subst hb; rw [a1] at h; cases h
    · rw [upd_ne hb]; exact h
  refine ⟨upd F p (.frz od o), ⟨?_, ⟨s.st.ff.trans sm, fun q u h n => ?_, fun q u h => ?_, fun q u h n => ?_⟩, s.len, ?_, s.ap, ?_⟩, sm, ?_⟩
  · intro b u h
    by_cases hb : b = p
    · subst hb; rw [upd_same] at h ⊢; exact h
    · rw [upd_ne hb] at h ⊢; exact s.fh _ _ h
  · have : q ≠ p := ne_of_none h (a2 rfl)
    rw [upd_ne this]; exact s.st.keep q u h n
  · have : q ≠ p := ne_of_none h (a2 rfl)
    rw [upd_ne this]; exact s.st.there q u h
  · have : q ≠ p := ne_of_none h (a2 rfl)
    rw [upd_ne this]; exact s.st.old q u h n
  · intro i dw h
    obtain ⟨w, b1, b2⟩ := s.sl i dw h
    refine ⟨w, b1, ?_⟩
    cases dw with
    | fz d => exact Is.mono sm d b2
    | lk q c =>
      obtain ⟨u, od, rfl, c1, c2⟩ := b2
      exact ⟨u, od, rfl, c1, c2.mono sm⟩
    | mu b c =>
      obtain ⟨q, u, rfl, c1, c2, c3, c4, c5, c6⟩ := b2
      have hqp : q ≠ p := fun z => nd rfl i _ h rfl (by rw [b1, z])
      exact ⟨q, u, rfl, by rw [upd_ne hqp]; exact c1, c2, c3, c4, by rw [upd_ne hqp]; exact c5, c6.mono sm⟩
  · intro q hq
    obtain ⟨b1, b2, b3⟩ := s.pin q hq
    have hqp : q.1 ≠ p := fun z => a4 q.2 (by rw [← z]; exact hq)
    exact ⟨by rw [upd_ne hqp]; exact b1, by rw [upd_ne hqp]; exact b2, b3⟩
  · have m6 := a6.mono sm
    cases c with
    | lst ds => cases hz
    | ins C fs => cases hz
    | dk kvs =>
      cases hz
      obtain ⟨vs, rfl, q⟩ := m6
      obtain ⟨us, e1, e2, e3⟩ := q.split
      simp only [Is]
      exact ⟨p, od, us, rfl, by rw [upd_same, e1], e2, e3⟩
    | dt kvs =>
      cases hz
      obtain ⟨vs, rfl, q⟩ := m6
      obtain ⟨us, e1, e2, e3⟩ := q.split
      simp only [Is]
      exact ⟨p, od, us, rfl, by rw [upd_same, e1], e2, e3⟩
theorem kvd_zipZ {κ : Type} : ∀ {ks : List κ} {ds : List D} {vs : List V}, ks.length = vs.length → IsL K F ds vs → KVD K F (ks.zip ds) (ks.zip vs)
  | [], _, _, _, _ => .nil
  | k :: ks, ds, [], h, _ => by cases h
  | k :: ks, [], v :: vs, _, h => by simp only [IsL] at h; cases h
  | k :: ks, d :: ds, v :: vs, h, q => by
    simp only [IsL] at q
    obtain ⟨w, r, e, q1, q2⟩ := q
    cases e
    exact .cons ⟨rfl, q1⟩ (kvd_zipZ (by simpa using h) q2)
end
section
variable {X : Cx} {Wx : WX} {ex ke ve : Expr} {We Wk' Wv : WE} {pos py : Pos} {y : Str} {i : Nat} {tg : Expr}
def wDz (We : WE) : WE := fun EX ρ P => We EX ρ fun dv ρ1 => match dv with
  | .mu true c => (match c.z with
    | some d => P (.fz d) ρ1
    | none => False)
  | _ => False
theorem je_dz (h : JE X Wx ex We) : JE X Wx ex (wDz We) := by
  refine PE.wk (pe_post h) fun σ H Q h => ?_
  obtain ⟨e, ρ, F, EX, P, s, w0, hx, k⟩ := h
  refine ⟨e, ρ, F, EX, _, s, w0, hx, fun F1 H1 v1 d1 ρ1 s1 m1 r1 q1 => ?_⟩
  split at q1
  · rename_i c
    split at q1
    · rename_i d hd
      obtain ⟨p, u, rfl, h1, h2, h3⟩ := s1.frzZ r1 hd
      refine ⟨p, u, h1, h2, fun od => ?_⟩
      obtain ⟨F2, s2, m2, i2⟩ := h3 od
      exact k F2 _ _ _ ρ1 s2 (m1.trans m2) (Res.fz i2) q1
    · exact q1.elim
  · exact q1.elim
/-- items, values, keys of a locked dict that is data -/
def wItemsZ (W : WE) : WI := fun EX ρ P => W EX ρ fun dv ρ1 => match dv with
  | .fz (.dkz ks ds) => P ((ks.zip ds).map fun kv => .tup [keyD kv.1, kv.2]) ρ1
  | _ => False
theorem ji_itemsZ {apos cpos tpos : Pos} {elts : List Expr} {kk : Nat} (h : JE X Wx ex We) (hbase : attributeBase ex "items" X.env (eval ex X.env) = eval ex X.env := by rfl) (hline : (apos.endLine == cpos.line) = true := by rfl) :
    JI X Wx (.Tuple elts kk tpos) (.Call (.Attribute ex "items" apos) [] [] cpos) (wItemsZ We) := by
  refine PI.wk (pi_items h hbase hline) fun σ H R h => ?_
  obtain ⟨e, ρ, F, EX, P, s, w0, hx, k⟩ := h
  refine ⟨e, ρ, F, EX, _, s, w0, hx, fun F1 H1 v1 d1 ρ1 s1 m1 r1 q1 => ?_⟩
  split at q1
  · rename_i ks ds
    have i1 := r1.1
    simp only [Sl, Is] at i1
    obtain ⟨a, o, vs, rfl, h1, h2, h3⟩ := i1
    have kv := kvd_zipZ h2 h3
    refine ⟨a, o, _, rfl, s1.fh _ _ h1, k F1 H1 _ ρ1 _ _ _ _ s1 m1 q1 (walk_items (kvs := ks.zip vs)) (by rw [List.length_map, ← kv.len]) ⟨fun e' ρ' F2 σ' H' s' m' hp => s'.fh _ _ (m' _ _ h1), fun j H2 x H' hj _ y => ?_⟩⟩
    obtain ⟨T, y1, y2, rfl, hT, rfl, e1, e2⟩ := y
    obtain ⟨⟨k3, v3⟩, h4, h5⟩ := Option.map_eq_some_iff.mp e1
    have e2 : ((ks.zip vs)[j]?).map Prod.snd = some y2 := e2
    rw [h4] at e2
    simp only [Option.map_some, Option.some.injEq] at e2
    subst h5 e2
    obtain ⟨d, g2, g3⟩ := kvd_get kv h4
    exact .inr ⟨T, _, [keyD k3, d], rfl, hT, rfl, by rw [List.getElem?_map, g2]; rfl, .cons (keyD_is k3) (.one g3)⟩
  · exact q1.elim
def wValsZ (W : WE) : WI := fun EX ρ P => W EX ρ fun dv ρ1 => match dv with
  | .fz (.dkz ks ds) => ks.length = ds.length ∧ P ds ρ1
  | _ => False
theorem ji_valsZ {apos cpos : Pos} (h : JE X Wx ex We) (hbase : attributeBase ex "values" X.env (eval ex X.env) = eval ex X.env := by rfl) (hline : (apos.endLine == cpos.line) = true := by rfl) :
    JI X Wx tg (.Call (.Attribute ex "values" apos) [] [] cpos) (wValsZ We) := by
  refine PI.wk (pi_values h hbase hline) fun σ H R h => ?_
  obtain ⟨e, ρ, F, EX, P, s, w0, hx, k⟩ := h
  refine ⟨e, ρ, F, EX, _, s, w0, hx, fun F1 H1 v1 d1 ρ1 s1 m1 r1 q1 => ?_⟩
  split at q1
  · rename_i ks ds
    have i1 := r1.1
    simp only [Sl, Is] at i1
    obtain ⟨a, o, vs, rfl, h1, h2, h3⟩ := i1
    have kv := kvd_zipZ h2 h3
    have hds : (ks.zip ds).map (·.2) = ds := by rw [List.map_snd_zip]; omega
    refine ⟨a, o, _, rfl, s1.fh _ _ h1, k F1 H1 ds ρ1 _ _ _ _ s1 m1 q1.2 (walk_values (kvs := ks.zip vs)) (by rw [← kv.len, List.length_zip]; omega) ⟨fun e' ρ' F2 σ' H' s' m' hp => s'.fh _ _ (m' _ _ h1), fun j H2 x H' hj _ y => ?_⟩⟩
    obtain ⟨rfl, kk, g1⟩ := y
    obtain ⟨d, g2, g3⟩ := kvd_get kv g1
    exact .inl ⟨rfl, d, by rw [← hds, List.getElem?_map, g2]; rfl, g3⟩
  · exact q1.elim
/-! ## {k: v} -/
theorem Hx.pin {K : PySem.W.Frag} {e : Ent} {EX : EXt} {p : Addr} {o : HO} (ho : ∀ od u, o ≠ .frz od u) (h : Hx K Wx e EX) : Hx K Wx (e.pinned p o) EX := fun C dd fs kvs ρ' F' σ' H' s h1 h2 h3 h4 h5 =>
  h C dd fs kvs ρ' F' σ' H' (s.unpin ho).1 h1 h2 ⟨h3.1, fun u hu => h3.2 u (List.mem_cons_of_mem _ hu)⟩ h4 h5
def wDict1 (Wk Wv : WE) : WE := fun EX ρ P => Wk EX ρ fun kv ρ1 => kv.thn fun kd => Wv EX ρ1 fun dv ρ2 => dv.thn fun d => ∃ k, kd.key = some k ∧ P (.mu true (.dk [(k, d)])) ρ2
theorem je_dict1 (hk : JE X Wx ke Wk') (hv : JE X Wx ve Wv) : JE X Wx (.Dict [some ke] [ve] pos) (wDict1 Wk' Wv) := by
  refine PE.wk (pe_disp (pps_cons hk hv pps_nil) rfl rfl (by simp) (by show 1 ≤ 15; omega)) fun σ H Q h => ?_
  obtain ⟨e, ρ, F, EX, P, s, w0, hx, k⟩ := h
  intro p hp
  have ho : ∀ od u, (HO.dK []) ≠ .frz od u := fun _ _ z => by cases z
  obtain ⟨fp, ep⟩ := s.free hp
  have nd : ∀ (i : Nat) (dw : DV), ρ[i]? = some (some dw) → dw.own = true → σ[i]? ≠ some (some (.ref p)) := fun i dw h0 ow z => by
    obtain ⟨w, b1, b2⟩ := s.sl i dw h0
    rw [z] at b1; cases b1
    cases dw with
    | fz d => cases ow
    | lk _ c => cases ow
    | mu b c =>
      obtain ⟨q, u, e1, _, _, _, _, c5, _⟩ := b2
      cases e1
      rw [hp] at c5; cases c5
  have np : ∀ u, (p, u) ∉ e.pn := fun u hu => by
    have := (s.pin _ hu).1
    rw [hp] at this; cases this
  have s0 := (s.laid (o := .dK []) hp).topin upd_same fp ep nd
  refine ⟨e.pinned p (.dK []), ρ, F, EX, _, s0, w0, hx.pin ho, fun F1 H1 v1 d1 ρ1 s1 m1 r1 q1 => ?_⟩
  obtain ⟨F2, kd, s2, m2, i2, q2⟩ := s1.data r1 q1
  refine ⟨e.pinned p (.dK []), ρ1, F2, EX, _, s2, q2, hx.pin ho, fun F3 H3 v3 d3 ρ3 s3 m3 r3 q3 => ?_⟩
  obtain ⟨F4, d, s4, m4, i4, kk, k1, q4⟩ := s3.data r3 q3
  obtain ⟨s5, h5, f5, e5, n5⟩ := s4.unpin ho
  refine ⟨h5, [(kk, v3)], by rw [key_is (Is.mono (m3.trans m4) _ i2) k1]; rfl, by show 1 ≤ 15; omega, ?_⟩
  have s6 := s5.other (o := .dK (mergeK [] [(kk, v3)])) f5 e5 n5 np
  have sl : Sl X.K e F4 (upd H3 p (.dK (mergeK [] [(kk, v3)]))) (.mu true (.dk [(kk, d)])) (.ref p) := ⟨p, _, rfl, f5, fun _ => e5, (fun z => by cases z), np, upd_same, ⟨[(kk, v3)], rfl, .cons ⟨rfl, i4⟩ .nil⟩⟩
  exact k F4 _ _ _ ρ3 s6 (m1.trans (m2.trans (m3.trans m4))) ⟨sl, fun _ i dw h0 ow => n5 i dw h0 ow⟩ q4
/-! ## max(l, default=d) -/
theorem maxOf_int (x : Int) (xs : List Int) : PySem.W.maxOf x xs ∈ x :: xs ∧ ∀ y, y ∈ x :: xs → y ≤ PySem.W.maxOf x xs := by
  unfold PySem.W.maxOf
  induction xs generalizing x with
  | nil => exact ⟨by simp, fun y hy => by rw [List.mem_singleton.mp hy]; exact Int.le_refl _⟩
  | cons z zs ih =>
    rw [List.foldl_cons]
    by_cases hz : x < z
    · have e : (if PySem.W.DatumOrd.lt x z = true then z else x) = z := if_pos (decide_eq_true hz)
      rw [e]
      obtain ⟨h1, h2⟩ := ih z
      refine ⟨List.mem_cons_of_mem _ h1, fun y hy => ?_⟩
      rcases List.mem_cons.mp hy with rfl | hy
      · exact Int.le_trans (Int.le_of_lt hz) (h2 z (by simp))
      · exact h2 y hy
    · have e : (if PySem.W.DatumOrd.lt x z = true then z else x) = x := if_neg (fun q => hz (of_decide_eq_true q))
      rw [e]
      obtain ⟨h1, h2⟩ := ih x
      refine ⟨?_, fun y hy => ?_⟩
      · rcases List.mem_cons.mp h1 with h1 | h1
        · rw [h1]; simp
        · exact List.mem_cons_of_mem _ (List.mem_cons_of_mem _ h1)
      · rcases List.mem_cons.mp hy with rfl | hy
        · exact h2 y (by simp)
        · rcases List.mem_cons.mp hy with rfl | hy
          · exact Int.le_trans (by omega) (h2 x (by simp))
          · exact h2 y (List.mem_cons_of_mem _ hy)
def rMaxDef (K : PySem.W.Frag) : List V → List V → Hp → VK → Prop := fun vs zs H Q => ∃ (a : Addr) (ns : List Int) (d : Int), vs = [.ref a] ∧ zs = [.int d] ∧ SqL K H a (ns.map V.int) ∧ (ns = [] → Q (.int d) H) ∧ ∀ m, m ∈ ns → (∀ y, y ∈ ns → y ≤ m) → Q (.int m) H
theorem cr_maxDef (hc : X.calm = true) (hu : X.A.units + 1 < cLine) : CallRK X (.builtin "max") ["default"] (rMaxDef X.K) := by
  intro pins s σ H vs zs us ws Q I r rz h
  obtain ⟨a, ns, d, rfl, rfl, hs, q0, q1⟩ := h
  obtain ⟨its, rv, hl, _⟩ := I.list hs
  rw [Vals.ref1 r]
  obtain ⟨w1, rfl, e1⟩ := vals1 rz
  obtain ⟨t, rfl⟩ : ∃ t, w1 = Value.int d t := e1
  refine PySem.W.max_list_datum_default (xs := ns) (I.ok.hd hc) hl.isList (PySem.W.HoldAll.of_ints rv.ints) (by show X.A.units + 1 + 0 < cLine; omega) (fun e h' tk hk => ⟨.int d, H, I.kept hk, ⟨_, rfl⟩, q0 e⟩) fun y ys i v h' tk e hi hh hk => ?_
  obtain ⟨as, rd⟩ := hh
  obtain ⟨m1, m2⟩ := maxOf_int y ys
  cases rd
  refine ⟨.int _, H, I.kept hk, ⟨_, rfl⟩, q1 _ (by rw [e]; exact m1) fun z hz => m2 z (by rw [← e]; exact hz)⟩
def wMaxDef (Wa Wd : WA) : WE := fun EX ρ P => Wa EX ρ fun ds ρ1 => Wd EX ρ1 fun es ρ2 => match ds, es with
  | [.lst l], [.int d] => ∃ ns, intsD l = some ns ∧ (ns = [] → P (.fz (.int d)) ρ2) ∧ ∀ m, m ∈ ns → (∀ y, y ∈ ns → y ≤ m) → P (.fz (.int m)) ρ2
  | _, _ => False
theorem je_maxDef {p : Pos} {a : Expr} {es : List Expr} {kws : List Keyword} {Wa Wd : WA} (hc : X.calm = true) (hu : X.A.units + 1 < cLine) (hg : Gl X "max") (hm : X.mg "max" = none) (ha : JA X Wx (a :: es) Wa) (hk : JK X Wx kws Wd)
    (he : backTo pos (starEach (a :: es) X.env) = (false, eval a X.env) :: backTo pos (starEach es X.env) := by rfl) (hpl : (backTo pos (starEach (a :: es) X.env)).any (·.1) = false := by rfl)
    (hall : (backToKw pos (keywordEach kws X.env)).all (·.1.isSome) = true := by rfl) (hnone : (backToKw pos (keywordEach kws X.env)).any (·.1.isNone) = false := by rfl) (hks : (backToKw pos (keywordEach kws X.env)).filterMap (·.1) = [("default" : Str)] := by rfl) :
    JE X Wx (.Call (.Name "max" p) (a :: es) kws pos) (wMaxDef Wa Wd) := by
  refine PE.wk (pe_callBK (cr_maxDef hc hu) hg hm (by decide +kernel) ha hk (by decide) (by decide) he hpl hall hnone hks) fun σ H Q h => ?_
  obtain ⟨e, ρ, F, EX, P, s, w0, hx, k⟩ := h
  refine ⟨e, ρ, F, EX, _, s, w0, hx, fun F1 H1 vs ds ρ1 s1 m1 i1 q1 => ⟨e, ρ1, F1, EX, _, s1, q1, hx, fun F2 H2 ws es ρ2 s2 m2 i2 q2 => ?_⟩⟩
  split at q2
  · rename_i l d
    obtain ⟨ns, e1, q3, q4⟩ := q2
    obtain ⟨v, rfl, iv⟩ := (i1.mono m2).one_inv
    obtain ⟨u, rfl, iu⟩ := i2.one_inv
    simp only [Is] at iv iu
    obtain ⟨b, us, rfl, b1, b2⟩ := iv
    subst iu
    have e2 : l = ns.map D.int := ints_of e1
    rw [e2] at b2
    rw [IsL.ints.mp b2] at b1
    exact ⟨b, ns, d, rfl, rfl, SqL.of (s2.fh _ _ b1), fun z => k F2 H2 _ _ ρ2 s2 (m1.trans m2) (Res.fz (by simp [Is])) (q3 z), fun m hm hy => k F2 H2 _ _ ρ2 s2 (m1.trans m2) (Res.fz (by simp [Is])) (q4 m hm hy)⟩
  · exact q2.elim
/-! ## a list or a tuple is walked -/
def iEither (K : PySem.W.Frag) (tl : TE) : TI := fun σ H R => tl σ H fun x H1 => ∃ a, x = .ref a ∧ (((∃ xs, SqL K H1 a xs) ∧ R (Itl K a) H1) ∨ ((∃ xs, SqT K H1 a xs) ∧ R (Itt K a) H1))
theorem pi_either {l : Expr} {tl : TE} (hl : PE X l tl) : PI X tg l (iEither X.K tl) := by
  refine ⟨fun pins s σ H R I h => ?_⟩
  refine thn (hl.run pins s σ H _ I h) fun v s1 ⟨x, H1, I1, r1, a, e, q⟩ => ?_
  subst e
  have hv : v = Value.ref a := r1
  rcases q with ⟨⟨xs, hq⟩, q⟩ | ⟨⟨xs, hq⟩, q⟩
  · subst hv
    obtain ⟨its, rv, p, hz⟩ := I1.list hq
    refine wpAny_pyIter_list p.isList ?_
    refine ⟨s1.heap.objs.size, [s1.heap.objs.size], _, _, H1, rfl, I1.kept (t' := s1.toks) fun b o e => Heap.get?_push_of_some _ e, turn_list a _, ⟨_, Heap.get?_push_size _ rfl, rfl, rfl⟩, fun b hb => ?_, q⟩
    obtain rfl : b = s1.heap.objs.size := by simpa using hb
    exact I1.fpOk (Nat.le_refl _) (I1.hok.fresh (Nat.le_refl _))
  · subst hv
    obtain ⟨its, rv, p, hz⟩ := I1.tuple hq
    refine wpAny_pyIter_tuple (show s1.heap.IsTuple a its.toArray from p) ?_
    refine ⟨s1.heap.objs.size, [s1.heap.objs.size], _, _, H1, rfl, I1.kept (t' := s1.toks) fun b o e => Heap.get?_push_of_some _ e, turn_tuple a _, ⟨_, Heap.get?_push_size _ rfl, rfl, rfl⟩, fun b hb => ?_, q⟩
    obtain rfl : b = s1.heap.objs.size := by simpa using hb
    exact I1.fpOk (Nat.le_refl _) (I1.hok.fresh (Nat.le_refl _))
def wItE (W : WE) : WI := fun EX ρ P => W EX ρ fun dv ρ1 => dv.thn fun d => match d with
  | .lst ds => P ds ρ1
  | .tup ds => P ds ρ1
  | _ => False
theorem ji_either (h : JE X Wx ex We) : JI X Wx tg ex (wItE We) := by
  refine PI.wk (pi_either h) fun σ H R h => ?_
  obtain ⟨e, ρ, F, EX, P, s, w0, hx, k⟩ := h
  refine ⟨e, ρ, F, EX, _, s, w0, hx, fun F1 H1 v1 d1 ρ1 s1 m1 r1 q1 => ?_⟩
  obtain ⟨F1', a1, s1', m1', i1, q1'⟩ := s1.data r1 q1
  cases a1 <;> try exact q1'.elim
  all_goals
    simp only [Is] at i1
    obtain ⟨a, us, rfl, h1, h2⟩ := i1
  · exact ⟨a, rfl, .inl ⟨⟨us, SqL.of (s1'.fh _ _ h1)⟩, k F1' H1 _ ρ1 _ _ _ _ s1' (m1.trans m1') q1' (walk_list (xs := us)) h2.len.symm (walkD_seq h2 fun F2 H m f => SqL.of (f _ _ (m _ _ h1)))⟩⟩
  · exact ⟨a, rfl, .inr ⟨⟨us, Same.seqT s1'.fh h1⟩, k F1' H1 _ ρ1 _ _ _ _ s1' (m1.trans m1') q1' (walk_tup (xs := us)) h2.len.symm (walkD_seq h2 fun F2 H m f => Same.seqT f (Same.seqT m h1))⟩⟩
/-! ## the sum of a tuple -/
def rSumTu (K : PySem.W.Frag) : List V → Hp → VK → Prop := fun vs H Q => ∃ (a : Addr) (ns : List Int), vs = [V.ref a] ∧ SqT K H a (ns.map V.int) ∧ Q (.int ns.sum) H
theorem call_sumTu (hc : X.calm = true) : CallR X (.builtin "sum") (rSumTu X.K) := by
  intro pins s σ H vs us Q I r h
  obtain ⟨a, ns, rfl, hs, q⟩ := h
  obtain ⟨its, rv, p, _⟩ := I.tuple hs
  rw [Vals.ref1 r]
  obtain ⟨xs, e⟩ := rv.ints.allInts.items
  have hn : numsOf (intItems xs).toList = ns := by rw [← e]; exact rv.ints.numsOf
  rw [nums_intItems] at hn
  have hl : s.heap.IsTuple a its.toArray := p
  rw [e] at hl
  refine PySem.W.ktm_sumG (I.ok.hd hc) hl fun h' tk t' hk => ?_
  rw [preSum_eq, List.take_of_length_le (by simp), hn]
  exact ⟨.int _, H, I.kept hk, ⟨_, rfl⟩, q⟩
def wSumTu := wIntsT fun ns P => P (.fz (.int ns.sum))
theorem cr_sumTuD {K : PySem.W.Frag} : CRl K (rSumTu K) wSumTu := by
  intro e ρ F σ H vs ds Q P s i w k
  obtain ⟨a, ns, h1, h2, h3⟩ := intsT_arg s i w
  exact ⟨a, ns, h1, h2, k F H _ _ s (Same.refl _) (Res.fz (by simp [Is])) h3⟩
/-! ## wide shifts, the truth of an int -/
def wShlW : D → D → (DV → Prop) → Prop := fun a b P => match a, b with
  | .int i, .int j => CShl i j ∧ P (.fz (.int (i * 2 ^ j.toNat)))
  | _, _ => False
theorem br_shlW {K : PySem.W.Frag} : BR K (rI CShl fun i j => .int (i * 2 ^ j.toNat)) wShlW := br_i (C := CShl) (g := fun i j => i * 2 ^ j.toNat)
def wTestI (W : WE) : WT := fun EX ρ P => W EX ρ fun dv ρ1 => match dv with
  | .fz (.int i) => P (!decide (i = 0)) ρ1
  | _ => False
theorem jt_int (h : JE X Wx ex We) (he : ∀ whole, isTrue ex X.env whole = (do let v ← whole; standAt ex.pos; holding [v] (truthy v)) := by intro _; rfl) : JT X Wx ex (wTestI We) := by
  refine PT.wk (pt_truth h he) fun σ H Q h => ?_
  obtain ⟨e, ρ, F, EX, P, s, w0, hx, k⟩ := h
  refine ⟨e, ρ, F, EX, _, s, w0, hx, fun F1 H1 v1 d1 ρ1 s1 m1 r1 q1 => ?_⟩
  split at q1
  · rename_i i
    have i1 := r1.1
    simp only [Sl, Is] at i1
    subst i1
    refine ⟨i != 0, rfl, k F1 H1 _ ρ1 s1 m1 ?_⟩
    have : (i != 0) = !decide (i = 0) := by
      by_cases z : i = 0
      · subst z; rfl
      · rw [decide_eq_false z]; simp [z]
    rw [this]; exact q1
  · exact q1.elim
end
end L2.DL

/-! # CX84.lean -/
set_option Elab.async false
set_option linter.all false
set_option maxRecDepth 100000
set_option maxHeartbeats 1000000
namespace L2.DL.Q
open PySem PySem.Spec PyProof.Rows
local macro_rules | `(tactic| walk_at "wk") => `(tactic| (repeat' first | exact True.intro | exact rfl | apply And.intro))
def xtab : Tab3 := [("InvalidNumber", "NinthError", true), ("InvalidNumber", "InvalidNumber", true), ("InvalidNumber", "InvalidMap", false), ("InvalidNumber", "TooMany", false), ("InvalidMap", "NinthError", true), ("InvalidMap", "InvalidNumber", false), ("InvalidMap", "InvalidMap", true), ("InvalidMap", "TooMany", false), ("TooMany", "NinthError", true), ("TooMany", "InvalidNumber", false), ("TooMany", "InvalidMap", false), ("TooMany", "TooMany", true)]
def xoc : List Str := ["Turns"]
abbrev PX (d : D) : Prop := plainX xoc d = true
/-! ## values -/
def isInt : D → Bool
  | .int _ => true
  | _ => false
def R_is_integer : RF := fun ds Q => match ds with
  | [d] => PX d ∧ Q (.fz (.bl (isInt d)))
  | _ => False
def w_is_integer : WS :=
    (wRet (wAndV (wCB (wIsiX xoc .int) (wCons (wVar 0) (wCons (wK (.ty "int")) wNil))) (wNotV (wCB (wIsiX xoc .bool) (wCons (wVar 0) (wCons (wK (.ty "bool")) wNil))))))
abbrev N_is_integer : List Str := ["value"]
theorem v_is_integer (ds Q) (h : R_is_integer ds Q) : w_is_integer (endF Q) (argD N_is_integer ds) := by
  match ds, h with
  | [d], ⟨hp, h⟩ =>
    refine ⟨rfl, hp, ?_⟩
    cases d <;> first | exact ⟨trivial, h⟩ | exact ⟨rfl, hp, trivial, h⟩
def isNum : D → Bool
  | .int i => decide (0 ≤ i)
  | _ => false
def R_is_number : RF := fun ds Q => match ds with
  | [d] => PX d ∧ Q (.fz (.bl (isNum d)))
  | _ => False
def w_is_number : WS :=
    (wRet (wAndV (wCall R_is_integer (wCons (wVar 0) wNil)) (wBin wGe (wVar 0) (wK (.int 0)))))
abbrev N_is_number : List Str := ["value"]
theorem v_is_number (ds Q) (h : R_is_number ds Q) : w_is_number (endF Q) (argD N_is_number ds) := by
  match ds, h with
  | [d], ⟨hp, h⟩ =>
    refine ⟨hp, ?_⟩
    cases d <;> exact ⟨trivial, h⟩
def below (d : D) (b : Int) : Bool := match d with
  | .int i => decide (0 ≤ i) && decide (i < b)
  | _ => false
def R_is_below : RF := fun ds Q => match ds with
  | [d, .int b] => PX d ∧ Q (.fz (.bl (below d b)))
  | _ => False
def w_is_below : WS :=
    (wRet (wAndV (wCall R_is_integer (wCons (wVar 0) wNil)) (wChain wLe wLt (wK (.int 0)) (wVar 0) (wVar 1))))
abbrev N_is_below : List Str := ["value", "bound"]
theorem v_is_below (ds Q) (h : R_is_below ds Q) : w_is_below (endF Q) (argD N_is_below ds) := by
  match ds, h with
  | [d, .int b], ⟨hp, h⟩ =>
    refine ⟨hp, ?_⟩
    cases d <;> first | exact ⟨trivial, h⟩ | skip
    rename_i i
    refine ift_d (fun h0 => ⟨trivial, ?_⟩) fun h0 => ⟨trivial, ?_⟩
    · simp only [below, h0, decide_true, Bool.true_and] at h; exact h
    · simp only [below, h0, decide_false, Bool.false_and] at h; exact h
def rowBelow (v : D) (n b : Int) : Bool := match v with
  | .tup ds => decide ((ds.length : Int) = n) && ds.all fun d => below d b
  | _ => false
def R_row_below : RF := fun ds Q => match ds with
  | [v, .int n, .int b] => PX v ∧ (∀ ds, v = .tup ds → ∀ d, d ∈ ds → PX d) ∧ Q (.fz (.bl (rowBelow v n b)))
  | _ => False
def w_row_below : WS :=
    (wSeq (wIfS (wOr (wNot (wTest (wCB (wIsiX xoc .tuple) (wCons (wVar 0) (wCons (wK (.ty "tuple")) wNil))))) (wTest (wBin wNeI (wCB wLen (wCons (wVar 0) wNil)) (wVar 1))))
    (wRet (wK (.bl false)))
    wNext)
    (wSeq (wFor (wItT (wVar 0)) (wgName 3)
    (wIfS (wNot (wTest (wCall R_is_below (wCons (wVar 3) (wCons (wVar 2) wNil)))))
    (wRet (wK (.bl false)))
    wNext))
    (wRet (wK (.bl true)))))
abbrev N_row_below : List Str := ["value", "length", "bound", "one"]
theorem v_row_below (ds Q) (h : R_row_below ds Q) : w_row_below (endF Q) (argD N_row_below ds) := by
  match ds, h with
  | [v, .int n, .int b], ⟨hp, he, h⟩ =>
    refine ⟨rfl, hp, ?_⟩
    cases v <;> first | exact ⟨trivial, h⟩ | skip
    rename_i ds
    refine ift_n (fun hn => ⟨trivial, ?_⟩) fun hn => ?_
    · simp only [rowBelow, hn, decide_false, Bool.false_and] at h; exact h
    · simp only [rowBelow, hn, decide_true, Bool.true_and] at h
      refine ForP.byI (fun i ρ => ρ = [some (.fz (.tup ds)), some (.fz (.int n)), some (.fz (.int b)), none] ∧ ∀ j, j < i → ∀ d, ds[j]? = some d → below d b = true) ⟨_, by walk_at "wk", rfl, fun j hj => absurd hj (by omega)⟩ ?_ ?_
      · rintro i ρ' hi ⟨rfl, hj⟩
        refine ⟨he ds rfl _ (List.getElem_mem hi), ?_⟩
        cases hb : below ds[i] b with
        | false =>
          have : (ds.all fun d => below d b) = false := by
            rw [List.all_eq_false]
            exact ⟨ds[i], List.getElem_mem hi, by simp [hb]⟩
          rw [this] at h
          exact ⟨trivial, h⟩
        | true =>
          refine ⟨_, by walk_at "wk", rfl, fun j hj' d hd => ?_⟩
          by_cases e : j = i
          · subst e
            rw [List.getElem?_eq_getElem hi] at hd
            cases hd; exact hb
          · exact hj j (by omega) d hd
      · rintro ρ' ⟨rfl, hj⟩
        have : (ds.all fun d => below d b) = true := by
          rw [List.all_eq_true]
          intro d hd
          obtain ⟨j, hj', e⟩ := List.getElem_of_mem hd
          exact hj j hj' d (by rw [List.getElem?_eq_getElem hj', e])
        rw [this] at h
        exact ⟨trivial, h⟩
/-- a row of numbers is a row of numbers -/
theorem rowBelow_ints {xs : List Int} {n b : Int} (hn : (xs.length : Int) = n) (hx : ∀ x, x ∈ xs → 0 ≤ x ∧ x < b) : rowBelow (.tup (xs.map .int)) n b = true := by
  simp only [rowBelow, List.length_map, hn, decide_true, Bool.true_and, List.all_eq_true, List.mem_map]
  rintro d ⟨x, hx', rfl⟩
  obtain ⟨h1, h2⟩ := hx x hx'
  simp [below, h1, h2]
theorem px_ints {xs : List Int} : ∀ ds, D.tup (xs.map .int) = .tup ds → ∀ d, d ∈ ds → PX d := by
  rintro ds h d hd
  cases h
  obtain ⟨x, _, rfl⟩ := List.mem_map.mp hd
  rfl
def isBtw (d : D) (lo hi : Int) : Bool := match d with
  | .int i => decide (lo ≤ i) && decide (i ≤ hi)
  | _ => false
def R_is_between : RF := fun ds Q => match ds with
  | [d, .int lo, .int hi] => PX d ∧ Q (.fz (.bl (isBtw d lo hi)))
  | _ => False
def w_is_between : WS :=
    (wRet (wAndV (wCall R_is_integer (wCons (wVar 0) wNil)) (wChain wLe wLe (wVar 1) (wVar 0) (wVar 2))))
abbrev N_is_between : List Str := ["value", "least", "most"]
theorem v_is_between (ds Q) (h : R_is_between ds Q) : w_is_between (endF Q) (argD N_is_between ds) := by
  match ds, h with
  | [d, .int lo, .int hi], ⟨hp, h⟩ =>
    refine ⟨hp, ?_⟩
    cases d <;> first | exact ⟨trivial, h⟩ | skip
    rename_i i
    refine ift_d (fun h0 => ⟨trivial, ?_⟩) fun h0 => ⟨trivial, ?_⟩
    · simp only [isBtw, h0, decide_true, Bool.true_and] at h; exact h
    · simp only [isBtw, h0, decide_false, Bool.false_and] at h; exact h
end L2.DL.Q

/-! # M79.lean -/
set_option linter.all false
namespace M79
/-! ## signs -/
def sg (b : Int) : Int := 1 - 2 * b
def stf (s : Nat) (l : List Int) (i : Nat) : Int := if i / s % 2 = 0 then l.getD i 0 + l.getD (i + s) 0 else l.getD (i - s) 0 - l.getD i 0
def bstep (s : Nat) (l : List Int) : List Int := (List.range l.length).map (stf s l)
def its : Nat → List Int → List Int
  | 0, l => l
  | k + 1, l => bstep (2 ^ k) (its k l)
theorem bstep_len (s : Nat) (l : List Int) : (bstep s l).length = l.length := by simp [bstep]
theorem its_len (k : Nat) (l : List Int) : (its k l).length = l.length := by
  induction k with
  | zero => rfl
  | succ k ih => rw [its, bstep_len, ih]
theorem even_room {s q i : Nat} (hs : 0 < s) (h : i < 2 * s * q) (e : i / s % 2 = 0) : i + s < 2 * s * q := by
  have h1 : i / s < 2 * q := by
    rw [Nat.div_lt_iff_lt_mul hs]
    calc i < 2 * s * q := h
      _ = 2 * q * s := by rw [Nat.mul_assoc, Nat.mul_comm s q, ← Nat.mul_assoc]
  have h2 : i / s + 2 ≤ 2 * q := by omega
  have h3 : i < s * (i / s + 1) := Nat.lt_mul_div_succ i hs
  have h4 : s * (i / s + 2) ≤ s * (2 * q) := Nat.mul_le_mul_left s h2
  have h5 : s * (i / s + 2) = s * (i / s + 1) + s := by rw [show i / s + 2 = (i / s + 1) + 1 by omega, Nat.mul_succ]
  have h6 : s * (2 * q) = 2 * s * q := by rw [Nat.mul_comm 2 s, Nat.mul_assoc]
  omega
theorem odd_room {s i : Nat} (e : ¬ i / s % 2 = 0) : s ≤ i := by
  apply Nat.le_of_not_lt
  intro h
  rw [Nat.div_eq_of_lt h] at e
  exact e rfl
/-- where the partner lies -/
theorem room {k n i : Nat} (hk : k < n) (hi : i < 2 ^ n) (e : i / 2 ^ k % 2 = 0) : i + 2 ^ k < 2 ^ n := by
  have h : 2 ^ n = 2 * 2 ^ k * 2 ^ (n - k - 1) := by
    rw [Nat.mul_comm 2, ← Nat.pow_succ, ← Nat.pow_add]
    congr 1; omega
  rw [h] at hi ⊢
  exact even_room (Nat.two_pow_pos k) hi e
def Bd (B : Int) (l : List Int) : Prop := ∀ i, -B ≤ l.getD i 0 ∧ l.getD i 0 ≤ B
theorem bd_of {B : Int} {l : List Int} (h0 : 0 ≤ B) (h : ∀ x, x ∈ l → -B ≤ x ∧ x ≤ B) : Bd B l := fun i => by
  rw [List.getD_eq_getElem?_getD]
  by_cases hi : i < l.length
  · rw [List.getElem?_eq_getElem hi]; exact h _ (List.getElem_mem hi)
  · rw [List.getElem?_eq_none (by omega)]; simp; omega
theorem bd_mem {B : Int} {l : List Int} (h : Bd B l) {x : Int} (hx : x ∈ l) : -B ≤ x ∧ x ≤ B := by
  obtain ⟨i, hi, rfl⟩ := List.getElem_of_mem hx
  have := h i
  rw [List.getD_eq_getElem?_getD, List.getElem?_eq_getElem hi] at this
  exact this
theorem bd_step {B : Int} {s : Nat} {l : List Int} (h0 : 0 ≤ B) (h : Bd B l) : Bd (2 * B) (bstep s l) := by
  refine bd_of (by omega) fun x hx => ?_
  obtain ⟨i, _, rfl⟩ := List.mem_map.mp hx
  have h1 := h i
  have h2 := h (i + s)
  have h3 := h (i - s)
  unfold stf
  split <;> omega
theorem bd_its {l : List Int} (h : Bd 1 l) : ∀ k, Bd ((2 ^ k : Nat) : Int) (its k l)
  | 0 => h
  | k + 1 => by
    have := bd_step (s := 2 ^ k) (Int.natCast_nonneg _) (bd_its h k)
    rw [its]
    have e : ((2 ^ (k + 1) : Nat) : Int) = 2 * ((2 ^ k : Nat) : Int) := by rw [Nat.pow_succ]; omega
    rw [e]; exact this
structure Tab (n : Nat) (f : List Int) : Prop where
  n1 : 1 ≤ n
  n7 : n ≤ 7
  len : f.length = 2 ^ n
  b : ∀ x, x ∈ f → 0 ≤ x ∧ x < 2
theorem Tab.p {n : Nat} {f : List Int} (t : Tab n f) : 2 ≤ f.length ∧ f.length ≤ 128 := by
  rw [t.len]
  have h1 := Nat.pow_le_pow_right (n := 2) (by omega) t.n1
  have h2 := Nat.pow_le_pow_right (n := 2) (by omega) t.n7
  omega
abbrev sgs (n : Nat) (f : List Int) : List Int := its n (f.map sg)
theorem sgs_len (n : Nat) (f : List Int) : (sgs n f).length = f.length := by rw [sgs, its_len, List.length_map]
theorem Tab.bd {n : Nat} {f : List Int} (t : Tab n f) : ∀ x, x ∈ sgs n f → -(f.length : Int) ≤ x ∧ x ≤ f.length := fun x hx => by
  have h1 : Bd 1 (f.map sg) := bd_of (by omega) fun y hy => by
    obtain ⟨b, hb, rfl⟩ := List.mem_map.mp hy
    have := t.b b hb
    unfold sg; omega
  have := bd_mem (bd_its h1 n) hx
  rw [t.len]; exact this
/-! ## weights -/
def val (l : List Int) : Int := l.foldl (fun a b => 2 * a + b) 0
theorem val_app (l : List Int) (b : Int) : val (l ++ [b]) = 2 * val l + b := by simp [val]
def Bits (l : List Int) : Prop := ∀ x, x ∈ l → 0 ≤ x ∧ x < 2
theorem val0 {l : List Int} (h : Bits l) : 0 ≤ val l := by
  suffices ∀ (l : List Int) (a : Int), 0 ≤ a → (∀ x, x ∈ l → 0 ≤ x ∧ x < 2) → 0 ≤ l.foldl (fun a b => 2 * a + b) a from this l 0 (by omega) h
  intro l
  induction l with
  | nil => intro a ha _; exact ha
  | cons b l ih =>
    intro a ha hl
    have := hl b (by simp)
    exact ih _ (by show 0 ≤ 2 * a + b; omega) fun x hx => hl x (by simp [hx])
theorem bits_app {l : List Int} {b : Int} (h : Bits l) (hb : 0 ≤ b ∧ b < 2) : Bits (l ++ [b]) := fun x hx => by
  rcases List.mem_append.mp hx with hx | hx
  · exact h x hx
  · rw [List.mem_singleton.mp hx]; exact hb
def wlo (n : Nat) (beg : List Int) : Nat := (val beg).toNat * 2 ^ (n - beg.length)
def whi (n : Nat) (beg : List Int) : Nat := ((val beg).toNat + 1) * 2 ^ (n - beg.length)
def Wt (n : Nat) (found : List Int) (beg : List Int) : Int := (((found.take (whi n beg)).drop (wlo n beg)).map fun s => s * s).sum
/-! ## levels -/
abbrev Pr := List Int × Int
def kids (n : Nat) (found : List Int) (t : Int) (p : Pr) : List Pr := if t * t ≤ p.2 then [(p.1 ++ [0], Wt n found (p.1 ++ [0])), (p.1 ++ [1], Wt n found (p.1 ++ [1]))] else []
def lev (n : Nat) (found : List Int) (t : Int) : Nat → List Pr
  | 0 => [([], Wt n found [])]
  | k + 1 => (lev n found t k).flatMap (kids n found t)
theorem kids_len (n : Nat) (found : List Int) (t : Int) (p : Pr) : (kids n found t p).length ≤ 2 := by unfold kids; split <;> simp
theorem flat_len (n : Nat) (found : List Int) (t : Int) : ∀ l : List Pr, (l.flatMap (kids n found t)).length ≤ 2 * l.length
  | [] => by simp
  | p :: l => by
    rw [List.flatMap_cons, List.length_append, List.length_cons]
    have := flat_len n found t l
    have := kids_len n found t p
    omega
theorem lev_len (n : Nat) (found : List Int) (t : Int) : ∀ k, (lev n found t k).length ≤ 2 ^ k
  | 0 => by simp [lev]
  | k + 1 => by
    rw [lev, Nat.pow_succ]
    have := flat_len n found t (lev n found t k)
    have := lev_len n found t k
    omega
theorem lev_mem {n : Nat} {found : List Int} {t : Int} : ∀ {k : Nat} {p : Pr}, p ∈ lev n found t k → p.1.length = k ∧ Bits p.1
  | 0, p, h => by
    rw [lev, List.mem_singleton] at h
    subst h; exact ⟨rfl, fun x hx => absurd hx (by simp)⟩
  | k + 1, p, h => by
    rw [lev, List.mem_flatMap] at h
    obtain ⟨q, hq, hp⟩ := h
    obtain ⟨h1, h2⟩ := lev_mem hq
    unfold kids at hp
    split at hp
    · simp only [List.mem_cons, List.mem_nil_iff, or_false] at hp
      rcases hp with rfl | rfl
      · exact ⟨by simp [h1], bits_app h2 (by omega)⟩
      · exact ⟨by simp [h1], bits_app h2 (by omega)⟩
    · cases hp
theorem lev_first (n : Nat) (found : List Int) (t : Int) : 0 < (lev n found t 0).length := by simp [lev]
/-! ## broken pairs, near masks -/
/-- counts -/
theorem count_app {α : Type} (l : List α) (a : α) (q : α → Bool) : ((l ++ [a]).filter q).length = (l.filter q).length + if q a then 1 else 0 := by
  rw [List.filter_append, List.length_append]
  congr 1
  cases h : q a <;> simp [h]
theorem two_pow_toNat {n : Nat} {i : Int} (h : i = n) : (2 : Int) ^ i.toNat = ((2 ^ n : Nat) : Int) := by
  subst h
  rw [Int.toNat_natCast, Int.natCast_pow]; rfl
end M79

/-! # M84.lean -/
set_option linter.all false
namespace M84
open M79
/-! ## sums over what lies below a bound -/
def S (N : Nat) (g : Nat → Int) : Int := ((List.range N).map g).sum
theorem S_zero (g : Nat → Int) : S 0 g = 0 := rfl
theorem S_succ (N : Nat) (g : Nat → Int) : S (N + 1) g = S N g + g N := by
  unfold S
  rw [List.range_succ, List.map_append, List.sum_append_int]
  simp
theorem S_congr {N : Nat} {g h : Nat → Int} (e : ∀ x, x < N → g x = h x) : S N g = S N h := by
  unfold S
  congr 1
  exact List.map_congr_left fun x hx => e x (List.mem_range.mp hx)
theorem S_add (N : Nat) (g h : Nat → Int) : S N (fun x => g x + h x) = S N g + S N h := by
  induction N with
  | zero => rfl
  | succ N ih => rw [S_succ, S_succ, S_succ, ih]; omega
theorem S_sub (N : Nat) (g h : Nat → Int) : S N (fun x => g x - h x) = S N g - S N h := by
  induction N with
  | zero => rfl
  | succ N ih => rw [S_succ, S_succ, S_succ, ih]; omega
theorem S_mul (N : Nat) (c : Int) (g : Nat → Int) : S N (fun x => c * g x) = c * S N g := by
  induction N with
  | zero => simp [S_zero]
  | succ N ih => rw [S_succ, S_succ, ih, Int.mul_add]
theorem S_const (N : Nat) (c : Int) : S N (fun _ => c) = N * c := by
  induction N with
  | zero => simp [S_zero]
  | succ N ih => rw [S_succ, ih]; rw [Int.natCast_add, Int.add_mul]; simp
theorem S_split (N M : Nat) (g : Nat → Int) : S (N + M) g = S N g + S M fun x => g (N + x) := by
  induction M with
  | zero => simp [S_zero]
  | succ M ih => rw [← Nat.add_assoc, S_succ, S_succ, ih]; omega
theorem S_half (n : Nat) (g : Nat → Int) : S (2 ^ (n + 1)) g = S (2 ^ n) g + S (2 ^ n) fun x => g (2 ^ n + x) := by
  rw [Nat.pow_succ, Nat.mul_two, S_split]
theorem S_swap (N M : Nat) (g : Nat → Nat → Int) : S N (fun x => S M fun y => g x y) = S M fun y => S N fun x => g x y := by
  induction N with
  | zero =>
    show 0 = S M fun y => 0
    rw [S_const]; simp
  | succ N ih =>
    rw [S_succ, ih, ← S_add]
    exact S_congr fun y _ => by rw [S_succ]
theorem S_nonneg {N : Nat} {g : Nat → Int} (h : ∀ x, x < N → 0 ≤ g x) : 0 ≤ S N g := by
  induction N with
  | zero => exact Int.le_refl _
  | succ N ih =>
    rw [S_succ]
    have := ih fun x hx => h x (by omega)
    have := h N (by omega)
    omega
theorem S_zero_iff {N : Nat} {g : Nat → Int} (h : ∀ x, x < N → 0 ≤ g x) : S N g = 0 ↔ ∀ x, x < N → g x = 0 := by
  induction N with
  | zero => exact ⟨fun _ x hx => absurd hx (by omega), fun _ => rfl⟩
  | succ N ih =>
    rw [S_succ]
    have h1 := S_nonneg fun x hx => h x (Nat.lt_succ_of_lt hx)
    have h2 := h N (by omega)
    have ih := ih fun x hx => h x (by omega)
    constructor
    · intro e x hx
      rcases Nat.lt_succ_iff_lt_or_eq.mp hx with hx | rfl
      · exact ih.mp (by omega) x hx
      · omega
    · intro e
      rw [ih.mpr fun x hx => e x (by omega), e N (by omega)]; rfl
theorem S_mod {N : Nat} {g h : Nat → Int} (e : ∀ x, x < N → g x % 2 = h x % 2) : S N g % 2 = S N h % 2 := by
  induction N with
  | zero => rfl
  | succ N ih =>
    rw [S_succ, S_succ]
    have := ih fun x hx => e x (by omega)
    have := e N (by omega)
    omega
theorem S_delta {N : Nat} {g : Nat → Int} {a : Nat} (h : a < N) : S N (fun x => if x = a then g x else 0) = g a := by
  induction N with
  | zero => omega
  | succ N ih =>
    rw [S_succ]
    by_cases e : a = N
    · subst e
      have : S a (fun x => if x = a then g x else 0) = 0 := by
        rw [S_congr (h := fun _ => 0) fun x hx => if_neg (by omega), S_const]; simp
      rw [this, if_pos rfl]; omega
    · rw [ih (by omega), if_neg (fun z => e z.symm)]; omega
theorem sum_filter (l : List Nat) (q : Nat → Bool) (g : Nat → Int) : ((l.filter q).map g).sum = (l.map fun x => if q x then g x else 0).sum := by
  induction l with
  | nil => rfl
  | cons a l ih =>
    rw [List.filter_cons, List.map_cons, List.sum_cons, ← ih]
    cases q a <;> simp
/-! ## bits -/
theorem hi_bit {n x : Nat} (h : x < 2 ^ n) : (2 ^ n + x).testBit n = true := by
  rw [Nat.testBit_two_pow_add_eq, Nat.testBit_lt_two_pow h]; rfl
theorem bits_hi {n x i : Nat} (h : x < 2 ^ n) : (2 ^ n + x).testBit i = (decide (i = n) || x.testBit i) := by
  rcases Nat.lt_trichotomy i n with hi | rfl | hi
  · rw [Nat.testBit_two_pow_add_gt hi, decide_eq_false (by omega)]; rfl
  · rw [hi_bit h, decide_eq_true rfl]; rfl
  · have h1 : 2 ^ n + x < 2 ^ i := by
      have := Nat.pow_le_pow_right (n := 2) (by omega) (show n + 1 ≤ i by omega)
      rw [Nat.pow_succ] at this; omega
    have h2 : x < 2 ^ i := by omega
    rw [Nat.testBit_lt_two_pow h1, Nat.testBit_lt_two_pow h2, decide_eq_false (by omega)]; rfl
theorem xor_hl {n x y : Nat} (hx : x < 2 ^ n) (hy : y < 2 ^ n) : (2 ^ n + x) ^^^ y = 2 ^ n + (x ^^^ y) := by
  apply Nat.eq_of_testBit_eq
  intro i
  rw [Nat.testBit_xor, bits_hi hx, bits_hi (Nat.xor_lt_two_pow hx hy), Nat.testBit_xor]
  by_cases e : i = n
  · subst e
    rw [Nat.testBit_lt_two_pow hx, Nat.testBit_lt_two_pow hy]; simp
  · rw [decide_eq_false e]; simp
theorem xor_hh {n x y : Nat} (hx : x < 2 ^ n) (hy : y < 2 ^ n) : (2 ^ n + x) ^^^ (2 ^ n + y) = x ^^^ y := by
  apply Nat.eq_of_testBit_eq
  intro i
  rw [Nat.testBit_xor, bits_hi hx, bits_hi hy, Nat.testBit_xor]
  by_cases e : i = n
  · subst e
    rw [Nat.testBit_lt_two_pow hx, Nat.testBit_lt_two_pow hy]; simp
  · rw [decide_eq_false e]; simp
theorem xor_lh {n x y : Nat} (hx : x < 2 ^ n) (hy : y < 2 ^ n) : x ^^^ (2 ^ n + y) = 2 ^ n + (x ^^^ y) := by
  rw [Nat.xor_comm, xor_hl hy hx, Nat.xor_comm]
theorem xx (x y : Nat) : x ^^^ y ^^^ y = x := by rw [Nat.xor_assoc, Nat.xor_self, Nat.xor_zero]
theorem xor_r (x y z : Nat) : x ^^^ y ^^^ z = x ^^^ z ^^^ y := by rw [Nat.xor_assoc, Nat.xor_comm y z, ← Nat.xor_assoc]
/-- a sum stays where its places are moved -/
theorem S_xor : ∀ {n h : Nat} (g : Nat → Int), h < 2 ^ n → S (2 ^ n) (fun x => g (x ^^^ h)) = S (2 ^ n) g
  | 0, h, g, hh => by
    have : h = 0 := by omega
    subst this
    exact S_congr fun x _ => by rw [Nat.xor_zero]
  | n + 1, h, g, hh => by
    rw [S_half, S_half]
    by_cases e : h < 2 ^ n
    · have e1 : S (2 ^ n) (fun x => g ((2 ^ n + x) ^^^ h)) = S (2 ^ n) (fun x => g (2 ^ n + x)) :=
        (S_congr fun x hx => by rw [xor_hl hx e]).trans (S_xor (fun x => g (2 ^ n + x)) e)
      rw [S_xor g e, e1]
    · have hp : h - 2 ^ n < 2 ^ n := by rw [Nat.pow_succ] at hh; omega
      have eh : h = 2 ^ n + (h - 2 ^ n) := by omega
      generalize h - 2 ^ n = k at hp eh
      subst eh
      have e1 : S (2 ^ n) (fun x => g (x ^^^ (2 ^ n + k))) = S (2 ^ n) (fun x => g (2 ^ n + x)) :=
        (S_congr fun x hx => by rw [xor_lh hx hp]).trans (S_xor (fun x => g (2 ^ n + x)) hp)
      have e2 : S (2 ^ n) (fun x => g ((2 ^ n + x) ^^^ (2 ^ n + k))) = S (2 ^ n) g :=
        (S_congr fun x hx => by rw [xor_hh hx hp]).trans (S_xor g hp)
      rw [e1, e2]; omega
theorem S_xor' {n h : Nat} (g : Nat → Int) (hh : h < 2 ^ n) : S (2 ^ n) (fun x => g (h ^^^ x)) = S (2 ^ n) g := by
  rw [← S_xor g hh]
  exact S_congr fun x _ => by rw [Nat.xor_comm]
/-! ## ones -/
def pc (n : Nat) : Nat := if h : n = 0 then 0 else n % 2 + pc (n / 2)
termination_by n
decreasing_by omega
theorem pc_zero : pc 0 = 0 := by unfold pc; simp
theorem pc_step (n : Nat) : pc n = n % 2 + pc (n / 2) := by
  by_cases h : n = 0
  · subst h; simp [pc_zero]
  · conv => lhs; unfold pc
    simp [h]
theorem xor_div2 (a i : Nat) : (a ^^^ 2 ^ (i + 1)) / 2 = a / 2 ^^^ 2 ^ i := by
  apply Nat.eq_of_testBit_eq
  intro j
  rw [Nat.testBit_div_two, Nat.testBit_xor, Nat.testBit_xor, Nat.testBit_div_two, Nat.testBit_two_pow, Nat.testBit_two_pow]
  congr 1
  exact decide_eq_decide.mpr (by omega)
theorem xor_mod2 (a i : Nat) : (a ^^^ 2 ^ (i + 1)) % 2 = a % 2 := by
  have h1 := Nat.testBit_xor a (2 ^ (i + 1)) 0
  rw [Nat.testBit_two_pow, decide_eq_false (by omega), Bool.xor_false, Nat.testBit_zero, Nat.testBit_zero] at h1
  have := decide_eq_decide.mp h1
  omega
theorem pc_bit : ∀ (i a : Nat), a.testBit i = true → pc a = pc (a ^^^ 2 ^ i) + 1
  | 0, a, h => by
    rw [Nat.testBit_zero, decide_eq_true_eq] at h
    have e : a ^^^ 2 ^ 0 = a - 1 := by
      apply Nat.eq_of_testBit_eq
      intro j
      rw [Nat.testBit_xor, Nat.testBit_two_pow]
      cases j with
      | zero => rw [Nat.testBit_zero, Nat.testBit_zero, h]; simp; omega
      | succ j => rw [decide_eq_false (by omega), Bool.xor_false, Nat.testBit_succ, Nat.testBit_succ]; congr 1; omega
    rw [e, pc_step a, pc_step (a - 1), show (a - 1) / 2 = a / 2 by omega]; omega
  | i + 1, a, h => by
    rw [Nat.testBit_succ] at h
    have := pc_bit i (a / 2) h
    rw [pc_step a, pc_step (a ^^^ 2 ^ (i + 1)), xor_div2, xor_mod2]; omega
theorem pc_pos {a : Nat} (h : 0 < pc a) : ∃ i, a.testBit i = true := by
  apply Classical.byContradiction
  intro hn
  have : a = 0 := Nat.eq_of_testBit_eq fun i => by
    rw [Nat.zero_testBit]
    cases e : a.testBit i with
    | false => rfl
    | true => exact absurd ⟨i, e⟩ hn
  subst this
  rw [pc_zero] at h; omega
theorem bit_lt {n a i : Nat} (ha : a < 2 ^ n) (h : a.testBit i = true) : i < n := by
  apply Nat.lt_of_not_le
  intro hi
  have := Nat.pow_le_pow_right (n := 2) (by omega) hi
  rw [Nat.testBit_lt_two_pow (by omega)] at h
  cases h
end M84

/-! # M84b.lean -/
set_option linter.all false
namespace M84
open M79
/-! ## sums over submasks -/
def U (n : Nat) (g : Nat → Int) (a : Nat) : Int := S (2 ^ n) fun x => if x &&& a = x then g x else 0
theorem sub_iff {x a : Nat} : x &&& a = x ↔ ∀ i, x.testBit i = true → a.testBit i = true := by
  constructor
  · intro h i hi
    rw [← h, Nat.testBit_and, Bool.and_eq_true] at hi
    exact hi.2
  · intro h
    apply Nat.eq_of_testBit_eq
    intro i
    rw [Nat.testBit_and]
    cases e : x.testBit i with
    | false => rfl
    | true => rw [h i e]; rfl
theorem xb (a i j : Nat) : (a ^^^ 2 ^ i).testBit j = (a.testBit j ^^ decide (i = j)) := by rw [Nat.testBit_xor, Nat.testBit_two_pow]
/-- with one bit more: the submasks with it and without it -/
theorem sub_split {x a i : Nat} (ha : a.testBit i = true) (g : Int) : (if x &&& a = x then g else 0) = (if x &&& (a ^^^ 2 ^ i) = x then g else 0) + (if (x ^^^ 2 ^ i) &&& (a ^^^ 2 ^ i) = x ^^^ 2 ^ i then g else 0) := by
  have ai : (a ^^^ 2 ^ i).testBit i = false := by rw [xb, ha]; simp
  cases hx : x.testBit i with
  | true =>
    have h1 : ¬ x &&& (a ^^^ 2 ^ i) = x := fun z => by
      have := sub_iff.mp z i hx
      rw [ai] at this; cases this
    have h2 : ((x ^^^ 2 ^ i) &&& (a ^^^ 2 ^ i) = x ^^^ 2 ^ i) ↔ x &&& a = x := by
      rw [sub_iff, sub_iff]
      constructor
      · intro h j hj
        by_cases e : i = j
        · subst e; exact ha
        · have := h j (by rw [xb, hj, decide_eq_false e]; rfl)
          rw [xb, decide_eq_false e] at this; simpa using this
      · intro h j hj
        rw [xb] at hj ⊢
        by_cases e : i = j
        · subst e; rw [hx] at hj; simp at hj
        · rw [decide_eq_false e] at hj ⊢
          have := h j (by simpa using hj)
          simp [this]
    rw [if_neg h1]
    by_cases e : x &&& a = x
    · rw [if_pos e, if_pos (h2.mpr e)]; omega
    · rw [if_neg e, if_neg (fun z => e (h2.mp z))]; rfl
  | false =>
    have h1 : ¬ (x ^^^ 2 ^ i) &&& (a ^^^ 2 ^ i) = x ^^^ 2 ^ i := fun z => by
      have := sub_iff.mp z i (by rw [xb, hx]; simp)
      rw [ai] at this; cases this
    have h2 : (x &&& (a ^^^ 2 ^ i) = x) ↔ x &&& a = x := by
      rw [sub_iff, sub_iff]
      constructor
      · intro h j hj
        by_cases e : i = j
        · subst e; exact ha
        · have := h j hj
          rw [xb, decide_eq_false e] at this; simpa using this
      · intro h j hj
        rw [xb]
        by_cases e : i = j
        · subst e; rw [hx] at hj; cases hj
        · rw [decide_eq_false e, h j hj]; rfl
    rw [if_neg h1]
    by_cases e : x &&& a = x
    · rw [if_pos e, if_pos (h2.mpr e)]; omega
    · rw [if_neg e, if_neg (fun z => e (h2.mp z))]; rfl
theorem two_lt {n i : Nat} (h : i < n) : 2 ^ i < 2 ^ n := Nat.pow_lt_pow_right (by omega) h
abbrev sh (h : Nat) (g : Nat → Int) : Nat → Int := fun x => g (x ^^^ h)
theorem U_split {n i a : Nat} (hi : i < n) (ha : a.testBit i = true) (g : Nat → Int) : U n g a = U n g (a ^^^ 2 ^ i) + U n (sh (2 ^ i) g) (a ^^^ 2 ^ i) := by
  unfold U
  rw [S_congr fun x _ => sub_split ha (g x), S_add]
  congr 1
  rw [← S_xor (fun x => if x &&& (a ^^^ 2 ^ i) = x then sh (2 ^ i) g x else 0) (two_lt hi)]
  exact S_congr fun x _ => by show _ = if _ then g (x ^^^ 2 ^ i ^^^ 2 ^ i) else 0; rw [xx]
theorem U_congr {n a : Nat} {g h : Nat → Int} (e : ∀ x, x < 2 ^ n → g x = h x) : U n g a = U n h a := S_congr fun x hx => by rw [e x hx]
theorem U_mod {n a : Nat} {g h : Nat → Int} (e : ∀ x, x < 2 ^ n → g x % 2 = h x % 2) : U n g a % 2 = U n h a % 2 := S_mod fun x hx => by
  split
  · exact e x hx
  · rfl
theorem U_add (n a : Nat) (g h : Nat → Int) : U n (fun x => g x + h x) a = U n g a + U n h a := by
  unfold U
  rw [← S_add]
  exact S_congr fun x _ => by split <;> simp
theorem sh_sh (e : Nat) (g : Nat → Int) : sh e (sh e g) = g := by
  funext x; show g (x ^^^ e ^^^ e) = g x; rw [xx]
theorem U_out {n i a : Nat} (hi : i < n) (ha : a.testBit i = false) (g : Nat → Int) : U n g a + U n (sh (2 ^ i) g) a = U n g (a ^^^ 2 ^ i) := by
  have h := U_split (a := a ^^^ 2 ^ i) hi (by rw [xb, ha]; simp) g
  rw [xx] at h
  exact h.symm
theorem U_in {n i a : Nat} (hi : i < n) (ha : a.testBit i = true) (g : Nat → Int) : U n (sh (2 ^ i) g) a = U n g a := by
  rw [U_split hi ha g, U_split hi ha (sh (2 ^ i) g), sh_sh]; omega
/-! ## differences -/
def dr (h : Nat) (g : Nat → Int) : Nat → Int := fun x => (g x + g (x ^^^ h)) % 2
def Van (n : Nat) : Nat → (Nat → Int) → Prop
  | 0, g => ∀ x, x < 2 ^ n → g x % 2 = 0
  | k + 1, g => ∀ h, h < 2 ^ n → Van n k (dr h g)
def Mo (n k : Nat) (g : Nat → Int) : Prop := ∀ a, a < 2 ^ n → k ≤ pc a → U n g a % 2 = 0
theorem U_dr {n a h : Nat} (g : Nat → Int) : U n (dr h g) a % 2 = (U n g a + U n (sh h g) a) % 2 := by
  rw [← U_add]
  exact U_mod fun x _ => by unfold dr; rw [Int.emod_emod_of_dvd _ (by omega : (2 : Int) ∣ 2)]
theorem xor_lt2 {n x y : Nat} (hx : x < 2 ^ n) (hy : y < 2 ^ n) : x ^^^ y < 2 ^ n := Nat.xor_lt_two_pow hx hy
theorem van_mo {n : Nat} : ∀ {k : Nat} {g : Nat → Int}, Van n k g → Mo n k g
  | 0, g, v, a, ha, _ => by
    have : U n g a % 2 = U n (fun _ => 0) a % 2 := U_mod fun x hx => by rw [v x hx]; rfl
    rw [this]
    unfold U
    rw [S_congr (h := fun _ => 0) fun x _ => by split <;> rfl, S_const]; simp
  | k + 1, g, v, a, ha, hk => by
    obtain ⟨i, hi⟩ := pc_pos (show 0 < pc a by omega)
    have hin := bit_lt ha hi
    have hp := pc_bit i a hi
    have := van_mo (v (2 ^ i) (two_lt hin)) (a ^^^ 2 ^ i) (xor_lt2 ha (two_lt hin)) (by omega)
    rw [U_dr] at this
    rw [U_split hin hi]; exact this
theorem mo_congr {n k : Nat} {g h : Nat → Int} (e : ∀ x, x < 2 ^ n → g x % 2 = h x % 2) (m : Mo n k g) : Mo n k h := fun a ha hk => by
  rw [← U_mod e]; exact m a ha hk
theorem mo_add {n k : Nat} {g h : Nat → Int} (m1 : Mo n k g) (m2 : Mo n k h) : Mo n k fun x => g x + h x := fun a ha hk => by
  have := m1 a ha hk
  have := m2 a ha hk
  rw [U_add]; omega
theorem mo_step {n k i : Nat} {g : Nat → Int} (hi : i < n) (m : Mo n (k + 1) g) : Mo n k (dr (2 ^ i) g) := fun a ha hk => by
  rw [U_dr]
  cases e : a.testBit i with
  | true => rw [U_in hi e]; omega
  | false =>
    rw [U_out hi e]
    have := pc_bit i (a ^^^ 2 ^ i) (by rw [xb, e]; simp)
    rw [xx] at this
    exact m _ (xor_lt2 ha (two_lt hi)) (by omega)
theorem mo_sh {n k i : Nat} {g : Nat → Int} (hi : i < n) (m : Mo n k g) : Mo n k (sh (2 ^ i) g) := fun a ha hk => by
  cases e : a.testBit i with
  | true => rw [U_in hi e]; exact m a ha hk
  | false =>
    have h1 := U_out hi e g
    have := pc_bit i (a ^^^ 2 ^ i) (by rw [xb, e]; simp)
    rw [xx] at this
    have h2 := m _ (xor_lt2 ha (two_lt hi)) (by omega)
    have h3 := m a ha hk
    omega
theorem mo_dr {n k : Nat} {g : Nat → Int} (m : Mo n (k + 1) g) : ∀ j, j ≤ n → ∀ h, h < 2 ^ j → Mo n k (dr h g)
  | 0, _, h, hh => by
    have : h = 0 := by omega
    subst this
    intro a ha hk
    rw [U_dr]
    have : sh 0 g = g := by funext x; show g (x ^^^ 0) = g x; rw [Nat.xor_zero]
    rw [this]; omega
  | j + 1, hj, h, hh => by
    by_cases hl : h < 2 ^ j
    · exact mo_dr m j (by omega) h hl
    · have hp : h - 2 ^ j < 2 ^ j := by rw [Nat.pow_succ] at hh; omega
      have eh : h = 2 ^ j + (h - 2 ^ j) := by omega
      generalize h - 2 ^ j = k' at hp eh
      subst eh
      have ex : 2 ^ j + k' = k' ^^^ 2 ^ j := by
        have := xor_hl (n := j) (x := 0) (y := k') (Nat.two_pow_pos j) hp
        rw [Nat.add_zero, Nat.zero_xor] at this
        rw [← this, Nat.xor_comm]
      rw [ex]
      have m1 := mo_step (i := j) (by omega) m
      have m2 := mo_sh (i := j) (by omega) (mo_dr m j (by omega) k' hp)
      refine mo_congr (fun x hx => ?_) (mo_add m1 m2)
      show (dr (2 ^ j) g x + dr k' g (x ^^^ 2 ^ j)) % 2 = _
      unfold dr
      rw [show x ^^^ 2 ^ j ^^^ k' = x ^^^ (k' ^^^ 2 ^ j) by rw [Nat.xor_assoc, Nat.xor_comm (2 ^ j)]]
      omega
theorem mo_zero {n : Nat} {g : Nat → Int} (m : Mo n 0 g) : ∀ x, x < 2 ^ n → g x % 2 = 0 := by
  intro x
  induction x using Nat.strongRecOn with
  | ind x ih =>
    intro hx
    have h1 := m x hx (Nat.zero_le _)
    have h2 : U n g x % 2 = S (2 ^ n) (fun y => if y = x then g y else 0) % 2 := S_mod fun y hy => by
      by_cases e : y = x
      · subst e; rw [if_pos (Nat.and_self y), if_pos rfl]
      · rw [if_neg e]
        split
        · rename_i hs
          have hle : y ≤ x := by rw [← hs]; exact Nat.and_le_right
          rw [ih y (by omega) hy]; rfl
        · rfl
    rw [S_delta hx] at h2
    omega
theorem mo_van {n : Nat} : ∀ {k : Nat} {g : Nat → Int}, Mo n k g → Van n k g
  | 0, _, m => mo_zero m
  | _ + 1, _, m => fun h hh => mo_van (mo_dr m n (Nat.le_refl _) h hh)
theorem van_iff {n k : Nat} {g : Nat → Int} : Van n k g ↔ Mo n k g := ⟨van_mo, mo_van⟩
/-! ## what is counted of cubes -/
def Cu (n : Nat) : Nat → (Nat → Int) → Int
  | 0, g => S (2 ^ n) g
  | k + 1, g => S (2 ^ n) fun h => Cu n k (dr h g)
def Bit (n : Nat) (g : Nat → Int) : Prop := ∀ x, x < 2 ^ n → 0 ≤ g x ∧ g x < 2
theorem bit_dr {n h : Nat} {g : Nat → Int} : Bit n (dr h g) := fun x _ => ⟨Int.emod_nonneg _ (by decide), Int.emod_lt_of_pos _ (by decide)⟩
theorem cu_nonneg {n : Nat} : ∀ {k : Nat} {g : Nat → Int}, Bit n g → 0 ≤ Cu n k g
  | 0, _, b => S_nonneg fun x hx => (b x hx).1
  | _ + 1, _, _ => S_nonneg fun h _ => cu_nonneg bit_dr
theorem cu_zero {n : Nat} : ∀ {k : Nat} {g : Nat → Int}, Bit n g → (Cu n k g = 0 ↔ Van n k g)
  | 0, g, b => by
    show S (2 ^ n) g = 0 ↔ _
    rw [S_zero_iff fun x hx => (b x hx).1]
    exact ⟨fun h x hx => by rw [h x hx]; rfl, fun h x hx => by have := h x hx; have := b x hx; omega⟩
  | k + 1, g, _ => by
    show S (2 ^ n) (fun h => Cu n k (dr h g)) = 0 ↔ _
    rw [S_zero_iff fun h _ => cu_nonneg bit_dr]
    exact ⟨fun e h hh => (cu_zero bit_dr).mp (e h hh), fun e h hh => (cu_zero bit_dr).mpr (e h hh)⟩
end M84

/-! # M84c.lean -/
set_option linter.all false
namespace M84
open M79
/-! ## signs: fourth powers -/
def hi (n : Nat) (g : Nat → Int) : Nat → Int := fun x => g (2 ^ n + x)
def W : Nat → (Nat → Int) → Nat → Int
  | 0, g => fun _ => g 0
  | m + 1, g => fun a => if a < 2 ^ m then W m g a + W m (hi m g) a else W m g (a - 2 ^ m) - W m (hi m g) (a - 2 ^ m)
def Q (n : Nat) (g p q r : Nat → Int) : Int := S (2 ^ n) fun a => W n g a * W n p a * W n q a * W n r a
def E (n : Nat) (g p q r : Nat → Int) : Int := S (2 ^ n) fun x => S (2 ^ n) fun y => S (2 ^ n) fun z => g x * p y * q z * r (x ^^^ y ^^^ z)
theorem Q_step (n : Nat) (g p q r : Nat → Int) : Q (n + 1) g p q r = 2 * (Q n g p q r + Q n g p (hi n q) (hi n r) + Q n g (hi n p) q (hi n r) + Q n g (hi n p) (hi n q) r + Q n (hi n g) p q (hi n r) + Q n (hi n g) p (hi n q) r + Q n (hi n g) (hi n p) q r + Q n (hi n g) (hi n p) (hi n q) (hi n r)) := by
  unfold Q
  rw [S_half, ← S_add, ← S_add, ← S_add, ← S_add, ← S_add, ← S_add, ← S_add, ← S_add, ← S_mul]
  refine S_congr fun a ha => ?_
  have h1 : ∀ f : Nat → Int, W (n + 1) f a = W n f a + W n (hi n f) a := fun f => by
    show (if a < 2 ^ n then _ else _) = _
    rw [if_pos ha]
  have h2 : ∀ f : Nat → Int, W (n + 1) f (2 ^ n + a) = W n f a - W n (hi n f) a := fun f => by
    show (if 2 ^ n + a < 2 ^ n then _ else _) = _
    rw [if_neg (by omega), Nat.add_sub_cancel_left]
  rw [h1, h1, h1, h1, h2, h2, h2, h2]
  grind
theorem E_half3 (n : Nat) (F : Nat → Nat → Nat → Int) : (S (2 ^ (n + 1)) fun x => S (2 ^ (n + 1)) fun y => S (2 ^ (n + 1)) fun z => F x y z) =
    S (2 ^ n) fun x => S (2 ^ n) fun y => S (2 ^ n) fun z => F x y z + F x y (2 ^ n + z) + F x (2 ^ n + y) z + F x (2 ^ n + y) (2 ^ n + z) + F (2 ^ n + x) y z + F (2 ^ n + x) y (2 ^ n + z) + F (2 ^ n + x) (2 ^ n + y) z + F (2 ^ n + x) (2 ^ n + y) (2 ^ n + z) := by
  rw [S_half, ← S_add]
  refine S_congr fun x _ => ?_
  rw [S_half, S_half, ← S_add, ← S_add, ← S_add]
  refine S_congr fun y _ => ?_
  rw [S_half, S_half, S_half, S_half, ← S_add, ← S_add, ← S_add, ← S_add, ← S_add, ← S_add, ← S_add]
  refine S_congr fun z _ => ?_
  omega
theorem E_step (n : Nat) (g p q r : Nat → Int) : E (n + 1) g p q r = E n g p q r + E n g p (hi n q) (hi n r) + E n g (hi n p) q (hi n r) + E n g (hi n p) (hi n q) r + E n (hi n g) p q (hi n r) + E n (hi n g) p (hi n q) r + E n (hi n g) (hi n p) q r + E n (hi n g) (hi n p) (hi n q) (hi n r) := by
  unfold E
  rw [E_half3, ← S_add, ← S_add, ← S_add, ← S_add, ← S_add, ← S_add, ← S_add]
  refine S_congr fun x hx => ?_
  rw [← S_add, ← S_add, ← S_add, ← S_add, ← S_add, ← S_add, ← S_add]
  refine S_congr fun y hy => ?_
  rw [← S_add, ← S_add, ← S_add, ← S_add, ← S_add, ← S_add, ← S_add]
  refine S_congr fun z hz => ?_
  have hxy := xor_lt2 hx hy
  rw [xor_lh hxy hz, xor_lh hx hy, xor_hl hxy hz, xor_hh hxy hz, xor_hl hx hy, xor_hl hxy hz, xor_hh hxy hz, xor_hh hx hy, xor_lh hxy hz]
  unfold hi
  omega
theorem Q_E : ∀ (n : Nat) (g p q r : Nat → Int), Q n g p q r = ((2 ^ n : Nat) : Int) * E n g p q r
  | 0, g, p, q, r => by
    unfold Q E W
    simp [S]
  | n + 1, g, p, q, r => by
    rw [Q_step, E_step, Q_E n, Q_E n, Q_E n, Q_E n, Q_E n, Q_E n, Q_E n, Q_E n, Nat.pow_succ, Int.natCast_mul]
    grind
/-- of signs of bits -/
def sn (g : Nat → Int) : Nat → Int := fun x => 1 - 2 * g x
theorem sn_dr {n h x : Nat} {g : Nat → Int} (b : Bit n g) (hx : x < 2 ^ n) (hh : h < 2 ^ n) : 1 - 2 * dr h g x = sn g x * sn g (x ^^^ h) := by
  have h1 := b x hx
  have h2 := b (x ^^^ h) (xor_lt2 hx hh)
  unfold dr sn
  rcases (show g x = 0 ∨ g x = 1 by omega) with e1 | e1 <;> rcases (show g (x ^^^ h) = 0 ∨ g (x ^^^ h) = 1 by omega) with e2 | e2 <;> rw [e1, e2] <;> rfl
theorem E_Cu {n : Nat} {g : Nat → Int} (b : Bit n g) : E n (sn g) (sn g) (sn g) (sn g) = ((2 ^ n : Nat) : Int) * ((2 ^ n : Nat) : Int) * ((2 ^ n : Nat) : Int) - 2 * Cu n 2 g := by
  have e1 : ((2 ^ n : Nat) : Int) * ((2 ^ n : Nat) : Int) * ((2 ^ n : Nat) : Int) - 2 * Cu n 2 g = S (2 ^ n) fun h1 => S (2 ^ n) fun h2 => S (2 ^ n) fun x => 1 - 2 * dr h2 (dr h1 g) x := by
    have e : Cu n 2 g = S (2 ^ n) fun h1 => S (2 ^ n) fun h2 => S (2 ^ n) fun x => dr h2 (dr h1 g) x := rfl
    have e2 : ∀ h1 h2, (S (2 ^ n) fun x => 1 - 2 * dr h2 (dr h1 g) x) = ((2 ^ n : Nat) : Int) - 2 * S (2 ^ n) fun x => dr h2 (dr h1 g) x := fun h1 h2 => by
      rw [S_sub, S_const, S_mul, Int.mul_one]
    have e3 : ∀ h1, (S (2 ^ n) fun h2 => S (2 ^ n) fun x => 1 - 2 * dr h2 (dr h1 g) x) = ((2 ^ n : Nat) : Int) * ((2 ^ n : Nat) : Int) - 2 * S (2 ^ n) fun h2 => S (2 ^ n) fun x => dr h2 (dr h1 g) x := fun h1 => by
      rw [S_congr fun h2 _ => e2 h1 h2, S_sub, S_const, S_mul]
    rw [e, S_congr fun h1 _ => e3 h1, S_sub, S_const, S_mul, Int.mul_assoc]
  rw [e1]
  have e4 : (S (2 ^ n) fun h1 => S (2 ^ n) fun h2 => S (2 ^ n) fun x => 1 - 2 * dr h2 (dr h1 g) x) = S (2 ^ n) fun h1 => S (2 ^ n) fun h2 => S (2 ^ n) fun x => sn g x * sn g (x ^^^ h1) * sn g (x ^^^ h2) * sn g (x ^^^ h1 ^^^ h2) := by
    refine S_congr fun h1 hh1 => S_congr fun h2 hh2 => S_congr fun x hx => ?_
    rw [sn_dr bit_dr hx hh2]
    show (1 - 2 * dr h1 g x) * (1 - 2 * dr h1 g (x ^^^ h2)) = _
    rw [sn_dr b hx hh1, sn_dr b (xor_lt2 hx hh2) hh1, xor_r x h2 h1]
    grind
  rw [e4]
  have e5 : ∀ h1, (S (2 ^ n) fun h2 => S (2 ^ n) fun x => sn g x * sn g (x ^^^ h1) * sn g (x ^^^ h2) * sn g (x ^^^ h1 ^^^ h2)) = S (2 ^ n) fun x => S (2 ^ n) fun h2 => sn g x * sn g (x ^^^ h1) * sn g (x ^^^ h2) * sn g (x ^^^ h1 ^^^ h2) := fun h1 => S_swap _ _ fun h2 x => sn g x * sn g (x ^^^ h1) * sn g (x ^^^ h2) * sn g (x ^^^ h1 ^^^ h2)
  rw [S_congr fun h1 _ => e5 h1, S_swap _ _ fun h1 x => S (2 ^ n) fun h2 => sn g x * sn g (x ^^^ h1) * sn g (x ^^^ h2) * sn g (x ^^^ h1 ^^^ h2)]
  unfold E
  refine S_congr fun x hx => ?_
  rw [← S_xor' (fun y => S (2 ^ n) fun z => sn g x * sn g y * sn g z * sn g (x ^^^ y ^^^ z)) hx]
  refine S_congr fun h1 _ => ?_
  rw [← S_xor' (fun z => sn g x * sn g (x ^^^ h1) * sn g z * sn g (x ^^^ (x ^^^ h1) ^^^ z)) hx]
  refine S_congr fun h2 _ => ?_
  have e6 : x ^^^ (x ^^^ h1) ^^^ (x ^^^ h2) = x ^^^ h1 ^^^ h2 := by
    rw [← Nat.xor_assoc x x h1, Nat.xor_self, Nat.zero_xor, ← Nat.xor_assoc, Nat.xor_comm h1 x]
  rw [e6]
theorem fourth {n : Nat} {g : Nat → Int} (b : Bit n g) : Cu n 2 g * 2 * ((2 ^ n : Nat) : Int) = ((2 ^ n : Nat) : Int) * ((2 ^ n : Nat) : Int) * ((2 ^ n : Nat) : Int) * ((2 ^ n : Nat) : Int) - S (2 ^ n) fun a => W n (sn g) a * W n (sn g) a * W n (sn g) a * W n (sn g) a := by
  have h1 := Q_E n (sn g) (sn g) (sn g) (sn g)
  rw [E_Cu b] at h1
  unfold Q at h1
  rw [h1]
  grind
/-! ## first differences -/
theorem first_cubes {n : Nat} {g : Nat → Int} (b : Bit n g) : Cu n 1 g = 2 * S (2 ^ n) g * (((2 ^ n : Nat) : Int) - S (2 ^ n) g) := by
  have e0 : Cu n 1 g = S (2 ^ n) fun h => S (2 ^ n) fun x => dr h g x := rfl
  have e1 : (S (2 ^ n) fun h => S (2 ^ n) fun x => dr h g x) = S (2 ^ n) fun x => S (2 ^ n) fun h => g x + g (x ^^^ h) - 2 * (g x * g (x ^^^ h)) := by
    rw [S_swap]
    refine S_congr fun x hx => S_congr fun h hh => ?_
    have h1 := b x hx
    have h2 := b (x ^^^ h) (xor_lt2 hx hh)
    unfold dr
    rcases (show g x = 0 ∨ g x = 1 by omega) with e1 | e1 <;> rcases (show g (x ^^^ h) = 0 ∨ g (x ^^^ h) = 1 by omega) with e2 | e2 <;> rw [e1, e2] <;> rfl
  rw [e0, e1]
  have e2 : ∀ x, x < 2 ^ n → (S (2 ^ n) fun h => g x + g (x ^^^ h) - 2 * (g x * g (x ^^^ h))) = (((2 ^ n : Nat) : Int) - 2 * S (2 ^ n) g) * g x + S (2 ^ n) g := fun x hx => by
    rw [S_sub, S_add, S_const, S_mul, S_mul, S_xor' g hx]
    grind
  rw [S_congr e2, S_add, S_mul, S_const]
  grind
end M84

/-! # M84d.lean -/
set_option linter.all false
namespace M84
open M79
/-! ## bit by bit in place -/
section
variable (α β : Int → Int → Int)
def T : Nat → (Nat → Int) → Nat → Int
  | 0, g => g
  | k + 1, g => fun x => if x / 2 ^ k % 2 = 0 then α (T k g x) (T k g (x + 2 ^ k)) else β (T k g (x - 2 ^ k)) (T k g x)
def R : Nat → (Nat → Int) → Nat → Int
  | 0, g => fun _ => g 0
  | m + 1, g => fun a => if a < 2 ^ m then α (R m g a) (R m (hi m g) a) else β (R m g (a - 2 ^ m)) (R m (hi m g) (a - 2 ^ m))
theorem T_R : ∀ (m q : Nat) (g : Nat → Int) (a : Nat), a < 2 ^ m → T α β m g (2 ^ m * q + a) = R α β m (fun y => g (2 ^ m * q + y)) a
  | 0, q, g, a, h => by
    have : a = 0 := by omega
    subst this; rfl
  | m + 1, q, g, a, h => by
    have hp := Nat.two_pow_pos m
    have e2 : 2 ^ (m + 1) * q = 2 ^ m * (2 * q) := by rw [Nat.pow_succ, Nat.mul_assoc]
    have e3 : 2 ^ m * (2 * q + 1) = 2 ^ m * (2 * q) + 2 ^ m := by rw [Nat.mul_add, Nat.mul_one]
    rw [e2]
    by_cases hl : a < 2 ^ m
    · have hd : (2 ^ m * (2 * q) + a) / 2 ^ m % 2 = 0 := by
        rw [Nat.mul_add_div hp, Nat.div_eq_of_lt hl]; omega
      show (if (2 ^ m * (2 * q) + a) / 2 ^ m % 2 = 0 then _ else _) = if a < 2 ^ m then _ else _
      rw [if_pos hd, if_pos hl, T_R m (2 * q) g a hl]
      have e4 : 2 ^ m * (2 * q) + a + 2 ^ m = 2 ^ m * (2 * q + 1) + a := by omega
      rw [e4, T_R m (2 * q + 1) g a hl]
      congr 2
      funext y
      show g _ = g _
      congr 1; omega
    · have hl2 : a - 2 ^ m < 2 ^ m := by rw [Nat.pow_succ] at h; omega
      have hd : ¬ (2 ^ m * (2 * q) + a) / 2 ^ m % 2 = 0 := by
        have e5 : 2 ^ m * (2 * q) + a = 2 ^ m * (2 * q + 1) + (a - 2 ^ m) := by omega
        rw [e5, Nat.mul_add_div hp, Nat.div_eq_of_lt hl2]; omega
      show (if (2 ^ m * (2 * q) + a) / 2 ^ m % 2 = 0 then _ else _) = if a < 2 ^ m then _ else _
      rw [if_neg hd, if_neg hl]
      have e4 : 2 ^ m * (2 * q) + a - 2 ^ m = 2 ^ m * (2 * q) + (a - 2 ^ m) := by omega
      have e5 : 2 ^ m * (2 * q) + a = 2 ^ m * (2 * q + 1) + (a - 2 ^ m) := by omega
      rw [e4, T_R m (2 * q) g _ hl2, e5, T_R m (2 * q + 1) g _ hl2]
      congr 2
      funext y
      show g _ = g _
      congr 1; omega
theorem T_R0 {m a : Nat} (g : Nat → Int) (h : a < 2 ^ m) : T α β m g a = R α β m g a := by
  have := T_R α β m 0 g a h
  rw [Nat.mul_zero, Nat.zero_add] at this
  rw [this]
  congr 1
  funext y
  rw [Nat.zero_add]
end
theorem W_R : ∀ (m : Nat) (g : Nat → Int), W m g = R (· + ·) (· - ·) m g
  | 0, _ => rfl
  | m + 1, g => by
    funext a
    show (if a < 2 ^ m then _ else _) = if a < 2 ^ m then _ else _
    rw [W_R m g, W_R m (hi m g)]
theorem its_T {n : Nat} {l : List Int} (hl : l.length = 2 ^ n) : ∀ k, k ≤ n → ∀ x, x < 2 ^ n → (its k l).getD x 0 = T (· + ·) (· - ·) k (fun y => l.getD y 0) x
  | 0, _, x, _ => rfl
  | k + 1, hk, x, hx => by
    have hlen : (its k l).length = 2 ^ n := by rw [its_len, hl]
    have e : (its (k + 1) l).getD x 0 = stf (2 ^ k) (its k l) x := by
      rw [its]
      unfold bstep
      rw [List.getD_eq_getElem?_getD, List.getElem?_map, List.getElem?_range (by rw [hlen]; exact hx)]
      rfl
    rw [e]
    show _ = if x / 2 ^ k % 2 = 0 then _ else _
    unfold stf
    have hp := Nat.two_pow_pos k
    by_cases h : x / 2 ^ k % 2 = 0
    · rw [if_pos h, if_pos h, its_T hl k (by omega) x hx, its_T hl k (by omega) _ (room hk hx h)]
    · rw [if_neg h, if_neg h, its_T hl k (by omega) x hx, its_T hl k (by omega) _ (by omega)]
theorem its_W {n : Nat} {l : List Int} (hl : l.length = 2 ^ n) {a : Nat} (h : a < 2 ^ n) : (its n l).getD a 0 = W n (fun y => l.getD y 0) a := by
  rw [its_T hl n (Nat.le_refl _) a h, T_R0 _ _ _ h, W_R]
/-! ## products -/
theorem and_hl {n x y : Nat} (hx : x < 2 ^ n) (hy : y < 2 ^ n) : (2 ^ n + x) &&& y = x &&& y := by
  apply Nat.eq_of_testBit_eq
  intro i
  rw [Nat.testBit_and, Nat.testBit_and, bits_hi hx]
  by_cases e : i = n
  · subst e; rw [Nat.testBit_lt_two_pow hy]; simp
  · rw [decide_eq_false e]; simp
theorem and_hh {n x y : Nat} (hx : x < 2 ^ n) (hy : y < 2 ^ n) : (2 ^ n + x) &&& (2 ^ n + y) = 2 ^ n + (x &&& y) := by
  have hxy : x &&& y < 2 ^ n := Nat.lt_of_le_of_lt Nat.and_le_left hx
  apply Nat.eq_of_testBit_eq
  intro i
  rw [Nat.testBit_and, bits_hi hx, bits_hi hy, bits_hi hxy, Nat.testBit_and]
  cases decide (i = n) <;> simp
theorem U_lo {n a : Nat} (g : Nat → Int) (h : a < 2 ^ n) : U (n + 1) g a = U n g a := by
  unfold U
  rw [S_half]
  have : (S (2 ^ n) fun x => if (2 ^ n + x) &&& a = 2 ^ n + x then g (2 ^ n + x) else 0) = 0 := by
    rw [S_congr (h := fun _ => 0) fun x hx => if_neg ?_, S_const]
    · simp
    · intro z
      have := Nat.and_le_right (n := 2 ^ n + x) (m := a)
      omega
  rw [this]; omega
theorem U_hi {n a : Nat} (g : Nat → Int) (h : a < 2 ^ n) : U (n + 1) g (2 ^ n + a) = U n g a + U n (hi n g) a := by
  unfold U
  rw [S_half]
  congr 1
  · refine S_congr fun x hx => ?_
    rw [Nat.and_comm, and_hl h hx, Nat.and_comm]
  · refine S_congr fun x hx => ?_
    rw [and_hh hx h]
    have : (2 ^ n + (x &&& a) = 2 ^ n + x) ↔ x &&& a = x := by omega
    by_cases e : x &&& a = x
    · rw [if_pos e, if_pos (this.mpr e)]; rfl
    · rw [if_neg e, if_neg (fun z => e (this.mp z))]
def bx (u v : Int) : Int := (u + v) % 2
theorem R_U : ∀ (n : Nat) (g : Nat → Int) (a : Nat), a < 2 ^ n → R (fun u _ => u) bx n g a % 2 = U n g a % 2
  | 0, g, a, h => by
    have : a = 0 := by omega
    subst this
    simp [R, U, S]
  | n + 1, g, a, h => by
    show (if a < 2 ^ n then _ else _) % 2 = _
    by_cases hl : a < 2 ^ n
    · rw [if_pos hl, U_lo g hl]; exact R_U n g a hl
    · have hl2 : a - 2 ^ n < 2 ^ n := by rw [Nat.pow_succ] at h; omega
      have e : a = 2 ^ n + (a - 2 ^ n) := by omega
      rw [if_neg hl]
      have h1 := R_U n g _ hl2
      have h2 := R_U n (hi n g) _ hl2
      conv => rhs; rw [e, U_hi g hl2]
      have hbx : ∀ u v, bx u v = (u + v) % 2 := fun _ _ => rfl
      rw [hbx]
      omega
/-- the table after k of the places -/
def pst (s : Nat) (l : List Int) (i : Nat) : Int := if i / s % 2 = 0 then l.getD i 0 else bx (l.getD (i - s) 0) (l.getD i 0)
def pits : Nat → List Int → List Int
  | 0, l => l
  | k + 1, l => (List.range (pits k l).length).map (pst (2 ^ k) (pits k l))
theorem pits_len (k : Nat) (l : List Int) : (pits k l).length = l.length := by
  induction k with
  | zero => rfl
  | succ k ih => rw [pits, List.length_map, List.length_range, ih]
theorem pits_bits {l : List Int} (h : Bits l) : ∀ k, Bits (pits k l)
  | 0 => h
  | k + 1 => fun x hx => by
    rw [pits] at hx
    obtain ⟨i, hi, rfl⟩ := List.mem_map.mp hx
    have hi := List.mem_range.mp hi
    unfold pst bx
    split
    · rw [List.getD_eq_getElem?_getD, List.getElem?_eq_getElem hi]
      exact pits_bits h k _ (List.getElem_mem hi)
    · omega
theorem pits_T {n : Nat} {l : List Int} (hl : l.length = 2 ^ n) : ∀ k, k ≤ n → ∀ x, x < 2 ^ n → (pits k l).getD x 0 = T (fun u _ => u) bx k (fun y => l.getD y 0) x
  | 0, _, x, _ => rfl
  | k + 1, hk, x, hx => by
    have hlen : (pits k l).length = 2 ^ n := by rw [pits_len, hl]
    have e : (pits (k + 1) l).getD x 0 = pst (2 ^ k) (pits k l) x := by
      rw [pits, List.getD_eq_getElem?_getD, List.getElem?_map, List.getElem?_range (by rw [hlen]; exact hx)]
      rfl
    rw [e]
    show _ = if x / 2 ^ k % 2 = 0 then _ else _
    unfold pst
    have hp := Nat.two_pow_pos k
    by_cases h : x / 2 ^ k % 2 = 0
    · rw [if_pos h, if_pos h, pits_T hl k (by omega) x hx]
    · rw [if_neg h, if_neg h, pits_T hl k (by omega) x hx, pits_T hl k (by omega) _ (by omega)]
theorem pits_U {n : Nat} {l : List Int} (hl : l.length = 2 ^ n) (hb : Bits l) {a : Nat} (h : a < 2 ^ n) : (pits n l).getD a 0 = U n (fun y => l.getD y 0) a % 2 := by
  have h1 := pits_T hl n (Nat.le_refl _) a h
  rw [T_R0 _ _ _ h] at h1
  have h2 := R_U n (fun y => l.getD y 0) a h
  rw [← h1] at h2
  have hlen : a < (pits n l).length := by rw [pits_len, hl]; exact h
  have h3 : 0 ≤ (pits n l).getD a 0 ∧ (pits n l).getD a 0 < 2 := by
    rw [List.getD_eq_getElem?_getD, List.getElem?_eq_getElem hlen]
    exact pits_bits hb n _ (List.getElem_mem hlen)
  omega
/-! ## packed tables -/
def pkf : Nat → (Nat → Int) → Nat
  | 0, _ => 0
  | N + 1, g => 2 * pkf N g + (g N).toNat
def Bn (N : Nat) (g : Nat → Int) : Prop := ∀ x, x < N → 0 ≤ g x ∧ g x < 2
theorem pk_bit : ∀ {N : Nat} {g : Nat → Int} (q : Nat), Bn N g → (pkf N g).testBit q = (decide (q < N) && decide (g (N - 1 - q) = 1))
  | 0, g, q, _ => by
    show (0 : Nat).testBit q = _
    rw [Nat.zero_testBit, decide_eq_false (by omega)]; rfl
  | N + 1, g, 0, b => by
    show (2 * pkf N g + (g N).toNat).testBit 0 = _
    have := b N (by omega)
    rw [Nat.testBit_zero, decide_eq_true (show 0 < N + 1 by omega), Bool.true_and]
    exact decide_eq_decide.mpr (by show _ ↔ g N = 1; omega)
  | N + 1, g, q + 1, b => by
    show (2 * pkf N g + (g N).toNat).testBit (q + 1) = _
    have := b N (by omega)
    rw [Nat.testBit_succ, show (2 * pkf N g + (g N).toNat) / 2 = pkf N g by omega, pk_bit q fun x hx => b x (by omega)]
    congr 1
    · exact decide_eq_decide.mpr (by omega)
    · rw [show N + 1 - 1 - (q + 1) = N - 1 - q by omega]
theorem pk_lt : ∀ {N : Nat} {g : Nat → Int}, Bn N g → pkf N g < 2 ^ N
  | 0, _, _ => by show 0 < 1; omega
  | N + 1, g, b => by
    have h1 := pk_lt (N := N) fun x hx => b x (by omega)
    have := b N (by omega)
    show 2 * pkf N g + (g N).toNat < _
    rw [Nat.pow_succ]; omega
theorem pk_congr : ∀ {N : Nat} {g h : Nat → Int}, (∀ x, x < N → g x = h x) → pkf N g = pkf N h
  | 0, _, _, _ => rfl
  | N + 1, g, h, e => by
    show 2 * pkf N g + _ = 2 * pkf N h + _
    rw [pk_congr (N := N) fun x hx => e x (by omega), e N (by omega)]
theorem pk_pc : ∀ {N : Nat} {g : Nat → Int}, Bn N g → ((pc (pkf N g) : Nat) : Int) = S N g
  | 0, _, _ => by show ((pc 0 : Nat) : Int) = 0; rw [pc_zero]; rfl
  | N + 1, g, b => by
    have h1 := pk_pc (N := N) fun x hx => b x (by omega)
    have := b N (by omega)
    show ((pc (2 * pkf N g + (g N).toNat) : Nat) : Int) = _
    rw [pc_step, show (2 * pkf N g + (g N).toNat) / 2 = pkf N g by omega, show (2 * pkf N g + (g N).toNat) % 2 = (g N).toNat by omega, S_succ, ← h1]
    omega
theorem pk_xor {N : Nat} {g h : Nat → Int} (b : Bn N g) (c : Bn N h) : pkf N g ^^^ pkf N h = pkf N fun x => (g x + h x) % 2 := by
  apply Nat.eq_of_testBit_eq
  intro q
  rw [Nat.testBit_xor, pk_bit q b, pk_bit q c, pk_bit q fun x _ => by omega]
  by_cases hq : q < N
  · have h1 := b (N - 1 - q) (by omega)
    have h2 := c (N - 1 - q) (by omega)
    rw [decide_eq_true hq]
    rcases (show g (N - 1 - q) = 0 ∨ g (N - 1 - q) = 1 by omega) with e1 | e1 <;> rcases (show h (N - 1 - q) = 0 ∨ h (N - 1 - q) = 1 by omega) with e2 | e2 <;> rw [e1, e2] <;> decide
  · rw [decide_eq_false hq]; rfl
def mk (N w : Nat) : Nat := pkf N fun p => if p &&& w ≠ 0 then 1 else 0
def tn (N w t : Nat) : Nat := (t &&& mk N w) <<< w ||| t >>> w &&& mk N w
theorem bit_sub {q i : Nat} (h : 2 ^ i ≤ q) : (q - 2 ^ i).testBit i = !q.testBit i := by
  have hp := Nat.two_pow_pos i
  rw [Nat.testBit_eq_decide_div_mod_eq, Nat.testBit_eq_decide_div_mod_eq]
  have : (q - 2 ^ i) / 2 ^ i = q / 2 ^ i - 1 := by
    have := Nat.sub_mul_div q (2 ^ i) 1
    rwa [Nat.mul_one] at this
  have h1 : 1 ≤ q / 2 ^ i := (Nat.le_div_iff_mul_le hp).mpr (by omega)
  rw [this]
  rcases (show q / 2 ^ i % 2 = 0 ∨ q / 2 ^ i % 2 = 1 by omega) with e | e
  · rw [e, show (q / 2 ^ i - 1) % 2 = 1 by omega]; rfl
  · rw [e, show (q / 2 ^ i - 1) % 2 = 0 by omega]; rfl
theorem xor_up : ∀ (i q : Nat), q.testBit i = false → q ^^^ 2 ^ i = q + 2 ^ i
  | 0, q, h => by
    rw [Nat.testBit_zero, decide_eq_false_iff_not] at h
    apply Nat.eq_of_testBit_eq
    intro j
    rw [Nat.testBit_xor, Nat.testBit_two_pow]
    cases j with
    | zero =>
      rw [Nat.testBit_zero, Nat.testBit_zero, decide_eq_true rfl, decide_eq_false h, decide_eq_true (by omega)]; rfl
    | succ j => rw [decide_eq_false (by omega), Bool.xor_false, Nat.testBit_succ, Nat.testBit_succ]; congr 1; omega
  | i + 1, q, h => by
    rw [Nat.testBit_succ] at h
    have h1 := xor_up i (q / 2) h
    have h2 := xor_div2 q i
    have h3 := xor_mod2 q i
    rw [Nat.pow_succ] at h2 h3 ⊢
    omega
theorem and_two {x i : Nat} : (x &&& 2 ^ i ≠ 0) ↔ x.testBit i = true := by
  constructor
  · intro h
    cases e : x.testBit i with
    | true => rfl
    | false =>
      exfalso
      apply h
      apply Nat.eq_of_testBit_eq
      intro j
      rw [Nat.testBit_and, Nat.testBit_two_pow, Nat.zero_testBit]
      by_cases e2 : i = j
      · subst e2; rw [e]; rfl
      · rw [decide_eq_false e2, Bool.and_false]
  · intro h z
    have := Nat.testBit_and x (2 ^ i) i
    rw [z, h, Nat.testBit_two_pow, Nat.zero_testBit] at this
    simp at this
theorem comp_bit {n q i : Nat} (hq : q < 2 ^ n) (hi : i < n) : (2 ^ n - 1 - q).testBit i = !q.testBit i := by
  rw [show 2 ^ n - 1 - q = 2 ^ n - (q + 1) by omega, Nat.testBit_two_pow_sub_succ hq, decide_eq_true hi, Bool.true_and]
theorem comp_xor {n q i : Nat} (hq : q < 2 ^ n) (hi : i < n) : 2 ^ n - 1 - (q ^^^ 2 ^ i) = (2 ^ n - 1 - q) ^^^ 2 ^ i := by
  have h2 := xor_lt2 hq (two_lt hi)
  apply Nat.eq_of_testBit_eq
  intro j
  rw [show 2 ^ n - 1 - (q ^^^ 2 ^ i) = 2 ^ n - ((q ^^^ 2 ^ i) + 1) by omega, show 2 ^ n - 1 - q = 2 ^ n - (q + 1) by omega, Nat.testBit_two_pow_sub_succ h2, xb, xb, Nat.testBit_two_pow_sub_succ hq]
  by_cases hj : j < n
  · rw [decide_eq_true hj]; cases q.testBit j <;> cases decide (i = j) <;> rfl
  · rw [decide_eq_false hj, decide_eq_false (show ¬ i = j by omega)]; rfl
theorem mk_bit {n i q : Nat} (hi : i < n) : (mk (2 ^ n) (2 ^ i)).testBit q = (decide (q < 2 ^ n) && !q.testBit i) := by
  unfold mk
  rw [pk_bit q fun x _ => by split <;> omega]
  by_cases hq : q < 2 ^ n
  · rw [decide_eq_true hq, Bool.true_and, Bool.true_and, ← comp_bit hq hi]
    have := @and_two (2 ^ n - 1 - q) i
    cases e : (2 ^ n - 1 - q).testBit i with
    | true => rw [if_pos (this.mpr e)]; rfl
    | false => rw [if_neg (fun z => by rw [this.mp z] at e; cases e)]; rfl
  · rw [decide_eq_false hq]; rfl
/-- a packed table is moved by one place -/
theorem tn_pk {n i : Nat} {g : Nat → Int} (hi : i < n) (b : Bn (2 ^ n) g) : tn (2 ^ n) (2 ^ i) (pkf (2 ^ n) g) = pkf (2 ^ n) (sh (2 ^ i) g) := by
  have hp := Nat.two_pow_pos i
  have bs : Bn (2 ^ n) (sh (2 ^ i) g) := fun x hx => b _ (xor_lt2 hx (two_lt hi))
  have ht : ∀ q, (pkf (2 ^ n) (sh (2 ^ i) g)).testBit q = (pkf (2 ^ n) g).testBit (q ^^^ 2 ^ i) := fun q => by
    rw [pk_bit q bs, pk_bit _ b]
    by_cases hq : q < 2 ^ n
    · rw [decide_eq_true hq, decide_eq_true (xor_lt2 hq (two_lt hi)), comp_xor hq hi]
    · have h3 : ¬ q ^^^ 2 ^ i < 2 ^ n := fun z => by
        have := xor_lt2 z (two_lt hi)
        rw [xx] at this; exact hq this
      rw [decide_eq_false hq, decide_eq_false h3]; rfl
  have hb : ∀ q, 2 ^ n ≤ q → (pkf (2 ^ n) g).testBit q = false := fun q hq => by
    rw [pk_bit q b, decide_eq_false (by omega)]; rfl
  apply Nat.eq_of_testBit_eq
  intro q
  rw [ht]
  unfold tn
  rw [Nat.testBit_or, Nat.testBit_shiftLeft, Nat.testBit_and, Nat.testBit_and, Nat.testBit_shiftRight, mk_bit hi, mk_bit hi]
  cases e : q.testBit i with
  | true =>
    have h1 : (q ^^^ 2 ^ i) + 2 ^ i = q := by
      have h1 := xor_up i (q ^^^ 2 ^ i) (by rw [xb, e]; simp)
      rw [xx] at h1
      exact h1.symm
    have h2 : q - 2 ^ i = q ^^^ 2 ^ i := by omega
    have h3 : (q ^^^ 2 ^ i).testBit i = false := by rw [xb, e]; simp
    rw [decide_eq_true (show q ≥ 2 ^ i by omega), h2, h3]
    by_cases hq : q ^^^ 2 ^ i < 2 ^ n
    · rw [decide_eq_true hq]; simp
    · rw [hb _ (by omega)]; simp
  | false =>
    have h1 := xor_up i q e
    rw [h1, Nat.add_comm (2 ^ i) q]
    have h2 : (decide (q ≥ 2 ^ i) && ((pkf (2 ^ n) g).testBit (q - 2 ^ i) && (decide (q - 2 ^ i < 2 ^ n) && !(q - 2 ^ i).testBit i))) = false := by
      by_cases hq : 2 ^ i ≤ q
      · rw [bit_sub hq, e]; simp
      · rw [decide_eq_false hq]; rfl
    rw [h2, Bool.false_or]
    by_cases hq : q < 2 ^ n
    · rw [decide_eq_true hq]; simp
    · rw [hb _ (by omega)]; rfl
end M84

/-! # M84e.lean -/
set_option linter.all false
namespace M84
open M79
/-! ## all tables that are moved -/
def allT (N : Nat) : Nat → Nat → List Nat
  | 0, t => [t]
  | k + 1, t => allT N k t ++ (allT N k t).map (tn N (2 ^ k))
theorem allT_len (N : Nat) : ∀ k t, (allT N k t).length = 2 ^ k
  | 0, _ => rfl
  | k + 1, t => by rw [allT, List.length_append, List.length_map, allT_len N k t, Nat.pow_succ]; omega
theorem low_xor {k h : Nat} (hh : h < 2 ^ k) : 2 ^ k + h = h ^^^ 2 ^ k := by
  have := xor_up k h (Nat.testBit_lt_two_pow hh)
  omega
theorem bn_sh {n h : Nat} {g : Nat → Int} (b : Bn (2 ^ n) g) (hh : h < 2 ^ n) : Bn (2 ^ n) (sh h g) := fun x hx => b _ (xor_lt2 hx hh)
theorem allT_pk {n : Nat} {g : Nat → Int} (b : Bn (2 ^ n) g) : ∀ k, k ≤ n → allT (2 ^ n) k (pkf (2 ^ n) g) = (List.range (2 ^ k)).map fun h => pkf (2 ^ n) (sh h g)
  | 0, _ => by
    have : sh 0 g = g := by funext x; show g (x ^^^ 0) = g x; rw [Nat.xor_zero]
    show [_] = [pkf (2 ^ n) (sh 0 g)]
    rw [this]
  | k + 1, hk => by
    have hkn : 2 ^ k < 2 ^ n := two_lt hk
    rw [allT, allT_pk b k (by omega), Nat.pow_succ, Nat.mul_two, List.range_add, List.map_append, List.map_map, List.map_map]
    congr 1
    refine List.map_congr_left fun h hh => ?_
    have hh := List.mem_range.mp hh
    show tn (2 ^ n) (2 ^ k) (pkf (2 ^ n) (sh h g)) = pkf (2 ^ n) (sh (2 ^ k + h) g)
    rw [tn_pk hk (bn_sh b (by omega))]
    congr 1
    funext x
    show g (x ^^^ 2 ^ k ^^^ h) = g (x ^^^ (2 ^ k + h))
    rw [low_xor hh, Nat.xor_assoc, Nat.xor_comm (2 ^ k)]
def Ps (n : Nat) : Nat → Nat → Int
  | 0, t => ((pc t : Nat) : Int)
  | j + 1, t => ((allT (2 ^ n) n t).map fun o => Ps n j (t ^^^ o)).sum
theorem bn_dr {N h : Nat} {g : Nat → Int} : Bn N (dr h g) := fun x _ => ⟨Int.emod_nonneg _ (by decide), Int.emod_lt_of_pos _ (by decide)⟩
theorem pk_dr {n h : Nat} {g : Nat → Int} (b : Bn (2 ^ n) g) (hh : h < 2 ^ n) : pkf (2 ^ n) g ^^^ pkf (2 ^ n) (sh h g) = pkf (2 ^ n) (dr h g) := pk_xor b (bn_sh b hh)
theorem Ps_pk {n : Nat} : ∀ {j : Nat} {g : Nat → Int}, Bn (2 ^ n) g → Ps n j (pkf (2 ^ n) g) = Cu n j g
  | 0, g, b => pk_pc b
  | j + 1, g, b => by
    show ((allT (2 ^ n) n (pkf (2 ^ n) g)).map fun o => Ps n j (pkf (2 ^ n) g ^^^ o)).sum = S (2 ^ n) fun h => Cu n j (dr h g)
    rw [allT_pk b n (Nat.le_refl _), List.map_map]
    unfold S
    congr 1
    refine List.map_congr_left fun h hh => ?_
    show Ps n j (pkf (2 ^ n) g ^^^ pkf (2 ^ n) (sh h g)) = _
    rw [pk_dr b (List.mem_range.mp hh), Ps_pk bn_dr]
/-! ## weights by keys -/
def Wy (ps : List (Nat × Int)) (G : Nat → Int) : Int := (ps.map fun p => p.2 * G p.1).sum
def addP : List (Nat × Int) → Nat → Int → List (Nat × Int)
  | [], k, m => [(k, m)]
  | p :: r, k, m => if p.1 = k then (k, p.2 + m) :: r else p :: addP r k m
theorem Wy_app (a b : List (Nat × Int)) (G : Nat → Int) : Wy (a ++ b) G = Wy a G + Wy b G := by
  unfold Wy; rw [List.map_append, List.sum_append_int]
theorem Wy_one (k : Nat) (m : Int) (G : Nat → Int) : Wy [(k, m)] G = m * G k := by simp [Wy]
theorem Wy_cons (p : Nat × Int) (r : List (Nat × Int)) (G : Nat → Int) : Wy (p :: r) G = p.2 * G p.1 + Wy r G := by simp [Wy]
theorem Wy_add (G : Nat → Int) (k : Nat) (m : Int) : ∀ ps, Wy (addP ps k m) G = Wy ps G + m * G k
  | [] => by rw [addP, Wy_one]; simp [Wy]
  | p :: r => by
    rw [addP]
    by_cases e : p.1 = k
    · rw [if_pos e, Wy_cons, Wy_cons, ← e]
      show (p.2 + m) * G p.1 + _ = _
      rw [Int.add_mul]; omega
    · rw [if_neg e, Wy_cons, Wy_cons, Wy_add G k m r]; omega
theorem addP_len (k : Nat) (m : Int) : ∀ ps, (addP ps k m).length ≤ ps.length + 1
  | [] => by simp [addP]
  | p :: r => by
    rw [addP]
    split
    · simp
    · have := addP_len k m r
      simp; omega
theorem addP_mem {k : Nat} {m : Int} : ∀ {ps : List (Nat × Int)} {q : Nat}, q ∈ (addP ps k m).map (·.1) → q = k ∨ q ∈ ps.map (·.1)
  | [], q, h => by simpa [addP] using h
  | p :: r, q, h => by
    rw [addP] at h
    by_cases e : p.1 = k
    · rw [if_pos e, List.map_cons] at h
      rcases List.mem_cons.mp h with h | h
      · exact .inl h
      · exact .inr (List.mem_cons_of_mem _ h)
    · rw [if_neg e, List.map_cons] at h
      rcases List.mem_cons.mp h with h | h
      · exact .inr (by rw [List.map_cons, h]; exact List.mem_cons_self)
      · rcases addP_mem h with h | h
        · exact .inl h
        · exact .inr (List.mem_cons_of_mem _ h)
theorem addP_nodup {k : Nat} {m : Int} : ∀ {ps : List (Nat × Int)}, (ps.map (·.1)).Nodup → ((addP ps k m).map (·.1)).Nodup
  | [], _ => by simp [addP]
  | p :: r, h => by
    rw [List.map_cons, List.nodup_cons] at h
    rw [addP]
    by_cases e : p.1 = k
    · rw [if_pos e, List.map_cons, List.nodup_cons, ← e]; exact h
    · rw [if_neg e, List.map_cons, List.nodup_cons]
      refine ⟨fun z => ?_, addP_nodup h.2⟩
      rcases addP_mem z with z | z
      · exact e z
      · exact h.1 z
/-! ## ones -/
theorem and_div2 (a b : Nat) : (a &&& b) / 2 = a / 2 &&& b / 2 := by
  apply Nat.eq_of_testBit_eq
  intro j
  rw [Nat.testBit_div_two, Nat.testBit_and, Nat.testBit_and, Nat.testBit_div_two, Nat.testBit_div_two]
theorem and_mod2 (a b : Nat) : (a &&& b) % 2 = (a % 2) * (b % 2) := by
  have h1 := Nat.testBit_and a b 0
  rw [Nat.testBit_zero, Nat.testBit_zero, Nat.testBit_zero] at h1
  rcases (show a % 2 = 0 ∨ a % 2 = 1 by omega) with e1 | e1 <;> rcases (show b % 2 = 0 ∨ b % 2 = 1 by omega) with e2 | e2 <;> rcases (show (a &&& b) % 2 = 0 ∨ (a &&& b) % 2 = 1 by omega) with e3 | e3 <;> rw [e1, e2, e3] at h1 <;> rw [e1, e2, e3] <;> first | rfl | exact absurd h1 (by decide)
theorem pc_drop (a : Nat) : 0 < a → pc (a &&& (a - 1)) + 1 = pc a := by
  induction a using Nat.strongRecOn with
  | ind a ih =>
    intro h
    rw [pc_step (a &&& (a - 1)), pc_step a, and_div2, and_mod2]
    rcases (show a % 2 = 0 ∨ a % 2 = 1 by omega) with e | e
    · rw [e, Nat.zero_mul, show (a - 1) / 2 = a / 2 - 1 by omega]
      have := ih (a / 2) (by omega) (by omega)
      omega
    · rw [e, show (a - 1) % 2 = 0 by omega, show (a - 1) / 2 = a / 2 by omega, Nat.and_self]; omega
theorem and_lt {a : Nat} (h : 0 < a) : a &&& (a - 1) < a := Nat.lt_of_le_of_lt Nat.and_le_right (by omega)
theorem pc_sum : ∀ (j x : Nat), x < 2 ^ j → (S j fun k => ((x / 2 ^ k % 2 : Nat) : Int)) = ((pc x : Nat) : Int)
  | 0, x, h => by
    have : x = 0 := by omega
    subst this; rw [pc_zero]; rfl
  | j + 1, x, h => by
    have h1 := pc_sum j (x / 2) (by rw [Nat.pow_succ] at h; omega)
    have h2 : (S (j + 1) fun k => ((x / 2 ^ k % 2 : Nat) : Int)) = ((x % 2 : Nat) : Int) + S j fun k => ((x / 2 / 2 ^ k % 2 : Nat) : Int) := by
      rw [Nat.add_comm, S_split]
      congr 1
      · simp [S]
      · refine S_congr fun k _ => ?_
        rw [Nat.pow_add, Nat.pow_one, ← Nat.div_div_eq_div_mul]
    rw [h2, h1, pc_step x]; omega
theorem pc_eq_zero {x : Nat} (h : pc x = 0) : x = 0 := by
  apply Classical.byContradiction
  intro hx
  have : ∃ i, x.testBit i = true := by
    apply Classical.byContradiction
    intro hn
    exact hx (Nat.eq_of_testBit_eq fun i => by
      rw [Nat.zero_testBit]
      cases e : x.testBit i with
      | false => rfl
      | true => exact absurd ⟨i, e⟩ hn)
  obtain ⟨i, hi⟩ := this
  have := pc_bit i x hi
  omega
theorem pc_hi {n x : Nat} (h : x < 2 ^ n) : pc (2 ^ n + x) = pc x + 1 := by
  have := pc_bit n (2 ^ n + x) (hi_bit h)
  rw [low_xor h, xx] at this
  rw [low_xor h]; exact this
theorem pc_le : ∀ (n x : Nat), x < 2 ^ n → pc x ≤ n
  | 0, x, h => by
    have : x = 0 := by omega
    subst this; rw [pc_zero]; exact Nat.le_refl _
  | n + 1, x, h => by
    rw [Nat.pow_succ] at h
    have := pc_le n (x / 2) (by omega)
    rw [pc_step]; omega
theorem ones_sum (G : Nat → Int) : ∀ n : Nat, (S (2 ^ n) fun h => if pc h = 1 then G h else 0) = S n fun i => G (2 ^ (n - 1 - i))
  | 0 => by simp [S, pc_zero]
  | n + 1 => by
    rw [S_half, ones_sum G n]
    have h1 : (S (2 ^ n) fun x => if pc (2 ^ n + x) = 1 then G (2 ^ n + x) else 0) = G (2 ^ n) := by
      rw [S_congr (h := fun x => if x = 0 then G (2 ^ n + x) else 0) fun x hx => ?_, S_delta (g := fun x => G (2 ^ n + x)) (Nat.two_pow_pos n)]
      · rfl
      · rw [pc_hi hx]
        by_cases e : x = 0
        · subst e; rw [if_pos rfl, if_pos (by rw [pc_zero])]
        · rw [if_neg e, if_neg (fun z => e (pc_eq_zero (by omega)))]
    rw [h1, Nat.add_comm n 1, S_split]
    have h2 : (S 1 fun i => G (2 ^ (1 + n - 1 - i))) = G (2 ^ n) := by
      simp [S]
    rw [h2]
    have h3 : (S n fun x => G (2 ^ (1 + n - 1 - (1 + x)))) = S n fun i => G (2 ^ (n - 1 - i)) := S_congr fun x _ => by
      rw [show 1 + n - 1 - (1 + x) = n - 1 - x by omega]
    rw [h3]; omega
/-! ## degrees -/
def IsDeg (n : Nat) (g : Nat → Int) (m : Int) : Prop := (∀ a, a < 2 ^ n → U n g a % 2 = 1 → ((pc a : Nat) : Int) ≤ m) ∧ (m = -1 ∨ ∃ a, a < 2 ^ n ∧ U n g a % 2 = 1 ∧ ((pc a : Nat) : Int) = m) ∧ -1 ≤ m
theorem isDeg_uni {n : Nat} {g : Nat → Int} {m k : Int} (h : IsDeg n g m) (h' : IsDeg n g k) : m = k := by
  obtain ⟨a1, a2, a3⟩ := h
  obtain ⟨b1, b2, b3⟩ := h'
  have : m ≤ k := by
    rcases a2 with rfl | ⟨a, h1, h2, rfl⟩
    · exact b3
    · exact b1 a h1 h2
  have : k ≤ m := by
    rcases b2 with rfl | ⟨a, h1, h2, rfl⟩
    · exact a3
    · exact a1 a h1 h2
  omega
theorem deg_zero {n d : Nat} {g : Nat → Int} {m : Int} (b : Bn (2 ^ n) g) (h : IsDeg n g m) : Cu n (d + 1) g = 0 ↔ m ≤ d := by
  rw [cu_zero b, van_iff]
  obtain ⟨h1, h2, h3⟩ := h
  constructor
  · intro mo
    rcases h2 with rfl | ⟨a, ha, hu, rfl⟩
    · omega
    · apply Int.not_lt.mp
      intro hlt
      have := mo a ha (by omega)
      omega
  · intro hm a ha hk
    have := h1 a ha
    rcases (show U n g a % 2 = 0 ∨ U n g a % 2 = 1 by omega) with e | e
    · exact e
    · have := this e
      omega
theorem cu_congr {n : Nat} : ∀ {k : Nat} {g h : Nat → Int}, (∀ x, x < 2 ^ n → g x = h x) → Cu n k g = Cu n k h
  | 0, _, _, e => S_congr e
  | k + 1, g, h, e => S_congr fun x hx => cu_congr fun y hy => by unfold dr; rw [e y hy, e _ (xor_lt2 hy hx)]
end M84

/-! # VA84.lean -/
set_option Elab.async false
set_option linter.all false
set_option maxRecDepth 100000
set_option maxHeartbeats 1000000
namespace L2.DL.Q
open PySem PySem.Spec PyProof.Rows M79 M84
local macro_rules | `(tactic| walk_at "wk") => `(tactic| (repeat' first | exact True.intro | exact rfl | apply And.intro))
theorem cmul_r {i j : Int} (h1 : -(2 ^ 64) < j) (h2 : j < 2 ^ 64) : CMul i j := .inr ⟨h1, h2⟩
theorem cmul_l {i j : Int} (h1 : -(2 ^ 64) < i) (h2 : i < 2 ^ 64) : CMul i j := .inl ⟨h1, h2⟩
/-- loops over what a number gives -/
theorem ForP.rangeF {f : Nat → D} {n : Nat} {g : WG} {W : WS} {E : DEnds} {ρ : DEnv} (I : Nat → DEnv → Prop) (h0 : NxI I 0 ρ) (hs : ∀ i ρ', i < n → I i ρ' → g (f i) ρ' fun ρ2 => W { E with nx := NxI I (i + 1), ct := NxI I (i + 1), bk := E.nx } ρ2) (he : ∀ ρ', I n ρ' → E.nx ρ') : ForP ((List.range n).map f) g W E ρ := by
  refine ForP.map I h0 (fun i ρ' hi h => ?_) fun ρ' h => ?_
  · rw [List.getElem_range]; exact hs i ρ' (by simpa using hi) h
  · rw [List.length_range] at h; exact he ρ' h
theorem enum_rng (xs : List Int) : enumD (xs.map D.int) = (List.range xs.length).map fun i : Nat => .tup [.int i, .int (xs.getD i 0)] := by
  rw [enum_map]
  apply List.ext_getElem
  · simp
  · intro i h1 h2
    simp at h1
    simp [List.getD_eq_getElem?_getD, h1]
theorem map_succ {α : Type} (f : Nat → α) (i : Nat) : (List.range (i + 1)).map f = (List.range i).map f ++ [f i] := by rw [List.range_succ, List.map_append]; rfl
abbrev rowD (l : List Int) : D := .tup (l.map .int)
abbrev rowL (l : List Int) : D := .lst (l.map .int)
theorem shl1 {n : Nat} : (1 : Int) * 2 ^ ((n : Int)).toNat = ((2 ^ n : Nat) : Int) := by
  rw [Int.one_mul, Int.toNat_natCast, Int.natCast_pow]; rfl
theorem pow7 {a : Nat} (h : a ≤ 7) : 2 ^ a ≤ 128 := by
  have := Nat.pow_le_pow_right (n := 2) (by omega) h
  omega
/-! ## ones, packed tables -/
def R_size_of : RF := fun ds Q => ∃ t : Nat, ds = [.int t] ∧ Q (.fz (.int ((pc t : Nat) : Int)))
def w_size_of : WS :=
    (wSeq (wSetF 1 (wK (.int 0)))
    (wSeq (wSetF 2 (wVar 0))
    (wSeq (wWhile (wTest (wBin wGt (wVar 2) (wK (.int 0))))
    (wSeq (wAug 2 wBand (wBin wSub (wVar 2) (wK (.int 1))))
    (wAug 1 wAdd (wK (.int 1)))))
    (wRet (wVar 1)))))
abbrev N_size_of : List Str := ["bits", "found", "left"]
theorem v_size_of (ds Q) (h : R_size_of ds Q) : w_size_of (endF Q) (argD N_size_of ds) := by
  obtain ⟨t, rfl, h⟩ := h
  refine WhileP.byI (fun m ρ => ∃ k : Nat, ρ = [some (.fz (.int t)), some (.fz (.int k)), some (.fz (.int m))] ∧ k + pc m = pc t) t ⟨_, by walk_at "wk", 0, rfl, by omega⟩ ?_
  rintro ρ' m ⟨k, rfl, e⟩
  refine ift_d (fun hm => ?_) fun hm => ?_
  · have hm0 : 0 < m := by
      have : (0 : Int) < m := hm
      omega
    have ea : Builtin.bitAnd (m : Int) ((m : Int) - 1) = ((m &&& (m - 1) : Nat) : Int) := by
      rw [show (m : Int) - 1 = ((m - 1 : Nat) : Int) by omega, andN]
    refine ⟨m &&& (m - 1), _, and_lt hm0, ?_, k + 1, rfl, ?_⟩
    · rw [← ea]
      walk_at "wk"
    · have := pc_drop m hm0
      omega
  · have : m = 0 := by
      have : ¬ (0 : Int) < m := hm
      omega
    subst this
    rw [pc_zero, Nat.add_zero] at e
    rw [← e] at h
    exact ⟨trivial, h⟩
abbrev att (l : List Int) : Nat → Int := fun y => l.getD y 0
theorem bn_att {l : List Int} (h : Bits l) (N : Nat) : Bn N (att l) := fun x _ => by
  show 0 ≤ l.getD x 0 ∧ l.getD x 0 < 2
  rw [List.getD_eq_getElem?_getD]
  by_cases hx : x < l.length
  · rw [List.getElem?_eq_getElem hx]; exact h _ (List.getElem_mem hx)
  · rw [List.getElem?_eq_none (by omega)]; decide
def R_packed : RF := fun ds Q => ∃ l : List Int, (ds = [rowD l] ∨ ds = [rowL l]) ∧ Bits l ∧ Q (.fz (.int (pkf l.length (att l) : Nat)))
def w_packed : WS :=
    (wSeq (wSetF 1 (wK (.int 0)))
    (wSeq (wFor (wItE (wVar 0)) (wgName 2)
    (wSetF 1 (wBin wAdd (wBin wMul (wK (.int 2)) (wVar 1)) (wVar 2))))
    (wRet (wVar 1))))
abbrev N_packed : List Str := ["f", "found", "bit"]
theorem v_packed (ds Q) (h : R_packed ds Q) : w_packed (endF Q) (argD N_packed ds) := by
  obtain ⟨l, hd, hb, h⟩ := h
  have main : ∀ d : D, (d = rowD l ∨ d = rowL l) → ForP (l.map D.int) (wgName 2) (wSetF 1 (wBin wAdd (wBin wMul (wK (.int 2)) (wVar 1)) (wVar 2))) { (endF Q) with nx := fun ρ => wRet (wVar 1) (endF Q) ρ } [some (.fz d), some (.fz (.int 0)), none] := by
    intro d _
    refine ForP.byI (fun i ρ => ρ = [some (.fz d), some (.fz (.int ((pkf i (att l) : Nat) : Int))), none]) ⟨_, by walk_at "wk", rfl⟩ ?_ ?_
    · rintro i ρ' hi rfl
      have hi' : i < l.length := by simpa using hi
      rw [List.getElem_map]
      refine ⟨cmul_l (by decide) (by decide), _, ?_, rfl⟩
      have e1 := bn_att hb (i + 1) i (by omega)
      have e2 : l[i] = att l i := by show _ = l.getD i 0; rw [getD_at hi']
      have e3 : 2 * ((pkf i (att l) : Nat) : Int) + l[i] = ((pkf (i + 1) (att l) : Nat) : Int) := by
        show _ = ((2 * pkf i (att l) + (att l i).toNat : Nat) : Int)
        rw [e2]; omega
      rw [← e3]
      walk_at "wk"
    · rintro ρ' rfl
      rw [List.length_map]
      exact ⟨trivial, h⟩
  rcases hd with rfl | rfl
  · exact main _ (.inl rfl)
  · exact main _ (.inr rfl)
theorem pkf_map {N : Nat} {f : Nat → Int} : pkf N (att ((List.range N).map f)) = pkf N f := pk_congr fun x hx => by
  show ((List.range N).map f).getD x 0 = _
  rw [List.getD_eq_getElem?_getD, List.getElem?_map, List.getElem?_range hx]; rfl
theorem bits_map {N : Nat} {f : Nat → Int} (h : Bn N f) : Bits ((List.range N).map f) := fun x hx => by
  obtain ⟨i, hi, rfl⟩ := List.mem_map.mp hx
  exact h i (List.mem_range.mp hi)
def R_digit_mask : RF := fun ds Q => ∃ n w : Nat, ds = [.int n, .int w] ∧ n ≤ 7 ∧ Q (.fz (.int (mk (2 ^ n) w : Nat)))
def w_digit_mask : WS :=
    (wRet (wCall R_packed (wCons (wLc (wRng1 (wCons (wBin wShl (wK (.int 1)) (wVar 0)) wNil)) (wgName 2) wYes (wIf (wTestI (wBin wBand (wVar 2) (wVar 1))) (wK (.int 1)) (wK (.int 0))) [2]) wNil)))
abbrev N_digit_mask : List Str := ["n", "weight", "place"]
theorem nz {a : Nat} : (!decide ((a : Int) = 0)) = decide (a ≠ 0) := by
  by_cases h : a = 0
  · subst h; rfl
  · rw [decide_eq_false (by omega), decide_eq_true h]; rfl
theorem v_digit_mask (ds Q) (h : R_digit_mask ds Q) : w_digit_mask (endF Q) (argD N_digit_mask ds) := by
  obtain ⟨n, w, rfl, hn, h⟩ := h
  have hp := pow7 hn
  have hp0 := Nat.two_pow_pos n
  have hz := line
  refine ⟨⟨by omega, by omega, by decide⟩, ?_⟩
  rw [shl1]
  refine ⟨by omega, by omega, ?_⟩
  rw [rng0, Int.toNat_natCast]
  refine LcP.mapL (ρw := [some (.fz (.int n)), some (.fz (.int w)), none]) (fun p => .int (if p &&& w ≠ 0 then 1 else 0)) (by rw [List.length_range]; omega) (by walk_at "wk") (fun p hp T hT => ?_) ?_
  · show ift (!decide (Builtin.bitAnd (p : Int) (w : Int) = 0)) _ _
    rw [andN, nz]
    refine ift_d (fun e => ?_) fun e => ?_
    · have := hT [some (.fz (.int n)), some (.fz (.int w)), some (.fz (.int p))] (by walk_at "wk")
      rw [if_pos e] at this; exact this
    · have := hT [some (.fz (.int n)), some (.fz (.int w)), some (.fz (.int p))] (by walk_at "wk")
      rw [if_neg e] at this; exact this
  · rw [map_int]
    refine ⟨_, .inr rfl, bits_map fun x _ => by split <;> omega, ?_⟩
    rw [List.length_map, List.length_range, pkf_map]
    exact ⟨trivial, h⟩
/-! ## the turns -/
def wgs (n : Nat) : D := rowL ((List.range n).map fun i => ((2 ^ i : Nat) : Int))
def mks (n : Nat) : D := rowL ((List.range n).map fun i => ((mk (2 ^ n) (2 ^ i) : Nat) : Int))
def turnsFs (n : Nat) : List (Str × D) := [("weights", wgs n), ("masks", mks n)]
def turnsD (n : Nat) : D := .ins "Turns" ["weights", "masks"] [wgs n, mks n]
theorem turns_d (n : Nat) : (Mc.ins "Turns" (turnsFs n)).d = turnsD n := rfl
def R_Turns_init : RB := fun c ds Q => ∃ n : Nat, ds = [.int n] ∧ n ≤ 7 ∧ c = .ins "Turns" [] ∧ Q (.fz .non) (.ins "Turns" (turnsFs n))
def w_Turns_init : WS :=
    (wSeq (wFldS 0 "Turns" "weights" (wLc (wRng1 (wCons (wVar 1) wNil)) (wgName 2) wYes (wBin wShl (wK (.int 1)) (wVar 2)) [2]))
    (wFldS 0 "Turns" "masks" (wLc (wItL (wFldM 0 "Turns" "weights")) (wgName 3) wYes (wCall R_digit_mask (wCons (wVar 1) (wCons (wVar 3) wNil))) [3])))
abbrev N_Turns_init : List Str := ["self", "n", "i", "weight"]
theorem put2 (a b : D) : putFD "masks" b [("weights", a)] = ([("weights", a), ("masks", b)] : List (Str × D)) := by
  unfold putFD
  rw [if_neg (by decide +kernel)]
  rfl
theorem v_Turns_init (c ds Q) (h : R_Turns_init c ds Q) : w_Turns_init (endB Q) (argB N_Turns_init c ds) := by
  obtain ⟨n, rfl, hn, rfl, h⟩ := h
  have hz := line
  refine ⟨by omega, by omega, ?_⟩
  rw [rng0, Int.toNat_natCast]
  refine LcP.mapL (ρw := [some (.mu false (.ins "Turns" [])), some (.fz (.int n)), none, none]) (fun i => .int ((2 ^ i : Nat) : Int)) (by rw [List.length_range]; omega) (by walk_at "wk") (fun i hi T hT => ?_) ?_
  · have hi := List.mem_range.mp hi
    refine ⟨⟨by omega, by omega, by decide⟩, ?_⟩
    rw [shl1]
    exact hT _ (by walk_at "wk")
  · rw [map_int]
    refine ⟨rfl, by show 0 < 1000; omega, ?_⟩
    refine ⟨rfl, wgs n, rfl, ?_⟩
    show LcP (((List.range n).map fun i => ((2 ^ i : Nat) : Int)).map D.int) _ _ _ _ [some (.mu false (.ins "Turns" [("weights", wgs n)])), some (.fz (.int n)), none, none] _
    rw [show ((List.range n).map fun i => ((2 ^ i : Nat) : Int)).map D.int = (List.range n).map (fun i => D.int ((2 ^ i : Nat) : Int)) from (map_int _ _).symm]
    refine LcP.mapL (ρw := [some (.mu false (.ins "Turns" [("weights", wgs n)])), some (.fz (.int n)), none, none]) (fun i => .int ((mk (2 ^ n) (2 ^ i) : Nat) : Int)) (by rw [List.length_range]; omega) (by walk_at "wk") (fun i hi T hT => ?_) ?_
    · exact ⟨n, 2 ^ i, rfl, hn, hT _ (by walk_at "wk")⟩
    · rw [map_int]
      refine ⟨rfl, by show 1 < 1000; omega, _, rfl, ?_⟩
      show Q _ (.ins "Turns" (putFD "masks" _ [("weights", wgs n)]))
      rw [put2]
      exact h
end L2.DL.Q

/-! # VB84.lean -/
set_option Elab.async false
set_option linter.all false
set_option maxRecDepth 100000
set_option maxHeartbeats 1000000
namespace L2.DL.Q
open PySem PySem.Spec PyProof.Rows M79 M84
local macro_rules | `(tactic| walk_at "wk") => `(tactic| (repeat' first | exact True.intro | exact rfl | apply And.intro))
def R_Turns_turned : RF := fun ds Q => ∃ n i t : Nat, ds = [turnsD n, .int i, .int t] ∧ i < n ∧ n ≤ 7 ∧ t < 2 ^ 128 ∧ Q (.fz (.int (tn (2 ^ n) (2 ^ i) t : Nat)))
def w_Turns_turned : WS :=
    (wSeq (wSetF 3 (wBin wIx (wFld "Turns" "masks" (wVar 0)) (wVar 1)))
    (wSeq (wSetF 4 (wBin wIx (wFld "Turns" "weights" (wVar 0)) (wVar 1)))
    (wRet (wBin wBor2 (wBin wShlW (wBin wBand (wVar 2) (wVar 3)) (wVar 4)) (wBin wBand (wBin wShr (wVar 2) (wVar 4)) (wVar 3))))))
abbrev N_Turns_turned : List Str := ["self", "at", "table", "mask", "weight"]
theorem fld_m (n : Nat) : List.lookup ("masks" : Str) ((["weights", "masks"] : List Str).zip [wgs n, mks n]) = some (mks n) := by
  rw [List.zip_cons_cons, List.zip_cons_cons, List.lookup_cons, List.lookup_cons, show (("masks" : Str) == "weights") = false by decide +kernel, show (("masks" : Str) == "masks") = true by decide +kernel]
theorem fld_w (n : Nat) : List.lookup ("weights" : Str) ((["weights", "masks"] : List Str).zip [wgs n, mks n]) = some (wgs n) := by
  rw [List.zip_cons_cons, List.lookup_cons, show (("weights" : Str) == "weights") = true by decide +kernel]
theorem at_range {N i : Nat} {f : Nat → Int} (h : i < N) : atI (((List.range N).map f).map D.int) (i : Int) = some (.int (f i)) := by
  rw [atG (by omega) (by rw [List.length_map, List.length_range]; omega), Int.toNat_natCast, List.getD_eq_getElem?_getD, List.getElem?_map, List.getElem?_range h]; rfl
theorem v_Turns_turned (ds Q) (h : R_Turns_turned ds Q) : w_Turns_turned (endF Q) (argD N_Turns_turned ds) := by
  obtain ⟨n, i, t, rfl, hi, hn, ht, h⟩ := h
  have hw := pow7 (show i ≤ 7 by omega)
  refine ⟨rfl, mks n, fld_m n, _, at_range hi, rfl, wgs n, fld_w n, _, at_range hi, ?_⟩
  have e1 : Builtin.bitAnd (t : Int) ((mk (2 ^ n) (2 ^ i) : Nat) : Int) = ((t &&& mk (2 ^ n) (2 ^ i) : Nat) : Int) := andN _ _
  have hlt : t &&& mk (2 ^ n) (2 ^ i) < 2 ^ 128 := Nat.lt_of_le_of_lt Nat.and_le_left ht
  have e2 : ((t &&& mk (2 ^ n) (2 ^ i) : Nat) : Int) * (2 : Int) ^ (((2 ^ i : Nat) : Int)).toNat = (((t &&& mk (2 ^ n) (2 ^ i)) <<< 2 ^ i : Nat) : Int) := by
    rw [Int.toNat_natCast, Nat.shiftLeft_eq, Int.natCast_mul, Int.natCast_pow]; first | done | rfl
  have e3 : (t : Int) / (2 : Int) ^ (((2 ^ i : Nat) : Int)).toNat = ((t >>> 2 ^ i : Nat) : Int) := by
    rw [Int.toNat_natCast, Nat.shiftRight_eq_div_pow, Int.natCast_ediv, Int.natCast_pow]; first | done | rfl
  show CShl (Builtin.bitAnd (t : Int) ((mk (2 ^ n) (2 ^ i) : Nat) : Int)) ((2 ^ i : Nat) : Int) ∧ (0 : Int) ≤ ((2 ^ i : Nat) : Int) ∧ _ ∧ Q (.fz (.int (Builtin.bitOr (Builtin.bitAnd (t : Int) ((mk (2 ^ n) (2 ^ i) : Nat) : Int) * 2 ^ (((2 ^ i : Nat) : Int)).toNat) (Builtin.bitAnd ((t : Int) / 2 ^ (((2 ^ i : Nat) : Int)).toNat) ((mk (2 ^ n) (2 ^ i) : Nat) : Int)))))
  rw [e1, e2, e3, andN, orN]
  refine ⟨shl_ok (n := 128) (by rw [Int.natAbs_natCast]; exact hlt) (by omega), Int.natCast_nonneg _, trivial, h⟩
def natL (l : List Nat) : D := .lst (l.map fun o : Nat => D.int o)
def R_Turns_all_turned : RF := fun ds Q => ∃ (n : Nat) (g : Nat → Int), ds = [turnsD n, .int (pkf (2 ^ n) g : Nat)] ∧ n ≤ 7 ∧ Bn (2 ^ n) g ∧ Q (.fz (natL (allT (2 ^ n) n (pkf (2 ^ n) g))))
def w_Turns_all_turned : WS :=
    (wSeq (wSetF 2 (wLst (wCons (wVar 1) wNil)))
    (wSeq (wFor (wRng1 (wCons (wCB wLen (wCons (wFld "Turns" "weights" (wVar 0)) wNil)) wNil)) (wgName 3)
    (wSetF 2 (wBin wCatL (wVar 2) (wLc (wItL (wVar 2)) (wgName 4) wYes (wMeth "Turns" "turned" R_Turns_turned (wVar 0) (wCons (wVar 3) (wCons (wVar 4) wNil))) [4]))))
    (wRet (wVar 2))))
abbrev N_Turns_all_turned : List Str := ["self", "table", "found", "at", "one"]
theorem pk128 {n : Nat} {g : Nat → Int} (hn : n ≤ 7) (b : Bn (2 ^ n) g) : pkf (2 ^ n) g < 2 ^ 128 := by
  have h1 := pk_lt b
  have h2 := Nat.pow_le_pow_right (n := 2) (by omega) (pow7 hn)
  omega
theorem v_Turns_all_turned (ds Q) (h : R_Turns_all_turned ds Q) : w_Turns_all_turned (endF Q) (argD N_Turns_all_turned ds) := by
  obtain ⟨n, g, rfl, hn, b, h⟩ := h
  have hz := line
  generalize hT : pkf (2 ^ n) g = t at h ⊢
  refine ⟨by show (1 : Nat) ≤ sizeLine; omega, rfl, wgs n, fld_w n, ?_⟩
  have el : ((((List.range n).map fun i => ((2 ^ i : Nat) : Int)).map D.int).length : Int) = (n : Int) := by simp
  refine ⟨by rw [el]; omega, by rw [el]; omega, ?_⟩
  rw [rng0, el, Int.toNat_natCast]
  refine ForP.rangeF (fun k ρ => ρ = [some (.fz (turnsD n)), some (.fz (.int t)), some (.fz (natL (allT (2 ^ n) k t))), none, none]) ⟨_, by walk_at "wk", rfl⟩ ?_ ?_
  · rintro k ρ' hk rfl
    have hlen := allT_len (2 ^ n) k t
    have hp := pow7 (show k ≤ 7 by omega)
    show LcP ((allT (2 ^ n) k t).map fun o : Nat => D.int o) _ _ _ _ _ _
    refine LcP.mapL (ρw := [some (.fz (turnsD n)), some (.fz (.int t)), some (.fz (natL (allT (2 ^ n) k t))), some (.fz (.int k)), none]) (fun o => .int (tn (2 ^ n) (2 ^ k) o : Nat)) (by omega) (by walk_at "wk") (fun o ho T hTT => ?_) ?_
    · have hlt : o < 2 ^ 128 := by
        rw [← hT, allT_pk b k (by omega)] at ho
        obtain ⟨x, hx, rfl⟩ := List.mem_map.mp ho
        have hx := List.mem_range.mp hx
        exact pk128 hn (bn_sh b (by have := Nat.pow_lt_pow_right (a := 2) (by omega) hk; omega))
      exact ⟨rfl, by decide +kernel, n, k, o, rfl, hk, hn, hlt, hTT _ (by walk_at "wk")⟩
    · refine ⟨?_, _, ?_, rfl⟩
      · show ((allT (2 ^ n) k t).map _).length + ((allT (2 ^ n) k t).map _).length ≤ _
        rw [List.length_map, List.length_map]; omega
      · have e : natL (allT (2 ^ n) (k + 1) t) = .lst (((allT (2 ^ n) k t).map fun o : Nat => D.int o) ++ (allT (2 ^ n) k t).map fun o => D.int (tn (2 ^ n) (2 ^ k) o : Nat)) := by
          unfold natL
          rw [allT, List.map_append, List.map_map]; rfl
        rw [e]
        walk_at "wk"
  · rintro ρ' rfl
    exact ⟨trivial, h⟩
/-! ## dicts of tables -/
def encP (p : Nat × Int) : Key × D := (.inl (p.1 : Int), .int p.2)
def dictM (ps : List (Nat × Int)) : Mc := .dk (ps.map encP)
def dictZ (ps : List (Nat × Int)) : D := .dkz (ps.map fun p => .inl (p.1 : Int)) (ps.map fun p => .int p.2)
theorem dictM_z (ps : List (Nat × Int)) : (dictM ps).z = some (dictZ ps) := by
  show some (D.dkz ((ps.map encP).map (·.1)) ((ps.map encP).map (·.2))) = _
  rw [List.map_map, List.map_map]; rfl
structure Dic (n : Nat) (ps : List (Nat × Int)) : Prop where
  nd : (ps.map (·.1)).Nodup
  ks : ∀ k, k ∈ ps.map (·.1) → ∃ g, Bn (2 ^ n) g ∧ k = pkf (2 ^ n) g
theorem enc_any (k : Nat) : ∀ ps : List (Nat × Int), ((ps.map encP).any fun kv => decide (kv.1 = .inl (k : Int))) = decide (k ∈ ps.map (·.1))
  | [] => by simp
  | p :: r => by
    rw [List.map_cons, List.any_cons, enc_any k r, List.map_cons]
    have : (decide ((encP p).1 = .inl (k : Int))) = decide (p.1 = k) := decide_eq_decide.mpr ⟨fun z => by have := Sum.inl.inj z; omega, fun z => by rw [← z]; rfl⟩
    rw [this]
    by_cases e : p.1 = k
    · subst e; simp
    · rw [decide_eq_false e, Bool.false_or]
      exact decide_eq_decide.mpr ⟨fun z => List.mem_cons_of_mem _ z, fun z => by
        rcases List.mem_cons.mp z with z | z
        · exact absurd z.symm e
        · exact z⟩
theorem put_none {k : Nat} {d : D} : ∀ {ps : List (Nat × Int)}, k ∉ ps.map (·.1) → (ps.map encP).map (fun kv => if kv.1 = .inl (k : Int) then (kv.1, d) else kv) = ps.map encP
  | [], _ => rfl
  | p :: r, h => by
    rw [List.map_cons, List.mem_cons, not_or] at h
    rw [List.map_cons, List.map_cons, put_none h.2, if_neg]
    intro z
    have := Sum.inl.inj z
    exact h.1 (by omega)
/-- a weight is added -/
theorem put_add (k : Nat) (m : Int) : ∀ ps : List (Nat × Int), (ps.map (·.1)).Nodup → ∃ v : Int, (valD (ps.map encP) (.inl (k : Int))).getD (.int 0) = .int v ∧ putD (ps.map encP) (.inl (k : Int)) (.int (v + m)) = (addP ps k m).map encP
  | [], _ => ⟨0, rfl, by simp [putD, addP, encP]⟩
  | p :: r, h => by
    rw [List.map_cons, List.nodup_cons] at h
    by_cases e : p.1 = k
    · refine ⟨p.2, ?_, ?_⟩
      · unfold valD
        rw [List.map_cons, List.find?_cons_of_pos (by rw [← e]; exact decide_eq_true rfl)]; rfl
      · unfold putD
        rw [enc_any, decide_eq_true (by rw [← e]; exact List.mem_cons_self), if_pos rfl, List.map_cons, List.map_cons, put_none (by rw [← e]; exact h.1), addP, if_pos e, List.map_cons, if_pos (by rw [← e]; rfl)]
        rw [← e]; rfl
    · obtain ⟨v, h1, h2⟩ := put_add k m r h.2
      have ne : ¬ (encP p).1 = .inl (k : Int) := fun z => e (by have := Sum.inl.inj z; omega)
      refine ⟨v, ?_, ?_⟩
      · unfold valD at h1 ⊢
        rw [List.map_cons, List.find?_cons_of_neg (by simpa using ne)]; exact h1
      · rw [addP, if_neg e]
        show putD (encP p :: r.map encP) _ _ = encP p :: (addP r k m).map encP
        rw [← h2]
        unfold putD
        rw [show encP p :: r.map encP = (p :: r).map encP from rfl, enc_any, enc_any, List.map_cons]
        by_cases hk : k ∈ r.map (·.1)
        · rw [decide_eq_true (List.mem_cons_of_mem _ hk), decide_eq_true hk, if_pos rfl, if_pos rfl, List.map_cons, List.map_cons, if_neg ne]
        · rw [decide_eq_false (fun z => (List.mem_cons.mp z).elim (fun z => e z.symm) hk), decide_eq_false hk]
          simp
end L2.DL.Q

/-! # VC84.lean -/
set_option Elab.async false
set_option linter.all false
set_option maxRecDepth 100000
set_option maxHeartbeats 1000000
namespace L2.DL.Q
open PySem PySem.Spec PyProof.Rows M79 M84
local macro_rules | `(tactic| walk_at "wk") => `(tactic| (repeat' first | exact True.intro | exact rfl | apply And.intro))
def stG (n : Nat) (G : Nat → Int) (t : Nat) : Int := ((allT (2 ^ n) n t).map fun o => G (t ^^^ o)).sum
def R_stepped : RF := fun ds Q => ∃ (n : Nat) (ps : List (Nat × Int)), ds = [turnsD n, dictZ ps] ∧ n ≤ 7 ∧ Dic n ps ∧ ps.length * 2 ^ n < sizeLine ∧
  ∀ ps', Dic n ps' → ps'.length ≤ ps.length * 2 ^ n → (∀ G, Wy ps' G = Wy ps (stG n G)) → Q (.mu true (dictM ps'))
def w_stepped : WS :=
    (wSeq (wSet 2 wDictNew)
    (wSeq (wFor (wItemsZ (wVar 1)) (wgTup 2 (wgCons (wgName 3) (wgCons (wgName 4) wgNil)))
    (wFor (wItL (wMeth "Turns" "all_turned" R_Turns_all_turned (wVar 0) (wCons (wVar 3) wNil))) (wgName 5)
    (wSeq (wSetF 6 (wBin wBxor (wVar 3) (wVar 5)))
    (wDPut 2 (wVar 6) (wBin wAdd (wDGet2 2 (wVar 6) (wK (.int 0))) (wVar 4))))))
    (wRet (wMov 2))))
abbrev N_stepped : List Str := ["turns", "ways", "found", "table", "many", "other", "made"]
theorem dic_add {n : Nat} {ps : List (Nat × Int)} {k : Nat} {m : Int} (d : Dic n ps) (hk : ∃ g, Bn (2 ^ n) g ∧ k = pkf (2 ^ n) g) : Dic n (addP ps k m) := ⟨addP_nodup d.nd, fun q hq => by
  rcases addP_mem hq with rfl | h
  · exact hk
  · exact d.ks q h⟩
theorem dic_nil {n : Nat} : Dic n [] := ⟨by simp, fun _ h => by cases h⟩
theorem items_of (ps : List (Nat × Int)) : (((ps.map fun p => (Sum.inl (p.1 : Int) : Key)).zip (ps.map fun p => D.int p.2)).map fun kv => D.tup [keyD kv.1, kv.2]) = ps.map fun p => .tup [.int (p.1 : Int), .int p.2] := by
  rw [List.zip_map', List.map_map]; rfl
theorem v_stepped (ds Q) (h : R_stepped ds Q) : w_stepped (endF Q) (argD N_stepped ds) := by
  obtain ⟨n, ps, rfl, hn, dc, hz, h⟩ := h
  have hp := pow7 hn
  show ForP (((ps.map fun p => (Sum.inl (p.1 : Int) : Key)).zip (ps.map fun p => D.int p.2)).map fun kv => D.tup [keyD kv.1, kv.2]) _ _ _ _
  rw [items_of]
  refine ForP.inv (fun pre s => Dic n s ∧ s.length ≤ pre.length * 2 ^ n ∧ ∀ G, Wy s G = Wy pre (stG n G)) (fun s => [some (.fz (turnsD n)), some (.fz (dictZ ps)), some (.mu true (dictM s)), none, none, none, none]) [] (by walk_at "wk") ⟨dic_nil, by simp, fun G => rfl⟩ (fun pre p post s e hj N hN => ?_) fun s hs => ?_
  · obtain ⟨jd, jl, jw⟩ := hj
    obtain ⟨g, bg, eg⟩ := dc.ks p.1 (List.mem_map.mpr ⟨p, mem_post e, rfl⟩)
    have hlt := pre_lt e
    have hsz : (pre.length + 1) * 2 ^ n ≤ ps.length * 2 ^ n := Nat.mul_le_mul_right _ hlt
    rw [Nat.add_mul, Nat.one_mul] at hsz
    refine ⟨rfl, rfl, by decide +kernel, n, g, by rw [eg]; rfl, hn, bg, ?_⟩
    have hall := allT_pk bg n (Nat.le_refl _)
    rw [← eg] at hall ⊢
    have hlen := allT_len (2 ^ n) n p.1
    show ForP ((allT (2 ^ n) n p.1).map fun o : Nat => D.int o) _ _ _ _
    refine ForP.inv (fun pre2 s2 => Dic n s2 ∧ s2.length ≤ pre.length * 2 ^ n + pre2.length ∧ ∀ G, Wy s2 G = Wy pre (stG n G) + p.2 * (pre2.map fun o => G (p.1 ^^^ o)).sum) (fun s => [some (.fz (turnsD n)), some (.fz (dictZ ps)), some (.mu true (dictM s)), some (.fz (.int (p.1 : Int))), some (.fz (.int p.2)), none, none]) s (by walk_at "wk") ⟨jd, by simpa using jl, fun G => by rw [jw G]; simp⟩ (fun pre2 o post2 s2 e2 hj2 N2 hN2 => ?_) fun s2 hs2 => ?_
    · obtain ⟨kd, kl, kw⟩ := hj2
      have ho := mem_post e2
      rw [hall] at ho
      obtain ⟨x, hx, hxo⟩ := List.mem_map.mp ho
      have hx := List.mem_range.mp hx
      have hk : ∃ g, Bn (2 ^ n) g ∧ p.1 ^^^ o = pkf (2 ^ n) g := ⟨dr x g, bn_dr, by rw [eg, ← hxo, pk_dr bg hx]⟩
      have hlt2 := pre_lt e2
      rw [hlen] at hlt2
      have ex : Builtin.bitXor (p.1 : Int) (o : Int) = ((p.1 ^^^ o : Nat) : Int) := xorN _ _
      obtain ⟨v, v1, v2⟩ := put_add (p.1 ^^^ o) p.2 s2 kd.nd
      refine ⟨⟨true, _, rfl⟩, .inl (Builtin.bitXor (p.1 : Int) (o : Int)), rfl, ?_⟩
      rw [ex]
      show DV.thn (.fz ((valD (s2.map encP) (.inl ((p.1 ^^^ o : Nat) : Int))).getD (.int 0))) _
      rw [v1]
      refine ⟨trivial, .inl ((p.1 ^^^ o : Nat) : Int), rfl, by rw [List.length_map]; omega, ?_⟩
      refine hN2 (addP s2 (p.1 ^^^ o) p.2) _ ⟨dic_add kd hk, ?_, fun G => ?_⟩ ?_
      · have := addP_len (p.1 ^^^ o) p.2 s2
        rw [List.length_append, List.length_singleton]; omega
      · rw [Wy_add, kw G, List.map_append, List.sum_append_int, Int.mul_add]
        simp; omega
      · rw [v2]
        walk_at "wk"
    · obtain ⟨kd, kl, kw⟩ := hs2
      refine hN s2 _ ⟨kd, ?_, fun G => ?_⟩ (by walk_at "wk")
      · rw [List.length_append, List.length_singleton, Nat.add_mul, Nat.one_mul]
        rw [hlen] at kl
        exact kl
      · rw [kw G, Wy_app, show [p] = [(p.1, p.2)] from rfl, Wy_one]; rfl
  · exact ⟨rfl, h s hs.1 hs.2.1 hs.2.2⟩
/-! ## what is checked -/
def btwN {d : D} {lo hi : Int} (h : isBtw d lo hi = true) : ∃ i, d = .int i ∧ lo ≤ i ∧ i ≤ hi := by
  cases d <;> first | cases h | skip
  rename_i i
  unfold isBtw at h
  rw [Bool.and_eq_true, decide_eq_true_eq, decide_eq_true_eq] at h
  exact ⟨i, rfl, h.1, h.2⟩
def BadN (nd : D) (E : Str → List (Str × D) → Prop) : Prop := PX nd ∧ isBtw nd 1 7 = false ∧ E "InvalidNumber" [("value", nd)]
def BadD (dd : D) (E : Str → List (Str × D) → Prop) : Prop := PX dd ∧ isBtw dd 0 3 = false ∧ E "InvalidNumber" [("value", dd)]
def R_check_sizes : RX := fun ds Q E => match ds with
  | [nd, dd] => BadN nd E ∨ ∃ n : Nat, nd = .int n ∧ 1 ≤ n ∧ n ≤ 7 ∧ (BadD dd E ∨ ∃ d : Nat, dd = .int d ∧ d ≤ 3 ∧ Q (.fz .non))
  | _ => False
def w_check_sizes : WS :=
    (wSeq (wIfS (wNot (wTest (wCall R_is_between (wCons (wVar 0) (wCons (wK (.int 1)) (wCons (wK (.int (7))) wNil))))))
    (wRaise "InvalidNumber" ["value"] (wCons (wVar 0) wNil))
    wNext)
    (wIfS (wNot (wTest (wCall R_is_between (wCons (wVar 1) (wCons (wK (.int 0)) (wCons (wK (.int (3))) wNil))))))
    (wRaise "InvalidNumber" ["value"] (wCons (wVar 1) wNil))
    wNext))
abbrev N_check_sizes : List Str := ["n", "d"]
theorem v_check_sizes (ds Q E') (h : R_check_sizes ds Q E') : w_check_sizes (endX Q E') (argD N_check_sizes ds) := by
  unfold R_check_sizes at h
  split at h
  · rename_i nd dd
    rcases h with ⟨p, b, h⟩ | ⟨n, rfl, n1, n7, h⟩
    · refine ⟨p, ift_t (by rw [b]; rfl) ⟨rfl, h⟩⟩
    · have bn : isBtw (.int n) 1 7 = true := by
        show (decide ((1 : Int) ≤ (n : Int)) && decide ((n : Int) ≤ 7)) = true
        rw [decide_eq_true (by omega), decide_eq_true (by omega)]; rfl
      refine ⟨rfl, ift_f (by rw [bn]; rfl) ?_⟩
      rcases h with ⟨p, b, h⟩ | ⟨d, rfl, d3, h⟩
      · exact ⟨p, ift_t (by rw [b]; rfl) ⟨rfl, h⟩⟩
      · have bd : isBtw (.int d) 0 3 = true := by
          show (decide ((0 : Int) ≤ (d : Int)) && decide ((d : Int) ≤ 3)) = true
          rw [decide_eq_true (by omega), decide_eq_true (by omega)]; rfl
        exact ⟨rfl, ift_f (by rw [bd]; rfl) h⟩
  · exact h.elim
def PE2 (fd : D) : Prop := PX fd ∧ ∀ ds, fd = .tup ds → ∀ d, d ∈ ds → PX d
def R_check_table : RX := fun ds Q E => match ds with
  | [.int z, fd] => ∃ n : Nat, z = n ∧ n ≤ 7 ∧ PE2 fd ∧ ((rowBelow fd (2 ^ n : Nat) 2 = true ∧ Q (.fz .non)) ∨ (rowBelow fd (2 ^ n : Nat) 2 = false ∧ E "InvalidMap" [("value", fd)]))
  | _ => False
def w_check_table : WS :=
    (wIfS (wNot (wTest (wCall R_row_below (wCons (wVar 1) (wCons (wBin wShl (wK (.int 1)) (wVar 0)) (wCons (wK (.int 2)) wNil))))))
    (wRaise "InvalidMap" ["value"] (wCons (wVar 1) wNil))
    wNext)
abbrev N_check_table : List Str := ["n", "f"]
theorem v_check_table (ds Q E') (h : R_check_table ds Q E') : w_check_table (endX Q E') (argD N_check_table ds) := by
  unfold R_check_table at h
  split at h
  · rename_i z fd
    obtain ⟨n, rfl, hn, ⟨p1, p2⟩, h⟩ := h
    refine ⟨⟨by omega, by omega, by decide⟩, p1, p2, ?_⟩
    rw [shl1]
    rcases h with ⟨b, h⟩ | ⟨b, h⟩
    · exact ift_f (by rw [b]; rfl) h
    · exact ift_t (by rw [b]; rfl) ⟨rfl, h⟩
  · exact h.elim
theorem pe2_row {l : List Int} : PE2 (rowD l) := ⟨rfl, px_ints⟩
theorem tab_below {n f} (t : Tab n f) : rowBelow (rowD f) (2 ^ n : Nat) 2 = true := rowBelow_ints (by rw [t.len]) t.b
/-! ## broken cubes -/
def BadT (n : Nat) (fd : D) (E : Str → List (Str × D) → Prop) : Prop := PE2 fd ∧ rowBelow fd (2 ^ n : Nat) 2 = false ∧ E "InvalidMap" [("value", fd)]
def R_broken_cubes : RX := fun ds Q E => match ds with
  | [nd, dd, fd] => BadN nd E ∨ ∃ n : Nat, nd = .int n ∧ 1 ≤ n ∧ n ≤ 7 ∧ (BadD dd E ∨ ∃ d : Nat, dd = .int d ∧ d ≤ 3 ∧ ((15 < n * (d + 2) ∧ E "TooMany" [("what", .str (PySem.Str.ofString "cubes"))]) ∨
      (n * (d + 2) ≤ 15 ∧ (BadT n fd E ∨ ∃ f, fd = rowD f ∧ Tab n f ∧ Q (.fz (.int (Cu n (d + 1) (att f))))))))
  | _ => False
def w_broken_cubes : WS :=
    (wSeq (wExpr (wCallX R_check_sizes (wCons (wVar 0) (wCons (wVar 1) wNil))))
    (wSeq (wIfS (wTest (wBin wGt (wBin wMul (wVar 0) (wBin wAdd (wVar 1) (wK (.int 2)))) (wK (.int (15)))))
    (wRaise "TooMany" ["what"] (wCons (wK (.str (PySem.Str.ofString "cubes"))) wNil))
    wNext)
    (wSeq (wExpr (wCallX R_check_table (wCons (wVar 0) (wCons (wVar 2) wNil))))
    (wSeq (wSetF 3 (wMake "Turns" R_Turns_init (wCons (wVar 0) wNil)))
    (wSeq (wSetF 4 (wDz (wDict1 (wCall R_packed (wCons (wVar 2) wNil)) (wK (.int 1)))))
    (wSeq (wFor (wRng1 (wCons (wBin wAdd (wVar 1) (wK (.int 1))) wNil)) (wgName 5)
    (wSetF 4 (wDz (wCall R_stepped (wCons (wVar 3) (wCons (wVar 4) wNil))))))
    (wRet (wCB wSum (wCons (wLc (wItemsZ (wVar 4)) (wgTup 2 (wgCons (wgName 6) (wgCons (wgName 7) wgNil))) wYes (wBin wMul (wVar 7) (wCall R_size_of (wCons (wVar 6) wNil))) [6, 7]) wNil)))))))))
abbrev N_broken_cubes : List Str := ["n", "d", "f", "turns", "ways", "_", "table", "many"]
theorem dictZ_e (ps : List (Nat × Int)) : dictZ ps = .dkz ((ps.map encP).map (·.1)) ((ps.map encP).map (·.2)) := by
  rw [List.map_map, List.map_map]; rfl
theorem Wy_one' (t : Nat) (G : Nat → Int) : Wy [(t, 1)] G = G t := by rw [Wy_one, Int.one_mul]
theorem v_broken_cubes (ds Q E') (h : R_broken_cubes ds Q E') : w_broken_cubes (endX Q E') (argD N_broken_cubes ds) := by
  unfold R_broken_cubes at h
  split at h
  · rename_i nd dd fd
    rcases h with h | ⟨n, rfl, n1, n7, h⟩
    · exact .inl h
    refine .inr ⟨n, rfl, n1, n7, ?_⟩
    rcases h with h | ⟨d, rfl, d3, h⟩
    · exact .inl h
    refine .inr ⟨d, rfl, d3, ?_⟩
    have en : (n : Int) * ((d : Int) + 2) = ((n * (d + 2) : Nat) : Int) := by rw [Int.natCast_mul, Int.natCast_add]; rfl
    refine ⟨cmul_l (by omega) (by omega), ?_⟩
    rw [en]
    rcases h with ⟨hm, h⟩ | ⟨hm, h⟩
    · exact ift_d (fun _ => ⟨rfl, h⟩) fun z => absurd (show (15 : Int) < ((n * (d + 2) : Nat) : Int) by omega) z
    refine ift_d (fun z => absurd z (by show ¬ (15 : Int) < ((n * (d + 2) : Nat) : Int); omega)) fun _ => ?_
    rcases h with ⟨p, b, h⟩ | ⟨f, rfl, t, h⟩
    · exact ⟨n, rfl, n7, p, .inr ⟨b, h⟩⟩
    refine ⟨n, rfl, n7, pe2_row, .inl ⟨tab_below t, ?_⟩⟩
    refine ⟨n, rfl, n7, rfl, rfl, ?_⟩
    refine ⟨f, .inl rfl, t.b, .inl ((pkf f.length (att f) : Nat) : Int), rfl, ?_⟩
    have hbn : Bn (2 ^ n) (att f) := bn_att t.b _
    have hz := line
    rw [t.len]
    have ez : (Mc.dk [((Sum.inl ((pkf (2 ^ n) (att f) : Nat) : Int) : Key), D.int 1)]).z = some (dictZ [(pkf (2 ^ n) (att f), 1)]) := rfl
    show (match (Mc.dk [((Sum.inl ((pkf (2 ^ n) (att f) : Nat) : Int) : Key), D.int 1)]).z with | some d => _ | none => False)
    rw [ez]
    refine ⟨by omega, by omega, ?_⟩
    rw [rng0, show ((d : Int) + 1).toNat = d + 1 by omega]
    have h15 : 2 ^ (n * (d + 1)) * 2 ^ n ≤ 2 ^ 15 := by
      rw [← Nat.pow_add]
      exact Nat.pow_le_pow_right (by omega) (by rw [Nat.mul_add] at hm ⊢; omega)
    refine ForP.rangeF (fun k ρ => ∃ ps, ρ = [some (.fz (.int n)), some (.fz (.int d)), some (.fz (rowD f)), some (.fz (turnsD n)), some (.fz (dictZ ps)), none, none, none] ∧ Dic n ps ∧ ps.length ≤ 2 ^ (n * k) ∧ Wy ps (Ps n (d + 1 - k)) = Cu n (d + 1) (att f)) (show NxI _ 0 _ from ⟨[some (.fz (.int n)), some (.fz (.int d)), some (.fz (rowD f)), some (.fz (turnsD n)), some (.fz (dictZ [(pkf (2 ^ n) (att f), 1)])), none, none, none], by walk_at "wk", [(pkf (2 ^ n) (att f), 1)], rfl, ⟨by simp, fun k hk => ⟨att f, hbn, by simpa using hk⟩⟩, by simp, by rw [Wy_one']; exact Ps_pk hbn⟩) ?_ ?_
    · rintro k ρ' hk ⟨ps, rfl, dc, hl, hw⟩
      have hle : 2 ^ (n * k) * 2 ^ n ≤ 2 ^ (n * (d + 1)) * 2 ^ n := Nat.mul_le_mul_right _ (Nat.pow_le_pow_right (by omega) (Nat.mul_le_mul_left _ (by omega)))
      have hlm : ps.length * 2 ^ n ≤ 2 ^ (n * k) * 2 ^ n := Nat.mul_le_mul_right _ hl
      refine ⟨n, ps, rfl, n7, dc, by omega, fun ps' dc' hl' hw' => ?_⟩
      refine ⟨[some (.fz (.int n)), some (.fz (.int d)), some (.fz (rowD f)), some (.fz (turnsD n)), some (.fz (dictZ ps')), none, none, none], by rw [dictZ_e ps']; walk_at "wk", ps', rfl, dc', ?_, ?_⟩
      · rw [Nat.mul_add, Nat.mul_one, Nat.pow_add]; omega
      · rw [hw', ← hw, show d + 1 - k = (d + 1 - (k + 1)) + 1 by omega]; rfl
    · rintro ρ' ⟨ps, rfl, dc, hl, hw⟩
      rw [Nat.sub_self] at hw
      show LcP (((ps.map fun p => (Sum.inl (p.1 : Int) : Key)).zip (ps.map fun p => D.int p.2)).map fun kv => D.tup [keyD kv.1, kv.2]) _ _ _ _ _ _
      rw [items_of]
      refine LcP.mapL (ρw := [some (.fz (.int n)), some (.fz (.int d)), some (.fz (rowD f)), some (.fz (turnsD n)), some (.fz (dictZ ps)), none, none, none]) (fun p => .int (p.2 * ((pc p.1 : Nat) : Int))) ?_ (by walk_at "wk") (fun p hp T hT => ?_) ?_
      · have : 2 ^ (n * (d + 1)) ≤ 2 ^ (n * (d + 1)) * 2 ^ n := Nat.le_mul_of_pos_right _ (Nat.two_pow_pos n)
        omega
      · obtain ⟨g, bg, eg⟩ := dc.ks p.1 (List.mem_map.mpr ⟨p, hp, rfl⟩)
        have hpc : pc p.1 ≤ 128 := by
          have h1 := pk_lt bg
          rw [← eg] at h1
          have := M84.pc_le _ _ h1
          have := pow7 n7
          omega
        exact ⟨rfl, p.1, rfl, cmul_r (by omega) (by omega), hT _ (by walk_at "wk")⟩
      · refine ⟨_, ints_of_map _ _, trivial, ?_⟩
        show Q (.fz (.int (Wy ps (Ps n 0))))
        rw [hw]; exact h
  · exact h.elim
end L2.DL.Q

/-! # VD84.lean -/
set_option Elab.async false
set_option linter.all false
set_option maxRecDepth 100000
set_option maxHeartbeats 1000000
namespace L2.DL.Q
open PySem PySem.Spec PyProof.Rows M79 M84
local macro_rules | `(tactic| walk_at "wk") => `(tactic| (repeat' first | exact True.intro | exact rfl | apply And.intro))
def R_check_bits : RX := fun ds Q _ => ∃ (n : Nat) (f : List Int), ds = [.int n, rowD f] ∧ Tab n f ∧ Q (.fz .non)
def w_check_bits : WS :=
    (wSeq (wIfS (wOr (wNot (wTest (wCall R_is_number (wCons (wVar 0) wNil)))) (wNot (wTest (wChain wLe wLe (wK (.int 1)) (wVar 0) (wK (.int (7)))))))
    (wRaise "InvalidNumber" ["value"] (wCons (wVar 0) wNil))
    wNext)
    (wIfS (wNot (wTest (wCall R_row_below (wCons (wVar 1) (wCons (wBin wShl (wK (.int 1)) (wVar 0)) (wCons (wK (.int 2)) wNil))))))
    (wRaise "InvalidMap" ["value"] (wCons (wVar 1) wNil))
    wNext))
abbrev N_check_bits : List Str := ["n", "f"]
theorem v_check_bits (ds Q E') (h : R_check_bits ds Q E') : w_check_bits (endX Q E') (argD N_check_bits ds) := by
  obtain ⟨n, f, rfl, t, h⟩ := h
  have h1 := t.n1
  have h7 := t.n7
  refine ⟨rfl, ?_⟩
  refine ift_n (fun z => absurd (Int.natCast_nonneg n) z) fun _ => ?_
  refine ift_d (fun _ => ?_) fun z => absurd z (by omega)
  refine ift_n (fun z => absurd z (by omega)) fun _ => ?_
  refine ⟨⟨by omega, by omega, by decide⟩, rfl, px_ints, ?_⟩
  rw [shl1, tab_below t]
  exact h
def R_signs : RX := fun ds Q _ => ∃ (n : Nat) (f : List Int), ds = [.int n, rowD f] ∧ Tab n f ∧ Q (.fz (rowD (sgs n f)))
def w_signs : WS :=
    (wSeq (wExpr (wCallX R_check_bits (wCons (wVar 0) (wCons (wVar 1) wNil))))
    (wSeq (wSetF 2 (wLc (wItT (wVar 1)) (wgName 8) wYes (wBin wSub (wK (.int 1)) (wBin wMul (wK (.int 2)) (wVar 8))) [8]))
    (wSeq (wSetF 3 (wK (.int 1)))
    (wSeq (wFor (wRng1 (wCons (wVar 0) wNil)) (wgName 4)
    (wSeq (wSet 5 (wLst wNil))
    (wSeq (wFor (wEnum (wCons (wVar 2) wNil)) (wgTup 2 (wgCons (wgName 6) (wgCons (wgName 7) wgNil)))
    (wIfS (wTest (wBin wEqI (wBin wMod (wBin wDiv (wVar 6) (wVar 3)) (wK (.int 2))) (wK (.int 0))))
    (wApp 5 (wBin wAdd (wVar 7) (wBin wIx (wVar 2) (wBin wAdd (wVar 6) (wVar 3)))))
    (wApp 5 (wBin wSub (wBin wIx (wVar 2) (wBin wSub (wVar 6) (wVar 3))) (wVar 7)))))
    (wSeq (wSetF 2 (wFrz 5))
    (wSetF 3 (wBin wMul (wK (.int 2)) (wVar 3)))))))
    (wRet (wCB wTupleOf (wCons (wVar 2) wNil)))))))
abbrev N_signs : List Str := ["n", "f", "found", "step", "_", "fresh", "place", "value", "bit"]
theorem sg_ints (f : List Int) : (f.map fun b => D.int (1 - 2 * b)) = (f.map sg).map .int := by rw [List.map_map]; rfl
theorem stf_even {s i : Nat} {l : List Int} (e : i / s % 2 = 0) : stf s l i = l.getD i 0 + l.getD (i + s) 0 := by unfold stf; rw [if_pos e]
theorem stf_odd {s i : Nat} {l : List Int} (e : ¬ i / s % 2 = 0) : stf s l i = l.getD (i - s) 0 - l.getD i 0 := by unfold stf; rw [if_neg e]
theorem par {i s : Nat} : (i : Int) / ((s : Nat) : Int) % 2 = 0 ↔ i / s % 2 = 0 := by
  rw [← Int.natCast_ediv]; omega
theorem pow_s (k : Nat) : (2 : Int) * ((2 ^ k : Nat) : Int) = ((2 ^ (k + 1) : Nat) : Int) := by rw [Nat.pow_succ]; omega
theorem v_signs (ds Q E') (h : R_signs ds Q E') : w_signs (endX Q E') (argD N_signs ds) := by
  obtain ⟨n, f, rfl, t, h⟩ := h
  refine ⟨n, f, rfl, t, ?_⟩
  have hp := t.p
  rw [t.len] at hp
  have h7 := t.n7
  show LcP (f.map D.int) _ _ _ _ _ _
  refine LcP.mapL (ρw := [some (.fz (.int n)), some (.fz (.tup (f.map .int))), none, none, none, none, none, none, none]) (fun b => .int (1 - 2 * b)) (by rw [line, t.len]; omega) (by walk_at "wk") (fun a ha T hT => ⟨cmulL (by decide) (by decide), hT _ (by walk_at "wk")⟩) ?_
  rw [sg_ints]
  refine ⟨by omega, by omega, ?_⟩
  rw [rng0]
  refine ForP.rangeF (fun k ρ => ρ = [some (.fz (.int n)), some (.fz (.tup (f.map .int))), some (.fz (.lst ((its k (f.map sg)).map .int))), some (.fz (.int ((2 ^ k : Nat) : Int))), none, none, none, none, none]) ⟨_, by walk_at "wk", rfl⟩ ?_ ?_
  · rintro k ρ' hk rfl
    have hk : k < n := by simpa using hk
    have hl : (its k (f.map sg)).length = 2 ^ n := by rw [its_len, List.length_map, t.len]
    generalize hg : its k (f.map sg) = l at hl ⊢
    have hpk := Nat.two_pow_pos k
    have hkn := Nat.pow_lt_pow_right (a := 2) (by omega) hk
    refine ⟨by show (0 : Nat) ≤ sizeLine; omega, ?_⟩
    show ForP (enumD (l.map D.int)) _ _ _ _
    rw [enum_rng]
    refine ForP.rangeF (fun i ρ => ρ = [some (.fz (.int n)), some (.fz (.tup (f.map .int))), some (.fz (.lst (l.map .int))), some (.fz (.int ((2 ^ k : Nat) : Int))), none, some (.mu true (.lst (((List.range i).map (stf (2 ^ k) l)).map .int))), none, none, none]) ⟨_, by walk_at "wk", rfl⟩ ?_ ?_
    · rintro i ρ' hi rfl
      refine ⟨rfl, ⟨by omega, by omega⟩, by show (0 : Int) < _; omega, ?_⟩
      have hs : ((List.range i).map (stf (2 ^ k) l)).length < 16777216 := by rw [List.length_map, List.length_range]; omega
      refine ift_d (fun e => ?_) fun e => ?_
      · have e' := par.mp e
        have r := room hk (by omega) e'
        refine ⟨_, atG (by omega) (by omega), by rw [List.length_map, line]; exact hs, ?_⟩
        refine ⟨_, ?_, rfl⟩
        have : ((i : Int) + ((2 ^ k : Nat) : Int)).toNat = i + 2 ^ k := by omega
        rw [map_succ, List.map_append, stf_even e', this]
        walk_at "wk"
      · have e' : ¬ i / 2 ^ k % 2 = 0 := fun z => e (par.mpr z)
        have r := odd_room e'
        refine ⟨_, atG (by omega) (by omega), by rw [List.length_map, line]; exact hs, ?_⟩
        refine ⟨_, ?_, rfl⟩
        have : ((i : Int) - ((2 ^ k : Nat) : Int)).toNat = i - 2 ^ k := by omega
        rw [map_succ, List.map_append, stf_odd e', this]
        walk_at "wk"
    · rintro ρ' rfl
      refine ⟨cmulL (by decide) (by decide), _, ?_, rfl⟩
      rw [its, ← pow_s, hg]
      walk_at "wk"
  · rintro ρ' rfl
    have : ((n : Int)).toNat = n := by omega
    rw [this]
    exact ⟨trivial, h⟩
/-! ## products -/
def R_product_bits : RF := fun ds Q => ∃ (n : Nat) (f : List Int), ds = [.int n, rowD f] ∧ Tab n f ∧ Q (.fz (rowL (pits n f)))
def w_product_bits : WS :=
    (wSeq (wSetF 2 (wCB wListOf (wCons (wVar 1) wNil)))
    (wSeq (wFor (wRng1 (wCons (wVar 0) wNil)) (wgName 3)
    (wSeq (wSetF 4 (wBin wShl (wK (.int 1)) (wVar 3)))
    (wSeq (wSet 5 (wLst wNil))
    (wSeq (wFor (wEnum (wCons (wVar 2) wNil)) (wgTup 2 (wgCons (wgName 6) (wgCons (wgName 7) wgNil)))
    (wIfS (wTestI (wBin wBand (wVar 6) (wVar 4)))
    (wApp 5 (wBin wBxor (wVar 7) (wBin wIx (wVar 2) (wBin wSub (wVar 6) (wVar 4)))))
    (wApp 5 (wVar 7))))
    (wSetF 2 (wFrz 5))))))
    (wRet (wVar 2))))
abbrev N_product_bits : List Str := ["n", "f", "found", "i", "weight", "fresh", "a", "bit"]
theorem bit_par {i k : Nat} : (i &&& 2 ^ k ≠ 0) ↔ ¬ i / 2 ^ k % 2 = 0 := by
  rw [and_two, Nat.testBit_eq_decide_div_mod_eq, decide_eq_true_eq]; omega
theorem xor_bits {a b : Int} (ha : 0 ≤ a ∧ a < 2) (hb : 0 ≤ b ∧ b < 2) : Builtin.bitXor a b = (a + b) % 2 := by
  rcases (show a = 0 ∨ a = 1 by omega) with rfl | rfl <;> rcases (show b = 0 ∨ b = 1 by omega) with rfl | rfl <;> decide +kernel
theorem bits_at {l : List Int} (h : Bits l) (i : Nat) : 0 ≤ l.getD i 0 ∧ l.getD i 0 < 2 := bn_att h (i + 1) i (by omega)
theorem v_product_bits (ds Q) (h : R_product_bits ds Q) : w_product_bits (endF Q) (argD N_product_bits ds) := by
  obtain ⟨n, f, rfl, t, h⟩ := h
  have hp := t.p
  rw [t.len] at hp
  have h7 := t.n7
  have hz := line
  refine ⟨by omega, by omega, ?_⟩
  rw [rng0, Int.toNat_natCast]
  refine ForP.rangeF (fun k ρ => ρ = [some (.fz (.int n)), some (.fz (rowD f)), some (.fz (rowL (pits k f))), none, none, none, none, none]) ⟨_, by walk_at "wk", rfl⟩ ?_ ?_
  · rintro k ρ' hk rfl
    have hl : (pits k f).length = 2 ^ n := by rw [pits_len, t.len]
    have hb := pits_bits t.b k
    generalize hg : pits k f = l at hl hb ⊢
    have hpk := Nat.two_pow_pos k
    have hkn := Nat.pow_lt_pow_right (a := 2) (by omega) hk
    refine ⟨⟨by omega, by omega, by decide⟩, ?_⟩
    rw [shl1]
    refine ⟨by show (0 : Nat) ≤ sizeLine; omega, ?_⟩
    show ForP (enumD (l.map D.int)) _ _ _ _
    rw [enum_rng]
    refine ForP.rangeF (fun i ρ => ρ = [some (.fz (.int n)), some (.fz (rowD f)), some (.fz (rowL l)), none, some (.fz (.int ((2 ^ k : Nat) : Int))), some (.mu true (.lst (((List.range i).map (pst (2 ^ k) l)).map .int))), none, none]) ⟨_, by walk_at "wk", rfl⟩ ?_ ?_
    · rintro i ρ' hi rfl
      have hs : (((List.range i).map (pst (2 ^ k) l)).map D.int).length < sizeLine := by rw [List.length_map, List.length_map, List.length_range]; omega
      refine ⟨rfl, ?_⟩
      show ift (!decide (Builtin.bitAnd (i : Int) ((2 ^ k : Nat) : Int) = 0)) _ _
      rw [andN, nz]
      refine ift_d (fun e => ?_) fun e => ?_
      · have e' := bit_par.mp e
        have r := odd_room e'
        refine ⟨_, atG (by omega) (by omega), hs, ?_⟩
        refine ⟨_, ?_, rfl⟩
        have e1 : ((i : Int) - ((2 ^ k : Nat) : Int)).toNat = i - 2 ^ k := by omega
        have e2 : Builtin.bitXor (l.getD i 0) (l.getD (i - 2 ^ k) 0) = pst (2 ^ k) l i := by
          unfold pst bx
          rw [if_neg e', xor_bits (bits_at hb _) (bits_at hb _), Int.add_comm]
        rw [map_succ, List.map_append, e1, e2]
        walk_at "wk"
      · have e' : i / 2 ^ k % 2 = 0 := Classical.byContradiction fun z => e (bit_par.mpr z)
        refine ⟨hs, _, ?_, rfl⟩
        have e2 : l.getD i 0 = pst (2 ^ k) l i := by unfold pst; rw [if_pos e']
        rw [map_succ, List.map_append, e2]
        walk_at "wk"
    · rintro ρ' rfl
      refine ⟨_, ?_, rfl⟩
      rw [pits, hg]
      walk_at "wk"
  · rintro ρ' rfl
    exact ⟨trivial, h⟩
def prods (n : Nat) (f : List Int) : List Nat := (List.range (2 ^ n)).filter fun a => decide (U n (att f) a % 2 = 1)
def R_products_of : RX := fun ds Q _ => ∃ (n : Nat) (f : List Int), ds = [.int n, rowD f] ∧ Tab n f ∧ Q (.fz (.tup ((prods n f).map fun a : Nat => D.int a)))
def w_products_of : WS :=
    (wSeq (wExpr (wCallX R_check_bits (wCons (wVar 0) (wCons (wVar 1) wNil))))
    (wRet (wCB wTupleOf (wCons (wLc (wEnum (wCons (wCall R_product_bits (wCons (wVar 0) (wCons (wVar 1) wNil))) wNil)) (wgTup 2 (wgCons (wgName 2) (wgCons (wgName 3) wgNil))) (wTest (wBin wEqI (wVar 3) (wK (.int 1)))) (wVar 2) [2, 3]) wNil))))
abbrev N_products_of : List Str := ["n", "f", "a", "bit"]
theorem v_products_of (ds Q E') (h : R_products_of ds Q E') : w_products_of (endX Q E') (argD N_products_of ds) := by
  obtain ⟨n, f, rfl, t, h⟩ := h
  refine ⟨n, f, rfl, t, n, f, rfl, t, ?_⟩
  have hp := t.p
  rw [t.len] at hp
  have hz := line
  have hl : (pits n f).length = 2 ^ n := by rw [pits_len, t.len]
  show LcP (enumD ((pits n f).map D.int)) _ _ _ _ _ _
  rw [enum_rng, hl]
  refine LcP.filtL (ρw := [some (.fz (.int n)), some (.fz (rowD f)), none, none]) (fun a => decide (U n (att f) a % 2 = 1)) (fun a => .int a) (by rw [List.length_range]; omega) (by walk_at "wk") (fun i hi T S h1 h2 => ?_) ?_
  · have hi := List.mem_range.mp hi
    have e := pits_U t.len t.b hi
    refine ⟨rfl, ?_⟩
    show ift (decide ((pits n f).getD i 0 = 1)) _ _
    rw [e]
    refine ift_of (fun e => ?_) fun e => ?_
    · exact h1 e _ (by walk_at "wk")
    · exact h2 e _ (by walk_at "wk")
  · exact ⟨trivial, h⟩
def R_bit_degree : RX := fun ds Q _ => ∃ (n : Nat) (f : List Int), ds = [.int n, rowD f] ∧ Tab n f ∧ ∀ m, IsDeg n (att f) m → Q (.fz (.int m))
def w_bit_degree : WS :=
    (wRet (wMaxDef (wCons (wLc (wItT (wCallX R_products_of (wCons (wVar 0) (wCons (wVar 1) wNil)))) (wgName 2) wYes (wCall R_size_of (wCons (wVar 2) wNil)) [2]) wNil) (wCons (wNeg (wK (.int 1))) wNil)))
abbrev N_bit_degree : List Str := ["n", "f", "a"]
theorem mem_prods {n : Nat} {f : List Int} {a : Nat} : a ∈ prods n f ↔ a < 2 ^ n ∧ U n (att f) a % 2 = 1 := by
  unfold prods
  rw [List.mem_filter, List.mem_range, decide_eq_true_eq]
theorem v_bit_degree (ds Q E') (h : R_bit_degree ds Q E') : w_bit_degree (endX Q E') (argD N_bit_degree ds) := by
  obtain ⟨n, f, rfl, t, h⟩ := h
  refine ⟨n, f, rfl, t, ?_⟩
  have hp := t.p
  rw [t.len] at hp
  have hz := line
  have hpl : (prods n f).length ≤ 2 ^ n := by
    have := List.length_filter_le (fun a => decide (U n (att f) a % 2 = 1)) (List.range (2 ^ n))
    rw [List.length_range] at this
    exact this
  show LcP ((prods n f).map fun a : Nat => D.int a) _ _ _ _ _ _
  refine LcP.mapL (ρw := [some (.fz (.int n)), some (.fz (rowD f)), none]) (fun a => .int ((pc a : Nat) : Int)) (by omega) (by walk_at "wk") (fun a ha T hT => ⟨a, rfl, hT _ (by walk_at "wk")⟩) ?_
  refine ⟨_, ints_of_map _ _, fun e => ⟨trivial, h _ ⟨fun a ha hu => ?_, .inl rfl, by omega⟩⟩, fun m hm hy => ⟨trivial, h _ ⟨fun a ha hu => hy _ (List.mem_map.mpr ⟨a, mem_prods.mpr ⟨ha, hu⟩, rfl⟩), ?_, ?_⟩⟩⟩
  · have := List.map_eq_nil_iff.mp e
    have h2 := mem_prods.mpr ⟨ha, hu⟩
    rw [this] at h2; cases h2
  · obtain ⟨a, ha, rfl⟩ := List.mem_map.mp hm
    obtain ⟨h1, h2⟩ := mem_prods.mp ha
    exact .inr ⟨a, h1, h2, rfl⟩
  · obtain ⟨a, ha, rfl⟩ := List.mem_map.mp hm
    omega
/-! ## sway -/
def R_turn_of : RF := fun ds Q => ∃ n i : Nat, ds = [.int n, .int i] ∧ i < n ∧ n ≤ 7 ∧ Q (.fz (.int ((2 ^ (n - 1 - i) : Nat) : Int)))
def w_turn_of : WS :=
    (wRet (wBin wShl (wK (.int 1)) (wBin wSub (wBin wSub (wVar 0) (wK (.int 1))) (wVar 1))))
abbrev N_turn_of : List Str := ["n", "i"]
theorem v_turn_of (ds Q) (h : R_turn_of ds Q) : w_turn_of (endF Q) (argD N_turn_of ds) := by
  obtain ⟨n, i, rfl, hi, hn, h⟩ := h
  refine ⟨⟨by omega, by omega, by decide⟩, trivial, ?_⟩
  have : (n : Int) - 1 - (i : Int) = ((n - 1 - i : Nat) : Int) := by omega
  show Q (.fz (.int ((1 : Int) * 2 ^ ((n : Int) - 1 - (i : Int)).toNat)))
  rw [this, shl1]; exact h
def R_turned_unlike : RF := fun ds Q => ∃ (n i : Nat) (f : List Int), ds = [.int n, rowD f, .int i] ∧ Tab n f ∧ i < n ∧ Q (.fz (.int (S (2 ^ n) (dr (2 ^ (n - 1 - i)) (att f)))))
def w_turned_unlike : WS :=
    (wSeq (wSetF 3 (wCall R_turn_of (wCons (wVar 0) (wCons (wVar 2) wNil))))
    (wSeq (wSetF 4 (wK (.int 0)))
    (wSeq (wFor (wEnumT (wCons (wVar 1) wNil)) (wgTup 2 (wgCons (wgName 5) (wgCons (wgName 6) wgNil)))
    (wIfS (wTest (wBin (wEq true) (wVar 6) (wBin wIx (wVar 1) (wBin wBxor (wVar 5) (wVar 3)))))
    (wAug 4 wAdd (wK (.int 1)))
    wNext))
    (wRet (wVar 4)))))
abbrev N_turned_unlike : List Str := ["n", "f", "i", "turn", "many", "x", "bit"]
theorem enum_rngT (xs : List Int) : enumD (xs.map D.int) = (List.range xs.length).map fun i : Nat => .tup [.int i, .int (xs.getD i 0)] := enum_rng xs
theorem v_turned_unlike (ds Q) (h : R_turned_unlike ds Q) : w_turned_unlike (endF Q) (argD N_turned_unlike ds) := by
  obtain ⟨n, i, f, rfl, t, hi, h⟩ := h
  have hp := t.p
  rw [t.len] at hp
  have h7 := t.n7
  have hw : 2 ^ (n - 1 - i) < 2 ^ n := Nat.pow_lt_pow_right (by omega) (by omega)
  refine ⟨n, i, rfl, hi, h7, ?_⟩
  generalize 2 ^ (n - 1 - i) = w at hw h ⊢
  show ForP (enumD (f.map D.int)) _ _ _ _
  rw [enum_rng, t.len]
  refine ForP.rangeF (fun k ρ => ρ = [some (.fz (.int n)), some (.fz (rowD f)), some (.fz (.int i)), some (.fz (.int w)), some (.fz (.int (S k (dr w (att f))))), none, none]) ⟨_, by walk_at "wk", rfl⟩ ?_ ?_
  · rintro k ρ' hk rfl
    have hx := xor_lt2 hk hw
    have b1 := bits_at t.b k
    have b2 := bits_at t.b (k ^^^ w)
    refine ⟨rfl, _, (by rw [xorN]; exact atG (by omega) (by rw [t.len]; omega)), _, deq_int _ _, ?_⟩
    rw [Int.toNat_natCast]
    have e0 : dr w (att f) k = (f.getD k 0 + f.getD (k ^^^ w) 0) % 2 := rfl
    refine ift_of (fun e => ?_) fun e => ?_
    · have e : ¬ f.getD k 0 = f.getD (k ^^^ w) 0 := by
        rw [if_pos rfl, Bool.not_eq_true', decide_eq_false_iff_not] at e; exact e
      refine ⟨_, ?_, rfl⟩
      rw [S_succ, e0, show (f.getD k 0 + f.getD (k ^^^ w) 0) % 2 = 1 by omega]
      walk_at "wk"
    · have e : f.getD k 0 = f.getD (k ^^^ w) 0 := by
        rw [if_pos rfl, Bool.not_eq_false', decide_eq_true_eq] at e; exact e
      refine ⟨_, ?_, rfl⟩
      rw [S_succ, e0, show (f.getD k 0 + f.getD (k ^^^ w) 0) % 2 = 0 by omega, Int.add_zero]
      walk_at "wk"
  · rintro ρ' rfl
    exact ⟨trivial, h⟩
def R_sway : RX := fun ds Q _ => ∃ (n : Nat) (f : List Int), ds = [.int n, rowD f] ∧ Tab n f ∧ Q (.fz (rowD ((List.range n).map fun i => S (2 ^ n) (dr (2 ^ (n - 1 - i)) (att f)))))
def w_sway : WS :=
    (wSeq (wExpr (wCallX R_check_bits (wCons (wVar 0) (wCons (wVar 1) wNil))))
    (wRet (wCB wTupleOf (wCons (wLc (wRng1 (wCons (wVar 0) wNil)) (wgName 2) wYes (wCall R_turned_unlike (wCons (wVar 0) (wCons (wVar 1) (wCons (wVar 2) wNil)))) [2]) wNil))))
abbrev N_sway : List Str := ["n", "f", "i"]
theorem v_sway (ds Q E') (h : R_sway ds Q E') : w_sway (endX Q E') (argD N_sway ds) := by
  obtain ⟨n, f, rfl, t, h⟩ := h
  have h7 := t.n7
  have hz := line
  refine ⟨n, f, rfl, t, ?_⟩
  refine ⟨by omega, by omega, ?_⟩
  rw [rng0, Int.toNat_natCast]
  refine LcP.mapL (ρw := [some (.fz (.int n)), some (.fz (rowD f)), none]) (fun i => .int (S (2 ^ n) (dr (2 ^ (n - 1 - i)) (att f)))) (by rw [List.length_range]; omega) (by walk_at "wk") (fun i hi T hT => ⟨n, i, f, rfl, t, List.mem_range.mp hi, hT _ (by walk_at "wk")⟩) ?_
  rw [map_int]
  exact ⟨trivial, h⟩
/-! ## what near_degree refuses -/
def wys : Nat → List Int
  | 0 => [1]
  | k + 1 => [1] ++ ((wys k).zip ((wys k).drop 1)).map (fun p => p.1 + p.2) ++ [1]
theorem wys_len : ∀ k, (wys k).length = k + 1
  | 0 => rfl
  | k + 1 => by
    simp [wys, wys_len k]
def R_ways_of : RF := fun ds Q => ∃ n : Nat, ds = [.int n] ∧ n ≤ 7 ∧ Q (.fz (rowL (wys n)))
def w_ways_of : WS :=
    (wSeq (wSetF 1 (wLst (wCons (wK (.int 1)) wNil)))
    (wSeq (wFor (wRng1 (wCons (wVar 0) wNil)) (wgName 2)
    (wSetF 1 (wBin wCatL (wBin wCatL (wLst (wCons (wK (.int 1)) wNil)) (wLc (wZip (wCons (wVar 1) (wCons (wSlL (wVar 1) (woSome (wK (.int 1))) woNone) wNil))) (wgTup 2 (wgCons (wgName 3) (wgCons (wgName 4) wgNil))) wYes (wBin wAdd (wVar 3) (wVar 4)) [3, 4])) (wLst (wCons (wK (.int 1)) wNil)))))
    (wRet (wVar 1))))
abbrev N_ways_of : List Str := ["many", "found", "_", "one", "other"]
theorem v_ways_of (ds Q) (h : R_ways_of ds Q) : w_ways_of (endF Q) (argD N_ways_of ds) := by
  obtain ⟨n, rfl, hn, h⟩ := h
  have hz := line
  refine ⟨by show (1 : Nat) ≤ sizeLine; omega, by omega, by omega, ?_⟩
  rw [rng0, Int.toNat_natCast]
  refine ForP.rangeF (fun k ρ => ρ = [some (.fz (.int n)), some (.fz (rowL (wys k))), none, none, none]) ⟨_, by walk_at "wk", rfl⟩ ?_ ?_
  · rintro k ρ' hk rfl
    have hl := wys_len k
    refine ⟨by show (1 : Nat) ≤ sizeLine; omega, ?_⟩
    show LcP (zipD ((wys k).map D.int) (cutD ((wys k).map D.int) (some ((1 : Nat) : Int)) none)) _ _ _ _ _ _
    rw [cut_a, ← List.map_drop, zip_map]
    refine LcP.mapL (ρw := [some (.fz (.int n)), some (.fz (rowL (wys k))), some (.fz (.int k)), none, none]) (fun p => .int (p.1 + p.2)) (by rw [List.length_zip]; omega) (by walk_at "wk") (fun p hp T hT => ⟨rfl, hT _ (by walk_at "wk")⟩) ?_
    refine ⟨by show 1 + _ ≤ sizeLine; rw [List.length_map, List.length_zip]; omega, by show (1 : Nat) ≤ sizeLine; omega, ?_, _, ?_, rfl⟩
    · rw [List.length_append, List.length_map, List.length_zip]
      show 1 + _ + 1 ≤ sizeLine
      omega
    · have e : rowL (wys (k + 1)) = .lst ([D.int 1] ++ ((wys k).zip ((wys k).drop 1)).map (fun p => D.int (p.1 + p.2)) ++ [D.int 1]) := by
        show D.lst (List.map D.int ([1] ++ _ ++ [1])) = _
        rw [List.map_append, List.map_append, List.map_map]; rfl
      rw [e]
      walk_at "wk"
  · rintro ρ' rfl
    exact ⟨trivial, h⟩
def R_many_products : RF := fun ds Q => ∃ n d : Nat, ds = [.int n, .int d] ∧ n ≤ 7 ∧ Q (.fz (.int ((wys n).take (d + 1)).sum))
def w_many_products : WS :=
    (wRet (wCB wSum (wCons (wSlL (wCall R_ways_of (wCons (wVar 0) wNil)) woNone (woSome (wBin wAdd (wVar 1) (wK (.int 1))))) wNil)))
abbrev N_many_products : List Str := ["n", "d"]
theorem v_many_products (ds Q) (h : R_many_products ds Q) : w_many_products (endF Q) (argD N_many_products ds) := by
  obtain ⟨n, d, rfl, hn, h⟩ := h
  refine ⟨n, rfl, hn, ?_⟩
  refine ⟨(wys n).take (d + 1), ?_, trivial, h⟩
  show intsD (cutD ((wys n).map D.int) none (some ((d : Int) + 1))) = _
  rw [show (d : Int) + 1 = ((d + 1 : Nat) : Int) by omega, cut_b, ← List.map_take]
  exact ints_map _
def R_near_degree : RX := fun ds Q E => match ds with
  | [nd, dd, fd] => BadN nd E ∨ ∃ n : Nat, nd = .int n ∧ 1 ≤ n ∧ n ≤ 7 ∧ (BadD dd E ∨ ∃ d : Nat, dd = .int d ∧ d ≤ 1 ∧ BadT n fd E)
  | _ => False
def w_near_degree : WS :=
    (wSeq (wExpr (wCallX R_check_sizes (wCons (wVar 0) (wCons (wVar 1) wNil))))
    (wSeq (wIfS (wTest (wBin wGt (wCall R_many_products (wCons (wVar 0) (wCons (wVar 1) wNil))) (wK (.int (12)))))
    (wRaise "TooMany" ["what"] (wCons (wK (.str (PySem.Str.ofString "products"))) wNil))
    wNext)
    (wSeq (wExpr (wCallX R_check_table (wCons (wVar 0) (wCons (wVar 2) wNil))))
    (wSeq (wSetF 3 (wCall R_packed (wCons (wVar 2) wNil)))
    (wSeq (fun _ _ => False)
    (fun _ _ => False))))))
abbrev N_near_degree : List Str := ["n", "d", "f", "own", "least", "first", "one"]
theorem few_products : ∀ n : Nat, n ≤ 7 → ∀ d : Nat, d ≤ 1 → ((wys n).take (d + 1)).sum ≤ 12 := by
  intro n hn d hd
  rcases (show n = 0 ∨ n = 1 ∨ n = 2 ∨ n = 3 ∨ n = 4 ∨ n = 5 ∨ n = 6 ∨ n = 7 by omega) with rfl | rfl | rfl | rfl | rfl | rfl | rfl | rfl <;> rcases (show d = 0 ∨ d = 1 by omega) with rfl | rfl <;> decide +kernel
theorem v_near_degree (ds Q E') (h : R_near_degree ds Q E') : w_near_degree (endX Q E') (argD N_near_degree ds) := by
  unfold R_near_degree at h
  split at h
  · rename_i nd dd fd
    rcases h with h | ⟨n, rfl, n1, n7, h⟩
    · exact .inl h
    refine .inr ⟨n, rfl, n1, n7, ?_⟩
    rcases h with h | ⟨d, rfl, d1, p, b, h⟩
    · exact .inl h
    refine .inr ⟨d, rfl, by omega, ?_⟩
    refine ⟨n, d, rfl, n7, ?_⟩
    have hf := few_products n n7 d d1
    refine ift_d (fun z => absurd z (by show ¬ (12 : Int) < _; omega)) fun _ => ?_
    exact ⟨n, rfl, n7, p, .inr ⟨b, h⟩⟩
  · exact h.elim
end L2.DL.Q

/-! # VL84.lean -/
set_option Elab.async false
set_option linter.all false
set_option maxRecDepth 100000
set_option maxHeartbeats 1000000
namespace L2.DL.Q
open PySem PySem.Spec PyProof.Rows M79 M84
local macro_rules | `(tactic| walk_at "wk") => `(tactic| (repeat' first | exact True.intro | exact rfl | apply And.intro))
/-! ## cells, digits, ones -/
abbrev scrD (ns : List Int) : D := .scr (ns.map .int)
def R__law_cell : RF := fun ds Q => ∃ (ns : List Int) (k : Nat), ds = [scrD ns, .int k] ∧ ns.length ≤ 63 ∧ k ≤ 1000 ∧ ∀ z : Int, Q (.fz (.int z))
def w__law_cell : WS :=
    (wSeq (wIfS (wTest (wBin wLt (wVar 1) (wCB wLen (wCons (wVar 0) wNil))))
    (wRet (wCB wInt1 (wCons (wBin wIx (wVar 0) (wVar 1)) wNil)))
    wNext)
    (wRet (wBin wAdd (wBin wMul (wK (.int 7)) (wVar 1)) (wBin wMul (wK (.int 5)) (wCB wLen (wCons (wVar 0) wNil))))))
abbrev N__law_cell : List Str := ["script", "k"]
theorem v__law_cell (ds Q) (h : R__law_cell ds Q) : w__law_cell (endF Q) (argD N__law_cell ds) := by
  obtain ⟨ns, k, rfl, hn, hk, h⟩ := h
  refine ift_d (fun h1 => ?_) fun h1 => ?_
  · have h1 : (k : Int) < ((ns.map D.int).length : Int) := h1
    rw [List.length_map] at h1
    exact ⟨_, atG (by omega) h1, trivial, h _⟩
  · exact ⟨cmul_l (by decide) (by decide), cmul_l (by decide) (by decide), trivial, h _⟩
def R__law_digits : RF := fun ds Q => ∃ (cell base : Int) (count : Nat), ds = [.int cell, .int count, .int base] ∧ count ≤ 128 ∧ 0 < base ∧ base < 1073741824 ∧ ∀ row : List Int, row.length = count → (∀ x, x ∈ row → 0 ≤ x ∧ x < base) → Q (.mu true (.lst (row.map .int)))
def w__law_digits : WS :=
    (wSeq (wSetF 3 (wCB wAbsI (wCons (wVar 0) wNil)))
    (wSeq (wSetF 4 (wBin wMod (wCB wInt1 (wCons (wVar 3) wNil)) (wK (.int 2147483629))))
    (wSeq (wIfS (wTest (wBin wLt (wVar 3) (wBin wPow (wK (.int 10)) (wK (.int 18)))))
    (wSetF 3 (wK (.int 0)))
    wNext)
    (wSeq (wSet 5 (wLst wNil))
    (wSeq (wFor (wRng1 (wCons (wVar 1) wNil)) (wgName 6)
    (wSeq (wSetF 4 (wBin wMod (wBin wAdd (wBin wAdd (wBin wMul (wVar 4) (wK (.int 48271))) (wK (.int 11))) (wVar 6)) (wK (.int 2147483647))))
    (wIfS (wTest (wBin wGt (wVar 3) (wK (.int 0))))
    (wSeq (wApp 5 (wBin wMod (wCB wInt1 (wCons (wVar 3) wNil)) (wVar 2)))
    (wSetF 3 (wBin wDiv (wVar 3) (wVar 2))))
    (wApp 5 (wBin wMod (wBin wDiv (wBin wMod (wBin wMul (wVar 4) (wK (.int 69621))) (wK (.int 2147483629))) (wK (.int 7))) (wVar 2))))))
    (wRet (wMov 5)))))))
abbrev N__law_digits : List Str := ["cell", "count", "base", "rest", "state", "row", "k"]
def t__law_digits_3 : WS := (wSeq (wSet 5 (wLst wNil))
    (wSeq (wFor (wRng1 (wCons (wVar 1) wNil)) (wgName 6)
    (wSeq (wSetF 4 (wBin wMod (wBin wAdd (wBin wAdd (wBin wMul (wVar 4) (wK (.int 48271))) (wK (.int 11))) (wVar 6)) (wK (.int 2147483647))))
    (wIfS (wTest (wBin wGt (wVar 3) (wK (.int 0))))
    (wSeq (wApp 5 (wBin wMod (wCB wInt1 (wCons (wVar 3) wNil)) (wVar 2)))
    (wSetF 3 (wBin wDiv (wVar 3) (wVar 2))))
    (wApp 5 (wBin wMod (wBin wDiv (wBin wMod (wBin wMul (wVar 4) (wK (.int 69621))) (wK (.int 2147483629))) (wK (.int 7))) (wVar 2))))))
    (wRet (wMov 5))))
theorem digits_tail {cell base rest state : Int} {count : Nat} {Q : DV → Prop} (hc : count ≤ 128) (b0 : 0 < base) (b1 : base < 1073741824) (r0 : 0 ≤ rest) (s0 : 0 ≤ state) (s1 : state < 4294967296)
    (h : ∀ row : List Int, row.length = count → (∀ x, x ∈ row → 0 ≤ x ∧ x < base) → Q (.mu true (.lst (row.map .int)))) : t__law_digits_3 (endF Q) [some (.fz (.int cell)), some (.fz (.int count)), some (.fz (.int base)), some (.fz (.int rest)), some (.fz (.int state)), none, none] := by
  have hz := line
  refine ⟨by show (0 : Nat) ≤ sizeLine; omega, by omega, by omega, ?_⟩
  rw [rng0, Int.toNat_natCast]
  refine ForP.rangeF (fun k ρ => ∃ (rest state : Int) (row : List Int), ρ = [some (.fz (.int cell)), some (.fz (.int count)), some (.fz (.int base)), some (.fz (.int rest)), some (.fz (.int state)), some (.mu true (.lst (row.map .int))), none] ∧ 0 ≤ rest ∧ 0 ≤ state ∧ state < 4294967296 ∧ row.length = k ∧ ∀ x, x ∈ row → 0 ≤ x ∧ x < base) ⟨_, by walk_at "wk", rest, state, [], rfl, r0, s0, s1, rfl, fun _ h => absurd h (by simp)⟩ ?_ ?_
  · rintro k ρ' hk ⟨rest, state, row, rfl, r0, s0, s1, hl, hb⟩
    have nn := fun x => Int.emod_nonneg x (show base ≠ 0 by omega)
    have lt := fun x => Int.emod_lt_of_pos x b0
    refine ⟨cmul_l (by omega) (by omega), by decide, ?_⟩
    generalize hs : (state * 48271 + 11 + (k : Int)) % 2147483647 = st
    have st0 : 0 ≤ st := by rw [← hs]; exact Int.emod_nonneg _ (by decide)
    have st1 : st < 4294967296 := by
      have := Int.emod_lt_of_pos (state * 48271 + 11 + (k : Int)) (show (0 : Int) < 2147483647 by decide)
      omega
    have app : ∀ v : Int, (row.map D.int) ++ [D.int v] = (row ++ [v]).map .int := fun v => by rw [List.map_append]; rfl
    refine ift_d (fun hr => ?_) fun hr => ?_
    · refine ⟨b0, by rw [List.length_map]; omega, ⟨b0, b1⟩, _, ?_, rest / base, st, row ++ [rest % base], rfl, Int.ediv_nonneg r0 (by omega), st0, st1, by simp [hl], fun x hx => ?_⟩
      · rw [← app]
        walk_at "wk"
      · rcases List.mem_append.mp hx with hx | hx
        · exact hb x hx
        · rw [List.mem_singleton.mp hx]; exact ⟨nn _, lt _⟩
    · refine ⟨cmul_l (by omega) (by omega), by decide, ⟨by decide, by decide⟩, b0, by rw [List.length_map]; omega, _, ?_, rest, st, row ++ [st * 69621 % 2147483629 / 7 % base], rfl, r0, st0, st1, by simp [hl], fun x hx => ?_⟩
      · rw [← app]
        walk_at "wk"
      · rcases List.mem_append.mp hx with hx | hx
        · exact hb x hx
        · rw [List.mem_singleton.mp hx]; exact ⟨nn _, lt _⟩
  · rintro ρ' ⟨rest, state, row, rfl, r0, s0, s1, hl, hb⟩
    exact ⟨rfl, h row hl hb⟩
theorem abs0 (x : Int) : 0 ≤ (if x < 0 then -x else x) := by split <;> omega
theorem v__law_digits (ds Q) (h : R__law_digits ds Q) : w__law_digits (endF Q) (argD N__law_digits ds) := by
  obtain ⟨cell, base, count, rfl, hc, b0, b1, h⟩ := h
  refine ⟨by decide, ?_⟩
  generalize hr : (if cell < 0 then -cell else cell) = r
  have r0 : 0 ≤ r := by rw [← hr]; exact abs0 cell
  have s0 : 0 ≤ r % 2147483629 := Int.emod_nonneg _ (by decide)
  have s1 : r % 2147483629 < 4294967296 := by
    have := Int.emod_lt_of_pos r (show (0 : Int) < 2147483629 by decide)
    omega
  refine ⟨⟨by decide, by decide, by decide⟩, ?_⟩
  refine ift_d (fun _ => ?_) fun _ => ?_
  · exact digits_tail hc b0 b1 (Int.le_refl _) s0 s1 h
  · exact digits_tail hc b0 b1 r0 s0 s1 h
def R__law_ones : RF := fun ds Q => ∃ x : Nat, ds = [.int x] ∧ x < 128 ∧ Q (.fz (.int ((pc x : Nat) : Int)))
def w__law_ones : WS :=
    (wRet (wCB wSum (wCons (wLc (wRng1 (wCons (wK (.int 7)) wNil)) (wgName 1) wYes (wBin wBand (wBin wShr (wVar 0) (wVar 1)) (wK (.int 1))) [1]) wNil)))
abbrev N__law_ones : List Str := ["x", "k"]
theorem shr_and (x k : Nat) : Builtin.bitAnd ((x : Int) / 2 ^ ((k : Int)).toNat) 1 = ((x / 2 ^ k % 2 : Nat) : Int) := by
  have e1 : (x : Int) / (2 : Int) ^ ((k : Int)).toNat = ((x / 2 ^ k : Nat) : Int) := by
    rw [Int.toNat_natCast, Int.natCast_ediv, Int.natCast_pow]; first | done | rfl
  have e2 := andN (x / 2 ^ k) 1
  rw [Nat.and_one_is_mod] at e2
  exact (congrArg (fun z => Builtin.bitAnd z 1) e1).trans e2
theorem v__law_ones (ds Q) (h : R__law_ones ds Q) : w__law_ones (endF Q) (argD N__law_ones ds) := by
  obtain ⟨x, rfl, hx, h⟩ := h
  have hz := line
  refine ⟨by decide, by decide, ?_⟩
  rw [rng0]
  refine LcP.mapL (ρw := [some (.fz (.int x)), none]) (fun k => .int ((x / 2 ^ k % 2 : Nat) : Int)) (by rw [List.length_range]; show 7 ≤ _; omega) (by walk_at "wk") (fun k hk T hT => ?_) ?_
  · refine ⟨Int.natCast_nonneg _, ?_⟩
    show T (.int (Builtin.bitAnd ((x : Int) / 2 ^ ((k : Int)).toNat) 1)) _
    rw [shr_and]
    exact hT _ (by walk_at "wk")
  · refine ⟨_, ints_of_map _ _, trivial, ?_⟩
    have := pc_sum 7 x hx
    unfold S at this
    show Q (.fz (.int (((List.range 7).map fun k => ((x / 2 ^ k % 2 : Nat) : Int)).sum)))
    rw [this]; exact h
/-! ## the table of a script -/
def R__law_bits : RF := fun ds Q => ∃ (ns : List Int) (at' n : Nat), ds = [scrD ns, .int at', .int n] ∧ ns.length ≤ 63 ∧ at' ≤ 900 ∧ 1 ≤ n ∧ n ≤ 7 ∧ ∀ f, Tab n f → Q (.mu true (.lst (f.map .int)))
def w__law_bits : WS :=
    (wSeq (wSetF 3 (wCall R__law_cell (wCons (wVar 0) (wCons (wVar 1) wNil))))
    (wSeq (wSetF 4 (wBin wShl (wK (.int 1)) (wVar 2)))
    (wSeq (wSet 5 (wCall R__law_digits (wCons (wCall R__law_cell (wCons (wVar 0) (wCons (wBin wAdd (wVar 1) (wK (.int 1))) wNil))) (wCons (wVar 4) (wCons (wK (.int 2)) wNil)))))
    (wSeq (wSetF 6 (wBin wMod (wCB wInt1 (wCons (wCall R__law_cell (wCons (wVar 0) (wCons (wBin wAdd (wVar 1) (wK (.int 2))) wNil))) wNil)) (wVar 4)))
    (wSeq (wIfS (wTest (wBin wEqI (wBin wMod (wBin wDiv (wCB wInt1 (wCons (wVar 3) wNil)) (wK (.int 6))) (wK (.int 2))) (wK (.int 1))))
    (wSetF 6 (wBin wShl (wK (.int 1)) (wBin wMod (wVar 6) (wVar 2))))
    wNext)
    (wSeq (wIfS (wTest (wBin wEqI (wBin wMod (wCB wInt1 (wCons (wVar 3) wNil)) (wK (.int 6))) (wK (.int 2))))
    (wSet 5 (wLc (wRng1 (wCons (wVar 4) wNil)) (wgName 8) wYes (wIxM 5 (wBin wBand (wVar 8) (wVar 6))) [8]))
    wNext)
    (wSeq (wIfS (wTest (wBin wEqI (wBin wMod (wCB wInt1 (wCons (wVar 3) wNil)) (wK (.int 6))) (wK (.int 3))))
    (wSet 5 (wLc (wRng1 (wCons (wVar 4) wNil)) (wgName 8) wYes (wBin wMod (wCall R__law_ones (wCons (wBin wBand (wVar 8) (wVar 6)) wNil)) (wK (.int 2))) [8]))
    wNext)
    (wSeq (wIfS (wTest (wBin wEqI (wBin wMod (wCB wInt1 (wCons (wVar 3) wNil)) (wK (.int 6))) (wK (.int 4))))
    (wSet 5 (wLc (wRng1 (wCons (wVar 4) wNil)) (wgName 8) wYes (wCB wInt1 (wCons (wBin wEqI (wBin wBand (wVar 8) (wVar 6)) (wVar 6)) wNil)) [8]))
    wNext)
    (wSeq (wIfS (wTest (wBin wEqI (wBin wMod (wCB wInt1 (wCons (wVar 3) wNil)) (wK (.int 6))) (wK (.int 5))))
    (wSet 5 (wLc (wRng1 (wCons (wVar 4) wNil)) (wgName 8) wYes (wCB wInt1 (wCons (wBin wGt (wBin wMul (wK (.int 2)) (wCall R__law_ones (wCons (wBin wBand (wVar 8) (wVar 6)) wNil))) (wCall R__law_ones (wCons (wVar 6) wNil))) wNil)) [8]))
    wNext)
    (wSeq (wIfS (wTest (wBin wEqI (wBin wMod (wBin wDiv (wCB wInt1 (wCons (wVar 3) wNil)) (wK (.int 12))) (wK (.int 2))) (wK (.int 1))))
    (wSet 5 (wLc (wItL (wFrz 5)) (wgName 9) wYes (wBin wSub (wK (.int 1)) (wVar 9)) [9]))
    wNext)
    (wSeq (wSetF 7 (wCB wInt1 (wCons (wCall R__law_cell (wCons (wVar 0) (wCons (wBin wAdd (wVar 1) (wK (.int 3))) wNil))) wNil)))
    (wSeq (wFor (wItL (wCall R__law_digits (wCons (wBin wDiv (wVar 7) (wK (.int 4))) (wCons (wBin wMod (wVar 7) (wK (.int 4))) (wCons (wVar 4) wNil))))) (wgName 8)
    (wSetIx 5 (wVar 8) (wBin wSub (wK (.int 1)) (wIxM 5 (wVar 8)))))
    (wRet (wMov 5))))))))))))))
abbrev N__law_bits : List Str := ["script", "at", "n", "code", "size", "free", "mask", "wrong", "x", "bit"]
def t__law_bits_10 : WS := (wSeq (wSetF 7 (wCB wInt1 (wCons (wCall R__law_cell (wCons (wVar 0) (wCons (wBin wAdd (wVar 1) (wK (.int 3))) wNil))) wNil)))
    (wSeq (wFor (wItL (wCall R__law_digits (wCons (wBin wDiv (wVar 7) (wK (.int 4))) (wCons (wBin wMod (wVar 7) (wK (.int 4))) (wCons (wVar 4) wNil))))) (wgName 8)
    (wSetIx 5 (wVar 8) (wBin wSub (wK (.int 1)) (wIxM 5 (wVar 8)))))
    (wRet (wMov 5))))
def t__law_bits_9 : WS := (wSeq (wIfS (wTest (wBin wEqI (wBin wMod (wBin wDiv (wCB wInt1 (wCons (wVar 3) wNil)) (wK (.int 12))) (wK (.int 2))) (wK (.int 1))))
    (wSet 5 (wLc (wItL (wFrz 5)) (wgName 9) wYes (wBin wSub (wK (.int 1)) (wVar 9)) [9]))
    wNext)
    (wSeq (wSetF 7 (wCB wInt1 (wCons (wCall R__law_cell (wCons (wVar 0) (wCons (wBin wAdd (wVar 1) (wK (.int 3))) wNil))) wNil)))
    (wSeq (wFor (wItL (wCall R__law_digits (wCons (wBin wDiv (wVar 7) (wK (.int 4))) (wCons (wBin wMod (wVar 7) (wK (.int 4))) (wCons (wVar 4) wNil))))) (wgName 8)
    (wSetIx 5 (wVar 8) (wBin wSub (wK (.int 1)) (wIxM 5 (wVar 8)))))
    (wRet (wMov 5)))))
def t__law_bits_8 : WS := (wSeq (wIfS (wTest (wBin wEqI (wBin wMod (wCB wInt1 (wCons (wVar 3) wNil)) (wK (.int 6))) (wK (.int 5))))
    (wSet 5 (wLc (wRng1 (wCons (wVar 4) wNil)) (wgName 8) wYes (wCB wInt1 (wCons (wBin wGt (wBin wMul (wK (.int 2)) (wCall R__law_ones (wCons (wBin wBand (wVar 8) (wVar 6)) wNil))) (wCall R__law_ones (wCons (wVar 6) wNil))) wNil)) [8]))
    wNext)
    (wSeq (wIfS (wTest (wBin wEqI (wBin wMod (wBin wDiv (wCB wInt1 (wCons (wVar 3) wNil)) (wK (.int 12))) (wK (.int 2))) (wK (.int 1))))
    (wSet 5 (wLc (wItL (wFrz 5)) (wgName 9) wYes (wBin wSub (wK (.int 1)) (wVar 9)) [9]))
    wNext)
    (wSeq (wSetF 7 (wCB wInt1 (wCons (wCall R__law_cell (wCons (wVar 0) (wCons (wBin wAdd (wVar 1) (wK (.int 3))) wNil))) wNil)))
    (wSeq (wFor (wItL (wCall R__law_digits (wCons (wBin wDiv (wVar 7) (wK (.int 4))) (wCons (wBin wMod (wVar 7) (wK (.int 4))) (wCons (wVar 4) wNil))))) (wgName 8)
    (wSetIx 5 (wVar 8) (wBin wSub (wK (.int 1)) (wIxM 5 (wVar 8)))))
    (wRet (wMov 5))))))
def t__law_bits_7 : WS := (wSeq (wIfS (wTest (wBin wEqI (wBin wMod (wCB wInt1 (wCons (wVar 3) wNil)) (wK (.int 6))) (wK (.int 4))))
    (wSet 5 (wLc (wRng1 (wCons (wVar 4) wNil)) (wgName 8) wYes (wCB wInt1 (wCons (wBin wEqI (wBin wBand (wVar 8) (wVar 6)) (wVar 6)) wNil)) [8]))
    wNext)
    (wSeq (wIfS (wTest (wBin wEqI (wBin wMod (wCB wInt1 (wCons (wVar 3) wNil)) (wK (.int 6))) (wK (.int 5))))
    (wSet 5 (wLc (wRng1 (wCons (wVar 4) wNil)) (wgName 8) wYes (wCB wInt1 (wCons (wBin wGt (wBin wMul (wK (.int 2)) (wCall R__law_ones (wCons (wBin wBand (wVar 8) (wVar 6)) wNil))) (wCall R__law_ones (wCons (wVar 6) wNil))) wNil)) [8]))
    wNext)
    (wSeq (wIfS (wTest (wBin wEqI (wBin wMod (wBin wDiv (wCB wInt1 (wCons (wVar 3) wNil)) (wK (.int 12))) (wK (.int 2))) (wK (.int 1))))
    (wSet 5 (wLc (wItL (wFrz 5)) (wgName 9) wYes (wBin wSub (wK (.int 1)) (wVar 9)) [9]))
    wNext)
    (wSeq (wSetF 7 (wCB wInt1 (wCons (wCall R__law_cell (wCons (wVar 0) (wCons (wBin wAdd (wVar 1) (wK (.int 3))) wNil))) wNil)))
    (wSeq (wFor (wItL (wCall R__law_digits (wCons (wBin wDiv (wVar 7) (wK (.int 4))) (wCons (wBin wMod (wVar 7) (wK (.int 4))) (wCons (wVar 4) wNil))))) (wgName 8)
    (wSetIx 5 (wVar 8) (wBin wSub (wK (.int 1)) (wIxM 5 (wVar 8)))))
    (wRet (wMov 5)))))))
def t__law_bits_6 : WS := (wSeq (wIfS (wTest (wBin wEqI (wBin wMod (wCB wInt1 (wCons (wVar 3) wNil)) (wK (.int 6))) (wK (.int 3))))
    (wSet 5 (wLc (wRng1 (wCons (wVar 4) wNil)) (wgName 8) wYes (wBin wMod (wCall R__law_ones (wCons (wBin wBand (wVar 8) (wVar 6)) wNil)) (wK (.int 2))) [8]))
    wNext)
    (wSeq (wIfS (wTest (wBin wEqI (wBin wMod (wCB wInt1 (wCons (wVar 3) wNil)) (wK (.int 6))) (wK (.int 4))))
    (wSet 5 (wLc (wRng1 (wCons (wVar 4) wNil)) (wgName 8) wYes (wCB wInt1 (wCons (wBin wEqI (wBin wBand (wVar 8) (wVar 6)) (wVar 6)) wNil)) [8]))
    wNext)
    (wSeq (wIfS (wTest (wBin wEqI (wBin wMod (wCB wInt1 (wCons (wVar 3) wNil)) (wK (.int 6))) (wK (.int 5))))
    (wSet 5 (wLc (wRng1 (wCons (wVar 4) wNil)) (wgName 8) wYes (wCB wInt1 (wCons (wBin wGt (wBin wMul (wK (.int 2)) (wCall R__law_ones (wCons (wBin wBand (wVar 8) (wVar 6)) wNil))) (wCall R__law_ones (wCons (wVar 6) wNil))) wNil)) [8]))
    wNext)
    (wSeq (wIfS (wTest (wBin wEqI (wBin wMod (wBin wDiv (wCB wInt1 (wCons (wVar 3) wNil)) (wK (.int 12))) (wK (.int 2))) (wK (.int 1))))
    (wSet 5 (wLc (wItL (wFrz 5)) (wgName 9) wYes (wBin wSub (wK (.int 1)) (wVar 9)) [9]))
    wNext)
    (wSeq (wSetF 7 (wCB wInt1 (wCons (wCall R__law_cell (wCons (wVar 0) (wCons (wBin wAdd (wVar 1) (wK (.int 3))) wNil))) wNil)))
    (wSeq (wFor (wItL (wCall R__law_digits (wCons (wBin wDiv (wVar 7) (wK (.int 4))) (wCons (wBin wMod (wVar 7) (wK (.int 4))) (wCons (wVar 4) wNil))))) (wgName 8)
    (wSetIx 5 (wVar 8) (wBin wSub (wK (.int 1)) (wIxM 5 (wVar 8)))))
    (wRet (wMov 5))))))))
def t__law_bits_5 : WS := (wSeq (wIfS (wTest (wBin wEqI (wBin wMod (wCB wInt1 (wCons (wVar 3) wNil)) (wK (.int 6))) (wK (.int 2))))
    (wSet 5 (wLc (wRng1 (wCons (wVar 4) wNil)) (wgName 8) wYes (wIxM 5 (wBin wBand (wVar 8) (wVar 6))) [8]))
    wNext)
    (wSeq (wIfS (wTest (wBin wEqI (wBin wMod (wCB wInt1 (wCons (wVar 3) wNil)) (wK (.int 6))) (wK (.int 3))))
    (wSet 5 (wLc (wRng1 (wCons (wVar 4) wNil)) (wgName 8) wYes (wBin wMod (wCall R__law_ones (wCons (wBin wBand (wVar 8) (wVar 6)) wNil)) (wK (.int 2))) [8]))
    wNext)
    (wSeq (wIfS (wTest (wBin wEqI (wBin wMod (wCB wInt1 (wCons (wVar 3) wNil)) (wK (.int 6))) (wK (.int 4))))
    (wSet 5 (wLc (wRng1 (wCons (wVar 4) wNil)) (wgName 8) wYes (wCB wInt1 (wCons (wBin wEqI (wBin wBand (wVar 8) (wVar 6)) (wVar 6)) wNil)) [8]))
    wNext)
    (wSeq (wIfS (wTest (wBin wEqI (wBin wMod (wCB wInt1 (wCons (wVar 3) wNil)) (wK (.int 6))) (wK (.int 5))))
    (wSet 5 (wLc (wRng1 (wCons (wVar 4) wNil)) (wgName 8) wYes (wCB wInt1 (wCons (wBin wGt (wBin wMul (wK (.int 2)) (wCall R__law_ones (wCons (wBin wBand (wVar 8) (wVar 6)) wNil))) (wCall R__law_ones (wCons (wVar 6) wNil))) wNil)) [8]))
    wNext)
    (wSeq (wIfS (wTest (wBin wEqI (wBin wMod (wBin wDiv (wCB wInt1 (wCons (wVar 3) wNil)) (wK (.int 12))) (wK (.int 2))) (wK (.int 1))))
    (wSet 5 (wLc (wItL (wFrz 5)) (wgName 9) wYes (wBin wSub (wK (.int 1)) (wVar 9)) [9]))
    wNext)
    (wSeq (wSetF 7 (wCB wInt1 (wCons (wCall R__law_cell (wCons (wVar 0) (wCons (wBin wAdd (wVar 1) (wK (.int 3))) wNil))) wNil)))
    (wSeq (wFor (wItL (wCall R__law_digits (wCons (wBin wDiv (wVar 7) (wK (.int 4))) (wCons (wBin wMod (wVar 7) (wK (.int 4))) (wCons (wVar 4) wNil))))) (wgName 8)
    (wSetIx 5 (wVar 8) (wBin wSub (wK (.int 1)) (wIxM 5 (wVar 8)))))
    (wRet (wMov 5)))))))))
def t__law_bits_4 : WS := (wSeq (wIfS (wTest (wBin wEqI (wBin wMod (wBin wDiv (wCB wInt1 (wCons (wVar 3) wNil)) (wK (.int 6))) (wK (.int 2))) (wK (.int 1))))
    (wSetF 6 (wBin wShl (wK (.int 1)) (wBin wMod (wVar 6) (wVar 2))))
    wNext)
    (wSeq (wIfS (wTest (wBin wEqI (wBin wMod (wCB wInt1 (wCons (wVar 3) wNil)) (wK (.int 6))) (wK (.int 2))))
    (wSet 5 (wLc (wRng1 (wCons (wVar 4) wNil)) (wgName 8) wYes (wIxM 5 (wBin wBand (wVar 8) (wVar 6))) [8]))
    wNext)
    (wSeq (wIfS (wTest (wBin wEqI (wBin wMod (wCB wInt1 (wCons (wVar 3) wNil)) (wK (.int 6))) (wK (.int 3))))
    (wSet 5 (wLc (wRng1 (wCons (wVar 4) wNil)) (wgName 8) wYes (wBin wMod (wCall R__law_ones (wCons (wBin wBand (wVar 8) (wVar 6)) wNil)) (wK (.int 2))) [8]))
    wNext)
    (wSeq (wIfS (wTest (wBin wEqI (wBin wMod (wCB wInt1 (wCons (wVar 3) wNil)) (wK (.int 6))) (wK (.int 4))))
    (wSet 5 (wLc (wRng1 (wCons (wVar 4) wNil)) (wgName 8) wYes (wCB wInt1 (wCons (wBin wEqI (wBin wBand (wVar 8) (wVar 6)) (wVar 6)) wNil)) [8]))
    wNext)
    (wSeq (wIfS (wTest (wBin wEqI (wBin wMod (wCB wInt1 (wCons (wVar 3) wNil)) (wK (.int 6))) (wK (.int 5))))
    (wSet 5 (wLc (wRng1 (wCons (wVar 4) wNil)) (wgName 8) wYes (wCB wInt1 (wCons (wBin wGt (wBin wMul (wK (.int 2)) (wCall R__law_ones (wCons (wBin wBand (wVar 8) (wVar 6)) wNil))) (wCall R__law_ones (wCons (wVar 6) wNil))) wNil)) [8]))
    wNext)
    (wSeq (wIfS (wTest (wBin wEqI (wBin wMod (wBin wDiv (wCB wInt1 (wCons (wVar 3) wNil)) (wK (.int 12))) (wK (.int 2))) (wK (.int 1))))
    (wSet 5 (wLc (wItL (wFrz 5)) (wgName 9) wYes (wBin wSub (wK (.int 1)) (wVar 9)) [9]))
    wNext)
    (wSeq (wSetF 7 (wCB wInt1 (wCons (wCall R__law_cell (wCons (wVar 0) (wCons (wBin wAdd (wVar 1) (wK (.int 3))) wNil))) wNil)))
    (wSeq (wFor (wItL (wCall R__law_digits (wCons (wBin wDiv (wVar 7) (wK (.int 4))) (wCons (wBin wMod (wVar 7) (wK (.int 4))) (wCons (wVar 4) wNil))))) (wgName 8)
    (wSetIx 5 (wVar 8) (wBin wSub (wK (.int 1)) (wIxM 5 (wVar 8)))))
    (wRet (wMov 5))))))))))
section
variable {ns : List Int} {at' n : Nat} {code : Int} {Q : DV → Prop} (hn : ns.length ≤ 63) (ha : at' ≤ 900) (h1 : 1 ≤ n) (h7 : n ≤ 7) (h : ∀ f, Tab n f → Q (.mu true (.lst (f.map .int))))
def envB (ns : List Int) (at' n : Nat) (code : Int) (f : List Int) (mask : Nat) : DEnv := [some (.fz (scrD ns)), some (.fz (.int at')), some (.fz (.int n)), some (.fz (.int code)), some (.fz (.int ((2 ^ n : Nat) : Int))), some (.mu true (.lst (f.map .int))), some (.fz (.int mask)), none, none, none]
theorem row_set {f : List Int} {j : Nat} {v : Int} (hb : Bits f) (hv : 0 ≤ v ∧ v < 2) : Bits (f.set j v) := fun x hx => by
  rcases List.mem_or_eq_of_mem_set hx with hx | rfl
  · exact hb x hx
  · exact hv
include hn ha h1 h7 h
theorem bits_10 {f : List Int} {mask : Nat} (t : Tab n f) : t__law_bits_10 (endF Q) (envB ns at' n code f mask) := by
  have hp := pow7 h7
  have hp0 := Nat.two_pow_pos n
  have ec : (at' : Int) + 3 = ((at' + 3 : Nat) : Int) := by omega
  refine ⟨ns, at' + 3, by rw [← ec], hn, by omega, fun wr => ?_⟩
  refine ⟨⟨by decide, by decide⟩, by decide, ?_⟩
  have w0 : 0 ≤ wr % 4 := Int.emod_nonneg _ (by decide)
  have w4 : wr % 4 < 4 := Int.emod_lt_of_pos _ (by decide)
  obtain ⟨c, hc⟩ := toI w0
  rw [hc]
  refine ⟨wr / 4, ((2 ^ n : Nat) : Int), c, rfl, by omega, by omega, by omega, fun row hl hr => ?_⟩
  show ForP (row.map D.int) _ _ _ _
  refine ForP.map (I := fun i ρ => ∃ f, ρ = [some (.fz (scrD ns)), some (.fz (.int at')), some (.fz (.int n)), some (.fz (.int code)), some (.fz (.int ((2 ^ n : Nat) : Int))), some (.mu true (.lst (f.map .int))), some (.fz (.int mask)), some (.fz (.int wr)), none, none] ∧ Tab n f) ⟨_, by walk_at "wk", f, rfl, t⟩ ?_ ?_
  · rintro i ρ' hi ⟨f, rfl, t⟩
    obtain ⟨x0, x1⟩ := hr _ (List.getElem_mem hi)
    have hl2 := t.len
    have hb := bits_at t.b row[i].toNat
    refine ⟨trivial, _, atG x0 (by omega), trivial, _, ixN_at x0 (by rw [List.length_map, hl2]; exact x1), ?_⟩
    rw [setG]
    exact ⟨_, by walk_at "wk", _, rfl, ⟨h1, h7, by rw [List.length_set]; exact hl2, row_set t.b (by omega)⟩⟩
  · rintro ρ' ⟨f, rfl, t⟩
    exact ⟨rfl, h f t⟩
theorem bits_9 {f : List Int} {mask : Nat} (t : Tab n f) : t__law_bits_9 (endF Q) (envB ns at' n code f mask) := by
  have hp := t.p
  have hz := line
  refine ⟨⟨by decide, by decide⟩, by decide, ift_d (fun _ => ?_) fun _ => bits_10 hn ha h1 h7 h t⟩
  show LcP (f.map D.int) _ _ _ _ _ _
  refine LcP.mapL (ρw := [some (.fz (scrD ns)), some (.fz (.int at')), some (.fz (.int n)), some (.fz (.int code)), some (.fz (.int ((2 ^ n : Nat) : Int))), none, some (.fz (.int mask)), none, none, none]) (fun b => .int (1 - b)) (by omega) (by walk_at "wk") (fun b hb T hT => hT _ (by walk_at "wk")) ?_
  have e : (f.map fun b => D.int (1 - b)) = (f.map fun b => 1 - b).map .int := by rw [List.map_map]; rfl
  rw [e]
  exact bits_10 hn ha h1 h7 h ⟨h1, h7, by rw [List.length_map, t.len], fun x hx => by
    obtain ⟨b, hb, rfl⟩ := List.mem_map.mp hx
    have := t.b b hb
    omega⟩
/-- what stands behind a comprehension over all places -/
theorem tab_map {g : Nat → Int} (hg : ∀ x, x < 2 ^ n → 0 ≤ g x ∧ g x < 2) : Tab n ((List.range (2 ^ n)).map g) := ⟨h1, h7, by simp, fun x hx => by
  obtain ⟨i, hi, rfl⟩ := List.mem_map.mp hx
  exact hg i (List.mem_range.mp hi)⟩
theorem bits_8 {f : List Int} {mask : Nat} (t : Tab n f) (hm : mask < 2 ^ n) : t__law_bits_8 (endF Q) (envB ns at' n code f mask) := by
  have hp := pow7 h7
  have hz := line
  refine ⟨by decide, ift_d (fun _ => ?_) fun _ => bits_9 hn ha h1 h7 h t⟩
  refine ⟨by omega, by omega, ?_⟩
  rw [rng0, Int.toNat_natCast]
  refine LcP.mapL (ρw := envB ns at' n code f mask) (fun x => .int (if ((pc mask : Nat) : Int) < 2 * ((pc (x &&& mask) : Nat) : Int) then 1 else 0)) (by rw [List.length_range]; omega) (by walk_at "wk") (fun x hx T hT => ?_) ?_
  · have hxm : x &&& mask < 128 := by
      have := Nat.and_le_right (n := x) (m := mask)
      omega
    have e1 : Builtin.bitAnd (x : Int) (mask : Int) = ((x &&& mask : Nat) : Int) := andN _ _
    refine ⟨x &&& mask, by rw [← e1], hxm, cmul_l (by decide) (by decide), mask, rfl, by omega, ?_⟩
    have := hT ((envB ns at' n code f mask).set 8 (some (.fz (.int x)))) (by walk_at "wk")
    by_cases e : ((pc mask : Nat) : Int) < 2 * ((pc (x &&& mask) : Nat) : Int)
    · rw [if_pos e] at this
      show T (.int (if decide (((pc mask : Nat) : Int) < 2 * ((pc (x &&& mask) : Nat) : Int)) = true then 1 else 0)) _
      rw [decide_eq_true e]; exact this
    · rw [if_neg e] at this
      show T (.int (if decide (((pc mask : Nat) : Int) < 2 * ((pc (x &&& mask) : Nat) : Int)) = true then 1 else 0)) _
      rw [decide_eq_false e]; exact this
  · rw [map_int]
    exact bits_9 hn ha h1 h7 h (tab_map hn ha h1 h7 h fun x _ => by split <;> omega)
theorem bits_7 {f : List Int} {mask : Nat} (t : Tab n f) (hm : mask < 2 ^ n) : t__law_bits_7 (endF Q) (envB ns at' n code f mask) := by
  have hp := pow7 h7
  have hz := line
  refine ⟨by decide, ift_d (fun _ => ?_) fun _ => bits_8 hn ha h1 h7 h t hm⟩
  refine ⟨by omega, by omega, ?_⟩
  rw [rng0, Int.toNat_natCast]
  refine LcP.mapL (ρw := envB ns at' n code f mask) (fun x => .int (if Builtin.bitAnd (x : Int) (mask : Int) = (mask : Int) then 1 else 0)) (by rw [List.length_range]; omega) (by walk_at "wk") (fun x hx T hT => ?_) ?_
  · have := hT ((envB ns at' n code f mask).set 8 (some (.fz (.int x)))) (by walk_at "wk")
    by_cases e : Builtin.bitAnd (x : Int) (mask : Int) = (mask : Int)
    · rw [if_pos e] at this
      show T (.int (if decide (Builtin.bitAnd (x : Int) (mask : Int) = (mask : Int)) = true then 1 else 0)) _
      rw [decide_eq_true e]; exact this
    · rw [if_neg e] at this
      show T (.int (if decide (Builtin.bitAnd (x : Int) (mask : Int) = (mask : Int)) = true then 1 else 0)) _
      rw [decide_eq_false e]; exact this
  · rw [map_int]
    exact bits_8 hn ha h1 h7 h (tab_map hn ha h1 h7 h fun x _ => by split <;> omega) hm
theorem bits_6 {f : List Int} {mask : Nat} (t : Tab n f) (hm : mask < 2 ^ n) : t__law_bits_6 (endF Q) (envB ns at' n code f mask) := by
  have hp := pow7 h7
  have hz := line
  refine ⟨by decide, ift_d (fun _ => ?_) fun _ => bits_7 hn ha h1 h7 h t hm⟩
  refine ⟨by omega, by omega, ?_⟩
  rw [rng0, Int.toNat_natCast]
  refine LcP.mapL (ρw := envB ns at' n code f mask) (fun x => .int (((pc (x &&& mask) : Nat) : Int) % 2)) (by rw [List.length_range]; omega) (by walk_at "wk") (fun x hx T hT => ?_) ?_
  · have hxm : x &&& mask < 128 := by
      have := Nat.and_le_right (n := x) (m := mask)
      omega
    have e1 : Builtin.bitAnd (x : Int) (mask : Int) = ((x &&& mask : Nat) : Int) := andN _ _
    exact ⟨x &&& mask, by rw [← e1], hxm, by decide, hT _ (by walk_at "wk")⟩
  · rw [map_int]
    exact bits_7 hn ha h1 h7 h (tab_map hn ha h1 h7 h fun x _ => by omega) hm
theorem bits_5 {f : List Int} {mask : Nat} (t : Tab n f) (hm : mask < 2 ^ n) : t__law_bits_5 (endF Q) (envB ns at' n code f mask) := by
  have hp := pow7 h7
  have hz := line
  have hl := t.len
  refine ⟨by decide, ift_d (fun _ => ?_) fun _ => bits_6 hn ha h1 h7 h t hm⟩
  refine ⟨by omega, by omega, ?_⟩
  rw [rng0, Int.toNat_natCast]
  refine LcP.mapL (ρw := envB ns at' n code f mask) (fun x => .int (f.getD (x &&& mask) 0)) (by rw [List.length_range]; omega) (by walk_at "wk") (fun x hx T hT => ?_) ?_
  · have hxm : x &&& mask < 2 ^ n := by
      have := Nat.and_le_right (n := x) (m := mask)
      omega
    have e1 : Builtin.bitAnd (x : Int) (mask : Int) = ((x &&& mask : Nat) : Int) := andN _ _
    refine ⟨trivial, .int (f.getD (x &&& mask) 0), ?_, hT _ (by walk_at "wk")⟩
    show atI (f.map D.int) (Builtin.bitAnd (x : Int) (mask : Int)) = _
    rw [e1, atG (by omega) (by omega), Int.toNat_natCast]
  · rw [map_int]
    exact bits_6 hn ha h1 h7 h (tab_map hn ha h1 h7 h fun x _ => bits_at t.b _) hm
theorem bits_4 {f : List Int} {mask : Nat} (t : Tab n f) (hm : mask < 2 ^ n) : t__law_bits_4 (endF Q) (envB ns at' n code f mask) := by
  have hp := pow7 h7
  refine ⟨⟨by decide, by decide⟩, by decide, ift_d (fun _ => ?_) fun _ => bits_5 hn ha h1 h7 h t hm⟩
  have hlt : mask % n < n := Nat.mod_lt _ (by omega)
  have e : (mask : Int) % (n : Int) = ((mask % n : Nat) : Int) := by omega
  refine ⟨by omega, ?_⟩
  show CPow 1 ((mask : Int) % (n : Int)) ∧ t__law_bits_5 (endF Q) ((envB ns at' n code f mask).set 6 (some (.fz (.int ((1 : Int) * 2 ^ ((mask : Int) % (n : Int)).toNat)))))
  rw [e, shl1]
  exact ⟨⟨by omega, by omega, by decide⟩, bits_5 hn ha h1 h7 h t (two_lt hlt)⟩
end
theorem v__law_bits (ds Q) (h : R__law_bits ds Q) : w__law_bits (endF Q) (argD N__law_bits ds) := by
  obtain ⟨ns, at', n, rfl, hn, ha, h1, h7, h⟩ := h
  have hp := pow7 h7
  have hp0 := Nat.two_pow_pos n
  have e1 : (at' : Int) + 1 = ((at' + 1 : Nat) : Int) := by omega
  have e2 : (at' : Int) + 2 = ((at' + 2 : Nat) : Int) := by omega
  refine ⟨ns, at', rfl, hn, by omega, fun code => ?_⟩
  refine ⟨⟨by omega, by omega, by decide⟩, ?_⟩
  rw [shl1]
  refine ⟨ns, at' + 1, by rw [← e1], hn, by omega, fun cell => ?_⟩
  refine ⟨cell, 2, 2 ^ n, rfl, hp, by decide, by decide, fun row hl hb => ?_⟩
  refine ⟨ns, at' + 2, by rw [← e2], hn, by omega, fun z => ?_⟩
  refine ⟨by omega, ?_⟩
  have m0 : 0 ≤ z % ((2 ^ n : Nat) : Int) := Int.emod_nonneg _ (by omega)
  have m1 : z % ((2 ^ n : Nat) : Int) < ((2 ^ n : Nat) : Int) := Int.emod_lt_of_pos _ (by omega)
  obtain ⟨mask, hmask⟩ := toI m0
  rw [hmask]
  exact bits_4 hn ha h1 h7 h ⟨h1, h7, hl, hb⟩ (by omega)
end L2.DL.Q

/-! # VM84.lean -/
set_option Elab.async false
set_option linter.all false
set_option maxRecDepth 100000
set_option maxHeartbeats 1000000
namespace L2.DL.Q
open PySem PySem.Spec PyProof.Rows M79 M84
local macro_rules | `(tactic| walk_at "wk") => `(tactic| (repeat' first | exact True.intro | exact rfl | apply And.intro))
def R__law_signs : RF := fun ds Q => ∃ (n : Nat) (f : List Int), ds = [rowD f, .int n] ∧ Tab n f ∧ Q (.fz (rowL (sgs n f)))
def w__law_signs : WS :=
    (wSeq (wSetF 2 (wLc (wItT (wVar 0)) (wgName 5) wYes (wBin wSub (wK (.int 1)) (wBin wMul (wK (.int 2)) (wVar 5))) [5]))
    (wSeq (wFor (wRng1 (wCons (wVar 1) wNil)) (wgName 3)
    (wSeq (wSetF 4 (wBin wShl (wK (.int 1)) (wVar 3)))
    (wSetF 2 (wLc (wRng1 (wCons (wCB wLen (wCons (wVar 2) wNil)) wNil)) (wgName 6) wYes (wIf (wTest (wBin wEqI (wBin wBand (wBin wShr (wVar 6) (wVar 3)) (wK (.int 1))) (wK (.int 0)))) (wBin wAdd (wBin wIx (wVar 2) (wVar 6)) (wBin wIx (wVar 2) (wBin wAdd (wVar 6) (wVar 4)))) (wBin wSub (wBin wIx (wVar 2) (wBin wSub (wVar 6) (wVar 4))) (wBin wIx (wVar 2) (wVar 6)))) [6]))))
    (wRet (wVar 2))))
abbrev N__law_signs : List Str := ["f", "n", "row", "k", "step", "bit", "x"]
theorem v__law_signs (ds Q) (h : R__law_signs ds Q) : w__law_signs (endF Q) (argD N__law_signs ds) := by
  obtain ⟨n, f, rfl, t, h⟩ := h
  have hp := t.p
  rw [t.len] at hp
  have h7 := t.n7
  have hz := line
  show LcP (f.map D.int) _ _ _ _ _ _
  refine LcP.mapL (ρw := [some (.fz (rowD f)), some (.fz (.int n)), none, none, none, none, none]) (fun b => .int (1 - 2 * b)) (by rw [t.len]; omega) (by walk_at "wk") (fun a ha T hT => ⟨cmulL (by decide) (by decide), hT _ (by walk_at "wk")⟩) ?_
  rw [sg_ints]
  refine ⟨by omega, by omega, ?_⟩
  rw [rng0, Int.toNat_natCast]
  refine ForP.rangeF (fun k ρ => ρ = [some (.fz (rowD f)), some (.fz (.int n)), some (.fz (rowL (its k (f.map sg)))), none, none, none, none]) ⟨_, by walk_at "wk", rfl⟩ ?_ ?_
  · rintro k ρ' hk rfl
    have hl : (its k (f.map sg)).length = 2 ^ n := by rw [its_len, List.length_map, t.len]
    generalize hg : its k (f.map sg) = l at hl ⊢
    have hpk := Nat.two_pow_pos k
    have hkn := Nat.pow_lt_pow_right (a := 2) (by omega) hk
    refine ⟨⟨by omega, by omega, by decide⟩, ?_⟩
    rw [shl1]
    refine ⟨by omega, by rw [List.length_map]; omega, ?_⟩
    rw [rng0, List.length_map, Int.toNat_natCast]
    refine LcP.mapL (ρw := [some (.fz (rowD f)), some (.fz (.int n)), some (.fz (rowL l)), some (.fz (.int k)), some (.fz (.int ((2 ^ k : Nat) : Int))), none, none]) (fun x => .int (stf (2 ^ k) l x)) (by rw [List.length_range]; omega) (by walk_at "wk") (fun x hx T hT => ?_) ?_
    · have hx := List.mem_range.mp hx
      refine ⟨Int.natCast_nonneg _, ?_⟩
      show ift (decide (Builtin.bitAnd ((x : Int) / 2 ^ ((k : Int)).toNat) 1 = 0)) _ _
      rw [shr_and]
      have hT' := hT [some (.fz (rowD f)), some (.fz (.int n)), some (.fz (rowL l)), some (.fz (.int k)), some (.fz (.int ((2 ^ k : Nat) : Int))), none, some (.fz (.int x))] (by walk_at "wk")
      refine ift_d (fun e => ?_) fun e => ?_
      · have e' : x / 2 ^ k % 2 = 0 := by omega
        have r := room hk (by omega) e'
        refine ⟨_, atG (by omega) (by omega), _, atG (by omega) (by omega), ?_⟩
        have : ((x : Int) + ((2 ^ k : Nat) : Int)).toNat = x + 2 ^ k := by omega
        rw [this, Int.toNat_natCast]
        rw [stf_even e'] at hT'; exact hT'
      · have e' : ¬ x / 2 ^ k % 2 = 0 := by omega
        have r := odd_room e'
        refine ⟨_, atG (by omega) (by omega), _, atG (by omega) (by omega), ?_⟩
        have : ((x : Int) - ((2 ^ k : Nat) : Int)).toNat = x - 2 ^ k := by omega
        rw [this, Int.toNat_natCast]
        rw [stf_odd e'] at hT'; exact hT'
    · rw [map_int]
      refine ⟨_, ?_, rfl⟩
      rw [its, hg]
      unfold bstep
      walk_at "wk"
  · rintro ρ' rfl
    exact ⟨trivial, h⟩
/-! ## differences -/
def dl (h : Nat) (l : List Int) : List Int := (List.range l.length).map fun x => dr h (att l) x
theorem dl_len (h : Nat) (l : List Int) : (dl h l).length = l.length := by simp [dl]
theorem dl_bits (h : Nat) (l : List Int) : Bits (dl h l) := fun x hx => by
  obtain ⟨i, _, rfl⟩ := List.mem_map.mp hx
  exact ⟨Int.emod_nonneg _ (by decide), Int.emod_lt_of_pos _ (by decide)⟩
theorem att_map {N : Nat} {f : Nat → Int} {x : Nat} (hx : x < N) : att ((List.range N).map f) x = f x := by
  show ((List.range N).map f).getD x 0 = _
  rw [List.getD_eq_getElem?_getD, List.getElem?_map, List.getElem?_range hx]; rfl
theorem dl_at {h x : Nat} {l : List Int} (hx : x < l.length) : att (dl h l) x = dr h (att l) x := att_map hx
def Row (n : Nat) (l : List Int) : Prop := l.length = 2 ^ n ∧ Bits l
def R__law_turned : RF := fun ds Q => ∃ (n : Nat) (l : List Int) (h : Nat), (ds = [rowL l, .int h] ∨ ds = [rowD l, .int h]) ∧ n ≤ 7 ∧ Row n l ∧ h < 2 ^ n ∧ Q (.mu true (.lst ((dl h l).map .int)))
def w__law_turned : WS :=
    (wRet (wLc (wRng1 (wCons (wCB wLen (wCons (wVar 0) wNil)) wNil)) (wgName 2) wYes (wBin wBxor (wBin wIx (wVar 0) (wVar 2)) (wBin wIx (wVar 0) (wBin wBxor (wVar 2) (wVar 1)))) [2]))
abbrev N__law_turned : List Str := ["f", "h", "x"]
theorem v__law_turned (ds Q) (h : R__law_turned ds Q) : w__law_turned (endF Q) (argD N__law_turned ds) := by
  obtain ⟨n, l, hh, hd, hn, ⟨hl, hb⟩, hlt, h⟩ := h
  have hp := pow7 hn
  have hz := line
  have main : ∀ (T : D → DEnv → Prop) (P : D) (x : Nat), x < l.length → (∀ ρ4, Wk (wipeD ρ4 [2]) [some (.fz P), some (.fz (.int hh)), none] → T (.int (dr hh (att l) x)) ρ4) →
      T (.int (Builtin.bitXor (l.getD ((x : Int)).toNat 0) (l.getD (Builtin.bitXor (x : Int) (hh : Int)).toNat 0))) [some (.fz P), some (.fz (.int hh)), some (.fz (.int x))] := fun T P x hx hT => by
    rw [xorN, Int.toNat_natCast, Int.toNat_natCast, xor_bits (bits_at hb _) (bits_at hb _)]
    exact hT _ (by walk_at "wk")
  have hx2 : ∀ x : Nat, x < l.length → (0 : Int) ≤ Builtin.bitXor (x : Int) (hh : Int) ∧ Builtin.bitXor (x : Int) (hh : Int) < l.length := fun x hx => by
    rw [xorN]
    have := xor_lt2 (n := n) (x := x) (y := hh) (by omega) hlt
    omega
  rcases hd with rfl | rfl
  · refine ⟨by omega, by rw [List.length_map]; omega, ?_⟩
    rw [rng0, List.length_map, Int.toNat_natCast]
    refine LcP.mapL (ρw := [some (.fz (rowL l)), some (.fz (.int hh)), none]) (fun x => .int (dr hh (att l) x)) (by rw [List.length_range]; omega) (by walk_at "wk") (fun x hx T hT => ?_) ?_
    · have hx := List.mem_range.mp hx
      exact ⟨_, atG (by omega) (by omega), _, atG (hx2 x hx).1 (hx2 x hx).2, main T (rowL l) x hx hT⟩
    · rw [map_int]; exact ⟨rfl, h⟩
  · refine ⟨by omega, by rw [List.length_map]; omega, ?_⟩
    rw [rng0, List.length_map, Int.toNat_natCast]
    refine LcP.mapL (ρw := [some (.fz (rowD l)), some (.fz (.int hh)), none]) (fun x => .int (dr hh (att l) x)) (by rw [List.length_range]; omega) (by walk_at "wk") (fun x hx T hT => ?_) ?_
    · have hx := List.mem_range.mp hx
      exact ⟨_, atG (by omega) (by omega), _, atG (hx2 x hx).1 (hx2 x hx).2, main T (rowD l) x hx hT⟩
    · rw [map_int]; exact ⟨rfl, h⟩
/-! ## cubes by rows -/
def R__law_cubes : RF := fun ds Q => ∃ (n d : Nat) (f : List Int), ds = [rowD f, .int d] ∧ 1 ≤ n ∧ n ≤ 7 ∧ Row n f ∧ n * (d + 2) ≤ 15 ∧ Q (.fz (.int (Cu n (d + 1) (att f))))
def w__law_cubes : WS :=
    (wSeq (wSetF 2 (wLst (wCons (wCB wListOf (wCons (wVar 0) wNil)) wNil)))
    (wSeq (wFor (wRng1 (wCons (wBin wAdd (wVar 1) (wK (.int 1))) wNil)) (wgName 3)
    (wSeq (wSet 4 (wLst wNil))
    (wSeq (wFor (wItL (wVar 2)) (wgName 5)
    (wFor (wRng1 (wCons (wCB wLen (wCons (wVar 0) wNil)) wNil)) (wgName 6)
    (wApp 4 (wCall R__law_turned (wCons (wVar 5) (wCons (wVar 6) wNil))))))
    (wSetF 2 (wFrz 4)))))
    (wRet (wCB wSum (wCons (wLc (wItL (wVar 2)) (wgName 5) wYes (wCB wSum (wCons (wVar 5) wNil)) [5]) wNil)))))
abbrev N__law_cubes : List Str := ["f", "d", "rows", "k", "grown", "row", "h"]
def rowsL (rows : List (List Int)) : D := .lst (rows.map rowL)
def ders (n : Nat) (l : List Int) : List (List Int) := (List.range (2 ^ n)).map fun h => dl h l
theorem cu_dl {n k h : Nat} {l : List Int} (hl : l.length = 2 ^ n) : Cu n k (att (dl h l)) = Cu n k (dr h (att l)) := cu_congr fun x hx => dl_at (by omega)
theorem cu_step {n k : Nat} {l : List Int} (hl : l.length = 2 ^ n) : ((ders n l).map fun r => Cu n k (att r)).sum = Cu n (k + 1) (att l) := by
  unfold ders
  rw [List.map_map]
  show S (2 ^ n) (fun h => Cu n k (att (dl h l))) = S (2 ^ n) fun h => Cu n k (dr h (att l))
  exact S_congr fun h _ => cu_dl hl
theorem sum_flat {α β : Type} (g : α → List β) (w : β → Int) : ∀ l : List α, ((l.flatMap g).map w).sum = (l.map fun a => ((g a).map w).sum).sum
  | [] => rfl
  | a :: l => by rw [List.flatMap_cons, List.map_append, List.sum_append_int, sum_flat g w l]; rfl
theorem S_row {n : Nat} {l : List Int} (hl : l.length = 2 ^ n) : S (2 ^ n) (att l) = l.sum := by
  unfold S
  congr 1
  apply List.ext_getElem
  · simp [hl]
  · intro i h1 h2
    simp [att, List.getD_eq_getElem?_getD, h2]
theorem v__law_cubes (ds Q) (h : R__law_cubes ds Q) : w__law_cubes (endF Q) (argD N__law_cubes ds) := by
  obtain ⟨n, d, f, rfl, n1, n7, ⟨hl, hb⟩, hm, h⟩ := h
  have hp := pow7 n7
  have hz := line
  refine ⟨by show (1 : Nat) ≤ sizeLine; omega, ?_⟩
  have hd : d ≤ 13 := by
    have : 1 * (d + 2) ≤ n * (d + 2) := Nat.mul_le_mul_right _ n1
    omega
  refine ⟨by omega, by omega, ?_⟩
  rw [rng0, show ((d : Int) + 1).toNat = d + 1 by omega]
  have h15 : 2 ^ (n * (d + 1)) * 2 ^ n ≤ 2 ^ 15 := by
    rw [← Nat.pow_add]
    exact Nat.pow_le_pow_right (by omega) (by rw [Nat.mul_add] at hm ⊢; omega)
  refine ForP.rangeF (fun k ρ => ∃ rows : List (List Int), ρ = [some (.fz (rowD f)), some (.fz (.int d)), some (.fz (rowsL rows)), none, none, none, none] ∧ (∀ r, r ∈ rows → Row n r) ∧ rows.length = 2 ^ (n * k) ∧ (rows.map fun r => Cu n (d + 1 - k) (att r)).sum = Cu n (d + 1) (att f)) ⟨_, by walk_at "wk", [f], rfl, fun r hr => by rw [List.mem_singleton.mp hr]; exact ⟨hl, hb⟩, by simp, by simp⟩ ?_ ?_
  · rintro k ρ' hk ⟨rows, rfl, hr, hrl, hs⟩
    have hle : 2 ^ (n * k) * 2 ^ n ≤ 2 ^ (n * (d + 1)) * 2 ^ n := Nat.mul_le_mul_right _ (Nat.pow_le_pow_right (by omega) (Nat.mul_le_mul_left _ (by omega)))
    refine ⟨by show (0 : Nat) ≤ sizeLine; omega, ?_⟩
    have flen : ∀ l : List (List Int), (l.flatMap (ders n)).length = l.length * 2 ^ n := fun l => by
      induction l with
      | nil => simp
      | cons a l ih =>
        rw [List.flatMap_cons, List.length_append, ih, List.length_cons, Nat.add_mul, Nat.one_mul]
        simp [ders]; omega
    show ForP (rows.map rowL) _ _ _ _
    refine ForP.inv (fun pre s => s = pre.flatMap (ders n)) (fun s => [some (.fz (rowD f)), some (.fz (.int d)), some (.fz (rowsL rows)), none, some (.mu true (.lst (s.map rowL))), none, none]) [] (by walk_at "wk") rfl (fun pre r post s e hj N hN => ?_) fun s hs2 => ?_
    · have hrow := hr r (mem_post e)
      have hlt := pre_lt e
      have hsz : (pre.length + 1) * 2 ^ n ≤ rows.length * 2 ^ n := Nat.mul_le_mul_right _ hlt
      rw [Nat.add_mul, Nat.one_mul, hrl] at hsz
      have sl : s.length = pre.length * 2 ^ n := by rw [hj, flen]
      refine ⟨by omega, by rw [List.length_map]; omega, ?_⟩
      rw [rng0, List.length_map, hl, Int.toNat_natCast]
      refine ForP.rangeF (fun i ρ => ρ = [some (.fz (rowD f)), some (.fz (.int d)), some (.fz (rowsL rows)), none, some (.mu true (.lst ((s ++ (List.range i).map fun h => dl h r).map rowL))), some (.fz (rowL r)), none]) ⟨_, by simp only [List.range_zero, List.map_nil, List.append_nil]; walk_at "wk", rfl⟩ ?_ ?_
      · rintro i ρ' hi rfl
        refine ⟨n, r, i, .inl rfl, n7, hrow, hi, ?_, ?_⟩
        · rw [List.length_map, List.length_append, List.length_map, List.length_range]; omega
        · refine ⟨_, ?_, rfl⟩
          rw [map_succ, ← List.append_assoc, List.map_append (l₂ := [dl i r])]
          walk_at "wk"
      · rintro ρ' rfl
        refine hN (s ++ ders n r) _ ?_ (by walk_at "wk")
        rw [hj, List.flatMap_append, List.flatMap_cons, List.flatMap_nil, List.append_nil]
    · subst hs2
      refine ⟨_, by walk_at "wk", rows.flatMap (ders n), rfl, fun r hr2 => ?_, ?_, ?_⟩
      · obtain ⟨q, hq, hr3⟩ := List.mem_flatMap.mp hr2
        obtain ⟨x, _, rfl⟩ := List.mem_map.mp hr3
        exact ⟨by rw [dl_len]; exact (hr q hq).1, dl_bits _ _⟩
      · rw [flen, hrl, Nat.mul_add, Nat.mul_one, Nat.pow_add]
      · rw [sum_flat, ← hs]
        congr 1
        refine List.map_congr_left fun r hr2 => ?_
        rw [cu_step (hr r hr2).1, show d + 1 - (k + 1) + 1 = d + 1 - k by omega]
  · rintro ρ' ⟨rows, rfl, hr, hrl, hs⟩
    have hle : 2 ^ (n * (d + 1)) ≤ 2 ^ (n * (d + 1)) * 2 ^ n := Nat.le_mul_of_pos_right _ (Nat.two_pow_pos n)
    show LcP (rows.map rowL) _ _ _ _ _ _
    refine LcP.mapL (ρw := [some (.fz (rowD f)), some (.fz (.int d)), some (.fz (rowsL rows)), none, none, none, none]) (fun r => .int r.sum) (by omega) (by walk_at "wk") (fun r hr2 T hT => ⟨r, ints_map r, hT _ (by walk_at "wk")⟩) ?_
    refine ⟨_, ints_of_map _ _, trivial, ?_⟩
    rw [Nat.sub_self] at hs
    have : (rows.map fun r => r.sum) = rows.map fun r => Cu n 0 (att r) := List.map_congr_left fun r hr2 => (S_row (hr r hr2).1).symm
    rw [this, hs]
    exact h
end L2.DL.Q

/-! # VN84.lean -/
set_option Elab.async false
set_option linter.all false
set_option maxRecDepth 100000
set_option maxHeartbeats 1000000
namespace L2.DL.Q
open PySem PySem.Spec PyProof.Rows M79 M84
local macro_rules | `(tactic| walk_at "wk") => `(tactic| (repeat' first | exact True.intro | exact rfl | apply And.intro))
/-! ## what is the same -/
def DP : Nat → D → Prop
  | 0, d => PX d
  | k + 1, d => PX d ∧ ∀ ds, d = .tup ds → ∀ x, x ∈ ds → DP k x
theorem DP.px : ∀ {k d}, DP k d → PX d
  | 0, _, h => h
  | _ + 1, _, h => h.1
theorem DP.el {k : Nat} {ds : List D} (h : DP (k + 1) (.tup ds)) : ∀ x, x ∈ ds → DP k x := h.2 ds rfl
theorem DP.not {d : D} (h : PX d) (hn : ∀ ds, d ≠ .tup ds) : ∀ k, DP k d
  | 0 => h
  | _ + 1 => ⟨h, fun ds e => absurd e (hn ds)⟩
theorem DP.tup {k : Nat} {ds : List D} (h : ∀ x, x ∈ ds → DP k x) : DP (k + 1) (.tup ds) := ⟨rfl, fun es e => by cases e; exact h⟩
theorem DP.int {i : Int} (k) : DP k (.int i) := DP.not rfl (fun _ h => by cases h) k
noncomputable def eqb (a b : D) : Bool := @decide (a = b) (Classical.propDecidable _)
theorem eqb_t {a b : D} (h : a = b) : eqb a b = true := by unfold eqb; exact @decide_eq_true _ (_) h
theorem eqb_f {a b : D} (h : a ≠ b) : eqb a b = false := by unfold eqb; exact @decide_eq_false _ (_) h
theorem eqb_int (a b : Int) : eqb (.int a) (.int b) = decide (a = b) := by
  by_cases e : a = b
  · rw [eqb_t (by rw [e]), decide_eq_true e]
  · rw [eqb_f (fun z => e (D.int.inj z)), decide_eq_false e]
def Due : Nat → D → Prop
  | 0, d => ∃ i, d = .int i
  | k + 1, d => (∃ i, d = .int i) ∨ ∃ ds, d = .tup ds ∧ ds.length ≤ 300 ∧ ∀ x, x ∈ ds → Due k x
theorem due_int {i : Int} : ∀ k, Due k (.int i)
  | 0 => ⟨i, rfl⟩
  | _ + 1 => .inl ⟨i, rfl⟩
theorem due_dp : ∀ {k d}, Due k d → DP k d
  | 0, _, ⟨_, e⟩ => by subst e; rfl
  | _ + 1, _, .inl ⟨_, e⟩ => by subst e; exact DP.int _
  | _ + 1, _, .inr ⟨_, e, _, h⟩ => by subst e; exact DP.tup fun x hx => due_dp (h x hx)
theorem due_row {l : List Int} (h : l.length ≤ 300) (k) : Due (k + 1) (rowD l) := .inr ⟨_, rfl, by rw [List.length_map]; exact h, fun x hx => by
  obtain ⟨_, _, rfl⟩ := List.mem_map.mp hx
  exact due_int _⟩
def R__law_same (k : Nat) : RF := match k with
  | 0 => fun _ _ => False
  | k + 1 => fun ds Q => ∃ told due, ds = [told, due] ∧ DP k told ∧ Due k due ∧ Q (.fz (.bl (eqb told due)))
def w__law_same (dp : Nat) : WS :=
    (wSeq (wIfS (wTest (wCB (wIsiX xoc .tuple) (wCons (wVar 1) (wCons (wK (.ty "tuple")) wNil))))
    (wSeq (wIfS (wOr (wNot (wTest (wCB (wIsiX xoc .tuple) (wCons (wVar 0) (wCons (wK (.ty "tuple")) wNil))))) (wTest (wBin wNeI (wCB wLen (wCons (wVar 0) wNil)) (wCB wLen (wCons (wVar 1) wNil)))))
    (wRet (wK (.bl false)))
    wNext)
    (wRet (wCB wAll (wCons (wLc (wRng1 (wCons (wCB wLen (wCons (wVar 1) wNil)) wNil)) (wgName 2) wYes (wCall (R__law_same dp) (wCons (wBin wIx (wVar 0) (wVar 2)) (wCons (wBin wIx (wVar 1) (wVar 2)) wNil))) [2]) wNil))))
    wNext)
    (wRet (wAndV (wCB (wIsiX xoc .int) (wCons (wVar 0) (wCons (wK (.ty "int")) wNil))) (wAndV (wNotV (wCB (wIsiX xoc .bool) (wCons (wVar 0) (wCons (wK (.ty "bool")) wNil)))) (wBin (wEq false) (wVar 0) (wVar 1))))))
abbrev N__law_same : List Str := ["actual", "due", "k"]
theorem hl__law_same (k ds Q) (h : R__law_same (k + 1) ds Q) : ds.length = 2 := by
  obtain ⟨_, _, rfl, _⟩ := h; rfl
theorem v__law_same (k ds Q) (h : R__law_same (k + 1) ds Q) : w__law_same k (endF Q) (argD N__law_same ds) := by
  obtain ⟨told, due, rfl, hp, hd, h⟩ := h
  by_cases hi : ∃ i, due = .int i
  · obtain ⟨i, rfl⟩ := hi
    refine ⟨rfl, rfl, ift_f rfl ?_⟩
    refine ⟨rfl, hp.px, ?_⟩
    cases told with
    | int j =>
      refine ift_t rfl ⟨rfl, hp.px, ift_t rfl ?_⟩
      rw [eqb_int] at h
      exact ⟨_, deq_int j i, trivial, h⟩
    | bl b =>
      rw [eqb_f (fun z => by cases z)] at h
      exact ift_t rfl ⟨rfl, rfl, ift_f rfl ⟨trivial, h⟩⟩
    | _ => rw [eqb_f (fun z => by cases z)] at h; exact ift_f rfl ⟨trivial, h⟩
  · cases k with
    | zero => exact absurd hd hi
    | succ k =>
      rcases hd with hd | ⟨es, rfl, hl, hd⟩
      · exact absurd hd hi
      · refine ⟨rfl, rfl, ift_t rfl ?_⟩
        refine ⟨rfl, hp.px, ?_⟩
        by_cases hv : ∃ ds, told = .tup ds
        · obtain ⟨ds, rfl⟩ := hv
          refine ift_f rfl ?_
          refine ift_n (fun hn => ⟨trivial, ?_⟩) fun hn => ?_
          · rw [eqb_f (fun e => hn (by rw [D.tup.inj e]))] at h
            exact h
          · have hn : ds.length = es.length := by exact_mod_cast hn
            have hz := line
            refine ⟨by omega, by omega, ?_⟩
            rw [rng0, Int.toNat_natCast]
            refine LcP.mapL (ρw := [some (.fz (.tup ds)), some (.fz (.tup es)), none]) (fun i => .bl (eqb (ds.getD i .non) (es.getD i .non))) (by rw [List.length_range]; omega) (by walk_at "wk") (fun i hi T hT => ?_) ?_
            · have hi := List.mem_range.mp hi
              have at1 : atI ds (i : Int) = some (ds.getD i .non) := by
                have := atN (l := ds) (c := id) (i := i) (by omega)
                rw [List.map_id] at this
                rw [this, getD_at (by omega)]; rfl
              have at2 : atI es (i : Int) = some (es.getD i .non) := by
                have := atN (l := es) (c := id) (i := i) (by omega)
                rw [List.map_id] at this
                rw [this, getD_at (by omega)]; rfl
              refine ⟨_, at1, _, at2, _, _, rfl, ?_, ?_, hT _ (by walk_at "wk")⟩
              · rw [getD_at (by omega)]; exact hp.el _ (List.getElem_mem _)
              · rw [getD_at (by omega)]; exact hd _ (List.getElem_mem _)
            · refine ⟨_, bls_of_map _ _, trivial, ?_⟩
              have e : ((List.range es.length).map fun i => eqb (ds.getD i .non) (es.getD i .non)).all id = eqb (.tup ds) (.tup es) := by
                by_cases e : ds = es
                · subst e
                  rw [eqb_t rfl, List.all_eq_true]
                  intro b hb
                  obtain ⟨i, _, rfl⟩ := List.mem_map.mp hb
                  exact eqb_t rfl
                · rw [eqb_f (fun z => e (D.tup.inj z)), List.all_eq_false]
                  apply Classical.byContradiction
                  intro hno
                  apply e
                  refine List.ext_getElem hn fun i h1 h2 => ?_
                  apply Classical.byContradiction
                  intro hne
                  apply hno
                  refine ⟨_, List.mem_map.mpr ⟨i, List.mem_range.mpr h2, rfl⟩, ?_⟩
                  rw [getD_at h1, getD_at h2, eqb_f hne]; decide
              rw [e]; exact h
        · have e : told.isT .tuple = false := by
            cases told <;> first | rfl | exact absurd ⟨_, rfl⟩ hv
          refine ift_t (by rw [e]; rfl) ⟨trivial, ?_⟩
          rw [eqb_f (b := .tup es) (fun e => hv ⟨_, e⟩)] at h; exact h
/-! ## degrees -/
def R__law_degree : RF := fun ds Q => ∃ (n : Nat) (f : List Int), ds = [rowD f] ∧ Tab n f ∧ ∀ m, IsDeg n (att f) m → Q (.fz (.int m))
def w__law_degree : WS :=
    (wSeq (wSetF 1 (wNeg (wK (.int 1))))
    (wSeq (wFor (wRng1 (wCons (wCB wLen (wCons (wVar 0) wNil)) wNil)) (wgName 2)
    (wIfS (wTest (wBin wEqI (wBin wMod (wCB wSum (wCons (wLc (wRng1 (wCons (wCB wLen (wCons (wVar 0) wNil)) wNil)) (wgName 3) (wTest (wBin wEqI (wBin wBand (wVar 3) (wVar 2)) (wVar 3))) (wBin wIx (wVar 0) (wVar 3)) [3]) wNil)) (wK (.int 2))) (wK (.int 1))))
    (wSetF 1 (wCB wMaxI (wCons (wVar 1) (wCons (wCall R__law_ones (wCons (wVar 2) wNil)) wNil))))
    wNext))
    (wRet (wVar 1))))
abbrev N__law_degree : List Str := ["f", "found", "a", "x"]
def DegI (n : Nat) (g : Nat → Int) (i : Nat) (m : Int) : Prop := (∀ a, a < i → U n g a % 2 = 1 → ((pc a : Nat) : Int) ≤ m) ∧ (m = -1 ∨ ∃ a, a < i ∧ U n g a % 2 = 1 ∧ ((pc a : Nat) : Int) = m) ∧ -1 ≤ m
theorem degI_step {n i : Nat} {g : Nat → Int} {m : Int} (h : DegI n g i m) : DegI n g (i + 1) (if U n g i % 2 = 1 then (if ((pc i : Nat) : Int) > m then ((pc i : Nat) : Int) else m) else m) := by
  obtain ⟨h1, h2, h3⟩ := h
  by_cases e : U n g i % 2 = 1
  · rw [if_pos e]
    by_cases c : ((pc i : Nat) : Int) > m
    · rw [if_pos c]
      refine ⟨fun a ha hu => ?_, .inr ⟨i, by omega, e, rfl⟩, by omega⟩
      rcases Nat.lt_succ_iff_lt_or_eq.mp ha with ha | rfl
      · have := h1 a ha hu; omega
      · exact Int.le_refl _
    · rw [if_neg c]
      refine ⟨fun a ha hu => ?_, ?_, h3⟩
      · rcases Nat.lt_succ_iff_lt_or_eq.mp ha with ha | rfl
        · exact h1 a ha hu
        · omega
      · rcases h2 with h2 | ⟨a, ha, hu, hm⟩
        · exact .inl h2
        · exact .inr ⟨a, by omega, hu, hm⟩
  · rw [if_neg e]
    refine ⟨fun a ha hu => ?_, ?_, h3⟩
    · rcases Nat.lt_succ_iff_lt_or_eq.mp ha with ha | rfl
      · exact h1 a ha hu
      · exact absurd hu e
    · rcases h2 with h2 | ⟨a, ha, hu, hm⟩
      · exact .inl h2
      · exact .inr ⟨a, by omega, hu, hm⟩
theorem v__law_degree (ds Q) (h : R__law_degree ds Q) : w__law_degree (endF Q) (argD N__law_degree ds) := by
  obtain ⟨n, f, rfl, t, h⟩ := h
  have hp := t.p
  rw [t.len] at hp
  have h7 := t.n7
  have hz := line
  have hl := t.len
  refine ⟨by omega, by rw [List.length_map]; omega, ?_⟩
  rw [rng0, List.length_map, Int.toNat_natCast, hl]
  refine ForP.rangeF (fun i ρ => ∃ m : Int, ρ = [some (.fz (rowD f)), some (.fz (.int m)), none, none] ∧ DegI n (att f) i m) ⟨_, by walk_at "wk", -1, rfl, fun a ha => absurd ha (by omega), .inl rfl, Int.le_refl _⟩ ?_ ?_
  · rintro a ρ' ha ⟨m, rfl, hm⟩
    refine ⟨by omega, by rw [List.length_map]; omega, ?_⟩
    rw [rng0, List.length_map, Int.toNat_natCast, hl]
    refine LcP.filtL (ρw := [some (.fz (rowD f)), some (.fz (.int m)), some (.fz (.int a)), none]) (fun x => decide (x &&& a = x)) (fun x => .int (att f x)) (by rw [List.length_range]; omega) (by walk_at "wk") (fun x hx T S h1 h2 => ?_) ?_
    · have hx := List.mem_range.mp hx
      show ift (decide (Builtin.bitAnd (x : Int) (a : Int) = (x : Int))) _ _
      rw [andN]
      refine ift_d (fun e => ?_) fun e => ?_
      · exact ⟨_, atG (by omega) (by omega), h1 (decide_eq_true (by omega)) _ (by walk_at "wk")⟩
      · exact h2 (decide_eq_false (by omega)) _ (by walk_at "wk")
    · refine ⟨_, ints_of_map _ _, by decide, ?_⟩
      have eU : (((List.range (2 ^ n)).filter fun x => decide (x &&& a = x)).map fun x => att f x).sum = U n (att f) a := by
        rw [sum_filter]
        unfold U S
        congr 1
        refine List.map_congr_left fun x _ => ?_
        by_cases e : x &&& a = x
        · rw [if_pos e, decide_eq_true e, if_pos rfl]
        · rw [if_neg e, decide_eq_false e, if_neg (by decide)]
      rw [eU]
      have hst := degI_step hm
      refine ift_d (fun e => ?_) fun e => ?_
      · rw [if_pos e] at hst
        exact ⟨a, rfl, by have := pow7 h7; omega, _, by walk_at "wk", _, rfl, hst⟩
      · rw [if_neg e] at hst
        exact ⟨_, by walk_at "wk", m, rfl, hst⟩
  · rintro ρ' ⟨m, rfl, hm⟩
    exact ⟨trivial, h m hm⟩
end L2.DL.Q

/-! # VO84.lean -/
set_option Elab.async false
set_option linter.all false
set_option maxRecDepth 100000
set_option maxHeartbeats 1000000
namespace L2.DL.Q
open PySem PySem.Spec PyProof.Rows M79 M84
local macro_rules | `(tactic| walk_at "wk") => `(tactic| (repeat' first | exact True.intro | exact rfl | apply And.intro))
/-! ## what is refused -/
def Refu (which : Int) (nd dd fd : D) (word : Str) (val : D) : Prop :=
  (word = "number" ∧ val = nd ∧ PX nd ∧ isBtw nd 1 7 = false) ∨
  ∃ n : Nat, nd = .int n ∧ 1 ≤ n ∧ n ≤ 7 ∧ ((word = "number" ∧ val = dd ∧ PX dd ∧ isBtw dd 0 3 = false) ∨
    ∃ d : Nat, dd = .int d ∧ ((which = 0 ∧ d ≤ 3 ∧ 15 < n * (d + 2) ∧ word = "many" ∧ val = .str (PySem.Str.ofString "cubes")) ∨
      (((which = 0 ∧ d ≤ 3 ∧ n * (d + 2) ≤ 15) ∨ (¬ which = 0 ∧ d ≤ 1)) ∧ word = "map" ∧ val = fd ∧ PE2 fd ∧ rowBelow fd (2 ^ n : Nat) 2 = false)))
def R__law_told : RF := fun ds Q => ∃ (which : Int) (nd dd fd : D) (word : Str) (val : D), ds = [.int which, nd, dd, fd] ∧ Refu which nd dd fd word val ∧ Q (.mu true (.lst [.str word, val, .bl true]))
def w__law_told : WS :=
    (wSeq (wTry (tab3 xtab) [("InvalidNumber", some 4, fun a C d => (wRet (wLst (wCons (wK (.str (PySem.Str.ofString "number"))) (wCons (wXf a C d "InvalidNumber" "value" (wVar 4)) (wCons (wAndV (wCB (wIsX xtab a C d) (wCons (wVar 4) (wCons (wK (.cn "NinthError")) wNil))) (wNotV (wCB (wIsX xtab a C d) (wCons (wVar 4) (wCons (wK (.cn "InvalidMap")) wNil))))) wNil)))))),
    ("InvalidMap", some 4, fun a C d => (wRet (wLst (wCons (wK (.str (PySem.Str.ofString "map"))) (wCons (wXf a C d "InvalidMap" "value" (wVar 4)) (wCons (wCB (wIsX xtab a C d) (wCons (wVar 4) (wCons (wK (.cn "NinthError")) wNil))) wNil)))))),
    ("TooMany", some 4, fun a C d => (wRet (wLst (wCons (wK (.str (PySem.Str.ofString "many"))) (wCons (wXf a C d "TooMany" "what" (wVar 4)) (wCons (wCB (wIsX xtab a C d) (wCons (wVar 4) (wCons (wK (.cn "NinthError")) wNil))) wNil))))))]
    (wIfS (wTest (wBin wEqI (wVar 0) (wK (.int 0))))
    (wExpr (wCallX R_broken_cubes (wCons (wVar 1) (wCons (wVar 2) (wCons (wVar 3) wNil)))))
    (wExpr (wCallX R_near_degree (wCons (wVar 1) (wCons (wVar 2) (wCons (wVar 3) wNil)))))))
    (wRet (wLst (wCons (wK (.str (PySem.Str.ofString "none"))) (wCons (wK .non) (wCons (wK (.bl false)) wNil))))))
abbrev N__law_told : List Str := ["which", "n", "d", "f", "e"]
local macro_rules | `(tactic| walk_at "num") => `(tactic| (refine ⟨true, by decide, fun _ a dd => ?_, fun z => by cases z⟩; exact ⟨rfl, rfl, rfl, _, rfl, rfl, rfl, true, by decide, rfl, rfl, false, by decide, by show (3 : Nat) ≤ sizeLine; rw [line]; omega, rfl, by assumption⟩))
local macro_rules | `(tactic| walk_at "map") => `(tactic| (refine ⟨false, by decide, (fun z => by cases z), fun _ => ⟨true, by decide, fun _ a dd => ?_, fun z => by cases z⟩⟩; exact ⟨rfl, rfl, rfl, _, rfl, rfl, rfl, true, by decide, by show (3 : Nat) ≤ sizeLine; rw [line]; omega, rfl, by assumption⟩))
local macro_rules | `(tactic| walk_at "many") => `(tactic| (refine ⟨false, by decide, (fun z => by cases z), fun _ => ⟨false, by decide, (fun z => by cases z), fun _ => ⟨true, by decide, fun _ a dd => ?_, fun z => by cases z⟩⟩⟩; exact ⟨rfl, rfl, rfl, _, rfl, rfl, rfl, true, by decide, by show (3 : Nat) ≤ sizeLine; rw [line]; omega, rfl, by assumption⟩))
theorem v__law_told (ds Q) (h : R__law_told ds Q) : w__law_told (endF Q) (argD N__law_told ds) := by
  obtain ⟨which, nd, dd, fd, word, val, rfl, r, h⟩ := h
  refine ift_d (fun hw => ?_) fun hw => ?_
  · rcases r with ⟨rfl, rfl, p, b⟩ | ⟨n, rfl, n1, n7, ⟨rfl, rfl, p, b⟩ | ⟨d, rfl, ⟨_, d3, hm, rfl, rfl⟩ | ⟨⟨_, d3, hm⟩ | ⟨hno, _⟩, rfl, rfl, p, b⟩⟩⟩
    · refine .inl ⟨p, b, ?_⟩
      walk_at "num"
    · refine .inr ⟨n, rfl, n1, n7, .inl ⟨p, b, ?_⟩⟩
      walk_at "num"
    · refine .inr ⟨n, rfl, n1, n7, .inr ⟨d, rfl, d3, .inl ⟨hm, ?_⟩⟩⟩
      walk_at "many"
    · refine .inr ⟨n, rfl, n1, n7, .inr ⟨d, rfl, d3, .inr ⟨hm, .inl ⟨p, b, ?_⟩⟩⟩⟩
      walk_at "map"
    · exact absurd hw hno
  · rcases r with ⟨rfl, rfl, p, b⟩ | ⟨n, rfl, n1, n7, ⟨rfl, rfl, p, b⟩ | ⟨d, rfl, ⟨hyes, _⟩ | ⟨⟨hyes, _⟩ | ⟨_, d1⟩, rfl, rfl, p, b⟩⟩⟩
    · refine .inl ⟨p, b, ?_⟩
      walk_at "num"
    · refine .inr ⟨n, rfl, n1, n7, .inl ⟨p, b, ?_⟩⟩
      walk_at "num"
    · exact absurd hyes hw
    · exact absurd hyes hw
    · refine .inr ⟨n, rfl, n1, n7, .inr ⟨d, rfl, d1, p, b, ?_⟩⟩
      walk_at "map"
/-! ## values that equal themselves -/
def Py (k : Nat) (d : D) : Prop := ∃ p, d.py = some p ∧ p.canLay0 = true ∧ p.depth ≤ k
theorem py_deq {k : Nat} {d : D} (hk : k ≤ 60) (h : Py k d) : DEq d d true := by
  obtain ⟨p, h1, h2, h3⟩ := h
  have hs : SeqAt.shaped p = true := by
    unfold SeqAt.shaped
    rw [Bool.and_eq_true]
    exact ⟨h2, decide_eq_true (by omega)⟩
  exact ⟨p, p, h1, h1, hs, hs, PySem.SeqAt.eqv_refl p h2⟩
theorem py_int {k : Nat} (i : Int) : Py k (.int i) := ⟨.int i, rfl, rfl, Nat.zero_le _⟩
theorem py_bl {k : Nat} (b : Bool) : Py k (.bl b) := ⟨.bool b, rfl, rfl, Nat.zero_le _⟩
theorem py_non {k : Nat} : Py k .non := ⟨.none, rfl, rfl, Nat.zero_le _⟩
theorem py_str {k : Nat} (x : Str) (h : (PyData.str x).canLay0 = true) : Py k (.str x) := ⟨.str x, rfl, h, Nat.zero_le _⟩
theorem py_all {k : Nat} : ∀ {ds : List D}, (∀ d, d ∈ ds → Py k d) → ∃ ps, pyL ds = some ps ∧ PyData.canLayAll0 ps = true ∧ PyData.depthAll ps ≤ k
  | [], _ => ⟨[], rfl, rfl, Nat.zero_le _⟩
  | d :: ds, h => by
    obtain ⟨p, h1, h2, h3⟩ := h d (by simp)
    obtain ⟨ps, g1, g2, g3⟩ := py_all (ds := ds) fun x hx => h x (by simp [hx])
    refine ⟨p :: ps, by simp only [pyL, h1, g1], ?_, ?_⟩
    · rw [PyData.canLayAll0, h2, g2]; rfl
    · rw [PyData.depthAll]; exact Nat.max_le.mpr ⟨h3, g3⟩
theorem py_tup {k : Nat} {ds : List D} (h : ∀ d, d ∈ ds → Py k d) : Py (k + 1) (.tup ds) := by
  obtain ⟨ps, g1, g2, g3⟩ := py_all h
  refine ⟨.tuple ps, by simp only [D.py, g1]; rfl, by simp only [PyData.canLay0]; exact g2, by simp only [PyData.depth]; omega⟩
theorem py_lst {k : Nat} {ds : List D} (h : ∀ d, d ∈ ds → Py k d) : Py (k + 1) (.lst ds) := by
  obtain ⟨ps, g1, g2, g3⟩ := py_all h
  refine ⟨.list ps, by simp only [D.py, g1]; rfl, by simp only [PyData.canLay0]; exact g2, by simp only [PyData.depth]; omega⟩
theorem py_ints {k : Nat} {l : List Int} : ∀ d, d ∈ l.map D.int → Py k d := fun d hd => by
  obtain ⟨i, _, rfl⟩ := List.mem_map.mp hd
  exact py_int i
def R__law_refused : RF := fun ds Q => ∃ (which : Int) (nd dd fd : D) (word : Str) (val : D), ds = [.int which, nd, dd, fd, .str word, val] ∧ Refu which nd dd fd word val ∧ Py 10 (.str word) ∧ Py 10 val ∧ PX val ∧ Q (.fz (.bl true))
def w__law_refused : WS :=
    (wSeq (wSetF 6 (wCall R__law_told (wCons (wVar 0) (wCons (wVar 1) (wCons (wVar 2) (wCons (wVar 3) wNil))))))
    (wSeq (wIfS (wOr (wTest (wBin (wEq true) (wBin wIx (wVar 6) (wK (.int 0))) (wVar 4))) (wOr (wNot (wTest (wBin wIx (wVar 6) (wK (.int 2))))) (wTest (wBin (wEq true) (wCB (wIsiX xoc .bool) (wCons (wBin wIx (wVar 6) (wK (.int 1))) (wCons (wK (.ty "bool")) wNil))) (wCB (wIsiX xoc .bool) (wCons (wVar 5) (wCons (wK (.ty "bool")) wNil)))))))
    (wRet (wK (.bl false)))
    wNext)
    (wRet (wBin (wEq false) (wBin wIx (wVar 6) (wK (.int 1))) (wVar 5)))))
abbrev N__law_refused : List Str := ["which", "n", "d", "f", "word", "value", "told"]
theorem v__law_refused (ds Q) (h : R__law_refused ds Q) : w__law_refused (endF Q) (argD N__law_refused ds) := by
  obtain ⟨which, nd, dd, fd, word, val, rfl, r, pw, pv, px, h⟩ := h
  refine ⟨which, nd, dd, fd, word, val, rfl, r, ?_⟩
  refine ⟨.str word, rfl, true, py_deq (by omega) pw, ?_⟩
  refine ⟨.bl true, rfl, ?_⟩
  refine ⟨val, rfl, rfl, px, rfl, px, _, deq_bl _ _, ?_⟩
  refine ift_f (by rw [decide_eq_true rfl]; rfl) ?_
  exact ⟨val, rfl, true, py_deq (by omega) pv, trivial, h⟩
end L2.DL.Q

/-! # VP84.lean -/
set_option Elab.async false
set_option linter.all false
set_option maxRecDepth 100000
set_option maxHeartbeats 2000000
namespace L2.DL.Q
open PySem PySem.Spec PyProof.Rows M79 M84
local macro_rules | `(tactic| walk_at "wk") => `(tactic| (repeat' first | exact True.intro | exact rfl | apply And.intro))
/-! ## wrong inputs -/
structure Bad1 (lo hi : Int) (d : D) : Prop where
  px : PX d
  b : isBtw d lo hi = false
  py : Py 10 d
theorem bad_int {lo hi i : Int} (h : i < lo ∨ hi < i) : Bad1 lo hi (.int i) := ⟨rfl, by
  show (decide (lo ≤ i) && decide (i ≤ hi)) = false
  rcases h with h | h
  · rw [decide_eq_false (by omega)]; rfl
  · rw [decide_eq_false (show ¬ i ≤ hi by omega), Bool.and_false], py_int i⟩
theorem mod8 (x : Int) : x % 8 = 0 ∨ x % 8 = 1 ∨ x % 8 = 2 ∨ x % 8 = 3 ∨ x % 8 = 4 ∨ x % 8 = 5 ∨ x % 8 = 6 ∨ x % 8 = 7 := by omega
theorem pick8 {a0 a1 a2 a3 a4 a5 a6 a7 : D} {P : D → Prop} (x : Int) (h0 : P a0) (h1 : P a1) (h2 : P a2) (h3 : P a3) (h4 : P a4) (h5 : P a5) (h6 : P a6) (h7 : P a7) : ∃ d, atI [a0, a1, a2, a3, a4, a5, a6, a7] (x % 8) = some d ∧ P d := by
  rcases mod8 x with e | e | e | e | e | e | e | e <;> rw [e]
  · exact ⟨a0, rfl, h0⟩
  · exact ⟨a1, rfl, h1⟩
  · exact ⟨a2, rfl, h2⟩
  · exact ⟨a3, rfl, h3⟩
  · exact ⟨a4, rfl, h4⟩
  · exact ⟨a5, rfl, h5⟩
  · exact ⟨a6, rfl, h6⟩
  · exact ⟨a7, rfl, h7⟩
theorem pick6 {a0 a1 a2 a3 a4 a5 : D} {P : D → Prop} (x : Int) (h0 : P a0) (h1 : P a1) (h2 : P a2) (h3 : P a3) (h4 : P a4) (h5 : P a5) : ∃ d, atI [a0, a1, a2, a3, a4, a5] (x % 6) = some d ∧ P d := by
  rcases (show x % 6 = 0 ∨ x % 6 = 1 ∨ x % 6 = 2 ∨ x % 6 = 3 ∨ x % 6 = 4 ∨ x % 6 = 5 by omega) with e | e | e | e | e | e <;> rw [e]
  · exact ⟨a0, rfl, h0⟩
  · exact ⟨a1, rfl, h1⟩
  · exact ⟨a2, rfl, h2⟩
  · exact ⟨a3, rfl, h3⟩
  · exact ⟨a4, rfl, h4⟩
  · exact ⟨a5, rfl, h5⟩
structure BadT1 (n : Nat) (d : D) : Prop where
  pe : PE2 d
  b : rowBelow d (2 ^ n : Nat) 2 = false
  py : Py 10 d
structure Mem1 (d : D) : Prop where
  px : PX d
  b : below d 2 = false
  py : Py 5 d
theorem dq_bl (b : Bool) {lo hi : Int} : Bad1 lo hi (.bl b) := ⟨rfl, rfl, py_bl b⟩
theorem badt_len {n : Nat} {l : List Int} (h : l.length ≠ 2 ^ n) : BadT1 n (rowD l) := ⟨pe2_row, by
  show (decide (((l.map D.int).length : Int) = ((2 ^ n : Nat) : Int)) && _) = false
  rw [decide_eq_false (by rw [List.length_map]; omega)]; rfl, py_tup (k := 9) py_ints⟩
def R__law_wrong : RF := fun ds Q => ∃ (ns : List Int) (n d : Nat) (f : List Int), ds = [scrD ns, .int n, .int d, rowD f] ∧ ns.length ≤ 63 ∧ Tab n f ∧ d ≤ 3 ∧ n * (d + 2) ≤ 15 ∧ Q (.fz (.bl true))
def w__law_wrong : WS :=
    (wSeq (wSetF 4 (wCall R__law_cell (wCons (wVar 0) (wCons (wK (.int 5)) wNil))))
    (wSeq (wSetF 5 (wBin wIx (wLst (wCons (wK (.int 0)) (wCons (wK (.int 8)) (wCons (wBin wSub (wNeg (wK (.int 1))) (wBin wMod (wBin wDiv (wVar 4) (wK (.int 64))) (wBin wPow (wK (.int 10)) (wK (.int 9))))) (wCons (wBin wAdd (wK (.int 8)) (wBin wMod (wBin wDiv (wVar 4) (wK (.int 64))) (wBin wPow (wK (.int 10)) (wK (.int 25))))) (wCons (wK (.bl true)) (wCons (wK .non) (wCons (wK (.str (PySem.Str.ofString "3"))) (wCons (wTup (wCons (wVar 1) wNil)) wNil))))))))) (wBin wMod (wVar 4) (wK (.int 8)))))
    (wSeq (wSetF 6 (wBin wIx (wLst (wCons (wNeg (wK (.int 1))) (wCons (wK (.int 4)) (wCons (wBin wSub (wNeg (wK (.int 2))) (wBin wMod (wBin wDiv (wVar 4) (wK (.int 64))) (wBin wPow (wK (.int 10)) (wK (.int 9))))) (wCons (wBin wAdd (wK (.int 5)) (wBin wMod (wBin wDiv (wVar 4) (wK (.int 64))) (wBin wPow (wK (.int 10)) (wK (.int 25))))) (wCons (wK (.bl true)) (wCons (wK .non) (wCons (wK (.str (PySem.Str.ofString "1"))) (wCons (wTup (wCons (wVar 2) wNil)) wNil))))))))) (wBin wMod (wBin wDiv (wVar 4) (wK (.int 8))) (wK (.int 8)))))
    (wSeq (wSetF 7 (wBin wMod (wCall R__law_cell (wCons (wVar 0) (wCons (wK (.int 6)) wNil))) (wCB wLen (wCons (wVar 3) wNil))))
    (wSeq (wSetF 8 (wBin wIx (wLst (wCons (wK (.int 2)) (wCons (wNeg (wK (.int 1))) (wCons (wK (.bl true)) (wCons (wK .non) (wCons (wK (.str (PySem.Str.ofString "0"))) (wCons (wTup (wCons (wK (.int 0)) wNil)) wNil))))))) (wBin wMod (wBin wDiv (wCall R__law_cell (wCons (wVar 0) (wCons (wK (.int 6)) wNil))) (wK (.int 128))) (wK (.int 6)))))
    (wSeq (wSetF 9 (wBin wCatT (wBin wCatT (wSlT (wVar 3) woNone (woSome (wVar 7))) (wTup (wCons (wVar 8) wNil))) (wSlT (wVar 3) (woSome (wBin wAdd (wVar 7) (wK (.int 1)))) woNone)))
    (wSeq (wSetF 10 (wBin wIx (wLst (wCons (wCB wListOf (wCons (wVar 3) wNil)) (wCons (wSlT (wVar 3) (woSome (wK (.int 1))) woNone) (wCons (wBin wCatT (wVar 3) (wTup (wCons (wK (.int 0)) wNil))) (wCons (wTup wNil) (wCons (wK .non) (wCons (wVar 9) (wCons (wVar 9) (wCons (wVar 9) wNil))))))))) (wBin wMod (wBin wDiv (wVar 4) (wK (.int 64))) (wK (.int 8)))))
    (wSeq (wFor (wRng1 (wCons (wK (.int 2)) wNil)) (wgName 11)
    (wSeq (wIfS (wNot (wTest (wCall R__law_refused (wCons (wVar 11) (wCons (wVar 5) (wCons (wVar 2) (wCons (wVar 3) (wCons (wK (.str (PySem.Str.ofString "number"))) (wCons (wVar 5) wNil)))))))))
    (wRet (wK (.bl false)))
    wNext)
    (wSeq (wIfS (wNot (wTest (wCall R__law_refused (wCons (wVar 11) (wCons (wVar 5) (wCons (wVar 6) (wCons (wVar 10) (wCons (wK (.str (PySem.Str.ofString "number"))) (wCons (wVar 5) wNil)))))))))
    (wRet (wK (.bl false)))
    wNext)
    (wIfS (wOr (wNot (wTest (wCall R__law_refused (wCons (wVar 11) (wCons (wVar 1) (wCons (wVar 6) (wCons (wVar 3) (wCons (wK (.str (PySem.Str.ofString "number"))) (wCons (wVar 6) wNil))))))))) (wNot (wTest (wCall R__law_refused (wCons (wVar 11) (wCons (wVar 1) (wCons (wVar 6) (wCons (wVar 10) (wCons (wK (.str (PySem.Str.ofString "number"))) (wCons (wVar 6) wNil))))))))))
    (wRet (wK (.bl false)))
    wNext))))
    (wSeq (wIfS (wNot (wTest (wCall R__law_refused (wCons (wK (.int 0)) (wCons (wVar 1) (wCons (wVar 2) (wCons (wVar 10) (wCons (wK (.str (PySem.Str.ofString "map"))) (wCons (wVar 10) wNil)))))))))
    (wRet (wK (.bl false)))
    wNext)
    (wRet (wCall R__law_refused (wCons (wK (.int 1)) (wCons (wVar 1) (wCons (wBin wMod (wVar 2) (wK (.int 2))) (wCons (wVar 10) (wCons (wK (.str (PySem.Str.ofString "map"))) (wCons (wVar 10) wNil)))))))))))))))))
abbrev N__law_wrong : List Str := ["script", "n", "d", "f", "cell", "number", "deep", "at", "member", "spoilt", "table", "which"]
theorem pow_pos10 (k : Nat) : (0 : Int) < (10 : Int) ^ k := Int.pow_pos (by decide)
theorem v__law_wrong (ds Q) (h : R__law_wrong ds Q) : w__law_wrong (endF Q) (argD N__law_wrong ds) := by
  obtain ⟨ns, n, d, f, rfl, hn, t, d3, hm, h⟩ := h
  have hz := line
  have n1 := t.n1
  have n7 := t.n7
  have hp := t.p
  have hl := t.len
  have h9 := pow_pos10 9
  have h25 := pow_pos10 25
  refine ⟨ns, 5, rfl, hn, by omega, fun cell => ?_⟩
  -- the number
  refine ⟨⟨by decide, by decide⟩, ⟨by decide, by decide, by decide⟩, h9, ⟨by decide, by decide⟩, ⟨by decide, by decide, by decide⟩, h25, by show (1 : Nat) ≤ sizeLine; omega, by show (8 : Nat) ≤ sizeLine; omega, by decide, ?_⟩
  have m9 := Int.emod_nonneg (cell / 64) (Int.ne_of_gt h9)
  have m25 := Int.emod_nonneg (cell / 64) (Int.ne_of_gt h25)
  obtain ⟨nd, e1, bn⟩ := pick8 (P := Bad1 1 7) (a0 := .int 0) (a1 := .int 8) (a2 := .int (-1 - cell / 64 % (10 : Int) ^ ((9 : Int)).toNat)) (a3 := .int (8 + cell / 64 % (10 : Int) ^ ((25 : Int)).toNat)) (a4 := .bl true) (a5 := .non) (a6 := .str (PySem.Str.ofString "3")) (a7 := .tup [.int n]) cell (bad_int (by omega)) (bad_int (by omega)) (bad_int (.inl (by show -1 - cell / 64 % (10 : Int) ^ 9 < 1; omega))) (bad_int (.inr (by show 7 < 8 + cell / 64 % (10 : Int) ^ 25; omega))) (dq_bl true) ⟨rfl, rfl, py_non⟩ ⟨rfl, rfl, py_str _ (by simp only [PyData.canLay0]; decide +kernel)⟩ ⟨rfl, rfl, py_tup (k := 9) (fun x hx => by rw [List.mem_singleton.mp hx]; exact py_int _)⟩
  refine ⟨nd, e1, ?_⟩
  refine ⟨⟨by decide, by decide⟩, ⟨by decide, by decide, by decide⟩, h9, ⟨by decide, by decide⟩, ⟨by decide, by decide, by decide⟩, h25, by show (1 : Nat) ≤ sizeLine; omega, by show (8 : Nat) ≤ sizeLine; omega, ⟨by decide, by decide⟩, by decide, ?_⟩
  obtain ⟨dd, e2, bd⟩ := pick8 (P := Bad1 0 3) (a0 := .int (-1)) (a1 := .int 4) (a2 := .int (-2 - cell / 64 % (10 : Int) ^ ((9 : Int)).toNat)) (a3 := .int (5 + cell / 64 % (10 : Int) ^ ((25 : Int)).toNat)) (a4 := .bl true) (a5 := .non) (a6 := .str (PySem.Str.ofString "1")) (a7 := .tup [.int d]) (cell / 8) (bad_int (by omega)) (bad_int (by omega)) (bad_int (.inl (by show -2 - cell / 64 % (10 : Int) ^ 9 < 0; omega))) (bad_int (.inr (by show 3 < 5 + cell / 64 % (10 : Int) ^ 25; omega))) (dq_bl true) ⟨rfl, rfl, py_non⟩ ⟨rfl, rfl, py_str _ (by simp only [PyData.canLay0]; decide +kernel)⟩ ⟨rfl, rfl, py_tup (k := 9) (fun x hx => by rw [List.mem_singleton.mp hx]; exact py_int _)⟩
  refine ⟨dd, e2, ?_⟩
  -- the place and the member
  refine ⟨ns, 6, rfl, hn, by omega, fun c6 => ?_⟩
  have el : ((f.map D.int).length : Int) = ((2 ^ n : Nat) : Int) := by rw [List.length_map, hl]
  refine ⟨by rw [el]; omega, ?_⟩
  rw [el]
  have a0 : 0 ≤ c6 % ((2 ^ n : Nat) : Int) := Int.emod_nonneg _ (by omega)
  have a1 : c6 % ((2 ^ n : Nat) : Int) < ((2 ^ n : Nat) : Int) := Int.emod_lt_of_pos _ (by omega)
  obtain ⟨a, ha⟩ := toI a0
  rw [ha]
  have ha2 : a < 2 ^ n := by omega
  refine ⟨by show (1 : Nat) ≤ sizeLine; omega, by show (6 : Nat) ≤ sizeLine; omega, ns, 6, rfl, hn, by omega, fun c6b => ⟨⟨by decide, by decide⟩, by decide, ?_⟩⟩
  obtain ⟨mb, e3, bm⟩ := pick6 (P := Mem1) (a0 := .int 2) (a1 := .int (-1)) (a2 := .bl true) (a3 := .non) (a4 := .str (PySem.Str.ofString "0")) (a5 := .tup [.int 0]) (c6b / 128) ⟨rfl, by decide, py_int _⟩ ⟨rfl, by decide, py_int _⟩ ⟨rfl, rfl, py_bl _⟩ ⟨rfl, rfl, py_non⟩ ⟨rfl, rfl, py_str _ (by simp only [PyData.canLay0]; decide +kernel)⟩ ⟨rfl, rfl, py_tup (k := 4) (fun x hx => by rw [List.mem_singleton.mp hx]; exact py_int _)⟩
  refine ⟨mb, e3, ?_⟩
  -- the spoilt table
  have ec1 : cutD (f.map D.int) none (some (a : Int)) = (f.take a).map D.int := by rw [cut_b, List.map_take]
  have ec2 : cutD (f.map D.int) (some ((a : Int) + 1)) none = (f.drop (a + 1)).map D.int := by
    rw [show (a : Int) + 1 = ((a + 1 : Nat) : Int) by omega, cut_a, List.map_drop]
  refine ⟨by show (1 : Nat) ≤ sizeLine; omega, ?_⟩
  show (cutD (f.map D.int) none (some (a : Int))).length + 1 ≤ sizeLine ∧ (cutD (f.map D.int) none (some (a : Int)) ++ [mb]).length + (cutD (f.map D.int) (some ((a : Int) + 1)) none).length ≤ sizeLine ∧ _
  have lt1 : (f.take a).length ≤ 128 := by rw [List.length_take]; omega
  have ld1 : (f.drop (a + 1)).length ≤ 128 := by rw [List.length_drop]; omega
  refine ⟨by rw [ec1, List.length_map]; omega, by rw [ec1, ec2, List.length_append, List.length_map, List.length_map]; show _ + 1 + _ ≤ _; omega, ?_⟩
  generalize hsp : (cutD (f.map D.int) none (some (a : Int)) ++ [mb] ++ cutD (f.map D.int) (some ((a : Int) + 1)) none) = sp
  have bsp : BadT1 n (.tup sp) := by
    rw [ec1, ec2] at hsp
    have hel : ∀ x, x ∈ sp → x = mb ∨ ∃ i, x = .int i := fun x hx => by
      rw [← hsp] at hx
      rcases List.mem_append.mp hx with hx | hx
      · rcases List.mem_append.mp hx with hx | hx
        · obtain ⟨i, _, rfl⟩ := List.mem_map.mp hx
          exact .inr ⟨i, rfl⟩
        · exact .inl (List.mem_singleton.mp hx)
      · obtain ⟨i, _, rfl⟩ := List.mem_map.mp hx
        exact .inr ⟨i, rfl⟩
    refine ⟨⟨rfl, fun ds e x hx => ?_⟩, ?_, py_tup (k := 9) fun x hx => ?_⟩
    · cases e
      rcases hel x hx with rfl | ⟨i, rfl⟩
      · exact bm.px
      · rfl
    · show (decide ((sp.length : Int) = ((2 ^ n : Nat) : Int)) && sp.all fun d => below d 2) = false
      have : (sp.all fun d => below d 2) = false := by
        rw [List.all_eq_false]
        exact ⟨mb, by rw [← hsp]; simp, by rw [bm.b]; decide⟩
      rw [this, Bool.and_false]
    · rcases hel x hx with rfl | ⟨i, rfl⟩
      · obtain ⟨p, p1, p2, p3⟩ := bm.py
        exact ⟨p, p1, p2, by omega⟩
      · exact py_int i
  -- the tables
  have ec3 : cutD (f.map D.int) (some ((1 : Nat) : Int)) none = (f.drop 1).map D.int := by rw [cut_a, List.map_drop]
  refine ⟨by show (1 : Nat) ≤ sizeLine; omega, by rw [List.length_map]; show _ + 1 ≤ _; omega, by show (0 : Nat) ≤ sizeLine; omega, by show (8 : Nat) ≤ sizeLine; omega, ⟨by decide, by decide⟩, by decide, ?_⟩
  obtain ⟨tb, e4, bt⟩ := pick8 (P := BadT1 n) (a0 := rowL f) (a1 := .tup (cutD (f.map D.int) (some ((1 : Nat) : Int)) none)) (a2 := .tup (f.map D.int ++ [.int 0])) (a3 := .tup []) (a4 := .non) (a5 := .tup sp) (a6 := .tup sp) (a7 := .tup sp) (cell / 64)
    ⟨⟨rfl, fun ds e => by cases e⟩, rfl, py_lst (k := 9) py_ints⟩
    (by rw [ec3]; exact badt_len (by rw [List.length_drop]; omega))
    (by
      have := badt_len (n := n) (l := f ++ [0]) (by simp; omega)
      unfold rowD at this
      rw [List.map_append] at this; exact this)
    (badt_len (l := []) (by simp; omega)) ⟨⟨rfl, fun ds e => by cases e⟩, rfl, py_non⟩ bsp bsp bsp
  refine ⟨tb, e4, ?_⟩
  refine ⟨by decide, by decide, ?_⟩
  rw [rng0]
  have wn : Py 10 (.str "number") := py_str _ (by simp only [PyData.canLay0]; decide +kernel)
  have wm : Py 10 (.str "map") := py_str _ (by simp only [PyData.canLay0]; decide +kernel)
  refine ForP.rangeF (fun i ρ => ρ = [some (.fz (scrD ns)), some (.fz (.int n)), some (.fz (.int d)), some (.fz (rowD f)), some (.fz (.int cell)), some (.fz nd), some (.fz dd), some (.fz (.int a)), some (.fz mb), some (.fz (.tup sp)), some (.fz tb), none]) ⟨_, by walk_at "wk", rfl⟩ ?_ ?_
  · rintro i ρ' hi rfl
    have r1 : ∀ (dx fx : D), Refu (i : Int) nd dx fx "number" nd := fun dx fx => .inl ⟨rfl, rfl, bn.px, bn.b⟩
    have r2 : ∀ (fx : D), Refu (i : Int) (.int n) dd fx "number" dd := fun fx => .inr ⟨n, rfl, n1, n7, .inl ⟨rfl, rfl, bd.px, bd.b⟩⟩
    refine ⟨_, _, _, _, _, _, rfl, r1 _ _, wn, bn.py, bn.px, ?_⟩
    refine ift_f rfl ⟨_, _, _, _, _, _, rfl, r1 _ _, wn, bn.py, bn.px, ?_⟩
    refine ift_f rfl ⟨_, _, _, _, _, _, rfl, r2 _, wn, bd.py, bd.px, ?_⟩
    refine ift_f rfl ⟨_, _, _, _, _, _, rfl, r2 _, wn, bd.py, bd.px, ?_⟩
    refine ift_f rfl ?_
    exact ⟨_, by walk_at "wk", rfl⟩
  · rintro ρ' rfl
    have pxt := bt.pe.1
    refine ⟨_, _, _, _, _, _, rfl, .inr ⟨n, rfl, n1, n7, .inr ⟨d, rfl, .inr ⟨.inl ⟨rfl, d3, hm⟩, rfl, rfl, bt.pe, bt.b⟩⟩⟩, wm, bt.py, pxt, ?_⟩
    refine ift_f rfl ?_
    have e : (d : Int) % 2 = ((d % 2 : Nat) : Int) := by omega
    refine ⟨by decide, 1, .int n, .int ((d : Int) % 2), tb, "map", tb, rfl, .inr ⟨n, rfl, n1, n7, .inr ⟨d % 2, by rw [e], .inr ⟨.inr ⟨by decide, by omega⟩, rfl, rfl, bt.pe, bt.b⟩⟩⟩, wm, bt.py, pxt, trivial, h⟩
end L2.DL.Q

/-! # VR84.lean -/
set_option Elab.async false
set_option linter.all false
set_option maxRecDepth 100000
set_option maxHeartbeats 2000000
namespace L2.DL.Q
open PySem PySem.Spec PyProof.Rows M79 M84
local macro_rules | `(tactic| walk_at "wk") => `(tactic| (repeat' first | exact True.intro | exact rfl | apply And.intro))
/-! ## by shifts -/
def R__law_by_shifts : RF := fun ds Q => ∃ (n d : Nat) (f : List Int), ds = [.int n, .int d, rowD f, .int (Cu n (d + 1) (att f))] ∧ Tab n f ∧ d ≤ 3 ∧ n * (d + 2) ≤ 15 ∧ Q (.fz (.bl true))
def w__law_by_shifts : WS :=
    (wSeq (wSetF 4 (wK (.int 0)))
    (wSeq (wSetF 5 (wK (.int 0)))
    (wSeq (wFor (wRng1 (wCons (wCB wLen (wCons (wVar 2) wNil)) wNil)) (wgName 6)
    (wSeq (wSetF 7 (wCB wTupleOf (wCons (wCall R__law_turned (wCons (wVar 2) (wCons (wVar 6) wNil))) wNil)))
    (wSeq (wIfS (wTest (wBin wGt (wVar 1) (wK (.int 0))))
    (wSeq (wSetF 8 (wCallN R_broken_cubes (wCons (wVar 0) (wCons (wBin wSub (wVar 1) (wK (.int 1))) (wCons (wVar 7) wNil)))))
    (wSeq (wIfS (wNot (wTest (wCall (R__law_same 2) (wCons (wVar 8) (wCons (wCall R__law_cubes (wCons (wVar 7) (wCons (wBin wSub (wVar 1) (wK (.int 1))) wNil))) wNil)))))
    (wRet (wK (.bl false)))
    wNext)
    (wSetF 4 (wBin wAdd (wVar 4) (wVar 8)))))
    wNext)
    (wIfS (wTest (wBin wEqI (wCall R__law_ones (wCons (wVar 6) wNil)) (wK (.int 1))))
    (wSetF 5 (wBin wAdd (wVar 5) (wCB wSumTu (wCons (wVar 7) wNil))))
    wNext))))
    (wSeq (wIfS (wTest (wBin wEqI (wVar 1) (wK (.int 0))))
    (wSetF 4 (wBin wMul (wBin wMul (wK (.int 2)) (wCB wSumTu (wCons (wVar 2) wNil))) (wBin wSub (wCB wLen (wCons (wVar 2) wNil)) (wCB wSumTu (wCons (wVar 2) wNil)))))
    wNext)
    (wSeq (wSetF 8 (wCallN R_sway (wCons (wVar 0) (wCons (wVar 2) wNil))))
    (wSeq (wIfS (wOr (wNot (wTest (wCB (wIsiX xoc .tuple) (wCons (wVar 8) (wCons (wK (.ty "tuple")) wNil))))) (wTest (wBin wNeI (wCB wLen (wCons (wVar 8) wNil)) (wVar 0))))
    (wRet (wK (.bl false)))
    wNext)
    (wRet (wAndV (wBin wEqI (wVar 4) (wVar 3)) (wCall (R__law_same 2) (wCons (wCB wSum (wCons (wCB wListOf (wCons (wVar 8) wNil)) wNil)) (wCons (wVar 5) wNil)))))))))))
abbrev N__law_by_shifts : List Str := ["n", "d", "f", "due", "total", "moved", "h", "shifted", "told"]
theorem tab_dl {n h : Nat} {f : List Int} (t : Tab n f) : Tab n (dl h f) := ⟨t.n1, t.n7, by rw [dl_len, t.len], dl_bits _ _⟩
theorem sum_dl {n h : Nat} {f : List Int} (t : Tab n f) : (dl h f).sum = S (2 ^ n) (dr h (att f)) := by
  rw [← S_row (n := n) (tab_dl t).len]
  exact S_congr fun x hx => dl_at (by rw [t.len]; exact hx)
theorem v__law_by_shifts (ds Q) (h : R__law_by_shifts ds Q) : w__law_by_shifts (endF Q) (argD N__law_by_shifts ds) := by
  obtain ⟨n, d, f, rfl, t, d3, hm, h⟩ := h
  have hz := line
  have n1 := t.n1
  have n7 := t.n7
  have hp := t.p
  have hl := t.len
  have hbn : Bn (2 ^ n) (att f) := bn_att t.b _
  generalize hdue : Cu n (d + 1) (att f) = due at h ⊢
  refine ⟨by omega, by rw [List.length_map]; omega, ?_⟩
  rw [rng0, List.length_map, Int.toNat_natCast, hl]
  refine ForP.rangeF (fun k ρ => ρ = [some (.fz (.int n)), some (.fz (.int d)), some (.fz (rowD f)), some (.fz (.int due)), some (.fz (.int (if d = 0 then 0 else S k fun h => Cu n d (dr h (att f))))), some (.fz (.int (S k fun h => if pc h = 1 then S (2 ^ n) (dr h (att f)) else 0))), none, none, none]) ⟨_, by split <;> walk_at "wk", rfl⟩ ?_ ?_
  · rintro k ρ' hk rfl
    refine ⟨n, f, k, .inr rfl, n7, ⟨hl, t.b⟩, hk, ?_⟩
    have tk := tab_dl (h := k) t
    have hsum := sum_dl (h := k) t
    have hk128 : k < 128 := by omega
    have hS1 : (S (k + 1) fun h => if pc h = 1 then S (2 ^ n) (dr h (att f)) else 0) = (S k fun h => if pc h = 1 then S (2 ^ n) (dr h (att f)) else 0) + (if pc k = 1 then S (2 ^ n) (dr k (att f)) else 0) := S_succ _ _
    have hS2 : (S (k + 1) fun h => Cu n d (dr h (att f))) = (S k fun h => Cu n d (dr h (att f))) + Cu n d (dr k (att f)) := S_succ _ _
    by_cases hd : d = 0
    · refine ift_d (fun z => absurd z (by show ¬ (0 : Int) < (d : Int); omega)) fun _ => ?_
      refine ⟨k, rfl, hk128, ?_⟩
      refine ift_d (fun e => ?_) fun e => ?_
      · refine ⟨dl k f, ints_map _, _, ?_, rfl⟩
        rw [if_pos hd, if_pos hd, hS1, if_pos (show pc k = 1 by omega), hsum]
        walk_at "wk"
      · refine ⟨_, ?_, rfl⟩
        rw [if_pos hd, if_pos hd, hS1, if_neg (show ¬ pc k = 1 by omega), Int.add_zero]
        walk_at "wk"
    · refine ift_d (fun _ => ?_) fun z => absurd (show (0 : Int) < d by omega) z
      have e1 : (d : Int) - 1 = ((d - 1 : Nat) : Int) := by omega
      have e2 : d - 1 + 1 = d := by omega
      have hm2 : n * (d - 1 + 2) ≤ 15 := by
        have : n * (d - 1 + 2) ≤ n * (d + 2) := Nat.mul_le_mul_left _ (by omega)
        omega
      have hcu : Cu n (d - 1 + 1) (att (dl k f)) = Cu n d (dr k (att f)) := by rw [e2]; exact cu_dl hl
      refine .inr ⟨n, rfl, n1, n7, .inr ⟨d - 1, by rw [e1], by omega, .inr ⟨hm2, .inr ⟨dl k f, rfl, tk, ?_⟩⟩⟩⟩
      refine ⟨n, d - 1, dl k f, by rw [← e1], n1, n7, ⟨tk.len, tk.b⟩, hm2, ?_⟩
      rw [hcu]
      refine ⟨_, _, rfl, DP.int _, due_int _, ?_⟩
      refine ift_f (by rw [eqb_t rfl]; rfl) ?_
      refine ⟨k, rfl, hk128, ?_⟩
      refine ift_d (fun e => ?_) fun e => ?_
      · refine ⟨dl k f, ints_map _, _, ?_, rfl⟩
        rw [if_neg hd, if_neg hd, hS1, hS2, if_pos (show pc k = 1 by omega), hsum]
        walk_at "wk"
      · refine ⟨_, ?_, rfl⟩
        rw [if_neg hd, if_neg hd, hS1, hS2, if_neg (show ¬ pc k = 1 by omega), Int.add_zero]
        walk_at "wk"
  · rintro ρ' rfl
    have hmv : (S (2 ^ n) fun h => if pc h = 1 then S (2 ^ n) (dr h (att f)) else 0) = ((List.range n).map fun i => S (2 ^ n) (dr (2 ^ (n - 1 - i)) (att f))).sum := ones_sum (fun h => S (2 ^ n) (dr h (att f))) n
    rw [hmv]
    have fin : ∀ tot : Int, tot = due → (wSeq (wSetF 8 (wCallN R_sway (wCons (wVar 0) (wCons (wVar 2) wNil))))
        (wSeq (wIfS (wOr (wNot (wTest (wCB (wIsiX xoc .tuple) (wCons (wVar 8) (wCons (wK (.ty "tuple")) wNil))))) (wTest (wBin wNeI (wCB wLen (wCons (wVar 8) wNil)) (wVar 0))))
        (wRet (wK (.bl false)))
        wNext)
        (wRet (wAndV (wBin wEqI (wVar 4) (wVar 3)) (wCall (R__law_same 2) (wCons (wCB wSum (wCons (wCB wListOf (wCons (wVar 8) wNil)) wNil)) (wCons (wVar 5) wNil))))))) (endF Q) [some (.fz (.int n)), some (.fz (.int d)), some (.fz (rowD f)), some (.fz (.int due)), some (.fz (.int tot)), some (.fz (.int ((List.range n).map fun i => S (2 ^ n) (dr (2 ^ (n - 1 - i)) (att f))).sum)), none, none, none] := by
      rintro tot rfl
      refine ⟨n, f, rfl, t, ?_⟩
      refine ⟨rfl, rfl, ift_f rfl ?_⟩
      refine ift_f (by rw [List.length_map, List.length_map, List.length_range, decide_eq_true rfl]; rfl) ?_
      refine ift_t (decide_eq_true rfl) ?_
      refine ⟨_, ints_map _, _, _, rfl, DP.int _, due_int _, trivial, ?_⟩
      rw [eqb_t rfl]; exact h
    by_cases hd : d = 0
    · refine ift_d (fun _ => ?_) fun z => absurd (show (d : Int) = 0 by omega) z
      refine ⟨f, ints_map _, cmul_l (by decide) (by decide), f, ints_map _, cmul_r ?_ ?_, ?_⟩
      · rw [List.length_map, ← S_row hl]
        have h0 := S_nonneg (N := 2 ^ n) (g := att f) fun x hx => (hbn x hx).1
        have h1 : S (2 ^ n) (att f) ≤ ((2 ^ n : Nat) : Int) := by
          have : 0 ≤ S (2 ^ n) fun x => 1 - att f x := S_nonneg fun x hx => by have := (hbn x hx).2; omega
          rw [S_sub, S_const] at this; omega
        omega
      · rw [List.length_map, ← S_row hl]
        have h0 := S_nonneg (N := 2 ^ n) (g := att f) fun x hx => (hbn x hx).1
        omega
      · refine fin _ ?_
        rw [List.length_map, hl, ← S_row hl, ← hdue, hd, first_cubes hbn]
    · refine ift_d (fun z => absurd z (by show ¬ (d : Int) = 0; omega)) fun _ => ?_
      refine fin _ ?_
      rw [if_neg hd, ← hdue]; rfl
/-! ## signs, as sums -/
theorem W_congr : ∀ (n : Nat) {g h : Nat → Int}, (∀ x, x < 2 ^ n → g x = h x) → ∀ a, a < 2 ^ n → W n g a = W n h a
  | 0, g, h, e, a, _ => e 0 (by decide)
  | n + 1, g, h, e, a, ha => by
    have e1 : ∀ x, x < 2 ^ n → g x = h x := fun x hx => e x (by rw [Nat.pow_succ]; omega)
    have e2 : ∀ x, x < 2 ^ n → hi n g x = hi n h x := fun x hx => e _ (by rw [Nat.pow_succ]; omega)
    show (if a < 2 ^ n then _ else _) = if a < 2 ^ n then _ else _
    by_cases c : a < 2 ^ n
    · rw [if_pos c, if_pos c, W_congr n e1 a c, W_congr n e2 a c]
    · have c2 : a - 2 ^ n < 2 ^ n := by rw [Nat.pow_succ] at ha; omega
      rw [if_neg c, if_neg c, W_congr n e1 _ c2, W_congr n e2 _ c2]
theorem sgs_W {n : Nat} {f : List Int} (t : Tab n f) {a : Nat} (ha : a < 2 ^ n) : (sgs n f).getD a 0 = W n (sn (att f)) a := by
  rw [sgs, its_W (n := n) (by rw [List.length_map, t.len]) ha]
  refine W_congr n (fun x hx => ?_) a ha
  have : x < f.length := by rw [t.len]; exact hx
  show (f.map sg).getD x 0 = 1 - 2 * f.getD x 0
  rw [List.getD_eq_getElem?_getD, List.getElem?_map, List.getElem?_eq_getElem this, List.getD_eq_getElem?_getD, List.getElem?_eq_getElem this]; rfl
theorem fourth_row {n : Nat} {f : List Int} (t : Tab n f) : ((sgs n f).map fun s => s * s * s * s).sum = S (2 ^ n) fun a => W n (sn (att f)) a * W n (sn (att f)) a * W n (sn (att f)) a * W n (sn (att f)) a := by
  unfold S
  congr 1
  have hl : (sgs n f).length = 2 ^ n := by rw [sgs_len, t.len]
  apply List.ext_getElem
  · simp [hl]
  · intro i h1 h2
    rw [List.length_map, hl] at h1
    rw [List.getElem_map, List.getElem_map, List.getElem_range, ← sgs_W t h1, getD_at (by omega)]
end L2.DL.Q

/-! # VS84.lean -/
set_option Elab.async false
set_option linter.all false
set_option maxRecDepth 100000
set_option maxHeartbeats 2000000
namespace L2.DL.Q
open PySem PySem.Spec PyProof.Rows M79 M84
local macro_rules | `(tactic| walk_at "wk") => `(tactic| (repeat' first | exact True.intro | exact rfl | apply And.intro))
def R_law : RF := fun ds Q => ∃ ns : List Int, ds = [.scr (ns.map .int)] ∧ ns.length ≤ 63 ∧ Q (.fz (.bl true))
def w_law : WS :=
    (wSeq (wSetF 1 (wBin wAdd (wK (.int 1)) (wBin wMod (wCall R__law_cell (wCons (wVar 0) (wCons (wK (.int 0)) wNil))) (wK (.int 7)))))
    (wSeq (wSetF 2 (wBin wMod (wBin wDiv (wCall R__law_cell (wCons (wVar 0) (wCons (wK (.int 0)) wNil))) (wK (.int 7))) (wK (.int 4))))
    (wSeq (wSetF 3 (wCB wTupleOf (wCons (wCall R__law_bits (wCons (wVar 0) (wCons (wK (.int 1)) (wCons (wVar 1) wNil)))) wNil)))
    (wSeq (wIfS (wTest (wBin wGt (wBin wMul (wVar 1) (wBin wAdd (wVar 2) (wK (.int 2)))) (wK (.int 15))))
    (wSeq (wIfS (wOr (wNot (wTest (wCall R__law_refused (wCons (wK (.int 0)) (wCons (wVar 1) (wCons (wVar 2) (wCons (wVar 3) (wCons (wK (.str (PySem.Str.ofString "many"))) (wCons (wK (.str (PySem.Str.ofString "cubes"))) wNil))))))))) (wNot (wTest (wCall R__law_refused (wCons (wK (.int 0)) (wCons (wVar 1) (wCons (wVar 2) (wCons (wBin wCatT (wVar 3) (wTup (wCons (wK (.int 0)) wNil))) (wCons (wK (.str (PySem.Str.ofString "many"))) (wCons (wK (.str (PySem.Str.ofString "cubes"))) wNil))))))))))
    (wRet (wK (.bl false)))
    wNext)
    (wSetF 2 (wK (.int 0))))
    wNext)
    (wSeq (wSetF 4 (wCall R__law_cubes (wCons (wVar 3) (wCons (wVar 2) wNil))))
    (wSeq (wSetF 5 (wCall R__law_signs (wCons (wVar 3) (wCons (wVar 1) wNil))))
    (wSeq (wSetF 6 (wCall R__law_degree (wCons (wVar 3) wNil)))
    (wSeq (wSetF 7 (wCallN R_broken_cubes (wCons (wVar 1) (wCons (wVar 2) (wCons (wVar 3) wNil)))))
    (wSeq (wIfS (wOr (wNot (wTest (wCall (R__law_same 2) (wCons (wVar 7) (wCons (wVar 4) wNil))))) (wTest (wBin (wEq true) (wBin wEqI (wVar 7) (wK (.int 0))) (wBin wLe (wVar 6) (wVar 2)))))
    (wRet (wK (.bl false)))
    wNext)
    (wSeq (wIfS (wOr (wNot (wTest (wCall (R__law_same 2) (wCons (wCallN R_bit_degree (wCons (wVar 1) (wCons (wVar 3) wNil))) (wCons (wVar 6) wNil))))) (wNot (wTest (wCall R__law_by_shifts (wCons (wVar 1) (wCons (wVar 2) (wCons (wVar 3) (wCons (wVar 4) wNil))))))))
    (wRet (wK (.bl false)))
    wNext)
    (wSeq (wIfS (wNot (wTest (wCall (R__law_same 2) (wCons (wCallN R_signs (wCons (wVar 1) (wCons (wVar 3) wNil))) (wCons (wCB wTupleOf (wCons (wVar 5) wNil)) wNil)))))
    (wRet (wK (.bl false)))
    wNext)
    (wSeq (wIfS (wTest (wBin wLt (wVar 1) (wK (.int 6))))
    (wSeq (wSetF 8 (wCB wLen (wCons (wVar 3) wNil)))
    (wSeq (wSetF 9 (wCB wSum (wCons (wLc (wItL (wVar 5)) (wgName 10) wYes (wBin wMul (wBin wMul (wBin wMul (wVar 10) (wVar 10)) (wVar 10)) (wVar 10)) [10]) wNil)))
    (wSeq (wSetF 7 (wCallKN 3 R_broken_cubes (wCons (wVar 1) (wCons (wK (.int 1)) (wCons (wVar 3) wNil)))))
    (wIfS (wOr (wNot (wTest (wCall (R__law_same 2) (wCons (wVar 7) (wCons (wCall R__law_cubes (wCons (wVar 3) (wCons (wK (.int 1)) wNil))) wNil))))) (wTest (wBin wNeI (wBin wMul (wBin wMul (wVar 7) (wK (.int 2))) (wVar 8)) (wBin wSub (wBin wMul (wBin wMul (wBin wMul (wVar 8) (wVar 8)) (wVar 8)) (wVar 8)) (wVar 9)))))
    (wRet (wK (.bl false)))
    wNext))))
    wNext)
    (wRet (wAndV (wCall R__law_wrong (wCons (wVar 0) (wCons (wVar 1) (wCons (wVar 2) (wCons (wVar 3) wNil))))) (wCall (R__law_same 2) (wCons (wCallN R_broken_cubes (wCons (wVar 1) (wCons (wVar 2) (wCons (wVar 3) wNil)))) (wCons (wVar 4) wNil)))))))))))))))))
abbrev N_law : List Str := ["script", "n", "d", "f", "due", "row", "degree", "told", "size", "fourth", "s"]
def t_law_4 : WS := (wSeq (wSetF 4 (wCall R__law_cubes (wCons (wVar 3) (wCons (wVar 2) wNil))))
    (wSeq (wSetF 5 (wCall R__law_signs (wCons (wVar 3) (wCons (wVar 1) wNil))))
    (wSeq (wSetF 6 (wCall R__law_degree (wCons (wVar 3) wNil)))
    (wSeq (wSetF 7 (wCallN R_broken_cubes (wCons (wVar 1) (wCons (wVar 2) (wCons (wVar 3) wNil)))))
    (wSeq (wIfS (wOr (wNot (wTest (wCall (R__law_same 2) (wCons (wVar 7) (wCons (wVar 4) wNil))))) (wTest (wBin (wEq true) (wBin wEqI (wVar 7) (wK (.int 0))) (wBin wLe (wVar 6) (wVar 2)))))
    (wRet (wK (.bl false)))
    wNext)
    (wSeq (wIfS (wOr (wNot (wTest (wCall (R__law_same 2) (wCons (wCallN R_bit_degree (wCons (wVar 1) (wCons (wVar 3) wNil))) (wCons (wVar 6) wNil))))) (wNot (wTest (wCall R__law_by_shifts (wCons (wVar 1) (wCons (wVar 2) (wCons (wVar 3) (wCons (wVar 4) wNil))))))))
    (wRet (wK (.bl false)))
    wNext)
    (wSeq (wIfS (wNot (wTest (wCall (R__law_same 2) (wCons (wCallN R_signs (wCons (wVar 1) (wCons (wVar 3) wNil))) (wCons (wCB wTupleOf (wCons (wVar 5) wNil)) wNil)))))
    (wRet (wK (.bl false)))
    wNext)
    (wSeq (wIfS (wTest (wBin wLt (wVar 1) (wK (.int 6))))
    (wSeq (wSetF 8 (wCB wLen (wCons (wVar 3) wNil)))
    (wSeq (wSetF 9 (wCB wSum (wCons (wLc (wItL (wVar 5)) (wgName 10) wYes (wBin wMul (wBin wMul (wBin wMul (wVar 10) (wVar 10)) (wVar 10)) (wVar 10)) [10]) wNil)))
    (wSeq (wSetF 7 (wCallKN 3 R_broken_cubes (wCons (wVar 1) (wCons (wK (.int 1)) (wCons (wVar 3) wNil)))))
    (wIfS (wOr (wNot (wTest (wCall (R__law_same 2) (wCons (wVar 7) (wCons (wCall R__law_cubes (wCons (wVar 3) (wCons (wK (.int 1)) wNil))) wNil))))) (wTest (wBin wNeI (wBin wMul (wBin wMul (wVar 7) (wK (.int 2))) (wVar 8)) (wBin wSub (wBin wMul (wBin wMul (wBin wMul (wVar 8) (wVar 8)) (wVar 8)) (wVar 8)) (wVar 9)))))
    (wRet (wK (.bl false)))
    wNext))))
    wNext)
    (wRet (wAndV (wCall R__law_wrong (wCons (wVar 0) (wCons (wVar 1) (wCons (wVar 2) (wCons (wVar 3) wNil))))) (wCall (R__law_same 2) (wCons (wCallN R_broken_cubes (wCons (wVar 1) (wCons (wVar 2) (wCons (wVar 3) wNil)))) (wCons (wVar 4) wNil)))))))))))))
def t_law_12 : WS := (wRet (wAndV (wCall R__law_wrong (wCons (wVar 0) (wCons (wVar 1) (wCons (wVar 2) (wCons (wVar 3) wNil))))) (wCall (R__law_same 2) (wCons (wCallN R_broken_cubes (wCons (wVar 1) (wCons (wVar 2) (wCons (wVar 3) wNil)))) (wCons (wVar 4) wNil)))))
def envL (ns : List Int) (n d : Nat) (f : List Int) : DEnv := [some (.fz (scrD ns)), some (.fz (.int n)), some (.fz (.int d)), some (.fz (rowD f)), none, none, none, none, none, none, none]
theorem sgs_128 {n : Nat} {f : List Int} (t : Tab n f) {s : Int} (hs : s ∈ sgs n f) : -128 ≤ s ∧ s ≤ 128 := by
  have := t.bd s hs
  have := t.p
  omega
theorem law_end {ns : List Int} {n d : Nat} {f : List Int} {Q : DV → Prop} {x5 x6 x7 x8 x9 x10 : Option DV} (hns : ns.length ≤ 63) (t : Tab n f) (d3 : d ≤ 3) (hm : n * (d + 2) ≤ 15) (h : Q (.fz (.bl true))) :
    t_law_12 (endF Q) [some (.fz (scrD ns)), some (.fz (.int n)), some (.fz (.int d)), some (.fz (rowD f)), some (.fz (.int (Cu n (d + 1) (att f)))), x5, x6, x7, x8, x9, x10] := by
  have n1 := t.n1
  have n7 := t.n7
  refine ⟨ns, n, d, f, rfl, hns, t, d3, hm, ?_⟩
  refine ift_t rfl ?_
  refine .inr ⟨n, rfl, n1, n7, .inr ⟨d, rfl, d3, .inr ⟨hm, .inr ⟨f, rfl, t, ?_⟩⟩⟩⟩
  refine ⟨_, _, rfl, DP.int _, due_int _, trivial, ?_⟩
  rw [eqb_t rfl]; exact h
theorem law_tail {ns : List Int} {n d : Nat} {f : List Int} {Q : DV → Prop} (hns : ns.length ≤ 63) (t : Tab n f) (d3 : d ≤ 3) (hm : n * (d + 2) ≤ 15) (h : Q (.fz (.bl true))) : t_law_4 (endF Q) (envL ns n d f) := by
  have n1 := t.n1
  have n7 := t.n7
  have hz := line
  have hp := t.p
  have hl := t.len
  have hbn : Bn (2 ^ n) (att f) := bn_att t.b _
  have row : ∃ n : Nat, True := ⟨n, trivial⟩
  refine ⟨n, d, f, rfl, n1, n7, ⟨hl, t.b⟩, hm, ?_⟩
  refine ⟨n, f, rfl, t, ?_⟩
  refine ⟨n, f, rfl, t, fun m hdeg => ?_⟩
  refine .inr ⟨n, rfl, n1, n7, .inr ⟨d, rfl, d3, .inr ⟨hm, .inr ⟨f, rfl, t, ?_⟩⟩⟩⟩
  refine ⟨_, _, rfl, DP.int _, due_int _, ?_⟩
  refine ift_f (by rw [eqb_t rfl]; rfl) ?_
  have hz0 := deg_zero (d := d) hbn hdeg
  refine ⟨_, deq_bl _ _, ?_⟩
  refine ift_f ?_ ?_
  · show (!decide (decide (Cu n (d + 1) (att f) = 0) = decide (m ≤ (d : Int)))) = false
    rw [decide_eq_true (decide_eq_decide.mpr hz0)]; rfl
  refine ⟨n, f, rfl, t, fun m' hdeg' => ?_⟩
  rw [isDeg_uni hdeg' hdeg]
  refine ⟨_, _, rfl, DP.int _, due_int _, ?_⟩
  refine ift_f (by rw [eqb_t rfl]; rfl) ?_
  refine ⟨n, d, f, rfl, t, d3, hm, ?_⟩
  refine ift_f rfl ?_
  refine ⟨n, f, rfl, t, ?_⟩
  have hdue := due_row (l := sgs n f) (by rw [sgs_len]; omega) 0
  refine ⟨_, _, rfl, due_dp hdue, hdue, ?_⟩
  refine ift_f (by rw [eqb_t rfl]; rfl) ?_
  refine ift_d (fun h6 => ?_) fun _ => law_end hns t d3 hm h
  have h6 : n < 6 := by
    have : (n : Int) < 6 := h6
    omega
  have hp5 := Nat.pow_le_pow_right (n := 2) (by omega) (show n ≤ 5 by omega)
  have hN0 := Nat.two_pow_pos n
  have hm1 : n * (1 + 2) ≤ 15 := by omega
  show LcP ((sgs n f).map D.int) _ _ _ _ _ _
  have e8 : ((f.map D.int).length : Int) = ((2 ^ n : Nat) : Int) := by rw [List.length_map, hl]
  refine LcP.mapL (ρw := [some (.fz (scrD ns)), some (.fz (.int n)), some (.fz (.int d)), some (.fz (rowD f)), some (.fz (.int (Cu n (d + 1) (att f)))), some (.fz (rowL (sgs n f))), some (.fz (.int m)), some (.fz (.int (Cu n (d + 1) (att f)))), some (.fz (.int ((2 ^ n : Nat) : Int))), none, none]) (fun s => .int (s * s * s * s)) (by rw [sgs_len]; omega) (by rw [e8]; walk_at "wk") (fun s hs T hT => ?_) ?_
  · have := sgs_128 t hs
    exact ⟨cmul_r (by omega) (by omega), cmul_r (by omega) (by omega), cmul_r (by omega) (by omega), hT _ (by walk_at "wk")⟩
  · refine ⟨_, ints_of_map _ _, ?_⟩
    refine ⟨rfl, .inr ⟨n, rfl, n1, n7, .inr ⟨1, rfl, by omega, .inr ⟨hm1, .inr ⟨f, rfl, t, ?_⟩⟩⟩⟩⟩
    refine ⟨n, 1, f, rfl, n1, n7, ⟨hl, t.b⟩, hm1, ?_⟩
    refine ⟨_, _, rfl, DP.int _, due_int _, ?_⟩
    refine ift_f (by rw [eqb_t rfl]; rfl) ?_
    have hf := fourth hbn
    rw [← fourth_row t] at hf
    refine ⟨cmul_r (by decide) (by decide), cmul_r (by omega) (by omega), cmul_r (by omega) (by omega), cmul_r (by omega) (by omega), cmul_r (by omega) (by omega), ?_⟩
    refine ift_f ?_ (law_end hns t d3 hm h)
    show (!decide (Cu n 2 (att f) * 2 * ((2 ^ n : Nat) : Int) = _)) = false
    rw [hf, decide_eq_true rfl]; rfl
theorem v_law (ds Q) (h : R_law ds Q) : w_law (endF Q) (argD N_law ds) := by
  obtain ⟨ns, rfl, hns, h⟩ := h
  refine ⟨ns, 0, rfl, hns, by omega, fun c0 => ⟨by decide, ?_⟩⟩
  refine ⟨ns, 0, rfl, hns, by omega, fun c1 => ⟨⟨by decide, by decide⟩, by decide, ?_⟩⟩
  have a0 : 0 ≤ c0 % 7 := Int.emod_nonneg _ (by decide)
  have a1 : c0 % 7 < 7 := Int.emod_lt_of_pos _ (by decide)
  have b0 : 0 ≤ c1 / 7 % 4 := Int.emod_nonneg _ (by decide)
  have b1 : c1 / 7 % 4 < 4 := Int.emod_lt_of_pos _ (by decide)
  obtain ⟨d, hd⟩ := toI b0
  obtain ⟨n', hn'⟩ := toI a0
  rw [hd, hn']
  have en : (1 : Int) + (n' : Int) = ((n' + 1 : Nat) : Int) := by omega
  rw [en]
  have hn7 : n' + 1 ≤ 7 := by omega
  generalize hnn : n' + 1 = n at hn7 ⊢
  have n1 : 1 ≤ n := by omega
  refine ⟨ns, 1, n, rfl, hns, by omega, n1, hn7, fun f t => ?_⟩
  have ed : (n : Int) * ((d : Int) + 2) = ((n * (d + 2) : Nat) : Int) := by rw [Int.natCast_mul, Int.natCast_add]; rfl
  refine ⟨cmul_l (by omega) (by omega), ?_⟩
  show ift (decide ((n : Int) * ((d : Int) + 2) > 15)) _ _
  rw [ed]
  have hz := line
  have hp := t.p
  refine ift_d (fun hbig => ?_) fun hsm => ?_
  · have hbig : 15 < n * (d + 2) := by
      have : (15 : Int) < ((n * (d + 2) : Nat) : Int) := hbig
      omega
    have wm : Py 10 (.str "many") := py_str _ (by simp only [PyData.canLay0]; decide +kernel)
    have wc : Py 10 (.str "cubes") := py_str _ (by simp only [PyData.canLay0]; decide +kernel)
    have r : ∀ fd : D, Refu 0 (.int n) (.int d) fd "many" (.str (PySem.Str.ofString "cubes")) := fun fd => .inr ⟨n, rfl, n1, hn7, .inr ⟨d, rfl, .inl ⟨rfl, by omega, hbig, rfl, rfl⟩⟩⟩
    refine ⟨_, _, _, _, _, _, rfl, r _, wm, wc, rfl, ?_⟩
    refine ift_f rfl ⟨by show (1 : Nat) ≤ sizeLine; omega, by rw [List.length_map]; show _ + 1 ≤ _; omega, _, _, _, _, _, _, rfl, r _, wm, wc, rfl, ?_⟩
    refine ift_f rfl ?_
    exact law_tail (d := 0) hns t (by omega) (by omega) h
  · exact law_tail hns t (by omega) (by
      have : ¬ (15 : Int) < ((n * (d + 2) : Nat) : Int) := hsm
      omega) h
end L2.DL.Q

/-! # J84.lean -/
set_option Elab.async false
set_option linter.all false
set_option maxRecDepth 100000
set_option maxHeartbeats 4000000
namespace L2.DL.Q
open PySem PySem.Spec PyProof.Rows
def top (i : Nat) : Stmt := PySem.Challenge.pw_nearrealm_k84_whole_cubes_by_differences.main.body.getD i (.Pass ⟨0, 0, 0, 0⟩)
def inCls (st : Stmt) (j : Nat) : Stmt := match st with
  | .ClassDef _ _ _ body _ _ _ _ _ _ _ => body.getD j (.Pass ⟨0, 0, 0, 0⟩)
  | _ => st
abbrev s_i_InvalidNumber : Stmt := inCls (top 4) 0
abbrev s_i_InvalidMap : Stmt := inCls (top 5) 0
abbrev s_i_TooMany : Stmt := inCls (top 6) 0
abbrev s_size_of : Stmt := top 1
abbrev s_packed : Stmt := top 8
abbrev s_digit_mask : Stmt := top 11
abbrev s_Turns_init : Stmt := inCls (top 12) 0
abbrev s_Turns_turned : Stmt := inCls (top 12) 1
abbrev s_Turns_all_turned : Stmt := inCls (top 12) 2
abbrev s_is_integer : Stmt := top 14
abbrev s_is_number : Stmt := top 15
abbrev s_is_below : Stmt := top 16
abbrev s_is_between : Stmt := top 17
abbrev s_row_below : Stmt := top 18
abbrev s_ways_of : Stmt := top 20
abbrev s_check_bits : Stmt := top 23
abbrev s_signs : Stmt := top 24
abbrev s_product_bits : Stmt := top 29
abbrev s_products_of : Stmt := top 30
abbrev s_bit_degree : Stmt := top 31
abbrev s_check_sizes : Stmt := top 32
abbrev s_check_table : Stmt := top 33
abbrev s_stepped : Stmt := top 34
abbrev s_broken_cubes : Stmt := top 35
abbrev s_many_products : Stmt := top 36
abbrev s_near_degree : Stmt := top 39
abbrev s_turn_of : Stmt := top 41
abbrev s_turned_unlike : Stmt := top 43
abbrev s_sway : Stmt := top 44
abbrev s__law_cell : Stmt := top 46
abbrev s__law_digits : Stmt := top 47
abbrev s__law_ones : Stmt := top 48
abbrev s__law_bits : Stmt := top 49
abbrev s__law_signs : Stmt := top 50
abbrev s__law_turned : Stmt := top 51
abbrev s__law_cubes : Stmt := top 52
abbrev s__law_same : Stmt := top 53
abbrev s__law_degree : Stmt := top 54
abbrev s__law_told : Stmt := top 55
abbrev s__law_refused : Stmt := top 56
abbrev s__law_wrong : Stmt := top 57
abbrev s__law_by_shifts : Stmt := top 58
abbrev s_law : Stmt := top 59
structure Ad where
  a_size_of : Addr
  d_size_of : FuncData
  a_packed : Addr
  d_packed : FuncData
  a_digit_mask : Addr
  d_digit_mask : FuncData
  d_Turns_init : FuncData
  d_Turns_turned : FuncData
  d_Turns_all_turned : FuncData
  a_is_integer : Addr
  d_is_integer : FuncData
  a_is_number : Addr
  d_is_number : FuncData
  a_is_below : Addr
  d_is_below : FuncData
  a_is_between : Addr
  d_is_between : FuncData
  a_row_below : Addr
  d_row_below : FuncData
  a_ways_of : Addr
  d_ways_of : FuncData
  a_check_bits : Addr
  d_check_bits : FuncData
  a_signs : Addr
  d_signs : FuncData
  a_product_bits : Addr
  d_product_bits : FuncData
  a_products_of : Addr
  d_products_of : FuncData
  a_bit_degree : Addr
  d_bit_degree : FuncData
  a_check_sizes : Addr
  d_check_sizes : FuncData
  a_check_table : Addr
  d_check_table : FuncData
  a_stepped : Addr
  d_stepped : FuncData
  a_broken_cubes : Addr
  d_broken_cubes : FuncData
  a_many_products : Addr
  d_many_products : FuncData
  a_near_degree : Addr
  d_near_degree : FuncData
  a_turn_of : Addr
  d_turn_of : FuncData
  a_turned_unlike : Addr
  d_turned_unlike : FuncData
  a_sway : Addr
  d_sway : FuncData
  a__law_cell : Addr
  d__law_cell : FuncData
  a__law_digits : Addr
  d__law_digits : FuncData
  a__law_ones : Addr
  d__law_ones : FuncData
  a__law_bits : Addr
  d__law_bits : FuncData
  a__law_signs : Addr
  d__law_signs : FuncData
  a__law_turned : Addr
  d__law_turned : FuncData
  a__law_cubes : Addr
  d__law_cubes : FuncData
  a__law_same : Addr
  d__law_same : FuncData
  a__law_degree : Addr
  d__law_degree : FuncData
  a__law_told : Addr
  d__law_told : FuncData
  a__law_refused : Addr
  d__law_refused : FuncData
  a__law_wrong : Addr
  d__law_wrong : FuncData
  a__law_by_shifts : Addr
  d__law_by_shifts : FuncData
  a_law : Addr
  d_law : FuncData
  d_i_InvalidNumber : FuncData
  d_i_InvalidMap : FuncData
  d_i_TooMany : FuncData
structure Txt (K : PySem.W.Frag) (mg : Str → Option Value) (A : Ad) : Prop where
  gx_NinthError : mg "NinthError" = some (.ref (He.ga K "NinthError"))
  gx_InvalidNumber : mg "InvalidNumber" = some (.ref (He.ga K "InvalidNumber"))
  gx_InvalidMap : mg "InvalidMap" = some (.ref (He.ga K "InvalidMap"))
  gx_TooMany : mg "TooMany" = some (.ref (He.ga K "TooMany"))
  x_InvalidNumber : XCls K "InvalidNumber" ["value"]
  fi_InvalidNumber : Fun K "__init__" "InvalidNumber.__init__" s_i_InvalidNumber (He.ma K (He.ga K "InvalidNumber") "__init__") A.d_i_InvalidNumber
  ni_InvalidNumber : Binds K A.d_i_InvalidNumber ["self", "value"] []
  x_InvalidMap : XCls K "InvalidMap" ["value"]
  fi_InvalidMap : Fun K "__init__" "InvalidMap.__init__" s_i_InvalidMap (He.ma K (He.ga K "InvalidMap") "__init__") A.d_i_InvalidMap
  ni_InvalidMap : Binds K A.d_i_InvalidMap ["self", "value"] []
  x_TooMany : XCls K "TooMany" ["what"]
  fi_TooMany : Fun K "__init__" "TooMany.__init__" s_i_TooMany (He.ma K (He.ga K "TooMany") "__init__") A.d_i_TooMany
  ni_TooMany : Binds K A.d_i_TooMany ["self", "what"] []
  xtC : ∀ C c b, tab3 xtab C c = some b → ExcC K (He.ga K C)
  exm : ∀ C c b, tab3 xtab C c = some b → PySem.W.exmOne K (.ref (He.ga K C)) (.ref (He.ga K c)) = some b
  kit : ∀ C c b, tab3 xtab C c = some b → PySem.W.kitOne K (.ref (He.ga K C)) (.ref (He.ga K c)) = some b
  oc : ∀ C, C ∈ xoc → InsT K C
  cl_Turns : Cls K (He.ga K "Turns")
  gc_Turns : mg "Turns" = some (.ref (He.ga K "Turns"))
  no_Turns_weights : NoAttr K (He.ga K "Turns") "weights"
  no_Turns_masks : NoAttr K (He.ga K "Turns") "masks"
  mt_Turns_turned : Meth K (He.ga K "Turns") "turned" (He.ma K (He.ga K "Turns") "turned")
  mt_Turns_all_turned : Meth K (He.ga K "Turns") "all_turned" (He.ma K (He.ga K "Turns") "all_turned")
  mk_Turns : Mk K (He.ga K "Turns") (He.ma K (He.ga K "Turns") "__init__")
  kb_broken_cubes : KBn K A.d_broken_cubes ["n", "d", "f"] 0 ["n", "d", "f"] (fun _ ws => ws) (fun _ zs => zs)
  b_range : mg "range" = none
  b_len : mg "len" = none
  b_int : mg "int" = none
  b_isinstance : mg "isinstance" = none
  b_bool : mg "bool" = none
  b_tuple : mg "tuple" = none
  b_zip : mg "zip" = none
  b_enumerate : mg "enumerate" = none
  b_list : mg "list" = none
  b_max : mg "max" = none
  b_sum : mg "sum" = none
  b_abs : mg "abs" = none
  b_all : mg "all" = none
  c_MOST_BITS : ∃ t, mg "MOST_BITS" = some (.int 7 t)
  c_MOST_DIGITS : ∃ t, mg "MOST_DIGITS" = some (.int 3 t)
  c_MOST_CUBE_BITS : ∃ t, mg "MOST_CUBE_BITS" = some (.int 15 t)
  c_MOST_PRODUCTS : ∃ t, mg "MOST_PRODUCTS" = some (.int 12 t)
  g_size_of : mg "size_of" = some (.ref A.a_size_of)
  k_size_of : PySem.W.keepIn K (.ref A.a_size_of) = true
  f_size_of : Fun K "size_of" "size_of" s_size_of A.a_size_of A.d_size_of
  n_size_of : Binds K A.d_size_of ["bits"] []
  g_packed : mg "packed" = some (.ref A.a_packed)
  k_packed : PySem.W.keepIn K (.ref A.a_packed) = true
  f_packed : Fun K "packed" "packed" s_packed A.a_packed A.d_packed
  n_packed : Binds K A.d_packed ["f"] []
  g_digit_mask : mg "digit_mask" = some (.ref A.a_digit_mask)
  k_digit_mask : PySem.W.keepIn K (.ref A.a_digit_mask) = true
  f_digit_mask : Fun K "digit_mask" "digit_mask" s_digit_mask A.a_digit_mask A.d_digit_mask
  n_digit_mask : Binds K A.d_digit_mask ["n", "weight"] []
  f_Turns_init : Fun K "__init__" "Turns.__init__" s_Turns_init (He.ma K (He.ga K "Turns") "__init__") A.d_Turns_init
  n_Turns_init : Binds K A.d_Turns_init ["self", "n"] []
  f_Turns_turned : Fun K "turned" "Turns.turned" s_Turns_turned (He.ma K (He.ga K "Turns") "turned") A.d_Turns_turned
  n_Turns_turned : Binds K A.d_Turns_turned ["self", "at", "table"] []
  f_Turns_all_turned : Fun K "all_turned" "Turns.all_turned" s_Turns_all_turned (He.ma K (He.ga K "Turns") "all_turned") A.d_Turns_all_turned
  n_Turns_all_turned : Binds K A.d_Turns_all_turned ["self", "table"] []
  g_is_integer : mg "is_integer" = some (.ref A.a_is_integer)
  k_is_integer : PySem.W.keepIn K (.ref A.a_is_integer) = true
  f_is_integer : Fun K "is_integer" "is_integer" s_is_integer A.a_is_integer A.d_is_integer
  n_is_integer : Binds K A.d_is_integer ["value"] []
  g_is_number : mg "is_number" = some (.ref A.a_is_number)
  k_is_number : PySem.W.keepIn K (.ref A.a_is_number) = true
  f_is_number : Fun K "is_number" "is_number" s_is_number A.a_is_number A.d_is_number
  n_is_number : Binds K A.d_is_number ["value"] []
  g_is_below : mg "is_below" = some (.ref A.a_is_below)
  k_is_below : PySem.W.keepIn K (.ref A.a_is_below) = true
  f_is_below : Fun K "is_below" "is_below" s_is_below A.a_is_below A.d_is_below
  n_is_below : Binds K A.d_is_below ["value", "bound"] []
  g_is_between : mg "is_between" = some (.ref A.a_is_between)
  k_is_between : PySem.W.keepIn K (.ref A.a_is_between) = true
  f_is_between : Fun K "is_between" "is_between" s_is_between A.a_is_between A.d_is_between
  n_is_between : Binds K A.d_is_between ["value", "least", "most"] []
  g_row_below : mg "row_below" = some (.ref A.a_row_below)
  k_row_below : PySem.W.keepIn K (.ref A.a_row_below) = true
  f_row_below : Fun K "row_below" "row_below" s_row_below A.a_row_below A.d_row_below
  n_row_below : Binds K A.d_row_below ["value", "length", "bound"] []
  g_ways_of : mg "ways_of" = some (.ref A.a_ways_of)
  k_ways_of : PySem.W.keepIn K (.ref A.a_ways_of) = true
  f_ways_of : Fun K "ways_of" "ways_of" s_ways_of A.a_ways_of A.d_ways_of
  n_ways_of : Binds K A.d_ways_of ["many"] []
  g_check_bits : mg "check_bits" = some (.ref A.a_check_bits)
  k_check_bits : PySem.W.keepIn K (.ref A.a_check_bits) = true
  f_check_bits : Fun K "check_bits" "check_bits" s_check_bits A.a_check_bits A.d_check_bits
  n_check_bits : Binds K A.d_check_bits ["n", "f"] []
  g_signs : mg "signs" = some (.ref A.a_signs)
  k_signs : PySem.W.keepIn K (.ref A.a_signs) = true
  f_signs : Fun K "signs" "signs" s_signs A.a_signs A.d_signs
  n_signs : Binds K A.d_signs ["n", "f"] []
  g_product_bits : mg "product_bits" = some (.ref A.a_product_bits)
  k_product_bits : PySem.W.keepIn K (.ref A.a_product_bits) = true
  f_product_bits : Fun K "product_bits" "product_bits" s_product_bits A.a_product_bits A.d_product_bits
  n_product_bits : Binds K A.d_product_bits ["n", "f"] []
  g_products_of : mg "products_of" = some (.ref A.a_products_of)
  k_products_of : PySem.W.keepIn K (.ref A.a_products_of) = true
  f_products_of : Fun K "products_of" "products_of" s_products_of A.a_products_of A.d_products_of
  n_products_of : Binds K A.d_products_of ["n", "f"] []
  g_bit_degree : mg "bit_degree" = some (.ref A.a_bit_degree)
  k_bit_degree : PySem.W.keepIn K (.ref A.a_bit_degree) = true
  f_bit_degree : Fun K "bit_degree" "bit_degree" s_bit_degree A.a_bit_degree A.d_bit_degree
  n_bit_degree : Binds K A.d_bit_degree ["n", "f"] []
  g_check_sizes : mg "check_sizes" = some (.ref A.a_check_sizes)
  k_check_sizes : PySem.W.keepIn K (.ref A.a_check_sizes) = true
  f_check_sizes : Fun K "check_sizes" "check_sizes" s_check_sizes A.a_check_sizes A.d_check_sizes
  n_check_sizes : Binds K A.d_check_sizes ["n", "d"] []
  g_check_table : mg "check_table" = some (.ref A.a_check_table)
  k_check_table : PySem.W.keepIn K (.ref A.a_check_table) = true
  f_check_table : Fun K "check_table" "check_table" s_check_table A.a_check_table A.d_check_table
  n_check_table : Binds K A.d_check_table ["n", "f"] []
  g_stepped : mg "stepped" = some (.ref A.a_stepped)
  k_stepped : PySem.W.keepIn K (.ref A.a_stepped) = true
  f_stepped : Fun K "stepped" "stepped" s_stepped A.a_stepped A.d_stepped
  n_stepped : Binds K A.d_stepped ["turns", "ways"] []
  g_broken_cubes : mg "broken_cubes" = some (.ref A.a_broken_cubes)
  k_broken_cubes : PySem.W.keepIn K (.ref A.a_broken_cubes) = true
  f_broken_cubes : Fun K "broken_cubes" "broken_cubes" s_broken_cubes A.a_broken_cubes A.d_broken_cubes
  n_broken_cubes : Binds K A.d_broken_cubes ["n", "d", "f"] []
  g_many_products : mg "many_products" = some (.ref A.a_many_products)
  k_many_products : PySem.W.keepIn K (.ref A.a_many_products) = true
  f_many_products : Fun K "many_products" "many_products" s_many_products A.a_many_products A.d_many_products
  n_many_products : Binds K A.d_many_products ["n", "d"] []
  g_near_degree : mg "near_degree" = some (.ref A.a_near_degree)
  k_near_degree : PySem.W.keepIn K (.ref A.a_near_degree) = true
  f_near_degree : Fun K "near_degree" "near_degree" s_near_degree A.a_near_degree A.d_near_degree
  n_near_degree : Binds K A.d_near_degree ["n", "d", "f"] []
  g_turn_of : mg "turn_of" = some (.ref A.a_turn_of)
  k_turn_of : PySem.W.keepIn K (.ref A.a_turn_of) = true
  f_turn_of : Fun K "turn_of" "turn_of" s_turn_of A.a_turn_of A.d_turn_of
  n_turn_of : Binds K A.d_turn_of ["n", "i"] []
  g_turned_unlike : mg "turned_unlike" = some (.ref A.a_turned_unlike)
  k_turned_unlike : PySem.W.keepIn K (.ref A.a_turned_unlike) = true
  f_turned_unlike : Fun K "turned_unlike" "turned_unlike" s_turned_unlike A.a_turned_unlike A.d_turned_unlike
  n_turned_unlike : Binds K A.d_turned_unlike ["n", "f", "i"] []
  g_sway : mg "sway" = some (.ref A.a_sway)
  k_sway : PySem.W.keepIn K (.ref A.a_sway) = true
  f_sway : Fun K "sway" "sway" s_sway A.a_sway A.d_sway
  n_sway : Binds K A.d_sway ["n", "f"] []
  g__law_cell : mg "_law_cell" = some (.ref A.a__law_cell)
  k__law_cell : PySem.W.keepIn K (.ref A.a__law_cell) = true
  f__law_cell : Fun K "_law_cell" "_law_cell" s__law_cell A.a__law_cell A.d__law_cell
  n__law_cell : Binds K A.d__law_cell ["script", "k"] []
  g__law_digits : mg "_law_digits" = some (.ref A.a__law_digits)
  k__law_digits : PySem.W.keepIn K (.ref A.a__law_digits) = true
  f__law_digits : Fun K "_law_digits" "_law_digits" s__law_digits A.a__law_digits A.d__law_digits
  n__law_digits : Binds K A.d__law_digits ["cell", "count", "base"] []
  g__law_ones : mg "_law_ones" = some (.ref A.a__law_ones)
  k__law_ones : PySem.W.keepIn K (.ref A.a__law_ones) = true
  f__law_ones : Fun K "_law_ones" "_law_ones" s__law_ones A.a__law_ones A.d__law_ones
  n__law_ones : Binds K A.d__law_ones ["x"] []
  g__law_bits : mg "_law_bits" = some (.ref A.a__law_bits)
  k__law_bits : PySem.W.keepIn K (.ref A.a__law_bits) = true
  f__law_bits : Fun K "_law_bits" "_law_bits" s__law_bits A.a__law_bits A.d__law_bits
  n__law_bits : Binds K A.d__law_bits ["script", "at", "n"] []
  g__law_signs : mg "_law_signs" = some (.ref A.a__law_signs)
  k__law_signs : PySem.W.keepIn K (.ref A.a__law_signs) = true
  f__law_signs : Fun K "_law_signs" "_law_signs" s__law_signs A.a__law_signs A.d__law_signs
  n__law_signs : Binds K A.d__law_signs ["f", "n"] []
  g__law_turned : mg "_law_turned" = some (.ref A.a__law_turned)
  k__law_turned : PySem.W.keepIn K (.ref A.a__law_turned) = true
  f__law_turned : Fun K "_law_turned" "_law_turned" s__law_turned A.a__law_turned A.d__law_turned
  n__law_turned : Binds K A.d__law_turned ["f", "h"] []
  g__law_cubes : mg "_law_cubes" = some (.ref A.a__law_cubes)
  k__law_cubes : PySem.W.keepIn K (.ref A.a__law_cubes) = true
  f__law_cubes : Fun K "_law_cubes" "_law_cubes" s__law_cubes A.a__law_cubes A.d__law_cubes
  n__law_cubes : Binds K A.d__law_cubes ["f", "d"] []
  g__law_same : mg "_law_same" = some (.ref A.a__law_same)
  k__law_same : PySem.W.keepIn K (.ref A.a__law_same) = true
  f__law_same : Fun K "_law_same" "_law_same" s__law_same A.a__law_same A.d__law_same
  n__law_same : Binds K A.d__law_same ["actual", "due"] []
  g__law_degree : mg "_law_degree" = some (.ref A.a__law_degree)
  k__law_degree : PySem.W.keepIn K (.ref A.a__law_degree) = true
  f__law_degree : Fun K "_law_degree" "_law_degree" s__law_degree A.a__law_degree A.d__law_degree
  n__law_degree : Binds K A.d__law_degree ["f"] []
  g__law_told : mg "_law_told" = some (.ref A.a__law_told)
  k__law_told : PySem.W.keepIn K (.ref A.a__law_told) = true
  f__law_told : Fun K "_law_told" "_law_told" s__law_told A.a__law_told A.d__law_told
  n__law_told : Binds K A.d__law_told ["which", "n", "d", "f"] []
  g__law_refused : mg "_law_refused" = some (.ref A.a__law_refused)
  k__law_refused : PySem.W.keepIn K (.ref A.a__law_refused) = true
  f__law_refused : Fun K "_law_refused" "_law_refused" s__law_refused A.a__law_refused A.d__law_refused
  n__law_refused : Binds K A.d__law_refused ["which", "n", "d", "f", "word", "value"] []
  g__law_wrong : mg "_law_wrong" = some (.ref A.a__law_wrong)
  k__law_wrong : PySem.W.keepIn K (.ref A.a__law_wrong) = true
  f__law_wrong : Fun K "_law_wrong" "_law_wrong" s__law_wrong A.a__law_wrong A.d__law_wrong
  n__law_wrong : Binds K A.d__law_wrong ["script", "n", "d", "f"] []
  g__law_by_shifts : mg "_law_by_shifts" = some (.ref A.a__law_by_shifts)
  k__law_by_shifts : PySem.W.keepIn K (.ref A.a__law_by_shifts) = true
  f__law_by_shifts : Fun K "_law_by_shifts" "_law_by_shifts" s__law_by_shifts A.a__law_by_shifts A.d__law_by_shifts
  n__law_by_shifts : Binds K A.d__law_by_shifts ["n", "d", "f", "due"] []
  g_law : mg "law" = some (.ref A.a_law)
  k_law : PySem.W.keepIn K (.ref A.a_law) = true
  f_law : Fun K "law" "law" s_law A.a_law A.d_law
  n_law : Binds K A.d_law ["script"] []
theorem sc_size_of : FnScope N_size_of ["bits"] (defScope s_size_of) := ⟨rfl, rfl, rfl, by decide +kernel, rfl, by decide +kernel, by decide +kernel⟩
theorem j_size_of {P : Program} {w : World} {K : PySem.W.Frag} {mg : Str → Option Value} {base : Heap} {A : Ad} (T : Txt K mg A) {f : Addr} {cdv : Value} {Ar : Around} {outer : List Env} {s : Shared} {H : Hp} {E : XK} (hr : Room 0 (Ar.deeper (envOfC "size_of" (defScope s_size_of) s.heap.objs.size f cdv))) :
    JSs (cxOf CX0 P w K mg base N_size_of "size_of" (defScope s_size_of) f cdv Ar outer s H E).nox NW (defBody s_size_of) w_size_of := by
  have nd : N_size_of.Nodup := sc_size_of.nd
  have hp := @PassesOwn.never
  exact (jss_cons (js_setF (i := 1) nd rfl (Or.inl rfl) je_int)
    (jss_cons (js_setF (i := 2) nd rfl (Or.inl rfl) (je_var (pv 0)))
    (jss_cons (js_while hp (jt_cmp op_gt br_gt (je_var (pv 2)) je_int (nomark _))
    (jss_cons (js_aug (i := 2) nd rfl (Or.inl rfl) iop_and br_band (je_op op_sub br_sub (je_var (pv 2)) je_int))
    (jss_one (js_aug (i := 1) nd rfl (Or.inl rfl) iop_add br_add je_int))))
    (jss_one (js_ret (je_var (pv 1)))))))
theorem sc_packed : FnScope N_packed ["f"] (defScope s_packed) := ⟨rfl, rfl, rfl, by decide +kernel, rfl, by decide +kernel, by decide +kernel⟩
theorem j_packed {P : Program} {w : World} {K : PySem.W.Frag} {mg : Str → Option Value} {base : Heap} {A : Ad} (T : Txt K mg A) {f : Addr} {cdv : Value} {Ar : Around} {outer : List Env} {s : Shared} {H : Hp} {E : XK} (hr : Room 0 (Ar.deeper (envOfC "packed" (defScope s_packed) s.heap.objs.size f cdv))) :
    JSs (cxOf CX0 P w K mg base N_packed "packed" (defScope s_packed) f cdv Ar outer s H E).nox NW (defBody s_packed) w_packed := by
  have nd : N_packed.Nodup := sc_packed.nd
  have hp := @PassesOwn.never
  exact (jss_cons (js_setF (i := 1) nd rfl (Or.inl rfl) je_int)
    (jss_cons (js_for (vs := [2]) hp rfl (ji_either (je_var (pv 0))) (jg_name (i := 2) (by decide) (pg_name (i := 2) nd rfl (by first | exact Or.inl rfl | exact Or.inr rfl)))
    (jss_one (js_setF (i := 1) nd rfl (Or.inl rfl) (je_op op_add br_add (je_op op_mul br_mul je_int (je_var (pv 1))) (je_var (pv 2))))))
    (jss_one (js_ret (je_var (pv 1))))))
theorem sc_digit_mask : FnScope N_digit_mask ["n", "weight"] (defScope s_digit_mask) := ⟨rfl, rfl, rfl, by decide +kernel, rfl, by decide +kernel, by decide +kernel⟩
theorem j_digit_mask {P : Program} {w : World} {K : PySem.W.Frag} {mg : Str → Option Value} {base : Heap} {A : Ad} (T : Txt K mg A) (G_packed : FnOk P w K mg base CX0 1 A.a_packed A.d_packed ["f"] (spF K R_packed)) {f : Addr} {cdv : Value} {Ar : Around} {outer : List Env} {s : Shared} {H : Hp} {E : XK} (hr : Room 1 (Ar.deeper (envOfC "digit_mask" (defScope s_digit_mask) s.heap.objs.size f cdv))) :
    JSs (cxOf CX0 P w K mg base N_digit_mask "digit_mask" (defScope s_digit_mask) f cdv Ar outer s H E).nox NW (defBody s_digit_mask) w_digit_mask := by
  have nd : N_digit_mask.Nodup := sc_digit_mask.nd
  have hr1 : Room 1 _ := hr.mono (by decide)
  exact (jss_one (js_ret (je_call (G_packed) hr1 (by rfl) T.g_packed T.k_packed T.n_packed (ja_cons (je_lc (own := [("place", 2)]) rfl nd (ji_range1 (by rfl) T.b_range (ja_cons (je_op op_shl br_shl je_int (je_var (pv 0))) ja_nil)) (blkOk_by (own := [("place", 2)]) (N := N_digit_mask) (sc := defScope s_digit_mask) (by decide +kernel)) (fun _ _ _ _ _ => (jg_name (i := 2) (by decide) (pg_name (i := 2) nd rfl (by first | exact Or.inl rfl | exact Or.inr rfl)))) (fun _ _ _ _ _ => jts_nil) (fun _ _ _ _ _ => (je_if (jt_int (je_op op_and br_band (je_var (pv 2)) (je_var (pv 1)))) je_int je_int))) ja_nil))))
theorem sc_Turns_init : FnScope N_Turns_init ["self", "n"] (defScope s_Turns_init) := ⟨rfl, rfl, rfl, by decide +kernel, rfl, by decide +kernel, by decide +kernel⟩
theorem j_Turns_init {P : Program} {w : World} {K : PySem.W.Frag} {mg : Str → Option Value} {base : Heap} {A : Ad} (T : Txt K mg A) (G_digit_mask : FnOk P w K mg base CX0 2 A.a_digit_mask A.d_digit_mask ["n", "weight"] (spF K R_digit_mask)) {f : Addr} {cdv : Value} {Ar : Around} {outer : List Env} {s : Shared} {H : Hp} {E : XK} (hr : Room 2 (Ar.deeper (envOfC "Turns.__init__" (defScope s_Turns_init) s.heap.objs.size f cdv))) :
    JSs (cxOf CX0 P w K mg base N_Turns_init "Turns.__init__" (defScope s_Turns_init) f cdv Ar outer s H E).nox NW (defBody s_Turns_init) w_Turns_init := by
  have nd : N_Turns_init.Nodup := sc_Turns_init.nd
  have hr2 : Room 2 _ := hr.mono (by decide)
  exact (jss_cons (js_fldS T.cl_Turns T.no_Turns_weights (pv 0) (je_lc (own := [("i", 2)]) rfl nd (ji_range1 (by rfl) T.b_range (ja_cons (je_var (pv 1)) ja_nil)) (blkOk_by (own := [("i", 2)]) (N := N_Turns_init) (sc := defScope s_Turns_init) (by decide +kernel)) (fun _ _ _ _ _ => (jg_name (i := 2) (by decide) (pg_name (i := 2) nd rfl (by first | exact Or.inl rfl | exact Or.inr rfl)))) (fun _ _ _ _ _ => jts_nil) (fun _ _ _ _ _ => (je_op op_shl br_shl je_int (je_var (pv 2))))))
    (jss_one (js_fldS T.cl_Turns T.no_Turns_masks (pv 0) (je_lc (own := [("weight", 3)]) rfl nd (ji_list (je_fldM T.cl_Turns T.no_Turns_weights (pv 0))) (blkOk_by (own := [("weight", 3)]) (N := N_Turns_init) (sc := defScope s_Turns_init) (by decide +kernel)) (fun _ _ _ _ _ => (jg_name (i := 3) (by decide) (pg_name (i := 3) nd rfl (by first | exact Or.inl rfl | exact Or.inr rfl)))) (fun _ _ _ _ _ => jts_nil) (fun _ _ _ _ _ => (je_call (G_digit_mask) hr2 (by rfl) T.g_digit_mask T.k_digit_mask T.n_digit_mask (ja_cons (je_var (pv 1)) (ja_cons (je_var (pv 3)) ja_nil))))))))
theorem sc_Turns_turned : FnScope N_Turns_turned ["self", "at", "table"] (defScope s_Turns_turned) := ⟨rfl, rfl, rfl, by decide +kernel, rfl, by decide +kernel, by decide +kernel⟩
theorem j_Turns_turned {P : Program} {w : World} {K : PySem.W.Frag} {mg : Str → Option Value} {base : Heap} {A : Ad} (T : Txt K mg A) {f : Addr} {cdv : Value} {Ar : Around} {outer : List Env} {s : Shared} {H : Hp} {E : XK} (hr : Room 0 (Ar.deeper (envOfC "Turns.turned" (defScope s_Turns_turned) s.heap.objs.size f cdv))) :
    JSs (cxOf CX0 P w K mg base N_Turns_turned "Turns.turned" (defScope s_Turns_turned) f cdv Ar outer s H E).nox NW (defBody s_Turns_turned) w_Turns_turned := by
  have nd : N_Turns_turned.Nodup := sc_Turns_turned.nd
  exact (jss_cons (js_setF (i := 3) nd rfl (Or.inl rfl) (je_ix ix_seq br_ix (je_fld T.cl_Turns T.no_Turns_masks (je_var (pv 0))) (je_var (pv 1)) (fun _ _ => rfl)))
    (jss_cons (js_setF (i := 4) nd rfl (Or.inl rfl) (je_ix ix_seq br_ix (je_fld T.cl_Turns T.no_Turns_weights (je_var (pv 0))) (je_var (pv 1)) (fun _ _ => rfl)))
    (jss_one (js_ret (je_op op_or br_bor2 (je_op op_shlW br_shlW (je_op op_and br_band (je_var (pv 2)) (je_var (pv 3))) (je_var (pv 4))) (je_op op_and br_band (je_op op_shr br_shr (je_var (pv 2)) (je_var (pv 4))) (je_var (pv 3))))))))
theorem sc_Turns_all_turned : FnScope N_Turns_all_turned ["self", "table"] (defScope s_Turns_all_turned) := ⟨rfl, rfl, rfl, by decide +kernel, rfl, by decide +kernel, by decide +kernel⟩
theorem j_Turns_all_turned {P : Program} {w : World} {K : PySem.W.Frag} {mg : Str → Option Value} {base : Heap} {A : Ad} (T : Txt K mg A) (G_Turns_turned : FnOk P w K mg base CX0 1 (He.ma K (He.ga K "Turns") "turned") A.d_Turns_turned ["self", "at", "table"] (spF K R_Turns_turned)) {f : Addr} {cdv : Value} {Ar : Around} {outer : List Env} {s : Shared} {H : Hp} {E : XK} (hr : Room 1 (Ar.deeper (envOfC "Turns.all_turned" (defScope s_Turns_all_turned) s.heap.objs.size f cdv))) :
    JSs (cxOf CX0 P w K mg base N_Turns_all_turned "Turns.all_turned" (defScope s_Turns_all_turned) f cdv Ar outer s H E).nox NW (defBody s_Turns_all_turned) w_Turns_all_turned := by
  have nd : N_Turns_all_turned.Nodup := sc_Turns_all_turned.nd
  have hr1 : Room 1 _ := hr.mono (by decide)
  have hp := @PassesOwn.never
  exact (jss_cons (js_setF (i := 2) nd rfl (Or.inl rfl) (je_lst (ja_cons (je_var (pv 1)) ja_nil)))
    (jss_cons (js_for (vs := [3]) hp rfl (ji_range1 (by rfl) T.b_range (ja_cons (je_callB call_len cr_len (by rfl) T.b_len (by decide +kernel) (ja_cons (je_fld T.cl_Turns T.no_Turns_weights (je_var (pv 0))) ja_nil)) ja_nil)) (jg_name (i := 3) (by decide) (pg_name (i := 3) nd rfl (by first | exact Or.inl rfl | exact Or.inr rfl)))
    (jss_one (js_setF (i := 2) nd rfl (Or.inl rfl) (je_op op_cat br_catL (je_var (pv 2)) (je_lc (own := [("one", 4)]) rfl nd (ji_list (je_var (pv 2))) (blkOk_by (own := [("one", 4)]) (N := N_Turns_all_turned) (sc := defScope s_Turns_all_turned) (by decide +kernel)) (fun _ _ _ _ _ => (jg_name (i := 4) (by decide) (pg_name (i := 4) nd rfl (by first | exact Or.inl rfl | exact Or.inr rfl)))) (fun _ _ _ _ _ => jts_nil) (fun _ _ _ _ _ => (je_meth T.cl_Turns T.mt_Turns_turned G_Turns_turned hr1 T.n_Turns_turned (je_var (pv 0)) (ja_cons (je_var (pv 3)) (ja_cons (je_var (pv 4)) ja_nil)))))))))
    (jss_one (js_ret (je_var (pv 2))))))
theorem sc_is_integer : FnScope N_is_integer ["value"] (defScope s_is_integer) := ⟨rfl, rfl, rfl, by decide +kernel, rfl, by decide +kernel, by decide +kernel⟩
theorem j_is_integer {P : Program} {w : World} {K : PySem.W.Frag} {mg : Str → Option Value} {base : Heap} {A : Ad} (T : Txt K mg A) {f : Addr} {cdv : Value} {Ar : Around} {outer : List Env} {s : Shared} {H : Hp} {E : XK} (hr : Room 0 (Ar.deeper (envOfC "is_integer" (defScope s_is_integer) s.heap.objs.size f cdv))) :
    JSs (cxOf CX0 P w K mg base N_is_integer "is_integer" (defScope s_is_integer) f cdv Ar outer s H E).nox NW (defBody s_is_integer) w_is_integer := by
  have nd : N_is_integer.Nodup := sc_is_integer.nd
  exact (jss_one (js_ret (je_and (je_callB call_isi (cr_isiX T.oc) (by rfl) T.b_isinstance (by decide +kernel) (ja_cons (je_var (pv 0)) (ja_cons (je_ty (by rfl) T.b_int (by decide +kernel)) ja_nil))) (je_one (je_not (je_callB call_isi (cr_isiX T.oc) (by rfl) T.b_isinstance (by decide +kernel) (ja_cons (je_var (pv 0)) (ja_cons (je_ty (by rfl) T.b_bool (by decide +kernel)) ja_nil))))))))
theorem sc_is_number : FnScope N_is_number ["value"] (defScope s_is_number) := ⟨rfl, rfl, rfl, by decide +kernel, rfl, by decide +kernel, by decide +kernel⟩
theorem j_is_number {P : Program} {w : World} {K : PySem.W.Frag} {mg : Str → Option Value} {base : Heap} {A : Ad} (T : Txt K mg A) (G_is_integer : FnOk P w K mg base CX0 1 A.a_is_integer A.d_is_integer ["value"] (spF K R_is_integer)) {f : Addr} {cdv : Value} {Ar : Around} {outer : List Env} {s : Shared} {H : Hp} {E : XK} (hr : Room 1 (Ar.deeper (envOfC "is_number" (defScope s_is_number) s.heap.objs.size f cdv))) :
    JSs (cxOf CX0 P w K mg base N_is_number "is_number" (defScope s_is_number) f cdv Ar outer s H E).nox NW (defBody s_is_number) w_is_number := by
  have nd : N_is_number.Nodup := sc_is_number.nd
  have hr1 : Room 1 _ := hr.mono (by decide)
  exact (jss_one (js_ret (je_and (je_call (G_is_integer) hr1 (by rfl) T.g_is_integer T.k_is_integer T.n_is_integer (ja_cons (je_var (pv 0)) ja_nil)) (je_one (je_cmp op_ge br_ge (je_var (pv 0)) je_int (nomark _))))))
theorem sc_is_below : FnScope N_is_below ["value", "bound"] (defScope s_is_below) := ⟨rfl, rfl, rfl, by decide +kernel, rfl, by decide +kernel, by decide +kernel⟩
theorem j_is_below {P : Program} {w : World} {K : PySem.W.Frag} {mg : Str → Option Value} {base : Heap} {A : Ad} (T : Txt K mg A) (G_is_integer : FnOk P w K mg base CX0 1 A.a_is_integer A.d_is_integer ["value"] (spF K R_is_integer)) {f : Addr} {cdv : Value} {Ar : Around} {outer : List Env} {s : Shared} {H : Hp} {E : XK} (hr : Room 1 (Ar.deeper (envOfC "is_below" (defScope s_is_below) s.heap.objs.size f cdv))) :
    JSs (cxOf CX0 P w K mg base N_is_below "is_below" (defScope s_is_below) f cdv Ar outer s H E).nox NW (defBody s_is_below) w_is_below := by
  have nd : N_is_below.Nodup := sc_is_below.nd
  have hr1 : Room 1 _ := hr.mono (by decide)
  exact (jss_one (js_ret (je_and (je_call (G_is_integer) hr1 (by rfl) T.g_is_integer T.k_is_integer T.n_is_integer (ja_cons (je_var (pv 0)) ja_nil)) (je_one (je_chain op_le op_lt br_le br_lt je_int (je_var (pv 0)) (je_var (pv 1)))))))
theorem sc_is_between : FnScope N_is_between ["value", "least", "most"] (defScope s_is_between) := ⟨rfl, rfl, rfl, by decide +kernel, rfl, by decide +kernel, by decide +kernel⟩
theorem j_is_between {P : Program} {w : World} {K : PySem.W.Frag} {mg : Str → Option Value} {base : Heap} {A : Ad} (T : Txt K mg A) (G_is_integer : FnOk P w K mg base CX0 1 A.a_is_integer A.d_is_integer ["value"] (spF K R_is_integer)) {f : Addr} {cdv : Value} {Ar : Around} {outer : List Env} {s : Shared} {H : Hp} {E : XK} (hr : Room 1 (Ar.deeper (envOfC "is_between" (defScope s_is_between) s.heap.objs.size f cdv))) :
    JSs (cxOf CX0 P w K mg base N_is_between "is_between" (defScope s_is_between) f cdv Ar outer s H E).nox NW (defBody s_is_between) w_is_between := by
  have nd : N_is_between.Nodup := sc_is_between.nd
  have hr1 : Room 1 _ := hr.mono (by decide)
  exact (jss_one (js_ret (je_and (je_call (G_is_integer) hr1 (by rfl) T.g_is_integer T.k_is_integer T.n_is_integer (ja_cons (je_var (pv 0)) ja_nil)) (je_one (je_chain op_le op_le br_le br_le (je_var (pv 1)) (je_var (pv 0)) (je_var (pv 2)))))))
theorem sc_row_below : FnScope N_row_below ["value", "length", "bound"] (defScope s_row_below) := ⟨rfl, rfl, rfl, by decide +kernel, rfl, by decide +kernel, by decide +kernel⟩
theorem j_row_below {P : Program} {w : World} {K : PySem.W.Frag} {mg : Str → Option Value} {base : Heap} {A : Ad} (T : Txt K mg A) (G_is_below : FnOk P w K mg base CX0 2 A.a_is_below A.d_is_below ["value", "bound"] (spF K R_is_below)) {f : Addr} {cdv : Value} {Ar : Around} {outer : List Env} {s : Shared} {H : Hp} {E : XK} (hr : Room 2 (Ar.deeper (envOfC "row_below" (defScope s_row_below) s.heap.objs.size f cdv))) :
    JSs (cxOf CX0 P w K mg base N_row_below "row_below" (defScope s_row_below) f cdv Ar outer s H E).nox NW (defBody s_row_below) w_row_below := by
  have nd : N_row_below.Nodup := sc_row_below.nd
  have hr2 : Room 2 _ := hr.mono (by decide)
  have hp := @PassesOwn.never
  exact (jss_cons (js_if (jt_w (jw_or (jt_not (jt_val (je_callB call_isi (cr_isiX T.oc) (by rfl) T.b_isinstance (by decide +kernel) (ja_cons (je_var (pv 0)) (ja_cons (je_ty (by rfl) T.b_tuple (by decide +kernel)) ja_nil))))) (jw_or1 (jt_cmp op_neI br_neI (je_callB call_len cr_len (by rfl) T.b_len (by decide +kernel) (ja_cons (je_var (pv 0)) ja_nil)) (je_var (pv 1)) (nomark _)))))
    (jss_one (js_ret je_bl))
    jss_nil)
    (jss_cons (js_for (vs := [3]) hp rfl (ji_tup (je_var (pv 0))) (jg_name (i := 3) (by decide) (pg_name (i := 3) nd rfl (by first | exact Or.inl rfl | exact Or.inr rfl)))
    (jss_one (js_if (jt_not (jt_val (je_call (G_is_below) hr2 (by rfl) T.g_is_below T.k_is_below T.n_is_below (ja_cons (je_var (pv 3)) (ja_cons (je_var (pv 2)) ja_nil)))))
    (jss_one (js_ret je_bl))
    jss_nil)))
    (jss_one (js_ret je_bl))))
theorem sc_ways_of : FnScope N_ways_of ["many"] (defScope s_ways_of) := ⟨rfl, rfl, rfl, by decide +kernel, rfl, by decide +kernel, by decide +kernel⟩
theorem j_ways_of {P : Program} {w : World} {K : PySem.W.Frag} {mg : Str → Option Value} {base : Heap} {A : Ad} (T : Txt K mg A) {f : Addr} {cdv : Value} {Ar : Around} {outer : List Env} {s : Shared} {H : Hp} {E : XK} (hr : Room 0 (Ar.deeper (envOfC "ways_of" (defScope s_ways_of) s.heap.objs.size f cdv))) :
    JSs (cxOf CX0 P w K mg base N_ways_of "ways_of" (defScope s_ways_of) f cdv Ar outer s H E).nox NW (defBody s_ways_of) w_ways_of := by
  have nd : N_ways_of.Nodup := sc_ways_of.nd
  have hp := @PassesOwn.never
  exact (jss_cons (js_setF (i := 1) nd rfl (Or.inl rfl) (je_lst (ja_cons je_int ja_nil)))
    (jss_cons (js_for (vs := [2]) hp rfl (ji_range1 (by rfl) T.b_range (ja_cons (je_var (pv 0)) ja_nil)) (jg_name (i := 2) (by decide) (pg_name (i := 2) nd rfl (by first | exact Or.inl rfl | exact Or.inr rfl)))
    (jss_one (js_setF (i := 1) nd rfl (Or.inl rfl) (je_op op_cat br_catL (je_op op_cat br_catL (je_lst (ja_cons je_int ja_nil)) (je_lc (own := [("one", 3), ("other", 4)]) rfl nd (ji_zip (by rfl) T.b_zip (ja_cons (je_var (pv 1)) (ja_cons (je_slL (je_var (pv 1)) (jo_some je_int) jo_none) ja_nil))) (blkOk_by (own := [("one", 3), ("other", 4)]) (N := N_ways_of) (sc := defScope s_ways_of) (by decide +kernel)) (fun _ _ _ _ _ => (jg_tup rfl (jgs_cons (jg_name (i := 3) (by decide) (pg_name (i := 3) nd rfl (by first | exact Or.inl rfl | exact Or.inr rfl))) (jgs_cons (jg_name (i := 4) (by decide) (pg_name (i := 4) nd rfl (by first | exact Or.inl rfl | exact Or.inr rfl))) jgs_nil)))) (fun _ _ _ _ _ => jts_nil) (fun _ _ _ _ _ => (je_op op_add br_add (je_var (pv 3)) (je_var (pv 4)))))) (je_lst (ja_cons je_int ja_nil))))))
    (jss_one (js_ret (je_var (pv 1))))))
theorem sc_check_bits : FnScope N_check_bits ["n", "f"] (defScope s_check_bits) := ⟨rfl, rfl, rfl, by decide +kernel, rfl, by decide +kernel, by decide +kernel⟩
theorem j_check_bits {P : Program} {w : World} {K : PySem.W.Frag} {mg : Str → Option Value} {base : Heap} {A : Ad} (T : Txt K mg A) (G_is_number : FnOk P w K mg base CX0 2 A.a_is_number A.d_is_number ["value"] (spF K R_is_number)) (G_row_below : FnOk P w K mg base CX0 3 A.a_row_below A.d_row_below ["value", "length", "bound"] (spF K R_row_below)) (G_i_InvalidNumber : FnOk P w K mg base CX0 1 (He.ma K (He.ga K "InvalidNumber") "__init__") A.d_i_InvalidNumber ["self", "value"] (spI (He.ga K "InvalidNumber") ["value"])) (G_i_InvalidMap : FnOk P w K mg base CX0 1 (He.ma K (He.ga K "InvalidMap") "__init__") A.d_i_InvalidMap ["self", "value"] (spI (He.ga K "InvalidMap") ["value"])) {f : Addr} {cdv : Value} {Ar : Around} {outer : List Env} {s : Shared} {H : Hp} {E : XK} (hr : Room 3 (Ar.deeper (envOfC "check_bits" (defScope s_check_bits) s.heap.objs.size f cdv))) :
    JSs (cxOf (L2.CX P w) P w K mg base N_check_bits "check_bits" (defScope s_check_bits) f cdv Ar outer s H E) (fun cls d _ H' => E cls d H') (defBody s_check_bits) w_check_bits := by
  have nd : N_check_bits.Nodup := sc_check_bits.nd
  have hr2 : Room 2 _ := hr.mono (by decide)
  have hr3 : Room 3 _ := hr.mono (by decide)
  have hrX : Room 2 _ := hr.mono (by decide)
  have tk := takes_of (X := cxOf (L2.CX P w) P w K mg base N_check_bits "check_bits" (defScope s_check_bits) f cdv Ar outer s H E) (E := E) rfl rfl rfl rfl
  exact (jss_cons (js_if (jt_w (jw_or (jt_not (jt_val (je_call (G_is_number) hr2 (by rfl) T.g_is_number T.k_is_number T.n_is_number (ja_cons (je_var (pv 0)) ja_nil)))) (jw_or1 (jt_not (jt_chain op_le op_le br_le br_le je_int (je_var (pv 0)) (je_gintE (by rfl) T.c_MOST_BITS))))))
    (jss_one (js_raise (fl := ["value"]) rfl rfl tk T.x_InvalidNumber.oe T.x_InvalidNumber.ini T.x_InvalidNumber.tI G_i_InvalidNumber hrX T.ni_InvalidNumber (by decide) (by rfl) T.gx_InvalidNumber (ja_cons (je_var (pv 0)) ja_nil)))
    jss_nil)
    (jss_one (js_if (jt_not (jt_val (je_call (G_row_below) hr3 (by rfl) T.g_row_below T.k_row_below T.n_row_below (ja_cons (je_var (pv 1)) (ja_cons (je_op op_shl br_shl je_int (je_var (pv 0))) (ja_cons je_int ja_nil))))))
    (jss_one (js_raise (fl := ["value"]) rfl rfl tk T.x_InvalidMap.oe T.x_InvalidMap.ini T.x_InvalidMap.tI G_i_InvalidMap hrX T.ni_InvalidMap (by decide) (by rfl) T.gx_InvalidMap (ja_cons (je_var (pv 1)) ja_nil)))
    jss_nil)))
theorem sc_signs : FnScope N_signs ["n", "f"] (defScope s_signs) := ⟨rfl, rfl, rfl, by decide +kernel, rfl, by decide +kernel, by decide +kernel⟩
theorem j_signs {P : Program} {w : World} {K : PySem.W.Frag} {mg : Str → Option Value} {base : Heap} {A : Ad} (T : Txt K mg A) (G_check_bits : FnOk P w K mg base (L2.CX P w) 4 A.a_check_bits A.d_check_bits ["n", "f"] (spX K R_check_bits)) {f : Addr} {cdv : Value} {Ar : Around} {outer : List Env} {s : Shared} {H : Hp} {E : XK} (hr : Room 4 (Ar.deeper (envOfC "signs" (defScope s_signs) s.heap.objs.size f cdv))) :
    JSs (cxOf (L2.CX P w) P w K mg base N_signs "signs" (defScope s_signs) f cdv Ar outer s H E) (fun cls d _ H' => E cls d H') (defBody s_signs) w_signs := by
  have nd : N_signs.Nodup := sc_signs.nd
  have hr4 : Room 4 _ := hr.mono (by decide)
  have tk := takes_of (X := cxOf (L2.CX P w) P w K mg base N_signs "signs" (defScope s_signs) f cdv Ar outer s H E) (E := E) rfl rfl rfl rfl
  have hp := passes_of (X := cxOf (L2.CX P w) P w K mg base N_signs "signs" (defScope s_signs) f cdv Ar outer s H E) rfl
  exact (jss_cons (js_expr (je_callX G_check_bits hr4 tk (by rfl) T.g_check_bits T.k_check_bits T.n_check_bits (ja_cons (je_var (pv 0)) (ja_cons (je_var (pv 1)) ja_nil))))
    (jss_cons (js_setLcF (i := 2) (own := [("bit", 8)]) rfl nd rfl rfl (sw_true rfl rfl rfl (by decide +kernel)) (ji_tup (je_var (pv 1))) (blkOk_by (own := [("bit", 8)]) (N := N_signs) (sc := defScope s_signs) (by decide +kernel)) (fun _ _ _ _ _ => (jg_name (i := 8) (by decide) (pg_name (i := 8) nd rfl (by first | exact Or.inl rfl | exact Or.inr rfl)))) (fun _ _ _ _ _ => jts_nil) (fun _ _ _ _ _ => (je_op op_sub br_sub je_int (je_op op_mul br_mul je_int (je_var (pv 8))))))
    (jss_cons (js_setF (i := 3) nd rfl (Or.inl rfl) je_int)
    (jss_cons (js_for (vs := [4]) hp rfl (ji_range1 (by rfl) T.b_range (ja_cons (je_var (pv 0)) ja_nil)) (jg_name (i := 4) (by decide) (pg_name (i := 4) nd rfl (by first | exact Or.inl rfl | exact Or.inr rfl)))
    (jss_cons (js_set (i := 5) nd rfl (Or.inl rfl) (je_lst ja_nil))
    (jss_cons (js_for (vs := [6, 7]) hp rfl (ji_enum (by rfl) T.b_enumerate (ja_cons (je_var (pv 2)) ja_nil)) (jg_tup rfl (jgs_cons (jg_name (i := 6) (by decide) (pg_name (i := 6) nd rfl (by first | exact Or.inl rfl | exact Or.inr rfl))) (jgs_cons (jg_name (i := 7) (by decide) (pg_name (i := 7) nd rfl (by first | exact Or.inl rfl | exact Or.inr rfl))) jgs_nil)))
    (jss_one (js_if (jt_cmp op_eqI br_eqI (je_op op_mod br_mod (je_op op_fdiv br_div (je_var (pv 6)) (je_var (pv 3))) je_int) je_int (nomark _))
    (jss_one (js_app (ps_expr (pe_bm PySem.F.plainAttrs_list PySem.F.slot_list_append PySem.F.type_list_append mt_append (pv 5) (pa_cons (je_op op_add br_add (je_var (pv 7)) (je_ix ix_seq br_ix (je_var (pv 2)) (je_op op_add br_add (je_var (pv 6)) (je_var (pv 3))) (fun _ _ => rfl))) pa_nil)))))
    (jss_one (js_app (ps_expr (pe_bm PySem.F.plainAttrs_list PySem.F.slot_list_append PySem.F.type_list_append mt_append (pv 5) (pa_cons (je_op op_sub br_sub (je_ix ix_seq br_ix (je_var (pv 2)) (je_op op_sub br_sub (je_var (pv 6)) (je_var (pv 3))) (fun _ _ => rfl)) (je_var (pv 7))) pa_nil))))))))
    (jss_cons (js_setF (i := 2) nd rfl (Or.inl rfl) (je_frz (pv 5)))
    (jss_one (js_setF (i := 3) nd rfl (Or.inl rfl) (je_op op_mul br_mul je_int (je_var (pv 3)))))))))
    (jss_one (js_ret (je_callTy call_tuple_of cr_tupleOf (by rfl) T.b_tuple (by decide +kernel) (ja_cons (je_var (pv 2)) ja_nil))))))))
theorem sc_product_bits : FnScope N_product_bits ["n", "f"] (defScope s_product_bits) := ⟨rfl, rfl, rfl, by decide +kernel, rfl, by decide +kernel, by decide +kernel⟩
theorem j_product_bits {P : Program} {w : World} {K : PySem.W.Frag} {mg : Str → Option Value} {base : Heap} {A : Ad} (T : Txt K mg A) {f : Addr} {cdv : Value} {Ar : Around} {outer : List Env} {s : Shared} {H : Hp} {E : XK} (hr : Room 0 (Ar.deeper (envOfC "product_bits" (defScope s_product_bits) s.heap.objs.size f cdv))) :
    JSs (cxOf CX0 P w K mg base N_product_bits "product_bits" (defScope s_product_bits) f cdv Ar outer s H E).nox NW (defBody s_product_bits) w_product_bits := by
  have nd : N_product_bits.Nodup := sc_product_bits.nd
  have hp := @PassesOwn.never
  exact (jss_cons (js_setF (i := 2) nd rfl (Or.inl rfl) (je_callTy call_list_of cr_listOf (by rfl) T.b_list (by decide +kernel) (ja_cons (je_var (pv 1)) ja_nil)))
    (jss_cons (js_for (vs := [3]) hp rfl (ji_range1 (by rfl) T.b_range (ja_cons (je_var (pv 0)) ja_nil)) (jg_name (i := 3) (by decide) (pg_name (i := 3) nd rfl (by first | exact Or.inl rfl | exact Or.inr rfl)))
    (jss_cons (js_setF (i := 4) nd rfl (Or.inl rfl) (je_op op_shl br_shl je_int (je_var (pv 3))))
    (jss_cons (js_set (i := 5) nd rfl (Or.inl rfl) (je_lst ja_nil))
    (jss_cons (js_for (vs := [6, 7]) hp rfl (ji_enum (by rfl) T.b_enumerate (ja_cons (je_var (pv 2)) ja_nil)) (jg_tup rfl (jgs_cons (jg_name (i := 6) (by decide) (pg_name (i := 6) nd rfl (by first | exact Or.inl rfl | exact Or.inr rfl))) (jgs_cons (jg_name (i := 7) (by decide) (pg_name (i := 7) nd rfl (by first | exact Or.inl rfl | exact Or.inr rfl))) jgs_nil)))
    (jss_one (js_if (jt_int (je_op op_and br_band (je_var (pv 6)) (je_var (pv 4))))
    (jss_one (js_app (ps_expr (pe_bm PySem.F.plainAttrs_list PySem.F.slot_list_append PySem.F.type_list_append mt_append (pv 5) (pa_cons (je_op op_xor br_bxor (je_var (pv 7)) (je_ix ix_seq br_ix (je_var (pv 2)) (je_op op_sub br_sub (je_var (pv 6)) (je_var (pv 4))) (fun _ _ => rfl))) pa_nil)))))
    (jss_one (js_app (ps_expr (pe_bm PySem.F.plainAttrs_list PySem.F.slot_list_append PySem.F.type_list_append mt_append (pv 5) (pa_cons (je_var (pv 7)) pa_nil))))))))
    (jss_one (js_setF (i := 2) nd rfl (Or.inl rfl) (je_frz (pv 5))))))))
    (jss_one (js_ret (je_var (pv 2))))))
theorem sc_products_of : FnScope N_products_of ["n", "f"] (defScope s_products_of) := ⟨rfl, rfl, rfl, by decide +kernel, rfl, by decide +kernel, by decide +kernel⟩
theorem j_products_of {P : Program} {w : World} {K : PySem.W.Frag} {mg : Str → Option Value} {base : Heap} {A : Ad} (T : Txt K mg A) (G_check_bits : FnOk P w K mg base (L2.CX P w) 4 A.a_check_bits A.d_check_bits ["n", "f"] (spX K R_check_bits)) (G_product_bits : FnOk P w K mg base CX0 1 A.a_product_bits A.d_product_bits ["n", "f"] (spF K R_product_bits)) {f : Addr} {cdv : Value} {Ar : Around} {outer : List Env} {s : Shared} {H : Hp} {E : XK} (hr : Room 4 (Ar.deeper (envOfC "products_of" (defScope s_products_of) s.heap.objs.size f cdv))) :
    JSs (cxOf (L2.CX P w) P w K mg base N_products_of "products_of" (defScope s_products_of) f cdv Ar outer s H E) (fun cls d _ H' => E cls d H') (defBody s_products_of) w_products_of := by
  have nd : N_products_of.Nodup := sc_products_of.nd
  have hr1 : Room 1 _ := hr.mono (by decide)
  have hr4 : Room 4 _ := hr.mono (by decide)
  have tk := takes_of (X := cxOf (L2.CX P w) P w K mg base N_products_of "products_of" (defScope s_products_of) f cdv Ar outer s H E) (E := E) rfl rfl rfl rfl
  exact (jss_cons (js_expr (je_callX G_check_bits hr4 tk (by rfl) T.g_check_bits T.k_check_bits T.n_check_bits (ja_cons (je_var (pv 0)) (ja_cons (je_var (pv 1)) ja_nil))))
    (jss_one (js_ret (je_callTy call_tuple_of cr_tupleOf (by rfl) T.b_tuple (by decide +kernel) (ja_cons (je_lc (own := [("a", 2), ("bit", 3)]) rfl nd (ji_enum (by rfl) T.b_enumerate (ja_cons (je_call (G_product_bits) hr1 (by rfl) T.g_product_bits T.k_product_bits T.n_product_bits (ja_cons (je_var (pv 0)) (ja_cons (je_var (pv 1)) ja_nil))) ja_nil)) (blkOk_by (own := [("a", 2), ("bit", 3)]) (N := N_products_of) (sc := defScope s_products_of) (by decide +kernel)) (fun _ _ _ _ _ => (jg_tup rfl (jgs_cons (jg_name (i := 2) (by decide) (pg_name (i := 2) nd rfl (by first | exact Or.inl rfl | exact Or.inr rfl))) (jgs_cons (jg_name (i := 3) (by decide) (pg_name (i := 3) nd rfl (by first | exact Or.inl rfl | exact Or.inr rfl))) jgs_nil)))) (fun _ _ _ _ _ => (jts_one (jt_cmp op_eqI br_eqI (je_var (pv 3)) je_int (nomark _)))) (fun _ _ _ _ _ => (je_var (pv 2)))) ja_nil)))))
theorem sc_bit_degree : FnScope N_bit_degree ["n", "f"] (defScope s_bit_degree) := ⟨rfl, rfl, rfl, by decide +kernel, rfl, by decide +kernel, by decide +kernel⟩
theorem j_bit_degree {P : Program} {w : World} {K : PySem.W.Frag} {mg : Str → Option Value} {base : Heap} {A : Ad} (T : Txt K mg A) (G_products_of : FnOk P w K mg base (L2.CX P w) 5 A.a_products_of A.d_products_of ["n", "f"] (spX K R_products_of)) (G_size_of : FnOk P w K mg base CX0 1 A.a_size_of A.d_size_of ["bits"] (spF K R_size_of)) {f : Addr} {cdv : Value} {Ar : Around} {outer : List Env} {s : Shared} {H : Hp} {E : XK} (hr : Room 5 (Ar.deeper (envOfC "bit_degree" (defScope s_bit_degree) s.heap.objs.size f cdv))) :
    JSs (cxOf (L2.CX P w) P w K mg base N_bit_degree "bit_degree" (defScope s_bit_degree) f cdv Ar outer s H E) (fun cls d _ H' => E cls d H') (defBody s_bit_degree) w_bit_degree := by
  have nd : N_bit_degree.Nodup := sc_bit_degree.nd
  have hr1 : Room 1 _ := hr.mono (by decide)
  have hr5 : Room 5 _ := hr.mono (by decide)
  have tk := takes_of (X := cxOf (L2.CX P w) P w K mg base N_bit_degree "bit_degree" (defScope s_bit_degree) f cdv Ar outer s H E) (E := E) rfl rfl rfl rfl
  exact (jss_one (js_ret (je_maxDef rfl (hu_of hr) (by rfl) T.b_max (ja_cons (je_lc (own := [("a", 2)]) rfl nd (ji_tup (je_callX G_products_of hr5 tk (by rfl) T.g_products_of T.k_products_of T.n_products_of (ja_cons (je_var (pv 0)) (ja_cons (je_var (pv 1)) ja_nil)))) (blkOk_by (own := [("a", 2)]) (N := N_bit_degree) (sc := defScope s_bit_degree) (by decide +kernel)) (fun _ _ _ _ _ => (jg_name (i := 2) (by decide) (pg_name (i := 2) nd rfl (by first | exact Or.inl rfl | exact Or.inr rfl)))) (fun _ _ _ _ _ => jts_nil) (fun _ _ _ _ _ => (je_call (G_size_of) hr1 (by rfl) T.g_size_of T.k_size_of T.n_size_of (ja_cons (je_var (pv 2)) ja_nil)))) ja_nil) (jk_cons (je_neg je_int) jk_nil))))
theorem sc_check_sizes : FnScope N_check_sizes ["n", "d"] (defScope s_check_sizes) := ⟨rfl, rfl, rfl, by decide +kernel, rfl, by decide +kernel, by decide +kernel⟩
theorem j_check_sizes {P : Program} {w : World} {K : PySem.W.Frag} {mg : Str → Option Value} {base : Heap} {A : Ad} (T : Txt K mg A) (G_is_between : FnOk P w K mg base CX0 2 A.a_is_between A.d_is_between ["value", "least", "most"] (spF K R_is_between)) (G_i_InvalidNumber : FnOk P w K mg base CX0 1 (He.ma K (He.ga K "InvalidNumber") "__init__") A.d_i_InvalidNumber ["self", "value"] (spI (He.ga K "InvalidNumber") ["value"])) {f : Addr} {cdv : Value} {Ar : Around} {outer : List Env} {s : Shared} {H : Hp} {E : XK} (hr : Room 2 (Ar.deeper (envOfC "check_sizes" (defScope s_check_sizes) s.heap.objs.size f cdv))) :
    JSs (cxOf (L2.CX P w) P w K mg base N_check_sizes "check_sizes" (defScope s_check_sizes) f cdv Ar outer s H E) (fun cls d _ H' => E cls d H') (defBody s_check_sizes) w_check_sizes := by
  have nd : N_check_sizes.Nodup := sc_check_sizes.nd
  have hr2 : Room 2 _ := hr.mono (by decide)
  have hrX : Room 2 _ := hr.mono (by decide)
  have tk := takes_of (X := cxOf (L2.CX P w) P w K mg base N_check_sizes "check_sizes" (defScope s_check_sizes) f cdv Ar outer s H E) (E := E) rfl rfl rfl rfl
  exact (jss_cons (js_if (jt_not (jt_val (je_call (G_is_between) hr2 (by rfl) T.g_is_between T.k_is_between T.n_is_between (ja_cons (je_var (pv 0)) (ja_cons je_int (ja_cons (je_gintE (by rfl) T.c_MOST_BITS) ja_nil))))))
    (jss_one (js_raise (fl := ["value"]) rfl rfl tk T.x_InvalidNumber.oe T.x_InvalidNumber.ini T.x_InvalidNumber.tI G_i_InvalidNumber hrX T.ni_InvalidNumber (by decide) (by rfl) T.gx_InvalidNumber (ja_cons (je_var (pv 0)) ja_nil)))
    jss_nil)
    (jss_one (js_if (jt_not (jt_val (je_call (G_is_between) hr2 (by rfl) T.g_is_between T.k_is_between T.n_is_between (ja_cons (je_var (pv 1)) (ja_cons je_int (ja_cons (je_gintE (by rfl) T.c_MOST_DIGITS) ja_nil))))))
    (jss_one (js_raise (fl := ["value"]) rfl rfl tk T.x_InvalidNumber.oe T.x_InvalidNumber.ini T.x_InvalidNumber.tI G_i_InvalidNumber hrX T.ni_InvalidNumber (by decide) (by rfl) T.gx_InvalidNumber (ja_cons (je_var (pv 1)) ja_nil)))
    jss_nil)))
theorem sc_check_table : FnScope N_check_table ["n", "f"] (defScope s_check_table) := ⟨rfl, rfl, rfl, by decide +kernel, rfl, by decide +kernel, by decide +kernel⟩
theorem j_check_table {P : Program} {w : World} {K : PySem.W.Frag} {mg : Str → Option Value} {base : Heap} {A : Ad} (T : Txt K mg A) (G_row_below : FnOk P w K mg base CX0 3 A.a_row_below A.d_row_below ["value", "length", "bound"] (spF K R_row_below)) (G_i_InvalidMap : FnOk P w K mg base CX0 1 (He.ma K (He.ga K "InvalidMap") "__init__") A.d_i_InvalidMap ["self", "value"] (spI (He.ga K "InvalidMap") ["value"])) {f : Addr} {cdv : Value} {Ar : Around} {outer : List Env} {s : Shared} {H : Hp} {E : XK} (hr : Room 3 (Ar.deeper (envOfC "check_table" (defScope s_check_table) s.heap.objs.size f cdv))) :
    JSs (cxOf (L2.CX P w) P w K mg base N_check_table "check_table" (defScope s_check_table) f cdv Ar outer s H E) (fun cls d _ H' => E cls d H') (defBody s_check_table) w_check_table := by
  have nd : N_check_table.Nodup := sc_check_table.nd
  have hr3 : Room 3 _ := hr.mono (by decide)
  have hrX : Room 2 _ := hr.mono (by decide)
  have tk := takes_of (X := cxOf (L2.CX P w) P w K mg base N_check_table "check_table" (defScope s_check_table) f cdv Ar outer s H E) (E := E) rfl rfl rfl rfl
  exact (jss_one (js_if (jt_not (jt_val (je_call (G_row_below) hr3 (by rfl) T.g_row_below T.k_row_below T.n_row_below (ja_cons (je_var (pv 1)) (ja_cons (je_op op_shl br_shl je_int (je_var (pv 0))) (ja_cons je_int ja_nil))))))
    (jss_one (js_raise (fl := ["value"]) rfl rfl tk T.x_InvalidMap.oe T.x_InvalidMap.ini T.x_InvalidMap.tI G_i_InvalidMap hrX T.ni_InvalidMap (by decide) (by rfl) T.gx_InvalidMap (ja_cons (je_var (pv 1)) ja_nil)))
    jss_nil))
theorem sc_stepped : FnScope N_stepped ["turns", "ways"] (defScope s_stepped) := ⟨rfl, rfl, rfl, by decide +kernel, rfl, by decide +kernel, by decide +kernel⟩
theorem j_stepped {P : Program} {w : World} {K : PySem.W.Frag} {mg : Str → Option Value} {base : Heap} {A : Ad} (T : Txt K mg A) (G_Turns_all_turned : FnOk P w K mg base CX0 2 (He.ma K (He.ga K "Turns") "all_turned") A.d_Turns_all_turned ["self", "table"] (spF K R_Turns_all_turned)) {f : Addr} {cdv : Value} {Ar : Around} {outer : List Env} {s : Shared} {H : Hp} {E : XK} (hr : Room 2 (Ar.deeper (envOfC "stepped" (defScope s_stepped) s.heap.objs.size f cdv))) :
    JSs (cxOf CX0 P w K mg base N_stepped "stepped" (defScope s_stepped) f cdv Ar outer s H E).nox NW (defBody s_stepped) w_stepped := by
  have nd : N_stepped.Nodup := sc_stepped.nd
  have hr2 : Room 2 _ := hr.mono (by decide)
  have hp := @PassesOwn.never
  exact (jss_cons (js_set (i := 2) nd rfl (Or.inl rfl) je_dictNew)
    (jss_cons (js_for (vs := [3, 4]) hp rfl (ji_itemsZ (je_var (pv 1))) (jg_tup rfl (jgs_cons (jg_name (i := 3) (by decide) (pg_name (i := 3) nd rfl (by first | exact Or.inl rfl | exact Or.inr rfl))) (jgs_cons (jg_name (i := 4) (by decide) (pg_name (i := 4) nd rfl (by first | exact Or.inl rfl | exact Or.inr rfl))) jgs_nil)))
    (jss_one (js_for (vs := [5]) hp rfl (ji_list (je_meth T.cl_Turns T.mt_Turns_all_turned G_Turns_all_turned hr2 T.n_Turns_all_turned (je_var (pv 0)) (ja_cons (je_var (pv 3)) ja_nil))) (jg_name (i := 5) (by decide) (pg_name (i := 5) nd rfl (by first | exact Or.inl rfl | exact Or.inr rfl)))
    (jss_cons (js_setF (i := 6) nd rfl (Or.inl rfl) (je_op op_xor br_bxor (je_var (pv 3)) (je_var (pv 5))))
    (jss_one (js_dput (hu_of hr) (pv 2) (je_var (pv 6)) (je_op op_add br_add (je_dget2 (hu_of hr) (pv 2) (je_var (pv 6)) je_int ⟨rfl, rfl, rfl, rfl⟩) (je_var (pv 4)))))))))
    (jss_one (js_ret (je_mov (pv 2))))))
theorem sc_broken_cubes : FnScope N_broken_cubes ["n", "d", "f"] (defScope s_broken_cubes) := ⟨rfl, rfl, rfl, by decide +kernel, rfl, by decide +kernel, by decide +kernel⟩
theorem j_broken_cubes {P : Program} {w : World} {K : PySem.W.Frag} {mg : Str → Option Value} {base : Heap} {A : Ad} (T : Txt K mg A) (G_check_sizes : FnOk P w K mg base (L2.CX P w) 3 A.a_check_sizes A.d_check_sizes ["n", "d"] (spX K R_check_sizes)) (G_check_table : FnOk P w K mg base (L2.CX P w) 4 A.a_check_table A.d_check_table ["n", "f"] (spX K R_check_table)) (G_Turns_init : FnOk P w K mg base CX0 3 (He.ma K (He.ga K "Turns") "__init__") A.d_Turns_init ["self", "n"] (spB K R_Turns_init)) (G_packed : FnOk P w K mg base CX0 1 A.a_packed A.d_packed ["f"] (spF K R_packed)) (G_stepped : FnOk P w K mg base CX0 3 A.a_stepped A.d_stepped ["turns", "ways"] (spF K R_stepped)) (G_size_of : FnOk P w K mg base CX0 1 A.a_size_of A.d_size_of ["bits"] (spF K R_size_of)) (G_i_TooMany : FnOk P w K mg base CX0 1 (He.ma K (He.ga K "TooMany") "__init__") A.d_i_TooMany ["self", "what"] (spI (He.ga K "TooMany") ["what"])) {f : Addr} {cdv : Value} {Ar : Around} {outer : List Env} {s : Shared} {H : Hp} {E : XK} (hr : Room 4 (Ar.deeper (envOfC "broken_cubes" (defScope s_broken_cubes) s.heap.objs.size f cdv))) :
    JSs (cxOf (L2.CX P w) P w K mg base N_broken_cubes "broken_cubes" (defScope s_broken_cubes) f cdv Ar outer s H E) (fun cls d _ H' => E cls d H') (defBody s_broken_cubes) w_broken_cubes := by
  have nd : N_broken_cubes.Nodup := sc_broken_cubes.nd
  have hr1 : Room 1 _ := hr.mono (by decide)
  have hr3 : Room 3 _ := hr.mono (by decide)
  have hr4 : Room 4 _ := hr.mono (by decide)
  have hrX : Room 2 _ := hr.mono (by decide)
  have tk := takes_of (X := cxOf (L2.CX P w) P w K mg base N_broken_cubes "broken_cubes" (defScope s_broken_cubes) f cdv Ar outer s H E) (E := E) rfl rfl rfl rfl
  have hp := passes_of (X := cxOf (L2.CX P w) P w K mg base N_broken_cubes "broken_cubes" (defScope s_broken_cubes) f cdv Ar outer s H E) rfl
  exact (jss_cons (js_expr (je_callX G_check_sizes hr3 tk (by rfl) T.g_check_sizes T.k_check_sizes T.n_check_sizes (ja_cons (je_var (pv 0)) (ja_cons (je_var (pv 1)) ja_nil))))
    (jss_cons (js_if (jt_cmp op_gt br_gt (je_op op_mul br_mul (je_var (pv 0)) (je_op op_add br_add (je_var (pv 1)) je_int)) (je_gintE (by rfl) T.c_MOST_CUBE_BITS) (nomark _))
    (jss_one (js_raise (fl := ["what"]) rfl rfl tk T.x_TooMany.oe T.x_TooMany.ini T.x_TooMany.tI G_i_TooMany hrX T.ni_TooMany (by decide) (by rfl) T.gx_TooMany (ja_cons je_str ja_nil)))
    jss_nil)
    (jss_cons (js_expr (je_callX G_check_table hr4 tk (by rfl) T.g_check_table T.k_check_table T.n_check_table (ja_cons (je_var (pv 0)) (ja_cons (je_var (pv 2)) ja_nil))))
    (jss_cons (js_setF (i := 3) nd rfl (Or.inl rfl) (je_make T.mk_Turns G_Turns_init (hr.mono (by decide)) (by rfl) T.gc_Turns T.n_Turns_init (ja_cons (je_var (pv 0)) ja_nil)))
    (jss_cons (js_setF (i := 4) nd rfl (Or.inl rfl) (je_dz (je_dict1 (je_call (G_packed) hr1 (by rfl) T.g_packed T.k_packed T.n_packed (ja_cons (je_var (pv 2)) ja_nil)) je_int)))
    (jss_cons (js_for (vs := [5]) hp rfl (ji_range1 (by rfl) T.b_range (ja_cons (je_op op_add br_add (je_var (pv 1)) je_int) ja_nil)) (jg_name (i := 5) (by decide) (pg_name (i := 5) nd rfl (by first | exact Or.inl rfl | exact Or.inr rfl)))
    (jss_one (js_setF (i := 4) nd rfl (Or.inl rfl) (je_dz (je_call (G_stepped) hr3 (by rfl) T.g_stepped T.k_stepped T.n_stepped (ja_cons (je_var (pv 3)) (ja_cons (je_var (pv 4)) ja_nil)))))))
    (jss_one (js_ret (je_callB (cr_sum rfl) cr_sumD (by rfl) T.b_sum (by decide +kernel) (ja_cons (je_lc (own := [("table", 6), ("many", 7)]) rfl nd (ji_itemsZ (je_var (pv 4))) (blkOk_by (own := [("table", 6), ("many", 7)]) (N := N_broken_cubes) (sc := defScope s_broken_cubes) (by decide +kernel)) (fun _ _ _ _ _ => (jg_tup rfl (jgs_cons (jg_name (i := 6) (by decide) (pg_name (i := 6) nd rfl (by first | exact Or.inl rfl | exact Or.inr rfl))) (jgs_cons (jg_name (i := 7) (by decide) (pg_name (i := 7) nd rfl (by first | exact Or.inl rfl | exact Or.inr rfl))) jgs_nil)))) (fun _ _ _ _ _ => jts_nil) (fun _ _ _ _ _ => (je_op op_mul br_mul (je_var (pv 7)) (je_call (G_size_of) hr1 (by rfl) T.g_size_of T.k_size_of T.n_size_of (ja_cons (je_var (pv 6)) ja_nil))))) ja_nil))))))))))
theorem sc_many_products : FnScope N_many_products ["n", "d"] (defScope s_many_products) := ⟨rfl, rfl, rfl, by decide +kernel, rfl, by decide +kernel, by decide +kernel⟩
theorem j_many_products {P : Program} {w : World} {K : PySem.W.Frag} {mg : Str → Option Value} {base : Heap} {A : Ad} (T : Txt K mg A) (G_ways_of : FnOk P w K mg base CX0 1 A.a_ways_of A.d_ways_of ["many"] (spF K R_ways_of)) {f : Addr} {cdv : Value} {Ar : Around} {outer : List Env} {s : Shared} {H : Hp} {E : XK} (hr : Room 1 (Ar.deeper (envOfC "many_products" (defScope s_many_products) s.heap.objs.size f cdv))) :
    JSs (cxOf CX0 P w K mg base N_many_products "many_products" (defScope s_many_products) f cdv Ar outer s H E).nox NW (defBody s_many_products) w_many_products := by
  have nd : N_many_products.Nodup := sc_many_products.nd
  have hr1 : Room 1 _ := hr.mono (by decide)
  exact (jss_one (js_ret (je_callB (cr_sum rfl) cr_sumD (by rfl) T.b_sum (by decide +kernel) (ja_cons (je_slL (je_call (G_ways_of) hr1 (by rfl) T.g_ways_of T.k_ways_of T.n_ways_of (ja_cons (je_var (pv 0)) ja_nil)) jo_none (jo_some (je_op op_add br_add (je_var (pv 1)) je_int))) ja_nil))))
theorem sc_near_degree : FnScope N_near_degree ["n", "d", "f"] (defScope s_near_degree) := ⟨rfl, rfl, rfl, by decide +kernel, rfl, by decide +kernel, by decide +kernel⟩
theorem j_near_degree {P : Program} {w : World} {K : PySem.W.Frag} {mg : Str → Option Value} {base : Heap} {A : Ad} (T : Txt K mg A) (G_check_sizes : FnOk P w K mg base (L2.CX P w) 3 A.a_check_sizes A.d_check_sizes ["n", "d"] (spX K R_check_sizes)) (G_many_products : FnOk P w K mg base CX0 2 A.a_many_products A.d_many_products ["n", "d"] (spF K R_many_products)) (G_check_table : FnOk P w K mg base (L2.CX P w) 4 A.a_check_table A.d_check_table ["n", "f"] (spX K R_check_table)) (G_packed : FnOk P w K mg base CX0 1 A.a_packed A.d_packed ["f"] (spF K R_packed)) (G_i_TooMany : FnOk P w K mg base CX0 1 (He.ma K (He.ga K "TooMany") "__init__") A.d_i_TooMany ["self", "what"] (spI (He.ga K "TooMany") ["what"])) {f : Addr} {cdv : Value} {Ar : Around} {outer : List Env} {s : Shared} {H : Hp} {E : XK} (hr : Room 4 (Ar.deeper (envOfC "near_degree" (defScope s_near_degree) s.heap.objs.size f cdv))) :
    JSs (cxOf (L2.CX P w) P w K mg base N_near_degree "near_degree" (defScope s_near_degree) f cdv Ar outer s H E) (fun cls d _ H' => E cls d H') (defBody s_near_degree) w_near_degree := by
  have nd : N_near_degree.Nodup := sc_near_degree.nd
  have hr1 : Room 1 _ := hr.mono (by decide)
  have hr2 : Room 2 _ := hr.mono (by decide)
  have hr3 : Room 3 _ := hr.mono (by decide)
  have hr4 : Room 4 _ := hr.mono (by decide)
  have hrX : Room 2 _ := hr.mono (by decide)
  have tk := takes_of (X := cxOf (L2.CX P w) P w K mg base N_near_degree "near_degree" (defScope s_near_degree) f cdv Ar outer s H E) (E := E) rfl rfl rfl rfl
  exact (jss_cons (js_expr (je_callX G_check_sizes hr3 tk (by rfl) T.g_check_sizes T.k_check_sizes T.n_check_sizes (ja_cons (je_var (pv 0)) (ja_cons (je_var (pv 1)) ja_nil))))
    (jss_cons (js_if (jt_cmp op_gt br_gt (je_call (G_many_products) hr2 (by rfl) T.g_many_products T.k_many_products T.n_many_products (ja_cons (je_var (pv 0)) (ja_cons (je_var (pv 1)) ja_nil))) (je_gintE (by rfl) T.c_MOST_PRODUCTS) (nomark _))
    (jss_one (js_raise (fl := ["what"]) rfl rfl tk T.x_TooMany.oe T.x_TooMany.ini T.x_TooMany.tI G_i_TooMany hrX T.ni_TooMany (by decide) (by rfl) T.gx_TooMany (ja_cons je_str ja_nil)))
    jss_nil)
    (jss_cons (js_expr (je_callX G_check_table hr4 tk (by rfl) T.g_check_table T.k_check_table T.n_check_table (ja_cons (je_var (pv 0)) (ja_cons (je_var (pv 2)) ja_nil))))
    (jss_cons (js_setF (i := 3) nd rfl (Or.inr rfl) (je_call (G_packed) hr1 (by rfl) T.g_packed T.k_packed T.n_packed (ja_cons (je_var (pv 2)) ja_nil)))
    (jss_cons js_never
    (jss_one js_never))))))
theorem sc_turn_of : FnScope N_turn_of ["n", "i"] (defScope s_turn_of) := ⟨rfl, rfl, rfl, by decide +kernel, rfl, by decide +kernel, by decide +kernel⟩
theorem j_turn_of {P : Program} {w : World} {K : PySem.W.Frag} {mg : Str → Option Value} {base : Heap} {A : Ad} (T : Txt K mg A) {f : Addr} {cdv : Value} {Ar : Around} {outer : List Env} {s : Shared} {H : Hp} {E : XK} (hr : Room 0 (Ar.deeper (envOfC "turn_of" (defScope s_turn_of) s.heap.objs.size f cdv))) :
    JSs (cxOf CX0 P w K mg base N_turn_of "turn_of" (defScope s_turn_of) f cdv Ar outer s H E).nox NW (defBody s_turn_of) w_turn_of := by
  have nd : N_turn_of.Nodup := sc_turn_of.nd
  exact (jss_one (js_ret (je_op op_shl br_shl je_int (je_op op_sub br_sub (je_op op_sub br_sub (je_var (pv 0)) je_int) (je_var (pv 1))))))
theorem sc_turned_unlike : FnScope N_turned_unlike ["n", "f", "i"] (defScope s_turned_unlike) := ⟨rfl, rfl, rfl, by decide +kernel, rfl, by decide +kernel, by decide +kernel⟩
theorem j_turned_unlike {P : Program} {w : World} {K : PySem.W.Frag} {mg : Str → Option Value} {base : Heap} {A : Ad} (T : Txt K mg A) (G_turn_of : FnOk P w K mg base CX0 1 A.a_turn_of A.d_turn_of ["n", "i"] (spF K R_turn_of)) {f : Addr} {cdv : Value} {Ar : Around} {outer : List Env} {s : Shared} {H : Hp} {E : XK} (hr : Room 1 (Ar.deeper (envOfC "turned_unlike" (defScope s_turned_unlike) s.heap.objs.size f cdv))) :
    JSs (cxOf CX0 P w K mg base N_turned_unlike "turned_unlike" (defScope s_turned_unlike) f cdv Ar outer s H E).nox NW (defBody s_turned_unlike) w_turned_unlike := by
  have nd : N_turned_unlike.Nodup := sc_turned_unlike.nd
  have hr1 : Room 1 _ := hr.mono (by decide)
  have hp := @PassesOwn.never
  have hu64 := hr.units
  exact (jss_cons (js_setF (i := 3) nd rfl (Or.inl rfl) (je_call (G_turn_of) hr1 (by rfl) T.g_turn_of T.k_turn_of T.n_turn_of (ja_cons (je_var (pv 0)) (ja_cons (je_var (pv 2)) ja_nil))))
    (jss_cons (js_setF (i := 4) nd rfl (Or.inl rfl) je_int)
    (jss_cons (js_for (vs := [5, 6]) hp rfl (ji_enumT (by rfl) T.b_enumerate (ja_cons (je_var (pv 1)) ja_nil)) (jg_tup rfl (jgs_cons (jg_name (i := 5) (by decide) (pg_name (i := 5) nd rfl (by first | exact Or.inl rfl | exact Or.inr rfl))) (jgs_cons (jg_name (i := 6) (by decide) (pg_name (i := 6) nd rfl (by first | exact Or.inl rfl | exact Or.inr rfl))) jgs_nil)))
    (jss_one (js_if (jt_cmp (op_neD hu64) br_ne (je_var (pv 6)) (je_ix ix_seq br_ix (je_var (pv 1)) (je_op op_xor br_bxor (je_var (pv 5)) (je_var (pv 3))) (fun _ _ => rfl)) (nomark _))
    (jss_one (js_aug (i := 4) nd rfl (Or.inl rfl) iop_add br_add je_int))
    jss_nil)))
    (jss_one (js_ret (je_var (pv 4)))))))
theorem sc_sway : FnScope N_sway ["n", "f"] (defScope s_sway) := ⟨rfl, rfl, rfl, by decide +kernel, rfl, by decide +kernel, by decide +kernel⟩
theorem j_sway {P : Program} {w : World} {K : PySem.W.Frag} {mg : Str → Option Value} {base : Heap} {A : Ad} (T : Txt K mg A) (G_check_bits : FnOk P w K mg base (L2.CX P w) 4 A.a_check_bits A.d_check_bits ["n", "f"] (spX K R_check_bits)) (G_turned_unlike : FnOk P w K mg base CX0 2 A.a_turned_unlike A.d_turned_unlike ["n", "f", "i"] (spF K R_turned_unlike)) {f : Addr} {cdv : Value} {Ar : Around} {outer : List Env} {s : Shared} {H : Hp} {E : XK} (hr : Room 4 (Ar.deeper (envOfC "sway" (defScope s_sway) s.heap.objs.size f cdv))) :
    JSs (cxOf (L2.CX P w) P w K mg base N_sway "sway" (defScope s_sway) f cdv Ar outer s H E) (fun cls d _ H' => E cls d H') (defBody s_sway) w_sway := by
  have nd : N_sway.Nodup := sc_sway.nd
  have hr2 : Room 2 _ := hr.mono (by decide)
  have hr4 : Room 4 _ := hr.mono (by decide)
  have tk := takes_of (X := cxOf (L2.CX P w) P w K mg base N_sway "sway" (defScope s_sway) f cdv Ar outer s H E) (E := E) rfl rfl rfl rfl
  exact (jss_cons (js_expr (je_callX G_check_bits hr4 tk (by rfl) T.g_check_bits T.k_check_bits T.n_check_bits (ja_cons (je_var (pv 0)) (ja_cons (je_var (pv 1)) ja_nil))))
    (jss_one (js_ret (je_callTy call_tuple_of cr_tupleOf (by rfl) T.b_tuple (by decide +kernel) (ja_cons (je_lc (own := [("i", 2)]) rfl nd (ji_range1 (by rfl) T.b_range (ja_cons (je_var (pv 0)) ja_nil)) (blkOk_by (own := [("i", 2)]) (N := N_sway) (sc := defScope s_sway) (by decide +kernel)) (fun _ _ _ _ _ => (jg_name (i := 2) (by decide) (pg_name (i := 2) nd rfl (by first | exact Or.inl rfl | exact Or.inr rfl)))) (fun _ _ _ _ _ => jts_nil) (fun _ _ _ _ _ => (je_call (G_turned_unlike) hr2 (by rfl) T.g_turned_unlike T.k_turned_unlike T.n_turned_unlike (ja_cons (je_var (pv 0)) (ja_cons (je_var (pv 1)) (ja_cons (je_var (pv 2)) ja_nil)))))) ja_nil)))))
theorem sc__law_cell : FnScope N__law_cell ["script", "k"] (defScope s__law_cell) := ⟨rfl, rfl, rfl, by decide +kernel, rfl, by decide +kernel, by decide +kernel⟩
theorem j__law_cell {P : Program} {w : World} {K : PySem.W.Frag} {mg : Str → Option Value} {base : Heap} {A : Ad} (T : Txt K mg A) {f : Addr} {cdv : Value} {Ar : Around} {outer : List Env} {s : Shared} {H : Hp} {E : XK} (hr : Room 0 (Ar.deeper (envOfC "_law_cell" (defScope s__law_cell) s.heap.objs.size f cdv))) :
    JSs (cxOf CX0 P w K mg base N__law_cell "_law_cell" (defScope s__law_cell) f cdv Ar outer s H E).nox NW (defBody s__law_cell) w__law_cell := by
  have nd : N__law_cell.Nodup := sc__law_cell.nd
  exact (jss_cons (js_if (jt_cmp op_lt br_lt (je_var (pv 1)) (je_callB call_len cr_len (by rfl) T.b_len (by decide +kernel) (ja_cons (je_var (pv 0)) ja_nil)) (nomark _))
    (jss_one (js_ret (je_callTy call_int1 cr_int1D (by rfl) T.b_int (by decide +kernel) (ja_cons (je_ix ix_seq br_ix (je_var (pv 0)) (je_var (pv 1)) (fun _ _ => rfl)) ja_nil))))
    jss_nil)
    (jss_one (js_ret (je_op op_add br_add (je_op op_mul br_mul je_int (je_var (pv 1))) (je_op op_mul br_mul je_int (je_callB call_len cr_len (by rfl) T.b_len (by decide +kernel) (ja_cons (je_var (pv 0)) ja_nil)))))))
theorem sc__law_digits : FnScope N__law_digits ["cell", "count", "base"] (defScope s__law_digits) := ⟨rfl, rfl, rfl, by decide +kernel, rfl, by decide +kernel, by decide +kernel⟩
theorem j__law_digits {P : Program} {w : World} {K : PySem.W.Frag} {mg : Str → Option Value} {base : Heap} {A : Ad} (T : Txt K mg A) {f : Addr} {cdv : Value} {Ar : Around} {outer : List Env} {s : Shared} {H : Hp} {E : XK} (hr : Room 0 (Ar.deeper (envOfC "_law_digits" (defScope s__law_digits) s.heap.objs.size f cdv))) :
    JSs (cxOf CX0 P w K mg base N__law_digits "_law_digits" (defScope s__law_digits) f cdv Ar outer s H E).nox NW (defBody s__law_digits) w__law_digits := by
  have nd : N__law_digits.Nodup := sc__law_digits.nd
  have hp := @PassesOwn.never
  exact (jss_cons (js_setF (i := 3) nd rfl (Or.inl rfl) (je_callB call_abs cr_absI (by rfl) T.b_abs (by decide +kernel) (ja_cons (je_var (pv 0)) ja_nil)))
    (jss_cons (js_setF (i := 4) nd rfl (Or.inl rfl) (je_op op_mod br_mod (je_callTy call_int1 cr_int1D (by rfl) T.b_int (by decide +kernel) (ja_cons (je_var (pv 3)) ja_nil)) je_int))
    (jss_cons (js_if (jt_cmp op_lt br_lt (je_var (pv 3)) (je_op op_pow br_pow je_int je_int) (nomark _))
    (jss_one (js_setF (i := 3) nd rfl (Or.inl rfl) je_int))
    jss_nil)
    (jss_cons (js_set (i := 5) nd rfl (Or.inl rfl) (je_lst ja_nil))
    (jss_cons (js_for (vs := [6]) hp rfl (ji_range1 (by rfl) T.b_range (ja_cons (je_var (pv 1)) ja_nil)) (jg_name (i := 6) (by decide) (pg_name (i := 6) nd rfl (by first | exact Or.inl rfl | exact Or.inr rfl)))
    (jss_cons (js_setF (i := 4) nd rfl (Or.inl rfl) (je_op op_mod br_mod (je_op op_add br_add (je_op op_add br_add (je_op op_mul br_mul (je_var (pv 4)) je_int) je_int) (je_var (pv 6))) je_int))
    (jss_one (js_if (jt_cmp op_gt br_gt (je_var (pv 3)) je_int (nomark _))
    (jss_cons (js_app (ps_expr (pe_bm PySem.F.plainAttrs_list PySem.F.slot_list_append PySem.F.type_list_append mt_append (pv 5) (pa_cons (je_op op_mod br_mod (je_callTy call_int1 cr_int1D (by rfl) T.b_int (by decide +kernel) (ja_cons (je_var (pv 3)) ja_nil)) (je_var (pv 2))) pa_nil))))
    (jss_one (js_setF (i := 3) nd rfl (Or.inl rfl) (je_op op_fdiv br_div (je_var (pv 3)) (je_var (pv 2))))))
    (jss_one (js_app (ps_expr (pe_bm PySem.F.plainAttrs_list PySem.F.slot_list_append PySem.F.type_list_append mt_append (pv 5) (pa_cons (je_op op_mod br_mod (je_op op_fdiv br_div (je_op op_mod br_mod (je_op op_mul br_mul (je_var (pv 4)) je_int) je_int) je_int) (je_var (pv 2))) pa_nil)))))))))
    (jss_one (js_ret (je_mov (pv 5)))))))))
theorem sc__law_ones : FnScope N__law_ones ["x"] (defScope s__law_ones) := ⟨rfl, rfl, rfl, by decide +kernel, rfl, by decide +kernel, by decide +kernel⟩
theorem j__law_ones {P : Program} {w : World} {K : PySem.W.Frag} {mg : Str → Option Value} {base : Heap} {A : Ad} (T : Txt K mg A) {f : Addr} {cdv : Value} {Ar : Around} {outer : List Env} {s : Shared} {H : Hp} {E : XK} (hr : Room 0 (Ar.deeper (envOfC "_law_ones" (defScope s__law_ones) s.heap.objs.size f cdv))) :
    JSs (cxOf CX0 P w K mg base N__law_ones "_law_ones" (defScope s__law_ones) f cdv Ar outer s H E).nox NW (defBody s__law_ones) w__law_ones := by
  have nd : N__law_ones.Nodup := sc__law_ones.nd
  exact (jss_one (js_ret (je_callB (cr_sum rfl) cr_sumD (by rfl) T.b_sum (by decide +kernel) (ja_cons (je_lc (own := [("k", 1)]) rfl nd (ji_range1 (by rfl) T.b_range (ja_cons je_int ja_nil)) (blkOk_by (own := [("k", 1)]) (N := N__law_ones) (sc := defScope s__law_ones) (by decide +kernel)) (fun _ _ _ _ _ => (jg_name (i := 1) (by decide) (pg_name (i := 1) nd rfl (by first | exact Or.inl rfl | exact Or.inr rfl)))) (fun _ _ _ _ _ => jts_nil) (fun _ _ _ _ _ => (je_op op_and br_band (je_op op_shr br_shr (je_var (pv 0)) (je_var (pv 1))) je_int))) ja_nil))))
theorem sc__law_bits : FnScope N__law_bits ["script", "at", "n"] (defScope s__law_bits) := ⟨rfl, rfl, rfl, by decide +kernel, rfl, by decide +kernel, by decide +kernel⟩
theorem j__law_bits {P : Program} {w : World} {K : PySem.W.Frag} {mg : Str → Option Value} {base : Heap} {A : Ad} (T : Txt K mg A) (G__law_cell : FnOk P w K mg base CX0 1 A.a__law_cell A.d__law_cell ["script", "k"] (spF K R__law_cell)) (G__law_digits : FnOk P w K mg base CX0 1 A.a__law_digits A.d__law_digits ["cell", "count", "base"] (spF K R__law_digits)) (G__law_ones : FnOk P w K mg base CX0 1 A.a__law_ones A.d__law_ones ["x"] (spF K R__law_ones)) {f : Addr} {cdv : Value} {Ar : Around} {outer : List Env} {s : Shared} {H : Hp} {E : XK} (hr : Room 1 (Ar.deeper (envOfC "_law_bits" (defScope s__law_bits) s.heap.objs.size f cdv))) :
    JSs (cxOf CX0 P w K mg base N__law_bits "_law_bits" (defScope s__law_bits) f cdv Ar outer s H E).nox NW (defBody s__law_bits) w__law_bits := by
  have nd : N__law_bits.Nodup := sc__law_bits.nd
  have hr1 : Room 1 _ := hr.mono (by decide)
  have hp := @PassesOwn.never
  exact (jss_cons (js_setF (i := 3) nd rfl (Or.inl rfl) (je_call (G__law_cell) hr1 (by rfl) T.g__law_cell T.k__law_cell T.n__law_cell (ja_cons (je_var (pv 0)) (ja_cons (je_var (pv 1)) ja_nil))))
    (jss_cons (js_setF (i := 4) nd rfl (Or.inl rfl) (je_op op_shl br_shl je_int (je_var (pv 2))))
    (jss_cons (js_set (i := 5) nd rfl (Or.inr rfl) (je_call (G__law_digits) hr1 (by rfl) T.g__law_digits T.k__law_digits T.n__law_digits (ja_cons (je_call (G__law_cell) hr1 (by rfl) T.g__law_cell T.k__law_cell T.n__law_cell (ja_cons (je_var (pv 0)) (ja_cons (je_op op_add br_add (je_var (pv 1)) je_int) ja_nil))) (ja_cons (je_var (pv 4)) (ja_cons je_int ja_nil)))))
    (jss_cons (js_setF (i := 6) nd rfl (Or.inr rfl) (je_op op_mod br_mod (je_callTy call_int1 cr_int1D (by rfl) T.b_int (by decide +kernel) (ja_cons (je_call (G__law_cell) hr1 (by rfl) T.g__law_cell T.k__law_cell T.n__law_cell (ja_cons (je_var (pv 0)) (ja_cons (je_op op_add br_add (je_var (pv 1)) je_int) ja_nil))) ja_nil)) (je_var (pv 4))))
    (jss_cons (js_if (jt_cmp op_eqI br_eqI (je_op op_mod br_mod (je_op op_fdiv br_div (je_callTy call_int1 cr_int1D (by rfl) T.b_int (by decide +kernel) (ja_cons (je_var (pv 3)) ja_nil)) je_int) je_int) je_int (nomark _))
    (jss_one (js_setF (i := 6) nd rfl (Or.inr rfl) (je_op op_shl br_shl je_int (je_op op_mod br_mod (je_var (pv 6)) (je_var (pv 2))))))
    jss_nil)
    (jss_cons (js_if (jt_cmp op_eqI br_eqI (je_op op_mod br_mod (je_callTy call_int1 cr_int1D (by rfl) T.b_int (by decide +kernel) (ja_cons (je_var (pv 3)) ja_nil)) je_int) je_int (nomark _))
    (jss_one (js_set (i := 5) nd rfl (Or.inr rfl) (je_lc (own := [("x", 8)]) rfl nd (ji_range1 (by rfl) T.b_range (ja_cons (je_var (pv 4)) ja_nil)) (blkOk_by (own := [("x", 8)]) (N := N__law_bits) (sc := defScope s__law_bits) (by decide +kernel)) (fun _ _ _ _ _ => (jg_name (i := 8) (by decide) (pg_name (i := 8) nd rfl (by first | exact Or.inl rfl | exact Or.inr rfl)))) (fun _ _ _ _ _ => jts_nil) (fun _ _ _ _ _ => (je_ixM (pv 5) (je_op op_and br_band (je_var (pv 8)) (je_var (pv 6))) (fun _ _ => rfl))))))
    jss_nil)
    (jss_cons (js_if (jt_cmp op_eqI br_eqI (je_op op_mod br_mod (je_callTy call_int1 cr_int1D (by rfl) T.b_int (by decide +kernel) (ja_cons (je_var (pv 3)) ja_nil)) je_int) je_int (nomark _))
    (jss_one (js_set (i := 5) nd rfl (Or.inr rfl) (je_lc (own := [("x", 8)]) rfl nd (ji_range1 (by rfl) T.b_range (ja_cons (je_var (pv 4)) ja_nil)) (blkOk_by (own := [("x", 8)]) (N := N__law_bits) (sc := defScope s__law_bits) (by decide +kernel)) (fun _ _ _ _ _ => (jg_name (i := 8) (by decide) (pg_name (i := 8) nd rfl (by first | exact Or.inl rfl | exact Or.inr rfl)))) (fun _ _ _ _ _ => jts_nil) (fun _ _ _ _ _ => (je_op op_mod br_mod (je_call (G__law_ones) hr1 (by rfl) T.g__law_ones T.k__law_ones T.n__law_ones (ja_cons (je_op op_and br_band (je_var (pv 8)) (je_var (pv 6))) ja_nil)) je_int)))))
    jss_nil)
    (jss_cons (js_if (jt_cmp op_eqI br_eqI (je_op op_mod br_mod (je_callTy call_int1 cr_int1D (by rfl) T.b_int (by decide +kernel) (ja_cons (je_var (pv 3)) ja_nil)) je_int) je_int (nomark _))
    (jss_one (js_set (i := 5) nd rfl (Or.inr rfl) (je_lc (own := [("x", 8)]) rfl nd (ji_range1 (by rfl) T.b_range (ja_cons (je_var (pv 4)) ja_nil)) (blkOk_by (own := [("x", 8)]) (N := N__law_bits) (sc := defScope s__law_bits) (by decide +kernel)) (fun _ _ _ _ _ => (jg_name (i := 8) (by decide) (pg_name (i := 8) nd rfl (by first | exact Or.inl rfl | exact Or.inr rfl)))) (fun _ _ _ _ _ => jts_nil) (fun _ _ _ _ _ => (je_callTy call_int1 cr_int1D (by rfl) T.b_int (by decide +kernel) (ja_cons (je_cmp op_eqI br_eqI (je_op op_and br_band (je_var (pv 8)) (je_var (pv 6))) (je_var (pv 6)) (nomark _)) ja_nil))))))
    jss_nil)
    (jss_cons (js_if (jt_cmp op_eqI br_eqI (je_op op_mod br_mod (je_callTy call_int1 cr_int1D (by rfl) T.b_int (by decide +kernel) (ja_cons (je_var (pv 3)) ja_nil)) je_int) je_int (nomark _))
    (jss_one (js_set (i := 5) nd rfl (Or.inr rfl) (je_lc (own := [("x", 8)]) rfl nd (ji_range1 (by rfl) T.b_range (ja_cons (je_var (pv 4)) ja_nil)) (blkOk_by (own := [("x", 8)]) (N := N__law_bits) (sc := defScope s__law_bits) (by decide +kernel)) (fun _ _ _ _ _ => (jg_name (i := 8) (by decide) (pg_name (i := 8) nd rfl (by first | exact Or.inl rfl | exact Or.inr rfl)))) (fun _ _ _ _ _ => jts_nil) (fun _ _ _ _ _ => (je_callTy call_int1 cr_int1D (by rfl) T.b_int (by decide +kernel) (ja_cons (je_cmp op_gt br_gt (je_op op_mul br_mul je_int (je_call (G__law_ones) hr1 (by rfl) T.g__law_ones T.k__law_ones T.n__law_ones (ja_cons (je_op op_and br_band (je_var (pv 8)) (je_var (pv 6))) ja_nil))) (je_call (G__law_ones) hr1 (by rfl) T.g__law_ones T.k__law_ones T.n__law_ones (ja_cons (je_var (pv 6)) ja_nil)) (nomark _)) ja_nil))))))
    jss_nil)
    (jss_cons (js_if (jt_cmp op_eqI br_eqI (je_op op_mod br_mod (je_op op_fdiv br_div (je_callTy call_int1 cr_int1D (by rfl) T.b_int (by decide +kernel) (ja_cons (je_var (pv 3)) ja_nil)) je_int) je_int) je_int (nomark _))
    (jss_one (js_set (i := 5) nd rfl (Or.inr rfl) (je_lc (own := [("bit", 9)]) rfl nd (ji_list (je_frz (pv 5))) (blkOk_by (own := [("bit", 9)]) (N := N__law_bits) (sc := defScope s__law_bits) (by decide +kernel)) (fun _ _ _ _ _ => (jg_name (i := 9) (by decide) (pg_name (i := 9) nd rfl (by first | exact Or.inl rfl | exact Or.inr rfl)))) (fun _ _ _ _ _ => jts_nil) (fun _ _ _ _ _ => (je_op op_sub br_sub je_int (je_var (pv 9)))))))
    jss_nil)
    (jss_cons (js_setF (i := 7) nd rfl (Or.inl rfl) (je_callTy call_int1 cr_int1D (by rfl) T.b_int (by decide +kernel) (ja_cons (je_call (G__law_cell) hr1 (by rfl) T.g__law_cell T.k__law_cell T.n__law_cell (ja_cons (je_var (pv 0)) (ja_cons (je_op op_add br_add (je_var (pv 1)) je_int) ja_nil))) ja_nil)))
    (jss_cons (js_for (vs := [8]) hp rfl (ji_list (je_call (G__law_digits) hr1 (by rfl) T.g__law_digits T.k__law_digits T.n__law_digits (ja_cons (je_op op_fdiv br_div (je_var (pv 7)) je_int) (ja_cons (je_op op_mod br_mod (je_var (pv 7)) je_int) (ja_cons (je_var (pv 4)) ja_nil))))) (jg_name (i := 8) (by decide) (pg_name (i := 8) nd rfl (by first | exact Or.inl rfl | exact Or.inr rfl)))
    (jss_one (js_setIx (ps_asg (je_op op_sub br_sub je_int (je_ixM (pv 5) (je_var (pv 8)) (fun _ _ => rfl))) (pg_sub (pv 5) (je_var (pv 8)) set_list)))))
    (jss_one (js_ret (je_mov (pv 5))))))))))))))))
theorem sc__law_signs : FnScope N__law_signs ["f", "n"] (defScope s__law_signs) := ⟨rfl, rfl, rfl, by decide +kernel, rfl, by decide +kernel, by decide +kernel⟩
theorem j__law_signs {P : Program} {w : World} {K : PySem.W.Frag} {mg : Str → Option Value} {base : Heap} {A : Ad} (T : Txt K mg A) {f : Addr} {cdv : Value} {Ar : Around} {outer : List Env} {s : Shared} {H : Hp} {E : XK} (hr : Room 0 (Ar.deeper (envOfC "_law_signs" (defScope s__law_signs) s.heap.objs.size f cdv))) :
    JSs (cxOf CX0 P w K mg base N__law_signs "_law_signs" (defScope s__law_signs) f cdv Ar outer s H E).nox NW (defBody s__law_signs) w__law_signs := by
  have nd : N__law_signs.Nodup := sc__law_signs.nd
  have hp := @PassesOwn.never
  exact (jss_cons (js_setF (i := 2) nd rfl (Or.inr rfl) (je_lc (own := [("bit", 5)]) rfl nd (ji_tup (je_var (pv 0))) (blkOk_by (own := [("bit", 5)]) (N := N__law_signs) (sc := defScope s__law_signs) (by decide +kernel)) (fun _ _ _ _ _ => (jg_name (i := 5) (by decide) (pg_name (i := 5) nd rfl (by first | exact Or.inl rfl | exact Or.inr rfl)))) (fun _ _ _ _ _ => jts_nil) (fun _ _ _ _ _ => (je_op op_sub br_sub je_int (je_op op_mul br_mul je_int (je_var (pv 5)))))))
    (jss_cons (js_for (vs := [3]) hp rfl (ji_range1 (by rfl) T.b_range (ja_cons (je_var (pv 1)) ja_nil)) (jg_name (i := 3) (by decide) (pg_name (i := 3) nd rfl (by first | exact Or.inl rfl | exact Or.inr rfl)))
    (jss_cons (js_setF (i := 4) nd rfl (Or.inr rfl) (je_op op_shl br_shl je_int (je_var (pv 3))))
    (jss_one (js_setF (i := 2) nd rfl (Or.inr rfl) (je_lc (own := [("x", 6)]) rfl nd (ji_range1 (by rfl) T.b_range (ja_cons (je_callB call_len cr_len (by rfl) T.b_len (by decide +kernel) (ja_cons (je_var (pv 2)) ja_nil)) ja_nil)) (blkOk_by (own := [("x", 6)]) (N := N__law_signs) (sc := defScope s__law_signs) (by decide +kernel)) (fun _ _ _ _ _ => (jg_name (i := 6) (by decide) (pg_name (i := 6) nd rfl (by first | exact Or.inl rfl | exact Or.inr rfl)))) (fun _ _ _ _ _ => jts_nil) (fun _ _ _ _ _ => (je_if (jt_cmp op_eqI br_eqI (je_op op_and br_band (je_op op_shr br_shr (je_var (pv 6)) (je_var (pv 3))) je_int) je_int (nomark _)) (je_op op_add br_add (je_ix ix_seq br_ix (je_var (pv 2)) (je_var (pv 6)) (fun _ _ => rfl)) (je_ix ix_seq br_ix (je_var (pv 2)) (je_op op_add br_add (je_var (pv 6)) (je_var (pv 4))) (fun _ _ => rfl))) (je_op op_sub br_sub (je_ix ix_seq br_ix (je_var (pv 2)) (je_op op_sub br_sub (je_var (pv 6)) (je_var (pv 4))) (fun _ _ => rfl)) (je_ix ix_seq br_ix (je_var (pv 2)) (je_var (pv 6)) (fun _ _ => rfl))))))))))
    (jss_one (js_ret (je_var (pv 2))))))
theorem sc__law_turned : FnScope N__law_turned ["f", "h"] (defScope s__law_turned) := ⟨rfl, rfl, rfl, by decide +kernel, rfl, by decide +kernel, by decide +kernel⟩
theorem j__law_turned {P : Program} {w : World} {K : PySem.W.Frag} {mg : Str → Option Value} {base : Heap} {A : Ad} (T : Txt K mg A) {f : Addr} {cdv : Value} {Ar : Around} {outer : List Env} {s : Shared} {H : Hp} {E : XK} (hr : Room 0 (Ar.deeper (envOfC "_law_turned" (defScope s__law_turned) s.heap.objs.size f cdv))) :
    JSs (cxOf CX0 P w K mg base N__law_turned "_law_turned" (defScope s__law_turned) f cdv Ar outer s H E).nox NW (defBody s__law_turned) w__law_turned := by
  have nd : N__law_turned.Nodup := sc__law_turned.nd
  exact (jss_one (js_ret (je_lc (own := [("x", 2)]) rfl nd (ji_range1 (by rfl) T.b_range (ja_cons (je_callB call_len cr_len (by rfl) T.b_len (by decide +kernel) (ja_cons (je_var (pv 0)) ja_nil)) ja_nil)) (blkOk_by (own := [("x", 2)]) (N := N__law_turned) (sc := defScope s__law_turned) (by decide +kernel)) (fun _ _ _ _ _ => (jg_name (i := 2) (by decide) (pg_name (i := 2) nd rfl (by first | exact Or.inl rfl | exact Or.inr rfl)))) (fun _ _ _ _ _ => jts_nil) (fun _ _ _ _ _ => (je_op op_xor br_bxor (je_ix ix_seq br_ix (je_var (pv 0)) (je_var (pv 2)) (fun _ _ => rfl)) (je_ix ix_seq br_ix (je_var (pv 0)) (je_op op_xor br_bxor (je_var (pv 2)) (je_var (pv 1))) (fun _ _ => rfl)))))))
theorem sc__law_cubes : FnScope N__law_cubes ["f", "d"] (defScope s__law_cubes) := ⟨rfl, rfl, rfl, by decide +kernel, rfl, by decide +kernel, by decide +kernel⟩
theorem j__law_cubes {P : Program} {w : World} {K : PySem.W.Frag} {mg : Str → Option Value} {base : Heap} {A : Ad} (T : Txt K mg A) (G__law_turned : FnOk P w K mg base CX0 1 A.a__law_turned A.d__law_turned ["f", "h"] (spF K R__law_turned)) {f : Addr} {cdv : Value} {Ar : Around} {outer : List Env} {s : Shared} {H : Hp} {E : XK} (hr : Room 1 (Ar.deeper (envOfC "_law_cubes" (defScope s__law_cubes) s.heap.objs.size f cdv))) :
    JSs (cxOf CX0 P w K mg base N__law_cubes "_law_cubes" (defScope s__law_cubes) f cdv Ar outer s H E).nox NW (defBody s__law_cubes) w__law_cubes := by
  have nd : N__law_cubes.Nodup := sc__law_cubes.nd
  have hr1 : Room 1 _ := hr.mono (by decide)
  have hp := @PassesOwn.never
  exact (jss_cons (js_setF (i := 2) nd rfl (Or.inl rfl) (je_lst (ja_cons (je_callTy call_list_of cr_listOf (by rfl) T.b_list (by decide +kernel) (ja_cons (je_var (pv 0)) ja_nil)) ja_nil)))
    (jss_cons (js_for (vs := [3]) hp rfl (ji_range1 (by rfl) T.b_range (ja_cons (je_op op_add br_add (je_var (pv 1)) je_int) ja_nil)) (jg_name (i := 3) (by decide) (pg_name (i := 3) nd rfl (by first | exact Or.inl rfl | exact Or.inr rfl)))
    (jss_cons (js_set (i := 4) nd rfl (Or.inl rfl) (je_lst ja_nil))
    (jss_cons (js_for (vs := [5]) hp rfl (ji_list (je_var (pv 2))) (jg_name (i := 5) (by decide) (pg_name (i := 5) nd rfl (by first | exact Or.inl rfl | exact Or.inr rfl)))
    (jss_one (js_for (vs := [6]) hp rfl (ji_range1 (by rfl) T.b_range (ja_cons (je_callB call_len cr_len (by rfl) T.b_len (by decide +kernel) (ja_cons (je_var (pv 0)) ja_nil)) ja_nil)) (jg_name (i := 6) (by decide) (pg_name (i := 6) nd rfl (by first | exact Or.inl rfl | exact Or.inr rfl)))
    (jss_one (js_app (ps_expr (pe_bm PySem.F.plainAttrs_list PySem.F.slot_list_append PySem.F.type_list_append mt_append (pv 4) (pa_cons (je_call (G__law_turned) hr1 (by rfl) T.g__law_turned T.k__law_turned T.n__law_turned (ja_cons (je_var (pv 5)) (ja_cons (je_var (pv 6)) ja_nil))) pa_nil))))))))
    (jss_one (js_setF (i := 2) nd rfl (Or.inl rfl) (je_frz (pv 4)))))))
    (jss_one (js_ret (je_callB (cr_sum rfl) cr_sumD (by rfl) T.b_sum (by decide +kernel) (ja_cons (je_lc (own := [("row", 5)]) rfl nd (ji_list (je_var (pv 2))) (blkOk_by (own := [("row", 5)]) (N := N__law_cubes) (sc := defScope s__law_cubes) (by decide +kernel)) (fun _ _ _ _ _ => (jg_name (i := 5) (by decide) (pg_name (i := 5) nd rfl (by first | exact Or.inl rfl | exact Or.inr rfl)))) (fun _ _ _ _ _ => jts_nil) (fun _ _ _ _ _ => (je_callB (cr_sum rfl) cr_sumD (by rfl) T.b_sum (by decide +kernel) (ja_cons (je_var (pv 5)) ja_nil)))) ja_nil))))))
theorem sc__law_same : FnScope N__law_same ["actual", "due"] (defScope s__law_same) := ⟨rfl, rfl, rfl, by decide +kernel, rfl, by decide +kernel, by decide +kernel⟩
theorem j__law_same {P : Program} {w : World} {K : PySem.W.Frag} {mg : Str → Option Value} {base : Heap} {A : Ad} (T : Txt K mg A) {k0 dp : Nat} (G__law_same : FnOk P w K mg base CX0 k0 A.a__law_same A.d__law_same ["actual", "due"] (spF K (R__law_same dp))) {f : Addr} {cdv : Value} {Ar : Around} {outer : List Env} {s : Shared} {H : Hp} {E : XK} (hr : Room k0 (Ar.deeper (envOfC "_law_same" (defScope s__law_same) s.heap.objs.size f cdv))) :
    JSs (cxOf CX0 P w K mg base N__law_same "_law_same" (defScope s__law_same) f cdv Ar outer s H E).nox NW (defBody s__law_same) (w__law_same dp) := by
  have nd : N__law_same.Nodup := sc__law_same.nd
  have hr0 := hr
  have hu64 := hr.units
  exact (jss_cons (js_if (jt_val (je_callB call_isi (cr_isiX T.oc) (by rfl) T.b_isinstance (by decide +kernel) (ja_cons (je_var (pv 1)) (ja_cons (je_ty (by rfl) T.b_tuple (by decide +kernel)) ja_nil))))
    (jss_cons (js_if (jt_w (jw_or (jt_not (jt_val (je_callB call_isi (cr_isiX T.oc) (by rfl) T.b_isinstance (by decide +kernel) (ja_cons (je_var (pv 0)) (ja_cons (je_ty (by rfl) T.b_tuple (by decide +kernel)) ja_nil))))) (jw_or1 (jt_cmp op_neI br_neI (je_callB call_len cr_len (by rfl) T.b_len (by decide +kernel) (ja_cons (je_var (pv 0)) ja_nil)) (je_callB call_len cr_len (by rfl) T.b_len (by decide +kernel) (ja_cons (je_var (pv 1)) ja_nil)) (nomark _)))))
    (jss_one (js_ret je_bl))
    jss_nil)
    (jss_one (js_ret (je_callB (cr_all rfl) cr_allD (by rfl) T.b_all (by decide +kernel) (ja_cons (je_lc (own := [("k", 2)]) rfl nd (ji_range1 (by rfl) T.b_range (ja_cons (je_callB call_len cr_len (by rfl) T.b_len (by decide +kernel) (ja_cons (je_var (pv 1)) ja_nil)) ja_nil)) (blkOk_by (own := [("k", 2)]) (N := N__law_same) (sc := defScope s__law_same) (by decide +kernel)) (fun _ _ _ _ _ => (jg_name (i := 2) (by decide) (pg_name (i := 2) nd rfl (by first | exact Or.inl rfl | exact Or.inr rfl)))) (fun _ _ _ _ _ => jts_nil) (fun _ _ _ _ _ => (je_call (G__law_same) hr0 (by rfl) T.g__law_same T.k__law_same T.n__law_same (ja_cons (je_ix ix_seq br_ix (je_var (pv 0)) (je_var (pv 2)) (fun _ _ => rfl)) (ja_cons (je_ix ix_seq br_ix (je_var (pv 1)) (je_var (pv 2)) (fun _ _ => rfl)) ja_nil))))) ja_nil)))))
    jss_nil)
    (jss_one (js_ret (je_and (je_callB call_isi (cr_isiX T.oc) (by rfl) T.b_isinstance (by decide +kernel) (ja_cons (je_var (pv 0)) (ja_cons (je_ty (by rfl) T.b_int (by decide +kernel)) ja_nil))) (je_and (je_not (je_callB call_isi (cr_isiX T.oc) (by rfl) T.b_isinstance (by decide +kernel) (ja_cons (je_var (pv 0)) (ja_cons (je_ty (by rfl) T.b_bool (by decide +kernel)) ja_nil)))) (je_one (je_cmp (op_eqD hu64) br_eq (je_var (pv 0)) (je_var (pv 1)) (nomark _))))))))
theorem sc__law_degree : FnScope N__law_degree ["f"] (defScope s__law_degree) := ⟨rfl, rfl, rfl, by decide +kernel, rfl, by decide +kernel, by decide +kernel⟩
theorem j__law_degree {P : Program} {w : World} {K : PySem.W.Frag} {mg : Str → Option Value} {base : Heap} {A : Ad} (T : Txt K mg A) (G__law_ones : FnOk P w K mg base CX0 1 A.a__law_ones A.d__law_ones ["x"] (spF K R__law_ones)) {f : Addr} {cdv : Value} {Ar : Around} {outer : List Env} {s : Shared} {H : Hp} {E : XK} (hr : Room 1 (Ar.deeper (envOfC "_law_degree" (defScope s__law_degree) s.heap.objs.size f cdv))) :
    JSs (cxOf CX0 P w K mg base N__law_degree "_law_degree" (defScope s__law_degree) f cdv Ar outer s H E).nox NW (defBody s__law_degree) w__law_degree := by
  have nd : N__law_degree.Nodup := sc__law_degree.nd
  have hr1 : Room 1 _ := hr.mono (by decide)
  have hp := @PassesOwn.never
  exact (jss_cons (js_setF (i := 1) nd rfl (Or.inl rfl) (je_neg je_int))
    (jss_cons (js_for (vs := [2]) hp rfl (ji_range1 (by rfl) T.b_range (ja_cons (je_callB call_len cr_len (by rfl) T.b_len (by decide +kernel) (ja_cons (je_var (pv 0)) ja_nil)) ja_nil)) (jg_name (i := 2) (by decide) (pg_name (i := 2) nd rfl (by first | exact Or.inl rfl | exact Or.inr rfl)))
    (jss_one (js_if (jt_cmp op_eqI br_eqI (je_op op_mod br_mod (je_callB (cr_sum rfl) cr_sumD (by rfl) T.b_sum (by decide +kernel) (ja_cons (je_lc (own := [("x", 3)]) rfl nd (ji_range1 (by rfl) T.b_range (ja_cons (je_callB call_len cr_len (by rfl) T.b_len (by decide +kernel) (ja_cons (je_var (pv 0)) ja_nil)) ja_nil)) (blkOk_by (own := [("x", 3)]) (N := N__law_degree) (sc := defScope s__law_degree) (by decide +kernel)) (fun _ _ _ _ _ => (jg_name (i := 3) (by decide) (pg_name (i := 3) nd rfl (by first | exact Or.inl rfl | exact Or.inr rfl)))) (fun _ _ _ _ _ => (jts_one (jt_cmp op_eqI br_eqI (je_op op_and br_band (je_var (pv 3)) (je_var (pv 2))) (je_var (pv 3)) (nomark _)))) (fun _ _ _ _ _ => (je_ix ix_seq br_ix (je_var (pv 0)) (je_var (pv 3)) (fun _ _ => rfl)))) ja_nil)) je_int) je_int (nomark _))
    (jss_one (js_setF (i := 1) nd rfl (Or.inl rfl) (je_callB (call_max2 rfl) cr_maxI (by rfl) T.b_max (by decide +kernel) (ja_cons (je_var (pv 1)) (ja_cons (je_call (G__law_ones) hr1 (by rfl) T.g__law_ones T.k__law_ones T.n__law_ones (ja_cons (je_var (pv 2)) ja_nil)) ja_nil)))))
    jss_nil)))
    (jss_one (js_ret (je_var (pv 1))))))
theorem sc__law_told : FnScope N__law_told ["which", "n", "d", "f"] (defScope s__law_told) := ⟨rfl, rfl, rfl, by decide +kernel, rfl, by decide +kernel, by decide +kernel⟩
theorem j__law_told {P : Program} {w : World} {K : PySem.W.Frag} {mg : Str → Option Value} {base : Heap} {A : Ad} (T : Txt K mg A) (G_broken_cubes : FnOk P w K mg base (L2.CX P w) 5 A.a_broken_cubes A.d_broken_cubes ["n", "d", "f"] (spX K R_broken_cubes)) (G_near_degree : FnOk P w K mg base (L2.CX P w) 5 A.a_near_degree A.d_near_degree ["n", "d", "f"] (spX K R_near_degree)) {f : Addr} {cdv : Value} {Ar : Around} {outer : List Env} {s : Shared} {H : Hp} {E : XK} (hr : Room 5 (Ar.deeper (envOfC "_law_told" (defScope s__law_told) s.heap.objs.size f cdv))) :
    JSs (cxOf CX0 P w K mg base N__law_told "_law_told" (defScope s__law_told) f cdv Ar outer s H E).nox NW (defBody s__law_told) w__law_told := by
  have nd : N__law_told.Nodup := sc__law_told.nd
  have hr5 : Room 5 _ := hr.mono (by decide)
  exact (jss_cons (js_try (sub := tab3 xtab) (cl := [("InvalidNumber", some 4, fun a C d => (wRet (wLst (wCons (wK (.str (PySem.Str.ofString "number"))) (wCons (wXf a C d "InvalidNumber" "value" (wVar 4)) (wCons (wAndV (wCB (wIsX xtab a C d) (wCons (wVar 4) (wCons (wK (.cn "NinthError")) wNil))) (wNotV (wCB (wIsX xtab a C d) (wCons (wVar 4) (wCons (wK (.cn "InvalidMap")) wNil))))) wNil)))))),
    ("InvalidMap", some 4, fun a C d => (wRet (wLst (wCons (wK (.str (PySem.Str.ofString "map"))) (wCons (wXf a C d "InvalidMap" "value" (wVar 4)) (wCons (wCB (wIsX xtab a C d) (wCons (wVar 4) (wCons (wK (.cn "NinthError")) wNil))) wNil)))))),
    ("TooMany", some 4, fun a C d => (wRet (wLst (wCons (wK (.str (PySem.Str.ofString "many"))) (wCons (wXf a C d "TooMany" "what" (wVar 4)) (wCons (wCB (wIsX xtab a C d) (wCons (wVar 4) (wCons (wK (.cn "NinthError")) wNil))) wNil))))))]) T.exm rfl rfl takesN (fun W pq xz tk hp => (jss_one (js_if (jt_cmp op_eqI br_eqI (je_var (pv 0)) je_int (nomark _))
    (jss_one (js_expr (je_callX G_broken_cubes hr5 tk (by rfl) T.g_broken_cubes T.k_broken_cubes T.n_broken_cubes (ja_cons (je_var (pv 1)) (ja_cons (je_var (pv 2)) (ja_cons (je_var (pv 3)) ja_nil))))))
    (jss_one (js_expr (je_callX G_near_degree hr5 tk (by rfl) T.g_near_degree T.k_near_degree T.n_near_degree (ja_cons (je_var (pv 1)) (ja_cons (je_var (pv 2)) (ja_cons (je_var (pv 3)) ja_nil)))))))))
    (HdA.as (i := 4) nd rfl rfl ⟨by rfl, by decide, .inl T.gx_InvalidNumber⟩ (fun a oe cls d pn hz hf => pss_su fun C hC => (jss_one (js_ret (je_lst (ja_cons je_str (ja_cons (je_xf hC T.x_InvalidNumber.xf (T.x_InvalidNumber.no _ (by decide)) hz hf (je_var (pv 4))) (ja_cons (je_and (je_callB (call_isX hz hf) (cr_isX hC (fun c b => T.xtC _ c b) T.kit) (by rfl) T.b_isinstance (by decide +kernel) (ja_cons (je_var (pv 4)) (ja_cons (je_cn (by rfl) T.gx_NinthError) ja_nil))) (je_one (je_not (je_callB (call_isX hz hf) (cr_isX hC (fun c b => T.xtC _ c b) T.kit) (by rfl) T.b_isinstance (by decide +kernel) (ja_cons (je_var (pv 4)) (ja_cons (je_cn (by rfl) T.gx_InvalidMap) ja_nil)))))) ja_nil)))))))
    (HdA.as (i := 4) nd rfl rfl ⟨by rfl, by decide, .inl T.gx_InvalidMap⟩ (fun a oe cls d pn hz hf => pss_su fun C hC => (jss_one (js_ret (je_lst (ja_cons je_str (ja_cons (je_xf hC T.x_InvalidMap.xf (T.x_InvalidMap.no _ (by decide)) hz hf (je_var (pv 4))) (ja_cons (je_callB (call_isX hz hf) (cr_isX hC (fun c b => T.xtC _ c b) T.kit) (by rfl) T.b_isinstance (by decide +kernel) (ja_cons (je_var (pv 4)) (ja_cons (je_cn (by rfl) T.gx_NinthError) ja_nil))) ja_nil)))))))
    (HdA.as (i := 4) nd rfl rfl ⟨by rfl, by decide, .inl T.gx_TooMany⟩ (fun a oe cls d pn hz hf => pss_su fun C hC => (jss_one (js_ret (je_lst (ja_cons je_str (ja_cons (je_xf hC T.x_TooMany.xf (T.x_TooMany.no _ (by decide)) hz hf (je_var (pv 4))) (ja_cons (je_callB (call_isX hz hf) (cr_isX hC (fun c b => T.xtC _ c b) T.kit) (by rfl) T.b_isinstance (by decide +kernel) (ja_cons (je_var (pv 4)) (ja_cons (je_cn (by rfl) T.gx_NinthError) ja_nil))) ja_nil)))))))
    HdA.nil))))
    (jss_one (js_ret (je_lst (ja_cons je_str (ja_cons je_non (ja_cons je_bl ja_nil)))))))
theorem sc__law_refused : FnScope N__law_refused ["which", "n", "d", "f", "word", "value"] (defScope s__law_refused) := ⟨rfl, rfl, rfl, by decide +kernel, rfl, by decide +kernel, by decide +kernel⟩
theorem j__law_refused {P : Program} {w : World} {K : PySem.W.Frag} {mg : Str → Option Value} {base : Heap} {A : Ad} (T : Txt K mg A) (G__law_told : FnOk P w K mg base CX0 6 A.a__law_told A.d__law_told ["which", "n", "d", "f"] (spF K R__law_told)) {f : Addr} {cdv : Value} {Ar : Around} {outer : List Env} {s : Shared} {H : Hp} {E : XK} (hr : Room 6 (Ar.deeper (envOfC "_law_refused" (defScope s__law_refused) s.heap.objs.size f cdv))) :
    JSs (cxOf CX0 P w K mg base N__law_refused "_law_refused" (defScope s__law_refused) f cdv Ar outer s H E).nox NW (defBody s__law_refused) w__law_refused := by
  have nd : N__law_refused.Nodup := sc__law_refused.nd
  have hr6 : Room 6 _ := hr.mono (by decide)
  have hu64 := hr.units
  exact (jss_cons (js_setF (i := 6) nd rfl (Or.inl rfl) (je_call (G__law_told) hr6 (by rfl) T.g__law_told T.k__law_told T.n__law_told (ja_cons (je_var (pv 0)) (ja_cons (je_var (pv 1)) (ja_cons (je_var (pv 2)) (ja_cons (je_var (pv 3)) ja_nil))))))
    (jss_cons (js_if (jt_w (jw_or (jt_cmp (op_neD hu64) br_ne (je_ix ix_seq br_ix (je_var (pv 6)) je_int (fun _ _ => rfl)) (je_var (pv 4)) (nomark _)) (jw_or (jt_not (jt_val (je_ix ix_seq br_ix (je_var (pv 6)) je_int (fun _ _ => rfl)))) (jw_or1 (jt_cmp (op_neD hu64) br_ne (je_callB call_isi (cr_isiX T.oc) (by rfl) T.b_isinstance (by decide +kernel) (ja_cons (je_ix ix_seq br_ix (je_var (pv 6)) je_int (fun _ _ => rfl)) (ja_cons (je_ty (by rfl) T.b_bool (by decide +kernel)) ja_nil))) (je_callB call_isi (cr_isiX T.oc) (by rfl) T.b_isinstance (by decide +kernel) (ja_cons (je_var (pv 5)) (ja_cons (je_ty (by rfl) T.b_bool (by decide +kernel)) ja_nil))) (nomark _))))))
    (jss_one (js_ret je_bl))
    jss_nil)
    (jss_one (js_ret (je_cmp (op_eqD hu64) br_eq (je_ix ix_seq br_ix (je_var (pv 6)) je_int (fun _ _ => rfl)) (je_var (pv 5)) (nomark _))))))
theorem sc__law_wrong : FnScope N__law_wrong ["script", "n", "d", "f"] (defScope s__law_wrong) := ⟨rfl, rfl, rfl, by decide +kernel, rfl, by decide +kernel, by decide +kernel⟩
theorem j__law_wrong {P : Program} {w : World} {K : PySem.W.Frag} {mg : Str → Option Value} {base : Heap} {A : Ad} (T : Txt K mg A) (G__law_cell : FnOk P w K mg base CX0 1 A.a__law_cell A.d__law_cell ["script", "k"] (spF K R__law_cell)) (G__law_refused : FnOk P w K mg base CX0 7 A.a__law_refused A.d__law_refused ["which", "n", "d", "f", "word", "value"] (spF K R__law_refused)) {f : Addr} {cdv : Value} {Ar : Around} {outer : List Env} {s : Shared} {H : Hp} {E : XK} (hr : Room 7 (Ar.deeper (envOfC "_law_wrong" (defScope s__law_wrong) s.heap.objs.size f cdv))) :
    JSs (cxOf CX0 P w K mg base N__law_wrong "_law_wrong" (defScope s__law_wrong) f cdv Ar outer s H E).nox NW (defBody s__law_wrong) w__law_wrong := by
  have nd : N__law_wrong.Nodup := sc__law_wrong.nd
  have hr1 : Room 1 _ := hr.mono (by decide)
  have hr7 : Room 7 _ := hr.mono (by decide)
  have hp := @PassesOwn.never
  exact (jss_cons (js_setF (i := 4) nd rfl (Or.inl rfl) (je_call (G__law_cell) hr1 (by rfl) T.g__law_cell T.k__law_cell T.n__law_cell (ja_cons (je_var (pv 0)) (ja_cons je_int ja_nil))))
    (jss_cons (js_setF (i := 5) nd rfl (Or.inl rfl) (je_ix ix_seq br_ix (je_lst (ja_cons je_int (ja_cons je_int (ja_cons (je_op op_sub br_sub (je_neg je_int) (je_op op_mod br_mod (je_op op_fdiv br_div (je_var (pv 4)) je_int) (je_op op_pow br_pow je_int je_int))) (ja_cons (je_op op_add br_add je_int (je_op op_mod br_mod (je_op op_fdiv br_div (je_var (pv 4)) je_int) (je_op op_pow br_pow je_int je_int))) (ja_cons je_bl (ja_cons je_non (ja_cons je_str (ja_cons (je_tup (ja_cons (je_var (pv 1)) ja_nil)) ja_nil))))))))) (je_op op_mod br_mod (je_var (pv 4)) je_int) (fun _ _ => rfl)))
    (jss_cons (js_setF (i := 6) nd rfl (Or.inl rfl) (je_ix ix_seq br_ix (je_lst (ja_cons (je_neg je_int) (ja_cons je_int (ja_cons (je_op op_sub br_sub (je_neg je_int) (je_op op_mod br_mod (je_op op_fdiv br_div (je_var (pv 4)) je_int) (je_op op_pow br_pow je_int je_int))) (ja_cons (je_op op_add br_add je_int (je_op op_mod br_mod (je_op op_fdiv br_div (je_var (pv 4)) je_int) (je_op op_pow br_pow je_int je_int))) (ja_cons je_bl (ja_cons je_non (ja_cons je_str (ja_cons (je_tup (ja_cons (je_var (pv 2)) ja_nil)) ja_nil))))))))) (je_op op_mod br_mod (je_op op_fdiv br_div (je_var (pv 4)) je_int) je_int) (fun _ _ => rfl)))
    (jss_cons (js_setF (i := 7) nd rfl (Or.inl rfl) (je_op op_mod br_mod (je_call (G__law_cell) hr1 (by rfl) T.g__law_cell T.k__law_cell T.n__law_cell (ja_cons (je_var (pv 0)) (ja_cons je_int ja_nil))) (je_callB call_len cr_len (by rfl) T.b_len (by decide +kernel) (ja_cons (je_var (pv 3)) ja_nil))))
    (jss_cons (js_setF (i := 8) nd rfl (Or.inl rfl) (je_ix ix_seq br_ix (je_lst (ja_cons je_int (ja_cons (je_neg je_int) (ja_cons je_bl (ja_cons je_non (ja_cons je_str (ja_cons (je_tup (ja_cons je_int ja_nil)) ja_nil))))))) (je_op op_mod br_mod (je_op op_fdiv br_div (je_call (G__law_cell) hr1 (by rfl) T.g__law_cell T.k__law_cell T.n__law_cell (ja_cons (je_var (pv 0)) (ja_cons je_int ja_nil))) je_int) je_int) (fun _ _ => rfl)))
    (jss_cons (js_setF (i := 9) nd rfl (Or.inl rfl) (je_op op_catA br_catT (je_op op_catA br_catT (je_slT (je_var (pv 3)) jo_none (jo_some (je_var (pv 7)))) (je_tup (ja_cons (je_var (pv 8)) ja_nil))) (je_slT (je_var (pv 3)) (jo_some (je_op op_add br_add (je_var (pv 7)) je_int)) jo_none)))
    (jss_cons (js_setF (i := 10) nd rfl (Or.inl rfl) (je_ix ix_seq br_ix (je_lst (ja_cons (je_callTy call_list_of cr_listOf (by rfl) T.b_list (by decide +kernel) (ja_cons (je_var (pv 3)) ja_nil)) (ja_cons (je_slT (je_var (pv 3)) (jo_some je_int) jo_none) (ja_cons (je_op op_catA br_catT (je_var (pv 3)) (je_tup (ja_cons je_int ja_nil))) (ja_cons (je_tup ja_nil) (ja_cons je_non (ja_cons (je_var (pv 9)) (ja_cons (je_var (pv 9)) (ja_cons (je_var (pv 9)) ja_nil))))))))) (je_op op_mod br_mod (je_op op_fdiv br_div (je_var (pv 4)) je_int) je_int) (fun _ _ => rfl)))
    (jss_cons (js_for (vs := [11]) hp rfl (ji_range1 (by rfl) T.b_range (ja_cons je_int ja_nil)) (jg_name (i := 11) (by decide) (pg_name (i := 11) nd rfl (by first | exact Or.inl rfl | exact Or.inr rfl)))
    (jss_cons (js_if (jt_not (jt_val (je_call (G__law_refused) hr7 (by rfl) T.g__law_refused T.k__law_refused T.n__law_refused (ja_cons (je_var (pv 11)) (ja_cons (je_var (pv 5)) (ja_cons (je_var (pv 2)) (ja_cons (je_var (pv 3)) (ja_cons je_str (ja_cons (je_var (pv 5)) ja_nil)))))))))
    (jss_one (js_ret je_bl))
    jss_nil)
    (jss_cons (js_if (jt_not (jt_val (je_call (G__law_refused) hr7 (by rfl) T.g__law_refused T.k__law_refused T.n__law_refused (ja_cons (je_var (pv 11)) (ja_cons (je_var (pv 5)) (ja_cons (je_var (pv 6)) (ja_cons (je_var (pv 10)) (ja_cons je_str (ja_cons (je_var (pv 5)) ja_nil)))))))))
    (jss_one (js_ret je_bl))
    jss_nil)
    (jss_one (js_if (jt_w (jw_or (jt_not (jt_val (je_call (G__law_refused) hr7 (by rfl) T.g__law_refused T.k__law_refused T.n__law_refused (ja_cons (je_var (pv 11)) (ja_cons (je_var (pv 1)) (ja_cons (je_var (pv 6)) (ja_cons (je_var (pv 3)) (ja_cons je_str (ja_cons (je_var (pv 6)) ja_nil))))))))) (jw_or1 (jt_not (jt_val (je_call (G__law_refused) hr7 (by rfl) T.g__law_refused T.k__law_refused T.n__law_refused (ja_cons (je_var (pv 11)) (ja_cons (je_var (pv 1)) (ja_cons (je_var (pv 6)) (ja_cons (je_var (pv 10)) (ja_cons je_str (ja_cons (je_var (pv 6)) ja_nil))))))))))))
    (jss_one (js_ret je_bl))
    jss_nil)))))
    (jss_cons (js_if (jt_not (jt_val (je_call (G__law_refused) hr7 (by rfl) T.g__law_refused T.k__law_refused T.n__law_refused (ja_cons je_int (ja_cons (je_var (pv 1)) (ja_cons (je_var (pv 2)) (ja_cons (je_var (pv 10)) (ja_cons je_str (ja_cons (je_var (pv 10)) ja_nil)))))))))
    (jss_one (js_ret je_bl))
    jss_nil)
    (jss_one (js_ret (je_call (G__law_refused) hr7 (by rfl) T.g__law_refused T.k__law_refused T.n__law_refused (ja_cons je_int (ja_cons (je_var (pv 1)) (ja_cons (je_op op_mod br_mod (je_var (pv 2)) je_int) (ja_cons (je_var (pv 10)) (ja_cons je_str (ja_cons (je_var (pv 10)) ja_nil))))))))))))))))))
theorem sc__law_by_shifts : FnScope N__law_by_shifts ["n", "d", "f", "due"] (defScope s__law_by_shifts) := ⟨rfl, rfl, rfl, by decide +kernel, rfl, by decide +kernel, by decide +kernel⟩
theorem j__law_by_shifts {P : Program} {w : World} {K : PySem.W.Frag} {mg : Str → Option Value} {base : Heap} {A : Ad} (T : Txt K mg A) (G__law_turned : FnOk P w K mg base CX0 1 A.a__law_turned A.d__law_turned ["f", "h"] (spF K R__law_turned)) (G_broken_cubes : FnOk P w K mg base (L2.CX P w) 5 A.a_broken_cubes A.d_broken_cubes ["n", "d", "f"] (spX K R_broken_cubes)) (G__law_same : FnOk P w K mg base CX0 3 A.a__law_same A.d__law_same ["actual", "due"] (spF K (R__law_same 2))) (G__law_cubes : FnOk P w K mg base CX0 2 A.a__law_cubes A.d__law_cubes ["f", "d"] (spF K R__law_cubes)) (G__law_ones : FnOk P w K mg base CX0 1 A.a__law_ones A.d__law_ones ["x"] (spF K R__law_ones)) (G_sway : FnOk P w K mg base (L2.CX P w) 5 A.a_sway A.d_sway ["n", "f"] (spX K R_sway)) {f : Addr} {cdv : Value} {Ar : Around} {outer : List Env} {s : Shared} {H : Hp} {E : XK} (hr : Room 5 (Ar.deeper (envOfC "_law_by_shifts" (defScope s__law_by_shifts) s.heap.objs.size f cdv))) :
    JSs (cxOf CX0 P w K mg base N__law_by_shifts "_law_by_shifts" (defScope s__law_by_shifts) f cdv Ar outer s H E).nox NW (defBody s__law_by_shifts) w__law_by_shifts := by
  have nd : N__law_by_shifts.Nodup := sc__law_by_shifts.nd
  have hr1 : Room 1 _ := hr.mono (by decide)
  have hr2 : Room 2 _ := hr.mono (by decide)
  have hr3 : Room 3 _ := hr.mono (by decide)
  have hr5 : Room 5 _ := hr.mono (by decide)
  have hp := @PassesOwn.never
  exact (jss_cons (js_setF (i := 4) nd rfl (Or.inl rfl) je_int)
    (jss_cons (js_setF (i := 5) nd rfl (Or.inl rfl) je_int)
    (jss_cons (js_for (vs := [6]) hp rfl (ji_range1 (by rfl) T.b_range (ja_cons (je_callB call_len cr_len (by rfl) T.b_len (by decide +kernel) (ja_cons (je_var (pv 2)) ja_nil)) ja_nil)) (jg_name (i := 6) (by decide) (pg_name (i := 6) nd rfl (by first | exact Or.inl rfl | exact Or.inr rfl)))
    (jss_cons (js_setF (i := 7) nd rfl (Or.inl rfl) (je_callTy call_tuple_of cr_tupleOf (by rfl) T.b_tuple (by decide +kernel) (ja_cons (je_call (G__law_turned) hr1 (by rfl) T.g__law_turned T.k__law_turned T.n__law_turned (ja_cons (je_var (pv 2)) (ja_cons (je_var (pv 6)) ja_nil))) ja_nil)))
    (jss_cons (js_if (jt_cmp op_gt br_gt (je_var (pv 1)) je_int (nomark _))
    (jss_cons (js_setF (i := 8) nd rfl (Or.inl rfl) (je_callN G_broken_cubes hr5 (by rfl) T.g_broken_cubes T.k_broken_cubes T.n_broken_cubes (ja_cons (je_var (pv 0)) (ja_cons (je_op op_sub br_sub (je_var (pv 1)) je_int) (ja_cons (je_var (pv 7)) ja_nil)))))
    (jss_cons (js_if (jt_not (jt_val (je_call (G__law_same) hr3 (by rfl) T.g__law_same T.k__law_same T.n__law_same (ja_cons (je_var (pv 8)) (ja_cons (je_call (G__law_cubes) hr2 (by rfl) T.g__law_cubes T.k__law_cubes T.n__law_cubes (ja_cons (je_var (pv 7)) (ja_cons (je_op op_sub br_sub (je_var (pv 1)) je_int) ja_nil))) ja_nil)))))
    (jss_one (js_ret je_bl))
    jss_nil)
    (jss_one (js_setF (i := 4) nd rfl (Or.inl rfl) (je_op op_add br_add (je_var (pv 4)) (je_var (pv 8)))))))
    jss_nil)
    (jss_one (js_if (jt_cmp op_eqI br_eqI (je_call (G__law_ones) hr1 (by rfl) T.g__law_ones T.k__law_ones T.n__law_ones (ja_cons (je_var (pv 6)) ja_nil)) je_int (nomark _))
    (jss_one (js_setF (i := 5) nd rfl (Or.inl rfl) (je_op op_add br_add (je_var (pv 5)) (je_callB (call_sumTu rfl) cr_sumTuD (by rfl) T.b_sum (by decide +kernel) (ja_cons (je_var (pv 7)) ja_nil)))))
    jss_nil)))))
    (jss_cons (js_if (jt_cmp op_eqI br_eqI (je_var (pv 1)) je_int (nomark _))
    (jss_one (js_setF (i := 4) nd rfl (Or.inl rfl) (je_op op_mul br_mul (je_op op_mul br_mul je_int (je_callB (call_sumTu rfl) cr_sumTuD (by rfl) T.b_sum (by decide +kernel) (ja_cons (je_var (pv 2)) ja_nil))) (je_op op_sub br_sub (je_callB call_len cr_len (by rfl) T.b_len (by decide +kernel) (ja_cons (je_var (pv 2)) ja_nil)) (je_callB (call_sumTu rfl) cr_sumTuD (by rfl) T.b_sum (by decide +kernel) (ja_cons (je_var (pv 2)) ja_nil))))))
    jss_nil)
    (jss_cons (js_setF (i := 8) nd rfl (Or.inl rfl) (je_callN G_sway hr5 (by rfl) T.g_sway T.k_sway T.n_sway (ja_cons (je_var (pv 0)) (ja_cons (je_var (pv 2)) ja_nil))))
    (jss_cons (js_if (jt_w (jw_or (jt_not (jt_val (je_callB call_isi (cr_isiX T.oc) (by rfl) T.b_isinstance (by decide +kernel) (ja_cons (je_var (pv 8)) (ja_cons (je_ty (by rfl) T.b_tuple (by decide +kernel)) ja_nil))))) (jw_or1 (jt_cmp op_neI br_neI (je_callB call_len cr_len (by rfl) T.b_len (by decide +kernel) (ja_cons (je_var (pv 8)) ja_nil)) (je_var (pv 0)) (nomark _)))))
    (jss_one (js_ret je_bl))
    jss_nil)
    (jss_one (js_ret (je_and (je_cmp op_eqI br_eqI (je_var (pv 4)) (je_var (pv 3)) (nomark _)) (je_one (je_call (G__law_same) hr3 (by rfl) T.g__law_same T.k__law_same T.n__law_same (ja_cons (je_callB (cr_sum rfl) cr_sumD (by rfl) T.b_sum (by decide +kernel) (ja_cons (je_callTy call_list_of cr_listOf (by rfl) T.b_list (by decide +kernel) (ja_cons (je_var (pv 8)) ja_nil)) ja_nil)) (ja_cons (je_var (pv 5)) ja_nil)))))))))))))
theorem sc_law : FnScope N_law ["script"] (defScope s_law) := ⟨rfl, rfl, rfl, by decide +kernel, rfl, by decide +kernel, by decide +kernel⟩
theorem j_law {P : Program} {w : World} {K : PySem.W.Frag} {mg : Str → Option Value} {base : Heap} {A : Ad} (T : Txt K mg A) (G__law_cell : FnOk P w K mg base CX0 1 A.a__law_cell A.d__law_cell ["script", "k"] (spF K R__law_cell)) (G__law_bits : FnOk P w K mg base CX0 2 A.a__law_bits A.d__law_bits ["script", "at", "n"] (spF K R__law_bits)) (G__law_refused : FnOk P w K mg base CX0 7 A.a__law_refused A.d__law_refused ["which", "n", "d", "f", "word", "value"] (spF K R__law_refused)) (G__law_cubes : FnOk P w K mg base CX0 2 A.a__law_cubes A.d__law_cubes ["f", "d"] (spF K R__law_cubes)) (G__law_signs : FnOk P w K mg base CX0 1 A.a__law_signs A.d__law_signs ["f", "n"] (spF K R__law_signs)) (G__law_degree : FnOk P w K mg base CX0 2 A.a__law_degree A.d__law_degree ["f"] (spF K R__law_degree)) (G_broken_cubes : FnOk P w K mg base (L2.CX P w) 5 A.a_broken_cubes A.d_broken_cubes ["n", "d", "f"] (spX K R_broken_cubes)) (G__law_same : FnOk P w K mg base CX0 3 A.a__law_same A.d__law_same ["actual", "due"] (spF K (R__law_same 2))) (G_bit_degree : FnOk P w K mg base (L2.CX P w) 6 A.a_bit_degree A.d_bit_degree ["n", "f"] (spX K R_bit_degree)) (G__law_by_shifts : FnOk P w K mg base CX0 6 A.a__law_by_shifts A.d__law_by_shifts ["n", "d", "f", "due"] (spF K R__law_by_shifts)) (G_signs : FnOk P w K mg base (L2.CX P w) 5 A.a_signs A.d_signs ["n", "f"] (spX K R_signs)) (G__law_wrong : FnOk P w K mg base CX0 8 A.a__law_wrong A.d__law_wrong ["script", "n", "d", "f"] (spF K R__law_wrong)) {f : Addr} {cdv : Value} {Ar : Around} {outer : List Env} {s : Shared} {H : Hp} {E : XK} (hr : Room 8 (Ar.deeper (envOfC "law" (defScope s_law) s.heap.objs.size f cdv))) :
    JSs (cxOf CX0 P w K mg base N_law "law" (defScope s_law) f cdv Ar outer s H E).nox NW (defBody s_law) w_law := by
  have nd : N_law.Nodup := sc_law.nd
  have hr1 : Room 1 _ := hr.mono (by decide)
  have hr2 : Room 2 _ := hr.mono (by decide)
  have hr3 : Room 3 _ := hr.mono (by decide)
  have hr5 : Room 5 _ := hr.mono (by decide)
  have hr6 : Room 6 _ := hr.mono (by decide)
  have hr7 : Room 7 _ := hr.mono (by decide)
  have hr8 : Room 8 _ := hr.mono (by decide)
  have hu64 := hr.units
  exact (jss_cons (js_setF (i := 1) nd rfl (Or.inl rfl) (je_op op_add br_add je_int (je_op op_mod br_mod (je_call (G__law_cell) hr1 (by rfl) T.g__law_cell T.k__law_cell T.n__law_cell (ja_cons (je_var (pv 0)) (ja_cons je_int ja_nil))) je_int)))
    (jss_cons (js_setF (i := 2) nd rfl (Or.inl rfl) (je_op op_mod br_mod (je_op op_fdiv br_div (je_call (G__law_cell) hr1 (by rfl) T.g__law_cell T.k__law_cell T.n__law_cell (ja_cons (je_var (pv 0)) (ja_cons je_int ja_nil))) je_int) je_int))
    (jss_cons (js_setF (i := 3) nd rfl (Or.inl rfl) (je_callTy call_tuple_of cr_tupleOf (by rfl) T.b_tuple (by decide +kernel) (ja_cons (je_call (G__law_bits) hr2 (by rfl) T.g__law_bits T.k__law_bits T.n__law_bits (ja_cons (je_var (pv 0)) (ja_cons je_int (ja_cons (je_var (pv 1)) ja_nil)))) ja_nil)))
    (jss_cons (js_if (jt_cmp op_gt br_gt (je_op op_mul br_mul (je_var (pv 1)) (je_op op_add br_add (je_var (pv 2)) je_int)) je_int (nomark _))
    (jss_cons (js_if (jt_w (jw_or (jt_not (jt_val (je_call (G__law_refused) hr7 (by rfl) T.g__law_refused T.k__law_refused T.n__law_refused (ja_cons je_int (ja_cons (je_var (pv 1)) (ja_cons (je_var (pv 2)) (ja_cons (je_var (pv 3)) (ja_cons je_str (ja_cons je_str ja_nil))))))))) (jw_or1 (jt_not (jt_val (je_call (G__law_refused) hr7 (by rfl) T.g__law_refused T.k__law_refused T.n__law_refused (ja_cons je_int (ja_cons (je_var (pv 1)) (ja_cons (je_var (pv 2)) (ja_cons (je_op op_catA br_catT (je_var (pv 3)) (je_tup (ja_cons je_int ja_nil))) (ja_cons je_str (ja_cons je_str ja_nil))))))))))))
    (jss_one (js_ret je_bl))
    jss_nil)
    (jss_one (js_setF (i := 2) nd rfl (Or.inl rfl) je_int)))
    jss_nil)
    (jss_cons (js_setF (i := 4) nd rfl (Or.inl rfl) (je_call (G__law_cubes) hr2 (by rfl) T.g__law_cubes T.k__law_cubes T.n__law_cubes (ja_cons (je_var (pv 3)) (ja_cons (je_var (pv 2)) ja_nil))))
    (jss_cons (js_setF (i := 5) nd rfl (Or.inl rfl) (je_call (G__law_signs) hr1 (by rfl) T.g__law_signs T.k__law_signs T.n__law_signs (ja_cons (je_var (pv 3)) (ja_cons (je_var (pv 1)) ja_nil))))
    (jss_cons (js_setF (i := 6) nd rfl (Or.inl rfl) (je_call (G__law_degree) hr2 (by rfl) T.g__law_degree T.k__law_degree T.n__law_degree (ja_cons (je_var (pv 3)) ja_nil)))
    (jss_cons (js_setF (i := 7) nd rfl (Or.inl rfl) (je_callN G_broken_cubes hr5 (by rfl) T.g_broken_cubes T.k_broken_cubes T.n_broken_cubes (ja_cons (je_var (pv 1)) (ja_cons (je_var (pv 2)) (ja_cons (je_var (pv 3)) ja_nil)))))
    (jss_cons (js_if (jt_w (jw_or (jt_not (jt_val (je_call (G__law_same) hr3 (by rfl) T.g__law_same T.k__law_same T.n__law_same (ja_cons (je_var (pv 7)) (ja_cons (je_var (pv 4)) ja_nil))))) (jw_or1 (jt_cmp (op_neD hu64) br_ne (je_cmp op_eqI br_eqI (je_var (pv 7)) je_int (nomark _)) (je_cmp op_le br_le (je_var (pv 6)) (je_var (pv 2)) (nomark _)) (nomark _)))))
    (jss_one (js_ret je_bl))
    jss_nil)
    (jss_cons (js_if (jt_w (jw_or (jt_not (jt_val (je_call (G__law_same) hr3 (by rfl) T.g__law_same T.k__law_same T.n__law_same (ja_cons (je_callN G_bit_degree hr6 (by rfl) T.g_bit_degree T.k_bit_degree T.n_bit_degree (ja_cons (je_var (pv 1)) (ja_cons (je_var (pv 3)) ja_nil))) (ja_cons (je_var (pv 6)) ja_nil))))) (jw_or1 (jt_not (jt_val (je_call (G__law_by_shifts) hr6 (by rfl) T.g__law_by_shifts T.k__law_by_shifts T.n__law_by_shifts (ja_cons (je_var (pv 1)) (ja_cons (je_var (pv 2)) (ja_cons (je_var (pv 3)) (ja_cons (je_var (pv 4)) ja_nil))))))))))
    (jss_one (js_ret je_bl))
    jss_nil)
    (jss_cons (js_if (jt_not (jt_val (je_call (G__law_same) hr3 (by rfl) T.g__law_same T.k__law_same T.n__law_same (ja_cons (je_callN G_signs hr5 (by rfl) T.g_signs T.k_signs T.n_signs (ja_cons (je_var (pv 1)) (ja_cons (je_var (pv 3)) ja_nil))) (ja_cons (je_callTy call_tuple_of cr_tupleOf (by rfl) T.b_tuple (by decide +kernel) (ja_cons (je_var (pv 5)) ja_nil)) ja_nil)))))
    (jss_one (js_ret je_bl))
    jss_nil)
    (jss_cons (js_if (jt_cmp op_lt br_lt (je_var (pv 1)) je_int (nomark _))
    (jss_cons (js_setF (i := 8) nd rfl (Or.inl rfl) (je_callB call_len cr_len (by rfl) T.b_len (by decide +kernel) (ja_cons (je_var (pv 3)) ja_nil)))
    (jss_cons (js_setF (i := 9) nd rfl (Or.inl rfl) (je_callB (cr_sum rfl) cr_sumD (by rfl) T.b_sum (by decide +kernel) (ja_cons (je_lc (own := [("s", 10)]) rfl nd (ji_list (je_var (pv 5))) (blkOk_by (own := [("s", 10)]) (N := N_law) (sc := defScope s_law) (by decide +kernel)) (fun _ _ _ _ _ => (jg_name (i := 10) (by decide) (pg_name (i := 10) nd rfl (by first | exact Or.inl rfl | exact Or.inr rfl)))) (fun _ _ _ _ _ => jts_nil) (fun _ _ _ _ _ => (je_op op_mul br_mul (je_op op_mul br_mul (je_op op_mul br_mul (je_var (pv 10)) (je_var (pv 10))) (je_var (pv 10))) (je_var (pv 10))))) ja_nil)))
    (jss_cons (js_setF (i := 7) nd rfl (Or.inl rfl) (je_callKN (ks := ["n", "d", "f"]) G_broken_cubes hr5 (by rfl) T.g_broken_cubes T.k_broken_cubes T.kb_broken_cubes (jk_cons (je_var (pv 1)) (jk_cons je_int (jk_cons (je_var (pv 3)) jk_nil)))))
    (jss_one (js_if (jt_w (jw_or (jt_not (jt_val (je_call (G__law_same) hr3 (by rfl) T.g__law_same T.k__law_same T.n__law_same (ja_cons (je_var (pv 7)) (ja_cons (je_call (G__law_cubes) hr2 (by rfl) T.g__law_cubes T.k__law_cubes T.n__law_cubes (ja_cons (je_var (pv 3)) (ja_cons je_int ja_nil))) ja_nil))))) (jw_or1 (jt_cmp op_neI br_neI (je_op op_mul br_mul (je_op op_mul br_mul (je_var (pv 7)) je_int) (je_var (pv 8))) (je_op op_sub br_sub (je_op op_mul br_mul (je_op op_mul br_mul (je_op op_mul br_mul (je_var (pv 8)) (je_var (pv 8))) (je_var (pv 8))) (je_var (pv 8))) (je_var (pv 9))) (nomark _)))))
    (jss_one (js_ret je_bl))
    jss_nil)))))
    jss_nil)
    (jss_one (js_ret (je_and (je_call (G__law_wrong) hr8 (by rfl) T.g__law_wrong T.k__law_wrong T.n__law_wrong (ja_cons (je_var (pv 0)) (ja_cons (je_var (pv 1)) (ja_cons (je_var (pv 2)) (ja_cons (je_var (pv 3)) ja_nil))))) (je_one (je_call (G__law_same) hr3 (by rfl) T.g__law_same T.k__law_same T.n__law_same (ja_cons (je_callN G_broken_cubes hr5 (by rfl) T.g_broken_cubes T.k_broken_cubes T.n_broken_cubes (ja_cons (je_var (pv 1)) (ja_cons (je_var (pv 2)) (ja_cons (je_var (pv 3)) ja_nil)))) (ja_cons (je_var (pv 4)) ja_nil)))))))))))))))))))
end L2.DL.Q

/-! # E84.lean -/
set_option Elab.async false
set_option linter.all false
set_option maxRecDepth 100000
set_option maxHeartbeats 0
namespace L2.DL.Q
open PySem PySem.Spec PyProof.Rows
/-! ## the head -/
def dd_size_of : He.DefD := ⟨("size_of", none), "size_of", "size_of", defArgs s_size_of, defBody s_size_of, defScope s_size_of, [], []⟩
def dd_packed : He.DefD := ⟨("packed", none), "packed", "packed", defArgs s_packed, defBody s_packed, defScope s_packed, [], []⟩
def dd_digit_mask : He.DefD := ⟨("digit_mask", none), "digit_mask", "digit_mask", defArgs s_digit_mask, defBody s_digit_mask, defScope s_digit_mask, [], []⟩
def dd_Turns_init : He.DefD := ⟨("Turns", some "__init__"), "__init__", "Turns.__init__", defArgs s_Turns_init, defBody s_Turns_init, defScope s_Turns_init, [], []⟩
def dd_Turns_turned : He.DefD := ⟨("Turns", some "turned"), "turned", "Turns.turned", defArgs s_Turns_turned, defBody s_Turns_turned, defScope s_Turns_turned, [], []⟩
def dd_Turns_all_turned : He.DefD := ⟨("Turns", some "all_turned"), "all_turned", "Turns.all_turned", defArgs s_Turns_all_turned, defBody s_Turns_all_turned, defScope s_Turns_all_turned, [], []⟩
def dd_is_integer : He.DefD := ⟨("is_integer", none), "is_integer", "is_integer", defArgs s_is_integer, defBody s_is_integer, defScope s_is_integer, [], []⟩
def dd_is_number : He.DefD := ⟨("is_number", none), "is_number", "is_number", defArgs s_is_number, defBody s_is_number, defScope s_is_number, [], []⟩
def dd_is_below : He.DefD := ⟨("is_below", none), "is_below", "is_below", defArgs s_is_below, defBody s_is_below, defScope s_is_below, [], []⟩
def dd_is_between : He.DefD := ⟨("is_between", none), "is_between", "is_between", defArgs s_is_between, defBody s_is_between, defScope s_is_between, [], []⟩
def dd_row_below : He.DefD := ⟨("row_below", none), "row_below", "row_below", defArgs s_row_below, defBody s_row_below, defScope s_row_below, [], []⟩
def dd_ways_of : He.DefD := ⟨("ways_of", none), "ways_of", "ways_of", defArgs s_ways_of, defBody s_ways_of, defScope s_ways_of, [], []⟩
def dd_check_bits : He.DefD := ⟨("check_bits", none), "check_bits", "check_bits", defArgs s_check_bits, defBody s_check_bits, defScope s_check_bits, [], []⟩
def dd_signs : He.DefD := ⟨("signs", none), "signs", "signs", defArgs s_signs, defBody s_signs, defScope s_signs, [], []⟩
def dd_product_bits : He.DefD := ⟨("product_bits", none), "product_bits", "product_bits", defArgs s_product_bits, defBody s_product_bits, defScope s_product_bits, [], []⟩
def dd_products_of : He.DefD := ⟨("products_of", none), "products_of", "products_of", defArgs s_products_of, defBody s_products_of, defScope s_products_of, [], []⟩
def dd_bit_degree : He.DefD := ⟨("bit_degree", none), "bit_degree", "bit_degree", defArgs s_bit_degree, defBody s_bit_degree, defScope s_bit_degree, [], []⟩
def dd_check_sizes : He.DefD := ⟨("check_sizes", none), "check_sizes", "check_sizes", defArgs s_check_sizes, defBody s_check_sizes, defScope s_check_sizes, [], []⟩
def dd_check_table : He.DefD := ⟨("check_table", none), "check_table", "check_table", defArgs s_check_table, defBody s_check_table, defScope s_check_table, [], []⟩
def dd_stepped : He.DefD := ⟨("stepped", none), "stepped", "stepped", defArgs s_stepped, defBody s_stepped, defScope s_stepped, [], []⟩
def dd_broken_cubes : He.DefD := ⟨("broken_cubes", none), "broken_cubes", "broken_cubes", defArgs s_broken_cubes, defBody s_broken_cubes, defScope s_broken_cubes, [], []⟩
def dd_many_products : He.DefD := ⟨("many_products", none), "many_products", "many_products", defArgs s_many_products, defBody s_many_products, defScope s_many_products, [], []⟩
def dd_near_degree : He.DefD := ⟨("near_degree", none), "near_degree", "near_degree", defArgs s_near_degree, defBody s_near_degree, defScope s_near_degree, [], []⟩
def dd_turn_of : He.DefD := ⟨("turn_of", none), "turn_of", "turn_of", defArgs s_turn_of, defBody s_turn_of, defScope s_turn_of, [], []⟩
def dd_turned_unlike : He.DefD := ⟨("turned_unlike", none), "turned_unlike", "turned_unlike", defArgs s_turned_unlike, defBody s_turned_unlike, defScope s_turned_unlike, [], []⟩
def dd_sway : He.DefD := ⟨("sway", none), "sway", "sway", defArgs s_sway, defBody s_sway, defScope s_sway, [], []⟩
def dd__law_cell : He.DefD := ⟨("_law_cell", none), "_law_cell", "_law_cell", defArgs s__law_cell, defBody s__law_cell, defScope s__law_cell, [], []⟩
def dd__law_digits : He.DefD := ⟨("_law_digits", none), "_law_digits", "_law_digits", defArgs s__law_digits, defBody s__law_digits, defScope s__law_digits, [], []⟩
def dd__law_ones : He.DefD := ⟨("_law_ones", none), "_law_ones", "_law_ones", defArgs s__law_ones, defBody s__law_ones, defScope s__law_ones, [], []⟩
def dd__law_bits : He.DefD := ⟨("_law_bits", none), "_law_bits", "_law_bits", defArgs s__law_bits, defBody s__law_bits, defScope s__law_bits, [], []⟩
def dd__law_signs : He.DefD := ⟨("_law_signs", none), "_law_signs", "_law_signs", defArgs s__law_signs, defBody s__law_signs, defScope s__law_signs, [], []⟩
def dd__law_turned : He.DefD := ⟨("_law_turned", none), "_law_turned", "_law_turned", defArgs s__law_turned, defBody s__law_turned, defScope s__law_turned, [], []⟩
def dd__law_cubes : He.DefD := ⟨("_law_cubes", none), "_law_cubes", "_law_cubes", defArgs s__law_cubes, defBody s__law_cubes, defScope s__law_cubes, [], []⟩
def dd__law_same : He.DefD := ⟨("_law_same", none), "_law_same", "_law_same", defArgs s__law_same, defBody s__law_same, defScope s__law_same, [], []⟩
def dd__law_degree : He.DefD := ⟨("_law_degree", none), "_law_degree", "_law_degree", defArgs s__law_degree, defBody s__law_degree, defScope s__law_degree, [], []⟩
def dd__law_told : He.DefD := ⟨("_law_told", none), "_law_told", "_law_told", defArgs s__law_told, defBody s__law_told, defScope s__law_told, [], []⟩
def dd__law_refused : He.DefD := ⟨("_law_refused", none), "_law_refused", "_law_refused", defArgs s__law_refused, defBody s__law_refused, defScope s__law_refused, [], []⟩
def dd__law_wrong : He.DefD := ⟨("_law_wrong", none), "_law_wrong", "_law_wrong", defArgs s__law_wrong, defBody s__law_wrong, defScope s__law_wrong, [], []⟩
def dd__law_by_shifts : He.DefD := ⟨("_law_by_shifts", none), "_law_by_shifts", "_law_by_shifts", defArgs s__law_by_shifts, defBody s__law_by_shifts, defScope s__law_by_shifts, [], []⟩
def dd_law : He.DefD := ⟨("law", none), "law", "law", defArgs s_law, defBody s_law, defScope s_law, [], []⟩
def dd_i_InvalidNumber : He.DefD := ⟨("InvalidNumber", some "__init__"), "__init__", "InvalidNumber.__init__", defArgs s_i_InvalidNumber, defBody s_i_InvalidNumber, defScope s_i_InvalidNumber, [], []⟩
def dd_i_InvalidMap : He.DefD := ⟨("InvalidMap", some "__init__"), "__init__", "InvalidMap.__init__", defArgs s_i_InvalidMap, defBody s_i_InvalidMap, defScope s_i_InvalidMap, [], []⟩
def dd_i_TooMany : He.DefD := ⟨("TooMany", some "__init__"), "__init__", "TooMany.__init__", defArgs s_i_TooMany, defBody s_i_TooMany, defScope s_i_TooMany, [], []⟩
def fn : List He.DefD := ([dd_size_of, dd_packed, dd_digit_mask, dd_Turns_init, dd_Turns_turned, dd_Turns_all_turned, dd_is_integer, dd_is_number, dd_is_below, dd_is_between, dd_row_below, dd_ways_of, dd_check_bits, dd_signs, dd_product_bits, dd_products_of, dd_bit_degree, dd_check_sizes, dd_check_table, dd_stepped, dd_broken_cubes, dd_many_products, dd_near_degree, dd_turn_of, dd_turned_unlike, dd_sway, dd__law_cell, dd__law_digits, dd__law_ones, dd__law_bits] : List He.DefD) ++ ([dd__law_signs, dd__law_turned, dd__law_cubes, dd__law_same, dd__law_degree, dd__law_told, dd__law_refused, dd__law_wrong, dd__law_by_shifts, dd_law, dd_i_InvalidNumber, dd_i_InvalidMap, dd_i_TooMany] : List He.DefD)
def fa : List He.Fa := ([.glo "size_of", .glo "packed", .glo "digit_mask", .glo "is_integer", .glo "is_number", .glo "is_below", .glo "is_between", .glo "row_below", .glo "ways_of", .glo "check_bits", .glo "signs", .glo "product_bits", .glo "products_of", .glo "bit_degree", .glo "check_sizes", .glo "check_table", .glo "stepped", .glo "broken_cubes", .glo "many_products", .glo "near_degree", .glo "turn_of", .glo "turned_unlike", .glo "sway", .glo "_law_cell", .glo "_law_digits", .glo "_law_ones", .glo "_law_bits", .glo "_law_signs", .glo "_law_turned", .glo "_law_cubes"] : List He.Fa) ++ ([.glo "_law_same", .glo "_law_degree", .glo "_law_told", .glo "_law_refused", .glo "_law_wrong", .glo "_law_by_shifts", .glo "law", .glo "NinthError", .glo "InvalidNumber", .glo "InvalidMap", .glo "TooMany", .glo "Turns", .free "range", .free "len", .free "int", .free "isinstance", .free "bool", .free "tuple", .free "zip", .free "enumerate", .free "list", .free "max", .free "sum", .free "abs", .free "all", .int "MOST_BITS" 7, .int "MOST_DIGITS" 3, .int "MOST_CUBE_BITS" 15, .int "MOST_PRODUCTS" 12, .cls "Turns"] : List He.Fa) ++ ([.noat "Turns" "weights", .noat "Turns" "masks", .meth "Turns" "turned", .meth "Turns" "all_turned", .mkr "Turns"] : List He.Fa)
def exl (K : PySem.W.Frag) : List Bool := [xclsB K "InvalidNumber" ["value"], xclsB K "InvalidMap" ["value"], xclsB K "TooMany" ["what"], exmB K xtab, kitB3 K xtab, insB K "Turns"]
def ex (K : PySem.W.Frag) : Bool := (exl K).all id
abbrev RR : PySem.W.OpenRow := PySem.W.OpenLaw.row PySem.Challenge.rw_nearrealm_k84_whole_cubes_by_differences
abbrev hk : PySem.W.Hook := He.hookX 5 fa fn [] [] ex
def ob (s : PySem.W.SharedT) : He.AlX := He.obsX 5 fa fn [] [] ex (HandSHeadRun.getT s)
theorem ob_eq (s : PySem.W.SharedT) : ob s = hk.obs s.abs := He.obsX_eq (HandSHeadRun.getT_eq s)
def names : List PySem.Str := (["size_of", "NinthError", "InvalidNumber", "InvalidMap", "TooMany", "packed", "unpacked", "unlike_places", "digit_mask", "Turns", "is_integer", "is_number", "is_below", "is_between", "row_below", "ways_of", "MOST_BITS", "check_bits", "signs", "MOST_DIGITS", "MOST_CUBE_BITS", "MOST_PRODUCTS", "product_bits", "products_of", "bit_degree", "check_sizes", "check_table", "stepped", "broken_cubes", "many_products"] : List PySem.Str) ++ (["product_table", "low_tables", "near_degree", "turn_of", "turned_unlike", "sway", "_law_cell", "_law_digits", "_law_ones", "_law_bits", "_law_signs", "_law_turned", "_law_cubes", "_law_same", "_law_degree", "_law_told", "_law_refused", "_law_wrong", "_law_by_shifts"] : List PySem.Str)
theorem run (w : World) : HandSHeadRun.RunEq RR (PySem.W.view RR.prog [59]) hk ob 6000 names w := by
  intro os
  kernel_rfl

theorem law_in {K : PySem.W.Frag} {H : Hp} {a : Addr} {ns : List Int} (hl : ns.length ≤ 63) (hS : SqL K H a (ns.map V.int)) : spF K R_law [.ref a] H (fun v _ => v = .bl true) fun _ _ _ => False := by
  refine ⟨H, [.scr (ns.map .int)], fun dv => dv = .fz (.bl true), Same.refl _, ?_, ⟨ns, rfl, hl, rfl⟩, fun F' H' v dv _ _ ho he => ?_⟩
  · simp only [IsL, Is]
    exact ⟨_, _, rfl, ⟨a, _, rfl, hS, IsL.ints.mpr rfl⟩, rfl⟩
  · subst he
    simpa [Out, Is] using ho

/-! ## each def keeps its promise -/
section
variable {P : Program} {w : World} {K : PySem.W.Frag} {mg : Str → Option Value} {base : Heap} {A : Ad}
theorem sc_i_InvalidNumber : FnScope ["self", "value"] ["self", "value"] (defScope s_i_InvalidNumber) := ⟨rfl, rfl, rfl, by decide +kernel, rfl, by decide +kernel, by decide +kernel⟩
theorem ok_i_InvalidNumber (T : Txt K mg A) : FnOk P w K mg base CX0 1 (He.ma K (He.ga K "InvalidNumber") "__init__") A.d_i_InvalidNumber ["self", "value"] (spI (He.ga K "InvalidNumber") ["value"]) :=
  init1 T.fi_InvalidNumber sc_i_InvalidNumber T.x_InvalidNumber.oe (T.x_InvalidNumber.no _ (by decide)) (fun _ _ _ _ _ _ => pss_one (ps_ost (pv 0) (pv 1)))
theorem sc_i_InvalidMap : FnScope ["self", "value"] ["self", "value"] (defScope s_i_InvalidMap) := ⟨rfl, rfl, rfl, by decide +kernel, rfl, by decide +kernel, by decide +kernel⟩
theorem ok_i_InvalidMap (T : Txt K mg A) : FnOk P w K mg base CX0 1 (He.ma K (He.ga K "InvalidMap") "__init__") A.d_i_InvalidMap ["self", "value"] (spI (He.ga K "InvalidMap") ["value"]) :=
  init1 T.fi_InvalidMap sc_i_InvalidMap T.x_InvalidMap.oe (T.x_InvalidMap.no _ (by decide)) (fun _ _ _ _ _ _ => pss_one (ps_ost (pv 0) (pv 1)))
theorem sc_i_TooMany : FnScope ["self", "what"] ["self", "what"] (defScope s_i_TooMany) := ⟨rfl, rfl, rfl, by decide +kernel, rfl, by decide +kernel, by decide +kernel⟩
theorem ok_i_TooMany (T : Txt K mg A) : FnOk P w K mg base CX0 1 (He.ma K (He.ga K "TooMany") "__init__") A.d_i_TooMany ["self", "what"] (spI (He.ga K "TooMany") ["what"]) :=
  init1 T.fi_TooMany sc_i_TooMany T.x_TooMany.oe (T.x_TooMany.no _ (by decide)) (fun _ _ _ _ _ _ => pss_one (ps_ost (pv 0) (pv 1)))
theorem ok_size_of (T : Txt K mg A) : FnOk P w K mg base CX0 1 A.a_size_of A.d_size_of ["bits"] (spF K R_size_of) :=
  Fun.okF (W := w_size_of) T.f_size_of sc_size_of (fun ds Q h => by first | (obtain ⟨rfl, _⟩ := h; rfl) | (obtain ⟨_, rfl, _⟩ := h; rfl) | (obtain ⟨_, _, rfl, _⟩ := h; rfl) | (obtain ⟨_, _, _, rfl, _⟩ := h; rfl) | (obtain ⟨_, _, _, _, rfl, _⟩ := h; rfl) | (obtain ⟨_, _, _, _, _, rfl, _⟩ := h; rfl) | (obtain ⟨_, _, _, _, _, _, rfl, _⟩ := h; rfl) | (obtain ⟨_, _, _, _, _, _, _, rfl, _⟩ := h; rfl) | (obtain ⟨_, _, _, _, _, _, _, _, rfl, _⟩ := h; rfl) | (obtain ⟨_, _, _, _, _, _, _, _, _, rfl, _⟩ := h; rfl) | (obtain ⟨_, h0, _⟩ := h; rcases h0 with rfl | rfl <;> rfl) | (obtain ⟨_, _, h0, _⟩ := h; rcases h0 with rfl | rfl <;> rfl) | (obtain ⟨_, _, _, h0, _⟩ := h; rcases h0 with rfl | rfl <;> rfl) | (obtain ⟨_, _, _, _, h0, _⟩ := h; rcases h0 with rfl | rfl <;> rfl) | (revert h; unfold R_size_of; split <;> first | (intro _; rfl) | exact False.elim)) (by decide) (fun cdv Ar outer s H E hr => j_size_of T  hr) v_size_of
theorem ok_packed (T : Txt K mg A) : FnOk P w K mg base CX0 1 A.a_packed A.d_packed ["f"] (spF K R_packed) :=
  Fun.okF (W := w_packed) T.f_packed sc_packed (fun ds Q h => by first | (obtain ⟨rfl, _⟩ := h; rfl) | (obtain ⟨_, rfl, _⟩ := h; rfl) | (obtain ⟨_, _, rfl, _⟩ := h; rfl) | (obtain ⟨_, _, _, rfl, _⟩ := h; rfl) | (obtain ⟨_, _, _, _, rfl, _⟩ := h; rfl) | (obtain ⟨_, _, _, _, _, rfl, _⟩ := h; rfl) | (obtain ⟨_, _, _, _, _, _, rfl, _⟩ := h; rfl) | (obtain ⟨_, _, _, _, _, _, _, rfl, _⟩ := h; rfl) | (obtain ⟨_, _, _, _, _, _, _, _, rfl, _⟩ := h; rfl) | (obtain ⟨_, _, _, _, _, _, _, _, _, rfl, _⟩ := h; rfl) | (obtain ⟨_, h0, _⟩ := h; rcases h0 with rfl | rfl <;> rfl) | (obtain ⟨_, _, h0, _⟩ := h; rcases h0 with rfl | rfl <;> rfl) | (obtain ⟨_, _, _, h0, _⟩ := h; rcases h0 with rfl | rfl <;> rfl) | (obtain ⟨_, _, _, _, h0, _⟩ := h; rcases h0 with rfl | rfl <;> rfl) | (revert h; unfold R_packed; split <;> first | (intro _; rfl) | exact False.elim)) (by decide) (fun cdv Ar outer s H E hr => j_packed T  hr) v_packed
theorem ok_Turns_turned (T : Txt K mg A) : FnOk P w K mg base CX0 1 (He.ma K (He.ga K "Turns") "turned") A.d_Turns_turned ["self", "at", "table"] (spF K R_Turns_turned) :=
  Fun.okF (W := w_Turns_turned) T.f_Turns_turned sc_Turns_turned (fun ds Q h => by first | (obtain ⟨rfl, _⟩ := h; rfl) | (obtain ⟨_, rfl, _⟩ := h; rfl) | (obtain ⟨_, _, rfl, _⟩ := h; rfl) | (obtain ⟨_, _, _, rfl, _⟩ := h; rfl) | (obtain ⟨_, _, _, _, rfl, _⟩ := h; rfl) | (obtain ⟨_, _, _, _, _, rfl, _⟩ := h; rfl) | (obtain ⟨_, _, _, _, _, _, rfl, _⟩ := h; rfl) | (obtain ⟨_, _, _, _, _, _, _, rfl, _⟩ := h; rfl) | (obtain ⟨_, _, _, _, _, _, _, _, rfl, _⟩ := h; rfl) | (obtain ⟨_, _, _, _, _, _, _, _, _, rfl, _⟩ := h; rfl) | (obtain ⟨_, h0, _⟩ := h; rcases h0 with rfl | rfl <;> rfl) | (obtain ⟨_, _, h0, _⟩ := h; rcases h0 with rfl | rfl <;> rfl) | (obtain ⟨_, _, _, h0, _⟩ := h; rcases h0 with rfl | rfl <;> rfl) | (obtain ⟨_, _, _, _, h0, _⟩ := h; rcases h0 with rfl | rfl <;> rfl) | (revert h; unfold R_Turns_turned; split <;> first | (intro _; rfl) | exact False.elim)) (by decide) (fun cdv Ar outer s H E hr => j_Turns_turned T  hr) v_Turns_turned
theorem ok_is_integer (T : Txt K mg A) : FnOk P w K mg base CX0 1 A.a_is_integer A.d_is_integer ["value"] (spF K R_is_integer) :=
  Fun.okF (W := w_is_integer) T.f_is_integer sc_is_integer (fun ds Q h => by first | (obtain ⟨rfl, _⟩ := h; rfl) | (obtain ⟨_, rfl, _⟩ := h; rfl) | (obtain ⟨_, _, rfl, _⟩ := h; rfl) | (obtain ⟨_, _, _, rfl, _⟩ := h; rfl) | (obtain ⟨_, _, _, _, rfl, _⟩ := h; rfl) | (obtain ⟨_, _, _, _, _, rfl, _⟩ := h; rfl) | (obtain ⟨_, _, _, _, _, _, rfl, _⟩ := h; rfl) | (obtain ⟨_, _, _, _, _, _, _, rfl, _⟩ := h; rfl) | (obtain ⟨_, _, _, _, _, _, _, _, rfl, _⟩ := h; rfl) | (obtain ⟨_, _, _, _, _, _, _, _, _, rfl, _⟩ := h; rfl) | (obtain ⟨_, h0, _⟩ := h; rcases h0 with rfl | rfl <;> rfl) | (obtain ⟨_, _, h0, _⟩ := h; rcases h0 with rfl | rfl <;> rfl) | (obtain ⟨_, _, _, h0, _⟩ := h; rcases h0 with rfl | rfl <;> rfl) | (obtain ⟨_, _, _, _, h0, _⟩ := h; rcases h0 with rfl | rfl <;> rfl) | (revert h; unfold R_is_integer; split <;> first | (intro _; rfl) | exact False.elim)) (by decide) (fun cdv Ar outer s H E hr => j_is_integer T  hr) v_is_integer
theorem ok_ways_of (T : Txt K mg A) : FnOk P w K mg base CX0 1 A.a_ways_of A.d_ways_of ["many"] (spF K R_ways_of) :=
  Fun.okF (W := w_ways_of) T.f_ways_of sc_ways_of (fun ds Q h => by first | (obtain ⟨rfl, _⟩ := h; rfl) | (obtain ⟨_, rfl, _⟩ := h; rfl) | (obtain ⟨_, _, rfl, _⟩ := h; rfl) | (obtain ⟨_, _, _, rfl, _⟩ := h; rfl) | (obtain ⟨_, _, _, _, rfl, _⟩ := h; rfl) | (obtain ⟨_, _, _, _, _, rfl, _⟩ := h; rfl) | (obtain ⟨_, _, _, _, _, _, rfl, _⟩ := h; rfl) | (obtain ⟨_, _, _, _, _, _, _, rfl, _⟩ := h; rfl) | (obtain ⟨_, _, _, _, _, _, _, _, rfl, _⟩ := h; rfl) | (obtain ⟨_, _, _, _, _, _, _, _, _, rfl, _⟩ := h; rfl) | (obtain ⟨_, h0, _⟩ := h; rcases h0 with rfl | rfl <;> rfl) | (obtain ⟨_, _, h0, _⟩ := h; rcases h0 with rfl | rfl <;> rfl) | (obtain ⟨_, _, _, h0, _⟩ := h; rcases h0 with rfl | rfl <;> rfl) | (obtain ⟨_, _, _, _, h0, _⟩ := h; rcases h0 with rfl | rfl <;> rfl) | (revert h; unfold R_ways_of; split <;> first | (intro _; rfl) | exact False.elim)) (by decide) (fun cdv Ar outer s H E hr => j_ways_of T  hr) v_ways_of
theorem ok_product_bits (T : Txt K mg A) : FnOk P w K mg base CX0 1 A.a_product_bits A.d_product_bits ["n", "f"] (spF K R_product_bits) :=
  Fun.okF (W := w_product_bits) T.f_product_bits sc_product_bits (fun ds Q h => by first | (obtain ⟨rfl, _⟩ := h; rfl) | (obtain ⟨_, rfl, _⟩ := h; rfl) | (obtain ⟨_, _, rfl, _⟩ := h; rfl) | (obtain ⟨_, _, _, rfl, _⟩ := h; rfl) | (obtain ⟨_, _, _, _, rfl, _⟩ := h; rfl) | (obtain ⟨_, _, _, _, _, rfl, _⟩ := h; rfl) | (obtain ⟨_, _, _, _, _, _, rfl, _⟩ := h; rfl) | (obtain ⟨_, _, _, _, _, _, _, rfl, _⟩ := h; rfl) | (obtain ⟨_, _, _, _, _, _, _, _, rfl, _⟩ := h; rfl) | (obtain ⟨_, _, _, _, _, _, _, _, _, rfl, _⟩ := h; rfl) | (obtain ⟨_, h0, _⟩ := h; rcases h0 with rfl | rfl <;> rfl) | (obtain ⟨_, _, h0, _⟩ := h; rcases h0 with rfl | rfl <;> rfl) | (obtain ⟨_, _, _, h0, _⟩ := h; rcases h0 with rfl | rfl <;> rfl) | (obtain ⟨_, _, _, _, h0, _⟩ := h; rcases h0 with rfl | rfl <;> rfl) | (revert h; unfold R_product_bits; split <;> first | (intro _; rfl) | exact False.elim)) (by decide) (fun cdv Ar outer s H E hr => j_product_bits T  hr) v_product_bits
theorem ok_turn_of (T : Txt K mg A) : FnOk P w K mg base CX0 1 A.a_turn_of A.d_turn_of ["n", "i"] (spF K R_turn_of) :=
  Fun.okF (W := w_turn_of) T.f_turn_of sc_turn_of (fun ds Q h => by first | (obtain ⟨rfl, _⟩ := h; rfl) | (obtain ⟨_, rfl, _⟩ := h; rfl) | (obtain ⟨_, _, rfl, _⟩ := h; rfl) | (obtain ⟨_, _, _, rfl, _⟩ := h; rfl) | (obtain ⟨_, _, _, _, rfl, _⟩ := h; rfl) | (obtain ⟨_, _, _, _, _, rfl, _⟩ := h; rfl) | (obtain ⟨_, _, _, _, _, _, rfl, _⟩ := h; rfl) | (obtain ⟨_, _, _, _, _, _, _, rfl, _⟩ := h; rfl) | (obtain ⟨_, _, _, _, _, _, _, _, rfl, _⟩ := h; rfl) | (obtain ⟨_, _, _, _, _, _, _, _, _, rfl, _⟩ := h; rfl) | (obtain ⟨_, h0, _⟩ := h; rcases h0 with rfl | rfl <;> rfl) | (obtain ⟨_, _, h0, _⟩ := h; rcases h0 with rfl | rfl <;> rfl) | (obtain ⟨_, _, _, h0, _⟩ := h; rcases h0 with rfl | rfl <;> rfl) | (obtain ⟨_, _, _, _, h0, _⟩ := h; rcases h0 with rfl | rfl <;> rfl) | (revert h; unfold R_turn_of; split <;> first | (intro _; rfl) | exact False.elim)) (by decide) (fun cdv Ar outer s H E hr => j_turn_of T  hr) v_turn_of
theorem ok__law_cell (T : Txt K mg A) : FnOk P w K mg base CX0 1 A.a__law_cell A.d__law_cell ["script", "k"] (spF K R__law_cell) :=
  Fun.okF (W := w__law_cell) T.f__law_cell sc__law_cell (fun ds Q h => by first | (obtain ⟨rfl, _⟩ := h; rfl) | (obtain ⟨_, rfl, _⟩ := h; rfl) | (obtain ⟨_, _, rfl, _⟩ := h; rfl) | (obtain ⟨_, _, _, rfl, _⟩ := h; rfl) | (obtain ⟨_, _, _, _, rfl, _⟩ := h; rfl) | (obtain ⟨_, _, _, _, _, rfl, _⟩ := h; rfl) | (obtain ⟨_, _, _, _, _, _, rfl, _⟩ := h; rfl) | (obtain ⟨_, _, _, _, _, _, _, rfl, _⟩ := h; rfl) | (obtain ⟨_, _, _, _, _, _, _, _, rfl, _⟩ := h; rfl) | (obtain ⟨_, _, _, _, _, _, _, _, _, rfl, _⟩ := h; rfl) | (obtain ⟨_, h0, _⟩ := h; rcases h0 with rfl | rfl <;> rfl) | (obtain ⟨_, _, h0, _⟩ := h; rcases h0 with rfl | rfl <;> rfl) | (obtain ⟨_, _, _, h0, _⟩ := h; rcases h0 with rfl | rfl <;> rfl) | (obtain ⟨_, _, _, _, h0, _⟩ := h; rcases h0 with rfl | rfl <;> rfl) | (revert h; unfold R__law_cell; split <;> first | (intro _; rfl) | exact False.elim)) (by decide) (fun cdv Ar outer s H E hr => j__law_cell T  hr) v__law_cell
theorem ok__law_digits (T : Txt K mg A) : FnOk P w K mg base CX0 1 A.a__law_digits A.d__law_digits ["cell", "count", "base"] (spF K R__law_digits) :=
  Fun.okF (W := w__law_digits) T.f__law_digits sc__law_digits (fun ds Q h => by first | (obtain ⟨rfl, _⟩ := h; rfl) | (obtain ⟨_, rfl, _⟩ := h; rfl) | (obtain ⟨_, _, rfl, _⟩ := h; rfl) | (obtain ⟨_, _, _, rfl, _⟩ := h; rfl) | (obtain ⟨_, _, _, _, rfl, _⟩ := h; rfl) | (obtain ⟨_, _, _, _, _, rfl, _⟩ := h; rfl) | (obtain ⟨_, _, _, _, _, _, rfl, _⟩ := h; rfl) | (obtain ⟨_, _, _, _, _, _, _, rfl, _⟩ := h; rfl) | (obtain ⟨_, _, _, _, _, _, _, _, rfl, _⟩ := h; rfl) | (obtain ⟨_, _, _, _, _, _, _, _, _, rfl, _⟩ := h; rfl) | (obtain ⟨_, h0, _⟩ := h; rcases h0 with rfl | rfl <;> rfl) | (obtain ⟨_, _, h0, _⟩ := h; rcases h0 with rfl | rfl <;> rfl) | (obtain ⟨_, _, _, h0, _⟩ := h; rcases h0 with rfl | rfl <;> rfl) | (obtain ⟨_, _, _, _, h0, _⟩ := h; rcases h0 with rfl | rfl <;> rfl) | (revert h; unfold R__law_digits; split <;> first | (intro _; rfl) | exact False.elim)) (by decide) (fun cdv Ar outer s H E hr => j__law_digits T  hr) v__law_digits
theorem ok__law_ones (T : Txt K mg A) : FnOk P w K mg base CX0 1 A.a__law_ones A.d__law_ones ["x"] (spF K R__law_ones) :=
  Fun.okF (W := w__law_ones) T.f__law_ones sc__law_ones (fun ds Q h => by first | (obtain ⟨rfl, _⟩ := h; rfl) | (obtain ⟨_, rfl, _⟩ := h; rfl) | (obtain ⟨_, _, rfl, _⟩ := h; rfl) | (obtain ⟨_, _, _, rfl, _⟩ := h; rfl) | (obtain ⟨_, _, _, _, rfl, _⟩ := h; rfl) | (obtain ⟨_, _, _, _, _, rfl, _⟩ := h; rfl) | (obtain ⟨_, _, _, _, _, _, rfl, _⟩ := h; rfl) | (obtain ⟨_, _, _, _, _, _, _, rfl, _⟩ := h; rfl) | (obtain ⟨_, _, _, _, _, _, _, _, rfl, _⟩ := h; rfl) | (obtain ⟨_, _, _, _, _, _, _, _, _, rfl, _⟩ := h; rfl) | (obtain ⟨_, h0, _⟩ := h; rcases h0 with rfl | rfl <;> rfl) | (obtain ⟨_, _, h0, _⟩ := h; rcases h0 with rfl | rfl <;> rfl) | (obtain ⟨_, _, _, h0, _⟩ := h; rcases h0 with rfl | rfl <;> rfl) | (obtain ⟨_, _, _, _, h0, _⟩ := h; rcases h0 with rfl | rfl <;> rfl) | (revert h; unfold R__law_ones; split <;> first | (intro _; rfl) | exact False.elim)) (by decide) (fun cdv Ar outer s H E hr => j__law_ones T  hr) v__law_ones
theorem ok__law_signs (T : Txt K mg A) : FnOk P w K mg base CX0 1 A.a__law_signs A.d__law_signs ["f", "n"] (spF K R__law_signs) :=
  Fun.okF (W := w__law_signs) T.f__law_signs sc__law_signs (fun ds Q h => by first | (obtain ⟨rfl, _⟩ := h; rfl) | (obtain ⟨_, rfl, _⟩ := h; rfl) | (obtain ⟨_, _, rfl, _⟩ := h; rfl) | (obtain ⟨_, _, _, rfl, _⟩ := h; rfl) | (obtain ⟨_, _, _, _, rfl, _⟩ := h; rfl) | (obtain ⟨_, _, _, _, _, rfl, _⟩ := h; rfl) | (obtain ⟨_, _, _, _, _, _, rfl, _⟩ := h; rfl) | (obtain ⟨_, _, _, _, _, _, _, rfl, _⟩ := h; rfl) | (obtain ⟨_, _, _, _, _, _, _, _, rfl, _⟩ := h; rfl) | (obtain ⟨_, _, _, _, _, _, _, _, _, rfl, _⟩ := h; rfl) | (obtain ⟨_, h0, _⟩ := h; rcases h0 with rfl | rfl <;> rfl) | (obtain ⟨_, _, h0, _⟩ := h; rcases h0 with rfl | rfl <;> rfl) | (obtain ⟨_, _, _, h0, _⟩ := h; rcases h0 with rfl | rfl <;> rfl) | (obtain ⟨_, _, _, _, h0, _⟩ := h; rcases h0 with rfl | rfl <;> rfl) | (revert h; unfold R__law_signs; split <;> first | (intro _; rfl) | exact False.elim)) (by decide) (fun cdv Ar outer s H E hr => j__law_signs T  hr) v__law_signs
theorem ok__law_turned (T : Txt K mg A) : FnOk P w K mg base CX0 1 A.a__law_turned A.d__law_turned ["f", "h"] (spF K R__law_turned) :=
  Fun.okF (W := w__law_turned) T.f__law_turned sc__law_turned (fun ds Q h => by first | (obtain ⟨rfl, _⟩ := h; rfl) | (obtain ⟨_, rfl, _⟩ := h; rfl) | (obtain ⟨_, _, rfl, _⟩ := h; rfl) | (obtain ⟨_, _, _, rfl, _⟩ := h; rfl) | (obtain ⟨_, _, _, _, rfl, _⟩ := h; rfl) | (obtain ⟨_, _, _, _, _, rfl, _⟩ := h; rfl) | (obtain ⟨_, _, _, _, _, _, rfl, _⟩ := h; rfl) | (obtain ⟨_, _, _, _, _, _, _, rfl, _⟩ := h; rfl) | (obtain ⟨_, _, _, _, _, _, _, _, rfl, _⟩ := h; rfl) | (obtain ⟨_, _, _, _, _, _, _, _, _, rfl, _⟩ := h; rfl) | (obtain ⟨_, h0, _⟩ := h; rcases h0 with rfl | rfl <;> rfl) | (obtain ⟨_, _, h0, _⟩ := h; rcases h0 with rfl | rfl <;> rfl) | (obtain ⟨_, _, _, h0, _⟩ := h; rcases h0 with rfl | rfl <;> rfl) | (obtain ⟨_, _, _, _, h0, _⟩ := h; rcases h0 with rfl | rfl <;> rfl) | (revert h; unfold R__law_turned; split <;> first | (intro _; rfl) | exact False.elim)) (by decide) (fun cdv Ar outer s H E hr => j__law_turned T  hr) v__law_turned
theorem ok_digit_mask (T : Txt K mg A) : FnOk P w K mg base CX0 2 A.a_digit_mask A.d_digit_mask ["n", "weight"] (spF K R_digit_mask) :=
  Fun.okF (W := w_digit_mask) T.f_digit_mask sc_digit_mask (fun ds Q h => by first | (obtain ⟨rfl, _⟩ := h; rfl) | (obtain ⟨_, rfl, _⟩ := h; rfl) | (obtain ⟨_, _, rfl, _⟩ := h; rfl) | (obtain ⟨_, _, _, rfl, _⟩ := h; rfl) | (obtain ⟨_, _, _, _, rfl, _⟩ := h; rfl) | (obtain ⟨_, _, _, _, _, rfl, _⟩ := h; rfl) | (obtain ⟨_, _, _, _, _, _, rfl, _⟩ := h; rfl) | (obtain ⟨_, _, _, _, _, _, _, rfl, _⟩ := h; rfl) | (obtain ⟨_, _, _, _, _, _, _, _, rfl, _⟩ := h; rfl) | (obtain ⟨_, _, _, _, _, _, _, _, _, rfl, _⟩ := h; rfl) | (obtain ⟨_, h0, _⟩ := h; rcases h0 with rfl | rfl <;> rfl) | (obtain ⟨_, _, h0, _⟩ := h; rcases h0 with rfl | rfl <;> rfl) | (obtain ⟨_, _, _, h0, _⟩ := h; rcases h0 with rfl | rfl <;> rfl) | (obtain ⟨_, _, _, _, h0, _⟩ := h; rcases h0 with rfl | rfl <;> rfl) | (revert h; unfold R_digit_mask; split <;> first | (intro _; rfl) | exact False.elim)) (by decide) (fun cdv Ar outer s H E hr => j_digit_mask T (ok_packed T) hr) v_digit_mask
theorem ok_Turns_all_turned (T : Txt K mg A) : FnOk P w K mg base CX0 2 (He.ma K (He.ga K "Turns") "all_turned") A.d_Turns_all_turned ["self", "table"] (spF K R_Turns_all_turned) :=
  Fun.okF (W := w_Turns_all_turned) T.f_Turns_all_turned sc_Turns_all_turned (fun ds Q h => by first | (obtain ⟨rfl, _⟩ := h; rfl) | (obtain ⟨_, rfl, _⟩ := h; rfl) | (obtain ⟨_, _, rfl, _⟩ := h; rfl) | (obtain ⟨_, _, _, rfl, _⟩ := h; rfl) | (obtain ⟨_, _, _, _, rfl, _⟩ := h; rfl) | (obtain ⟨_, _, _, _, _, rfl, _⟩ := h; rfl) | (obtain ⟨_, _, _, _, _, _, rfl, _⟩ := h; rfl) | (obtain ⟨_, _, _, _, _, _, _, rfl, _⟩ := h; rfl) | (obtain ⟨_, _, _, _, _, _, _, _, rfl, _⟩ := h; rfl) | (obtain ⟨_, _, _, _, _, _, _, _, _, rfl, _⟩ := h; rfl) | (obtain ⟨_, h0, _⟩ := h; rcases h0 with rfl | rfl <;> rfl) | (obtain ⟨_, _, h0, _⟩ := h; rcases h0 with rfl | rfl <;> rfl) | (obtain ⟨_, _, _, h0, _⟩ := h; rcases h0 with rfl | rfl <;> rfl) | (obtain ⟨_, _, _, _, h0, _⟩ := h; rcases h0 with rfl | rfl <;> rfl) | (revert h; unfold R_Turns_all_turned; split <;> first | (intro _; rfl) | exact False.elim)) (by decide) (fun cdv Ar outer s H E hr => j_Turns_all_turned T (ok_Turns_turned T) hr) v_Turns_all_turned
theorem ok_is_number (T : Txt K mg A) : FnOk P w K mg base CX0 2 A.a_is_number A.d_is_number ["value"] (spF K R_is_number) :=
  Fun.okF (W := w_is_number) T.f_is_number sc_is_number (fun ds Q h => by first | (obtain ⟨rfl, _⟩ := h; rfl) | (obtain ⟨_, rfl, _⟩ := h; rfl) | (obtain ⟨_, _, rfl, _⟩ := h; rfl) | (obtain ⟨_, _, _, rfl, _⟩ := h; rfl) | (obtain ⟨_, _, _, _, rfl, _⟩ := h; rfl) | (obtain ⟨_, _, _, _, _, rfl, _⟩ := h; rfl) | (obtain ⟨_, _, _, _, _, _, rfl, _⟩ := h; rfl) | (obtain ⟨_, _, _, _, _, _, _, rfl, _⟩ := h; rfl) | (obtain ⟨_, _, _, _, _, _, _, _, rfl, _⟩ := h; rfl) | (obtain ⟨_, _, _, _, _, _, _, _, _, rfl, _⟩ := h; rfl) | (obtain ⟨_, h0, _⟩ := h; rcases h0 with rfl | rfl <;> rfl) | (obtain ⟨_, _, h0, _⟩ := h; rcases h0 with rfl | rfl <;> rfl) | (obtain ⟨_, _, _, h0, _⟩ := h; rcases h0 with rfl | rfl <;> rfl) | (obtain ⟨_, _, _, _, h0, _⟩ := h; rcases h0 with rfl | rfl <;> rfl) | (revert h; unfold R_is_number; split <;> first | (intro _; rfl) | exact False.elim)) (by decide) (fun cdv Ar outer s H E hr => j_is_number T (ok_is_integer T) hr) v_is_number
theorem ok_is_below (T : Txt K mg A) : FnOk P w K mg base CX0 2 A.a_is_below A.d_is_below ["value", "bound"] (spF K R_is_below) :=
  Fun.okF (W := w_is_below) T.f_is_below sc_is_below (fun ds Q h => by first | (obtain ⟨rfl, _⟩ := h; rfl) | (obtain ⟨_, rfl, _⟩ := h; rfl) | (obtain ⟨_, _, rfl, _⟩ := h; rfl) | (obtain ⟨_, _, _, rfl, _⟩ := h; rfl) | (obtain ⟨_, _, _, _, rfl, _⟩ := h; rfl) | (obtain ⟨_, _, _, _, _, rfl, _⟩ := h; rfl) | (obtain ⟨_, _, _, _, _, _, rfl, _⟩ := h; rfl) | (obtain ⟨_, _, _, _, _, _, _, rfl, _⟩ := h; rfl) | (obtain ⟨_, _, _, _, _, _, _, _, rfl, _⟩ := h; rfl) | (obtain ⟨_, _, _, _, _, _, _, _, _, rfl, _⟩ := h; rfl) | (obtain ⟨_, h0, _⟩ := h; rcases h0 with rfl | rfl <;> rfl) | (obtain ⟨_, _, h0, _⟩ := h; rcases h0 with rfl | rfl <;> rfl) | (obtain ⟨_, _, _, h0, _⟩ := h; rcases h0 with rfl | rfl <;> rfl) | (obtain ⟨_, _, _, _, h0, _⟩ := h; rcases h0 with rfl | rfl <;> rfl) | (revert h; unfold R_is_below; split <;> first | (intro _; rfl) | exact False.elim)) (by decide) (fun cdv Ar outer s H E hr => j_is_below T (ok_is_integer T) hr) v_is_below
theorem ok_is_between (T : Txt K mg A) : FnOk P w K mg base CX0 2 A.a_is_between A.d_is_between ["value", "least", "most"] (spF K R_is_between) :=
  Fun.okF (W := w_is_between) T.f_is_between sc_is_between (fun ds Q h => by first | (obtain ⟨rfl, _⟩ := h; rfl) | (obtain ⟨_, rfl, _⟩ := h; rfl) | (obtain ⟨_, _, rfl, _⟩ := h; rfl) | (obtain ⟨_, _, _, rfl, _⟩ := h; rfl) | (obtain ⟨_, _, _, _, rfl, _⟩ := h; rfl) | (obtain ⟨_, _, _, _, _, rfl, _⟩ := h; rfl) | (obtain ⟨_, _, _, _, _, _, rfl, _⟩ := h; rfl) | (obtain ⟨_, _, _, _, _, _, _, rfl, _⟩ := h; rfl) | (obtain ⟨_, _, _, _, _, _, _, _, rfl, _⟩ := h; rfl) | (obtain ⟨_, _, _, _, _, _, _, _, _, rfl, _⟩ := h; rfl) | (obtain ⟨_, h0, _⟩ := h; rcases h0 with rfl | rfl <;> rfl) | (obtain ⟨_, _, h0, _⟩ := h; rcases h0 with rfl | rfl <;> rfl) | (obtain ⟨_, _, _, h0, _⟩ := h; rcases h0 with rfl | rfl <;> rfl) | (obtain ⟨_, _, _, _, h0, _⟩ := h; rcases h0 with rfl | rfl <;> rfl) | (revert h; unfold R_is_between; split <;> first | (intro _; rfl) | exact False.elim)) (by decide) (fun cdv Ar outer s H E hr => j_is_between T (ok_is_integer T) hr) v_is_between
theorem ok_many_products (T : Txt K mg A) : FnOk P w K mg base CX0 2 A.a_many_products A.d_many_products ["n", "d"] (spF K R_many_products) :=
  Fun.okF (W := w_many_products) T.f_many_products sc_many_products (fun ds Q h => by first | (obtain ⟨rfl, _⟩ := h; rfl) | (obtain ⟨_, rfl, _⟩ := h; rfl) | (obtain ⟨_, _, rfl, _⟩ := h; rfl) | (obtain ⟨_, _, _, rfl, _⟩ := h; rfl) | (obtain ⟨_, _, _, _, rfl, _⟩ := h; rfl) | (obtain ⟨_, _, _, _, _, rfl, _⟩ := h; rfl) | (obtain ⟨_, _, _, _, _, _, rfl, _⟩ := h; rfl) | (obtain ⟨_, _, _, _, _, _, _, rfl, _⟩ := h; rfl) | (obtain ⟨_, _, _, _, _, _, _, _, rfl, _⟩ := h; rfl) | (obtain ⟨_, _, _, _, _, _, _, _, _, rfl, _⟩ := h; rfl) | (obtain ⟨_, h0, _⟩ := h; rcases h0 with rfl | rfl <;> rfl) | (obtain ⟨_, _, h0, _⟩ := h; rcases h0 with rfl | rfl <;> rfl) | (obtain ⟨_, _, _, h0, _⟩ := h; rcases h0 with rfl | rfl <;> rfl) | (obtain ⟨_, _, _, _, h0, _⟩ := h; rcases h0 with rfl | rfl <;> rfl) | (revert h; unfold R_many_products; split <;> first | (intro _; rfl) | exact False.elim)) (by decide) (fun cdv Ar outer s H E hr => j_many_products T (ok_ways_of T) hr) v_many_products
theorem ok_turned_unlike (T : Txt K mg A) : FnOk P w K mg base CX0 2 A.a_turned_unlike A.d_turned_unlike ["n", "f", "i"] (spF K R_turned_unlike) :=
  Fun.okF (W := w_turned_unlike) T.f_turned_unlike sc_turned_unlike (fun ds Q h => by first | (obtain ⟨rfl, _⟩ := h; rfl) | (obtain ⟨_, rfl, _⟩ := h; rfl) | (obtain ⟨_, _, rfl, _⟩ := h; rfl) | (obtain ⟨_, _, _, rfl, _⟩ := h; rfl) | (obtain ⟨_, _, _, _, rfl, _⟩ := h; rfl) | (obtain ⟨_, _, _, _, _, rfl, _⟩ := h; rfl) | (obtain ⟨_, _, _, _, _, _, rfl, _⟩ := h; rfl) | (obtain ⟨_, _, _, _, _, _, _, rfl, _⟩ := h; rfl) | (obtain ⟨_, _, _, _, _, _, _, _, rfl, _⟩ := h; rfl) | (obtain ⟨_, _, _, _, _, _, _, _, _, rfl, _⟩ := h; rfl) | (obtain ⟨_, h0, _⟩ := h; rcases h0 with rfl | rfl <;> rfl) | (obtain ⟨_, _, h0, _⟩ := h; rcases h0 with rfl | rfl <;> rfl) | (obtain ⟨_, _, _, h0, _⟩ := h; rcases h0 with rfl | rfl <;> rfl) | (obtain ⟨_, _, _, _, h0, _⟩ := h; rcases h0 with rfl | rfl <;> rfl) | (revert h; unfold R_turned_unlike; split <;> first | (intro _; rfl) | exact False.elim)) (by decide) (fun cdv Ar outer s H E hr => j_turned_unlike T (ok_turn_of T) hr) v_turned_unlike
theorem ok__law_bits (T : Txt K mg A) : FnOk P w K mg base CX0 2 A.a__law_bits A.d__law_bits ["script", "at", "n"] (spF K R__law_bits) :=
  Fun.okF (W := w__law_bits) T.f__law_bits sc__law_bits (fun ds Q h => by first | (obtain ⟨rfl, _⟩ := h; rfl) | (obtain ⟨_, rfl, _⟩ := h; rfl) | (obtain ⟨_, _, rfl, _⟩ := h; rfl) | (obtain ⟨_, _, _, rfl, _⟩ := h; rfl) | (obtain ⟨_, _, _, _, rfl, _⟩ := h; rfl) | (obtain ⟨_, _, _, _, _, rfl, _⟩ := h; rfl) | (obtain ⟨_, _, _, _, _, _, rfl, _⟩ := h; rfl) | (obtain ⟨_, _, _, _, _, _, _, rfl, _⟩ := h; rfl) | (obtain ⟨_, _, _, _, _, _, _, _, rfl, _⟩ := h; rfl) | (obtain ⟨_, _, _, _, _, _, _, _, _, rfl, _⟩ := h; rfl) | (obtain ⟨_, h0, _⟩ := h; rcases h0 with rfl | rfl <;> rfl) | (obtain ⟨_, _, h0, _⟩ := h; rcases h0 with rfl | rfl <;> rfl) | (obtain ⟨_, _, _, h0, _⟩ := h; rcases h0 with rfl | rfl <;> rfl) | (obtain ⟨_, _, _, _, h0, _⟩ := h; rcases h0 with rfl | rfl <;> rfl) | (revert h; unfold R__law_bits; split <;> first | (intro _; rfl) | exact False.elim)) (by decide) (fun cdv Ar outer s H E hr => j__law_bits T (ok__law_cell T) (ok__law_digits T) (ok__law_ones T) hr) v__law_bits
theorem ok__law_cubes (T : Txt K mg A) : FnOk P w K mg base CX0 2 A.a__law_cubes A.d__law_cubes ["f", "d"] (spF K R__law_cubes) :=
  Fun.okF (W := w__law_cubes) T.f__law_cubes sc__law_cubes (fun ds Q h => by first | (obtain ⟨rfl, _⟩ := h; rfl) | (obtain ⟨_, rfl, _⟩ := h; rfl) | (obtain ⟨_, _, rfl, _⟩ := h; rfl) | (obtain ⟨_, _, _, rfl, _⟩ := h; rfl) | (obtain ⟨_, _, _, _, rfl, _⟩ := h; rfl) | (obtain ⟨_, _, _, _, _, rfl, _⟩ := h; rfl) | (obtain ⟨_, _, _, _, _, _, rfl, _⟩ := h; rfl) | (obtain ⟨_, _, _, _, _, _, _, rfl, _⟩ := h; rfl) | (obtain ⟨_, _, _, _, _, _, _, _, rfl, _⟩ := h; rfl) | (obtain ⟨_, _, _, _, _, _, _, _, _, rfl, _⟩ := h; rfl) | (obtain ⟨_, h0, _⟩ := h; rcases h0 with rfl | rfl <;> rfl) | (obtain ⟨_, _, h0, _⟩ := h; rcases h0 with rfl | rfl <;> rfl) | (obtain ⟨_, _, _, h0, _⟩ := h; rcases h0 with rfl | rfl <;> rfl) | (obtain ⟨_, _, _, _, h0, _⟩ := h; rcases h0 with rfl | rfl <;> rfl) | (revert h; unfold R__law_cubes; split <;> first | (intro _; rfl) | exact False.elim)) (by decide) (fun cdv Ar outer s H E hr => j__law_cubes T (ok__law_turned T) hr) v__law_cubes
theorem ok__law_degree (T : Txt K mg A) : FnOk P w K mg base CX0 2 A.a__law_degree A.d__law_degree ["f"] (spF K R__law_degree) :=
  Fun.okF (W := w__law_degree) T.f__law_degree sc__law_degree (fun ds Q h => by first | (obtain ⟨rfl, _⟩ := h; rfl) | (obtain ⟨_, rfl, _⟩ := h; rfl) | (obtain ⟨_, _, rfl, _⟩ := h; rfl) | (obtain ⟨_, _, _, rfl, _⟩ := h; rfl) | (obtain ⟨_, _, _, _, rfl, _⟩ := h; rfl) | (obtain ⟨_, _, _, _, _, rfl, _⟩ := h; rfl) | (obtain ⟨_, _, _, _, _, _, rfl, _⟩ := h; rfl) | (obtain ⟨_, _, _, _, _, _, _, rfl, _⟩ := h; rfl) | (obtain ⟨_, _, _, _, _, _, _, _, rfl, _⟩ := h; rfl) | (obtain ⟨_, _, _, _, _, _, _, _, _, rfl, _⟩ := h; rfl) | (obtain ⟨_, h0, _⟩ := h; rcases h0 with rfl | rfl <;> rfl) | (obtain ⟨_, _, h0, _⟩ := h; rcases h0 with rfl | rfl <;> rfl) | (obtain ⟨_, _, _, h0, _⟩ := h; rcases h0 with rfl | rfl <;> rfl) | (obtain ⟨_, _, _, _, h0, _⟩ := h; rcases h0 with rfl | rfl <;> rfl) | (revert h; unfold R__law_degree; split <;> first | (intro _; rfl) | exact False.elim)) (by decide) (fun cdv Ar outer s H E hr => j__law_degree T (ok__law_ones T) hr) v__law_degree
theorem ok_Turns_init (T : Txt K mg A) : FnOk P w K mg base CX0 3 (He.ma K (He.ga K "Turns") "__init__") A.d_Turns_init ["self", "n"] (spB K R_Turns_init) :=
  Fun.okB (W := w_Turns_init) T.f_Turns_init sc_Turns_init (fun c ds Q h => by first | (obtain ⟨rfl, _⟩ := h; rfl) | (obtain ⟨_, rfl, _⟩ := h; rfl) | (obtain ⟨_, _, rfl, _⟩ := h; rfl) | (obtain ⟨_, _, _, rfl, _⟩ := h; rfl) | (obtain ⟨_, _, _, _, rfl, _⟩ := h; rfl) | (obtain ⟨_, _, _, _, _, rfl, _⟩ := h; rfl) | (obtain ⟨_, _, _, _, _, _, rfl, _⟩ := h; rfl) | (obtain ⟨_, _, _, _, _, _, _, rfl, _⟩ := h; rfl) | (obtain ⟨_, _, _, _, _, _, _, _, rfl, _⟩ := h; rfl) | (obtain ⟨_, _, _, _, _, _, _, _, _, rfl, _⟩ := h; rfl) | (obtain ⟨_, h0, _⟩ := h; rcases h0 with rfl | rfl <;> rfl) | (obtain ⟨_, _, h0, _⟩ := h; rcases h0 with rfl | rfl <;> rfl) | (obtain ⟨_, _, _, h0, _⟩ := h; rcases h0 with rfl | rfl <;> rfl) | (obtain ⟨_, _, _, _, h0, _⟩ := h; rcases h0 with rfl | rfl <;> rfl) | (revert h; unfold R_Turns_init; split <;> first | (intro _; rfl) | exact False.elim)) (by decide) (fun cdv Ar outer s H E hr => j_Turns_init T (ok_digit_mask T) hr) v_Turns_init
theorem ok_row_below (T : Txt K mg A) : FnOk P w K mg base CX0 3 A.a_row_below A.d_row_below ["value", "length", "bound"] (spF K R_row_below) :=
  Fun.okF (W := w_row_below) T.f_row_below sc_row_below (fun ds Q h => by first | (obtain ⟨rfl, _⟩ := h; rfl) | (obtain ⟨_, rfl, _⟩ := h; rfl) | (obtain ⟨_, _, rfl, _⟩ := h; rfl) | (obtain ⟨_, _, _, rfl, _⟩ := h; rfl) | (obtain ⟨_, _, _, _, rfl, _⟩ := h; rfl) | (obtain ⟨_, _, _, _, _, rfl, _⟩ := h; rfl) | (obtain ⟨_, _, _, _, _, _, rfl, _⟩ := h; rfl) | (obtain ⟨_, _, _, _, _, _, _, rfl, _⟩ := h; rfl) | (obtain ⟨_, _, _, _, _, _, _, _, rfl, _⟩ := h; rfl) | (obtain ⟨_, _, _, _, _, _, _, _, _, rfl, _⟩ := h; rfl) | (obtain ⟨_, h0, _⟩ := h; rcases h0 with rfl | rfl <;> rfl) | (obtain ⟨_, _, h0, _⟩ := h; rcases h0 with rfl | rfl <;> rfl) | (obtain ⟨_, _, _, h0, _⟩ := h; rcases h0 with rfl | rfl <;> rfl) | (obtain ⟨_, _, _, _, h0, _⟩ := h; rcases h0 with rfl | rfl <;> rfl) | (revert h; unfold R_row_below; split <;> first | (intro _; rfl) | exact False.elim)) (by decide) (fun cdv Ar outer s H E hr => j_row_below T (ok_is_below T) hr) v_row_below
theorem ok_check_sizes (T : Txt K mg A) : FnOk P w K mg base (L2.CX P w) 3 A.a_check_sizes A.d_check_sizes ["n", "d"] (spX K R_check_sizes) :=
  Fun.okFX (W := w_check_sizes) T.f_check_sizes sc_check_sizes (fun ds Q E' h => by first | (obtain ⟨rfl, _⟩ := h; rfl) | (obtain ⟨_, rfl, _⟩ := h; rfl) | (obtain ⟨_, _, rfl, _⟩ := h; rfl) | (obtain ⟨_, _, _, rfl, _⟩ := h; rfl) | (obtain ⟨_, _, _, _, rfl, _⟩ := h; rfl) | (obtain ⟨_, _, _, _, _, rfl, _⟩ := h; rfl) | (obtain ⟨_, _, _, _, _, _, rfl, _⟩ := h; rfl) | (obtain ⟨_, _, _, _, _, _, _, rfl, _⟩ := h; rfl) | (obtain ⟨_, _, _, _, _, _, _, _, rfl, _⟩ := h; rfl) | (obtain ⟨_, _, _, _, _, _, _, _, _, rfl, _⟩ := h; rfl) | (obtain ⟨_, h0, _⟩ := h; rcases h0 with rfl | rfl <;> rfl) | (obtain ⟨_, _, h0, _⟩ := h; rcases h0 with rfl | rfl <;> rfl) | (obtain ⟨_, _, _, h0, _⟩ := h; rcases h0 with rfl | rfl <;> rfl) | (obtain ⟨_, _, _, _, h0, _⟩ := h; rcases h0 with rfl | rfl <;> rfl) | (revert h; unfold R_check_sizes; split <;> first | (intro _; rfl) | exact False.elim)) (by decide) (fun cdv Ar outer s H E hr => j_check_sizes T (ok_is_between T) (ok_i_InvalidNumber T) hr) v_check_sizes
theorem ok_stepped (T : Txt K mg A) : FnOk P w K mg base CX0 3 A.a_stepped A.d_stepped ["turns", "ways"] (spF K R_stepped) :=
  Fun.okF (W := w_stepped) T.f_stepped sc_stepped (fun ds Q h => by first | (obtain ⟨rfl, _⟩ := h; rfl) | (obtain ⟨_, rfl, _⟩ := h; rfl) | (obtain ⟨_, _, rfl, _⟩ := h; rfl) | (obtain ⟨_, _, _, rfl, _⟩ := h; rfl) | (obtain ⟨_, _, _, _, rfl, _⟩ := h; rfl) | (obtain ⟨_, _, _, _, _, rfl, _⟩ := h; rfl) | (obtain ⟨_, _, _, _, _, _, rfl, _⟩ := h; rfl) | (obtain ⟨_, _, _, _, _, _, _, rfl, _⟩ := h; rfl) | (obtain ⟨_, _, _, _, _, _, _, _, rfl, _⟩ := h; rfl) | (obtain ⟨_, _, _, _, _, _, _, _, _, rfl, _⟩ := h; rfl) | (obtain ⟨_, h0, _⟩ := h; rcases h0 with rfl | rfl <;> rfl) | (obtain ⟨_, _, h0, _⟩ := h; rcases h0 with rfl | rfl <;> rfl) | (obtain ⟨_, _, _, h0, _⟩ := h; rcases h0 with rfl | rfl <;> rfl) | (obtain ⟨_, _, _, _, h0, _⟩ := h; rcases h0 with rfl | rfl <;> rfl) | (revert h; unfold R_stepped; split <;> first | (intro _; rfl) | exact False.elim)) (by decide) (fun cdv Ar outer s H E hr => j_stepped T (ok_Turns_all_turned T) hr) v_stepped
theorem ok__law_same (T : Txt K mg A) : ∀ k : Nat, FnOk P w K mg base CX0 (1 + k) A.a__law_same A.d__law_same ["actual", "due"] (spF K (R__law_same k))
  | 0 => Fun.ok T.f__law_same sc__law_same (k := 0) (fun vs H Q E h => by obtain ⟨_, _, _, _, _, z, _⟩ := h; exact z.elim) (fun cdv Ar outer s H vs Q E hr h => by obtain ⟨_, _, _, _, _, z, _⟩ := h; exact z.elim)
  | k + 1 => Fun.okF (W := w__law_same k) T.f__law_same sc__law_same (fun ds Q h => hl__law_same k ds Q h) (by decide) (fun cdv Ar outer s H E hr => j__law_same T (ok__law_same T k) hr) (v__law_same k)
theorem ok_check_bits (T : Txt K mg A) : FnOk P w K mg base (L2.CX P w) 4 A.a_check_bits A.d_check_bits ["n", "f"] (spX K R_check_bits) :=
  Fun.okFX (W := w_check_bits) T.f_check_bits sc_check_bits (fun ds Q E' h => by first | (obtain ⟨rfl, _⟩ := h; rfl) | (obtain ⟨_, rfl, _⟩ := h; rfl) | (obtain ⟨_, _, rfl, _⟩ := h; rfl) | (obtain ⟨_, _, _, rfl, _⟩ := h; rfl) | (obtain ⟨_, _, _, _, rfl, _⟩ := h; rfl) | (obtain ⟨_, _, _, _, _, rfl, _⟩ := h; rfl) | (obtain ⟨_, _, _, _, _, _, rfl, _⟩ := h; rfl) | (obtain ⟨_, _, _, _, _, _, _, rfl, _⟩ := h; rfl) | (obtain ⟨_, _, _, _, _, _, _, _, rfl, _⟩ := h; rfl) | (obtain ⟨_, _, _, _, _, _, _, _, _, rfl, _⟩ := h; rfl) | (obtain ⟨_, h0, _⟩ := h; rcases h0 with rfl | rfl <;> rfl) | (obtain ⟨_, _, h0, _⟩ := h; rcases h0 with rfl | rfl <;> rfl) | (obtain ⟨_, _, _, h0, _⟩ := h; rcases h0 with rfl | rfl <;> rfl) | (obtain ⟨_, _, _, _, h0, _⟩ := h; rcases h0 with rfl | rfl <;> rfl) | (revert h; unfold R_check_bits; split <;> first | (intro _; rfl) | exact False.elim)) (by decide) (fun cdv Ar outer s H E hr => j_check_bits T (ok_is_number T) (ok_row_below T) (ok_i_InvalidNumber T) (ok_i_InvalidMap T) hr) v_check_bits
theorem ok_check_table (T : Txt K mg A) : FnOk P w K mg base (L2.CX P w) 4 A.a_check_table A.d_check_table ["n", "f"] (spX K R_check_table) :=
  Fun.okFX (W := w_check_table) T.f_check_table sc_check_table (fun ds Q E' h => by first | (obtain ⟨rfl, _⟩ := h; rfl) | (obtain ⟨_, rfl, _⟩ := h; rfl) | (obtain ⟨_, _, rfl, _⟩ := h; rfl) | (obtain ⟨_, _, _, rfl, _⟩ := h; rfl) | (obtain ⟨_, _, _, _, rfl, _⟩ := h; rfl) | (obtain ⟨_, _, _, _, _, rfl, _⟩ := h; rfl) | (obtain ⟨_, _, _, _, _, _, rfl, _⟩ := h; rfl) | (obtain ⟨_, _, _, _, _, _, _, rfl, _⟩ := h; rfl) | (obtain ⟨_, _, _, _, _, _, _, _, rfl, _⟩ := h; rfl) | (obtain ⟨_, _, _, _, _, _, _, _, _, rfl, _⟩ := h; rfl) | (obtain ⟨_, h0, _⟩ := h; rcases h0 with rfl | rfl <;> rfl) | (obtain ⟨_, _, h0, _⟩ := h; rcases h0 with rfl | rfl <;> rfl) | (obtain ⟨_, _, _, h0, _⟩ := h; rcases h0 with rfl | rfl <;> rfl) | (obtain ⟨_, _, _, _, h0, _⟩ := h; rcases h0 with rfl | rfl <;> rfl) | (revert h; unfold R_check_table; split <;> first | (intro _; rfl) | exact False.elim)) (by decide) (fun cdv Ar outer s H E hr => j_check_table T (ok_row_below T) (ok_i_InvalidMap T) hr) v_check_table
theorem ok_signs (T : Txt K mg A) : FnOk P w K mg base (L2.CX P w) 5 A.a_signs A.d_signs ["n", "f"] (spX K R_signs) :=
  Fun.okFX (W := w_signs) T.f_signs sc_signs (fun ds Q E' h => by first | (obtain ⟨rfl, _⟩ := h; rfl) | (obtain ⟨_, rfl, _⟩ := h; rfl) | (obtain ⟨_, _, rfl, _⟩ := h; rfl) | (obtain ⟨_, _, _, rfl, _⟩ := h; rfl) | (obtain ⟨_, _, _, _, rfl, _⟩ := h; rfl) | (obtain ⟨_, _, _, _, _, rfl, _⟩ := h; rfl) | (obtain ⟨_, _, _, _, _, _, rfl, _⟩ := h; rfl) | (obtain ⟨_, _, _, _, _, _, _, rfl, _⟩ := h; rfl) | (obtain ⟨_, _, _, _, _, _, _, _, rfl, _⟩ := h; rfl) | (obtain ⟨_, _, _, _, _, _, _, _, _, rfl, _⟩ := h; rfl) | (obtain ⟨_, h0, _⟩ := h; rcases h0 with rfl | rfl <;> rfl) | (obtain ⟨_, _, h0, _⟩ := h; rcases h0 with rfl | rfl <;> rfl) | (obtain ⟨_, _, _, h0, _⟩ := h; rcases h0 with rfl | rfl <;> rfl) | (obtain ⟨_, _, _, _, h0, _⟩ := h; rcases h0 with rfl | rfl <;> rfl) | (revert h; unfold R_signs; split <;> first | (intro _; rfl) | exact False.elim)) (by decide) (fun cdv Ar outer s H E hr => j_signs T (ok_check_bits T) hr) v_signs
theorem ok_products_of (T : Txt K mg A) : FnOk P w K mg base (L2.CX P w) 5 A.a_products_of A.d_products_of ["n", "f"] (spX K R_products_of) :=
  Fun.okFX (W := w_products_of) T.f_products_of sc_products_of (fun ds Q E' h => by first | (obtain ⟨rfl, _⟩ := h; rfl) | (obtain ⟨_, rfl, _⟩ := h; rfl) | (obtain ⟨_, _, rfl, _⟩ := h; rfl) | (obtain ⟨_, _, _, rfl, _⟩ := h; rfl) | (obtain ⟨_, _, _, _, rfl, _⟩ := h; rfl) | (obtain ⟨_, _, _, _, _, rfl, _⟩ := h; rfl) | (obtain ⟨_, _, _, _, _, _, rfl, _⟩ := h; rfl) | (obtain ⟨_, _, _, _, _, _, _, rfl, _⟩ := h; rfl) | (obtain ⟨_, _, _, _, _, _, _, _, rfl, _⟩ := h; rfl) | (obtain ⟨_, _, _, _, _, _, _, _, _, rfl, _⟩ := h; rfl) | (obtain ⟨_, h0, _⟩ := h; rcases h0 with rfl | rfl <;> rfl) | (obtain ⟨_, _, h0, _⟩ := h; rcases h0 with rfl | rfl <;> rfl) | (obtain ⟨_, _, _, h0, _⟩ := h; rcases h0 with rfl | rfl <;> rfl) | (obtain ⟨_, _, _, _, h0, _⟩ := h; rcases h0 with rfl | rfl <;> rfl) | (revert h; unfold R_products_of; split <;> first | (intro _; rfl) | exact False.elim)) (by decide) (fun cdv Ar outer s H E hr => j_products_of T (ok_check_bits T) (ok_product_bits T) hr) v_products_of
theorem ok_broken_cubes (T : Txt K mg A) : FnOk P w K mg base (L2.CX P w) 5 A.a_broken_cubes A.d_broken_cubes ["n", "d", "f"] (spX K R_broken_cubes) :=
  Fun.okFX (W := w_broken_cubes) T.f_broken_cubes sc_broken_cubes (fun ds Q E' h => by first | (obtain ⟨rfl, _⟩ := h; rfl) | (obtain ⟨_, rfl, _⟩ := h; rfl) | (obtain ⟨_, _, rfl, _⟩ := h; rfl) | (obtain ⟨_, _, _, rfl, _⟩ := h; rfl) | (obtain ⟨_, _, _, _, rfl, _⟩ := h; rfl) | (obtain ⟨_, _, _, _, _, rfl, _⟩ := h; rfl) | (obtain ⟨_, _, _, _, _, _, rfl, _⟩ := h; rfl) | (obtain ⟨_, _, _, _, _, _, _, rfl, _⟩ := h; rfl) | (obtain ⟨_, _, _, _, _, _, _, _, rfl, _⟩ := h; rfl) | (obtain ⟨_, _, _, _, _, _, _, _, _, rfl, _⟩ := h; rfl) | (obtain ⟨_, h0, _⟩ := h; rcases h0 with rfl | rfl <;> rfl) | (obtain ⟨_, _, h0, _⟩ := h; rcases h0 with rfl | rfl <;> rfl) | (obtain ⟨_, _, _, h0, _⟩ := h; rcases h0 with rfl | rfl <;> rfl) | (obtain ⟨_, _, _, _, h0, _⟩ := h; rcases h0 with rfl | rfl <;> rfl) | (revert h; unfold R_broken_cubes; split <;> first | (intro _; rfl) | exact False.elim)) (by decide) (fun cdv Ar outer s H E hr => j_broken_cubes T (ok_check_sizes T) (ok_check_table T) (ok_Turns_init T) (ok_packed T) (ok_stepped T) (ok_size_of T) (ok_i_TooMany T) hr) v_broken_cubes
theorem ok_near_degree (T : Txt K mg A) : FnOk P w K mg base (L2.CX P w) 5 A.a_near_degree A.d_near_degree ["n", "d", "f"] (spX K R_near_degree) :=
  Fun.okFX (W := w_near_degree) T.f_near_degree sc_near_degree (fun ds Q E' h => by first | (obtain ⟨rfl, _⟩ := h; rfl) | (obtain ⟨_, rfl, _⟩ := h; rfl) | (obtain ⟨_, _, rfl, _⟩ := h; rfl) | (obtain ⟨_, _, _, rfl, _⟩ := h; rfl) | (obtain ⟨_, _, _, _, rfl, _⟩ := h; rfl) | (obtain ⟨_, _, _, _, _, rfl, _⟩ := h; rfl) | (obtain ⟨_, _, _, _, _, _, rfl, _⟩ := h; rfl) | (obtain ⟨_, _, _, _, _, _, _, rfl, _⟩ := h; rfl) | (obtain ⟨_, _, _, _, _, _, _, _, rfl, _⟩ := h; rfl) | (obtain ⟨_, _, _, _, _, _, _, _, _, rfl, _⟩ := h; rfl) | (obtain ⟨_, h0, _⟩ := h; rcases h0 with rfl | rfl <;> rfl) | (obtain ⟨_, _, h0, _⟩ := h; rcases h0 with rfl | rfl <;> rfl) | (obtain ⟨_, _, _, h0, _⟩ := h; rcases h0 with rfl | rfl <;> rfl) | (obtain ⟨_, _, _, _, h0, _⟩ := h; rcases h0 with rfl | rfl <;> rfl) | (revert h; unfold R_near_degree; split <;> first | (intro _; rfl) | exact False.elim)) (by decide) (fun cdv Ar outer s H E hr => j_near_degree T (ok_check_sizes T) (ok_many_products T) (ok_check_table T) (ok_packed T) (ok_i_TooMany T) hr) v_near_degree
theorem ok_sway (T : Txt K mg A) : FnOk P w K mg base (L2.CX P w) 5 A.a_sway A.d_sway ["n", "f"] (spX K R_sway) :=
  Fun.okFX (W := w_sway) T.f_sway sc_sway (fun ds Q E' h => by first | (obtain ⟨rfl, _⟩ := h; rfl) | (obtain ⟨_, rfl, _⟩ := h; rfl) | (obtain ⟨_, _, rfl, _⟩ := h; rfl) | (obtain ⟨_, _, _, rfl, _⟩ := h; rfl) | (obtain ⟨_, _, _, _, rfl, _⟩ := h; rfl) | (obtain ⟨_, _, _, _, _, rfl, _⟩ := h; rfl) | (obtain ⟨_, _, _, _, _, _, rfl, _⟩ := h; rfl) | (obtain ⟨_, _, _, _, _, _, _, rfl, _⟩ := h; rfl) | (obtain ⟨_, _, _, _, _, _, _, _, rfl, _⟩ := h; rfl) | (obtain ⟨_, _, _, _, _, _, _, _, _, rfl, _⟩ := h; rfl) | (obtain ⟨_, h0, _⟩ := h; rcases h0 with rfl | rfl <;> rfl) | (obtain ⟨_, _, h0, _⟩ := h; rcases h0 with rfl | rfl <;> rfl) | (obtain ⟨_, _, _, h0, _⟩ := h; rcases h0 with rfl | rfl <;> rfl) | (obtain ⟨_, _, _, _, h0, _⟩ := h; rcases h0 with rfl | rfl <;> rfl) | (revert h; unfold R_sway; split <;> first | (intro _; rfl) | exact False.elim)) (by decide) (fun cdv Ar outer s H E hr => j_sway T (ok_check_bits T) (ok_turned_unlike T) hr) v_sway
theorem ok_bit_degree (T : Txt K mg A) : FnOk P w K mg base (L2.CX P w) 6 A.a_bit_degree A.d_bit_degree ["n", "f"] (spX K R_bit_degree) :=
  Fun.okFX (W := w_bit_degree) T.f_bit_degree sc_bit_degree (fun ds Q E' h => by first | (obtain ⟨rfl, _⟩ := h; rfl) | (obtain ⟨_, rfl, _⟩ := h; rfl) | (obtain ⟨_, _, rfl, _⟩ := h; rfl) | (obtain ⟨_, _, _, rfl, _⟩ := h; rfl) | (obtain ⟨_, _, _, _, rfl, _⟩ := h; rfl) | (obtain ⟨_, _, _, _, _, rfl, _⟩ := h; rfl) | (obtain ⟨_, _, _, _, _, _, rfl, _⟩ := h; rfl) | (obtain ⟨_, _, _, _, _, _, _, rfl, _⟩ := h; rfl) | (obtain ⟨_, _, _, _, _, _, _, _, rfl, _⟩ := h; rfl) | (obtain ⟨_, _, _, _, _, _, _, _, _, rfl, _⟩ := h; rfl) | (obtain ⟨_, h0, _⟩ := h; rcases h0 with rfl | rfl <;> rfl) | (obtain ⟨_, _, h0, _⟩ := h; rcases h0 with rfl | rfl <;> rfl) | (obtain ⟨_, _, _, h0, _⟩ := h; rcases h0 with rfl | rfl <;> rfl) | (obtain ⟨_, _, _, _, h0, _⟩ := h; rcases h0 with rfl | rfl <;> rfl) | (revert h; unfold R_bit_degree; split <;> first | (intro _; rfl) | exact False.elim)) (by decide) (fun cdv Ar outer s H E hr => j_bit_degree T (ok_products_of T) (ok_size_of T) hr) v_bit_degree
theorem ok__law_told (T : Txt K mg A) : FnOk P w K mg base CX0 6 A.a__law_told A.d__law_told ["which", "n", "d", "f"] (spF K R__law_told) :=
  Fun.okF (W := w__law_told) T.f__law_told sc__law_told (fun ds Q h => by first | (obtain ⟨rfl, _⟩ := h; rfl) | (obtain ⟨_, rfl, _⟩ := h; rfl) | (obtain ⟨_, _, rfl, _⟩ := h; rfl) | (obtain ⟨_, _, _, rfl, _⟩ := h; rfl) | (obtain ⟨_, _, _, _, rfl, _⟩ := h; rfl) | (obtain ⟨_, _, _, _, _, rfl, _⟩ := h; rfl) | (obtain ⟨_, _, _, _, _, _, rfl, _⟩ := h; rfl) | (obtain ⟨_, _, _, _, _, _, _, rfl, _⟩ := h; rfl) | (obtain ⟨_, _, _, _, _, _, _, _, rfl, _⟩ := h; rfl) | (obtain ⟨_, _, _, _, _, _, _, _, _, rfl, _⟩ := h; rfl) | (obtain ⟨_, h0, _⟩ := h; rcases h0 with rfl | rfl <;> rfl) | (obtain ⟨_, _, h0, _⟩ := h; rcases h0 with rfl | rfl <;> rfl) | (obtain ⟨_, _, _, h0, _⟩ := h; rcases h0 with rfl | rfl <;> rfl) | (obtain ⟨_, _, _, _, h0, _⟩ := h; rcases h0 with rfl | rfl <;> rfl) | (revert h; unfold R__law_told; split <;> first | (intro _; rfl) | exact False.elim)) (by decide) (fun cdv Ar outer s H E hr => j__law_told T (ok_broken_cubes T) (ok_near_degree T) hr) v__law_told
theorem ok__law_by_shifts (T : Txt K mg A) : FnOk P w K mg base CX0 6 A.a__law_by_shifts A.d__law_by_shifts ["n", "d", "f", "due"] (spF K R__law_by_shifts) :=
  Fun.okF (W := w__law_by_shifts) T.f__law_by_shifts sc__law_by_shifts (fun ds Q h => by first | (obtain ⟨rfl, _⟩ := h; rfl) | (obtain ⟨_, rfl, _⟩ := h; rfl) | (obtain ⟨_, _, rfl, _⟩ := h; rfl) | (obtain ⟨_, _, _, rfl, _⟩ := h; rfl) | (obtain ⟨_, _, _, _, rfl, _⟩ := h; rfl) | (obtain ⟨_, _, _, _, _, rfl, _⟩ := h; rfl) | (obtain ⟨_, _, _, _, _, _, rfl, _⟩ := h; rfl) | (obtain ⟨_, _, _, _, _, _, _, rfl, _⟩ := h; rfl) | (obtain ⟨_, _, _, _, _, _, _, _, rfl, _⟩ := h; rfl) | (obtain ⟨_, _, _, _, _, _, _, _, _, rfl, _⟩ := h; rfl) | (obtain ⟨_, h0, _⟩ := h; rcases h0 with rfl | rfl <;> rfl) | (obtain ⟨_, _, h0, _⟩ := h; rcases h0 with rfl | rfl <;> rfl) | (obtain ⟨_, _, _, h0, _⟩ := h; rcases h0 with rfl | rfl <;> rfl) | (obtain ⟨_, _, _, _, h0, _⟩ := h; rcases h0 with rfl | rfl <;> rfl) | (revert h; unfold R__law_by_shifts; split <;> first | (intro _; rfl) | exact False.elim)) (by decide) (fun cdv Ar outer s H E hr => j__law_by_shifts T (ok__law_turned T) (ok_broken_cubes T) (ok__law_same T 2) (ok__law_cubes T) (ok__law_ones T) (ok_sway T) hr) v__law_by_shifts
theorem ok__law_refused (T : Txt K mg A) : FnOk P w K mg base CX0 7 A.a__law_refused A.d__law_refused ["which", "n", "d", "f", "word", "value"] (spF K R__law_refused) :=
  Fun.okF (W := w__law_refused) T.f__law_refused sc__law_refused (fun ds Q h => by first | (obtain ⟨rfl, _⟩ := h; rfl) | (obtain ⟨_, rfl, _⟩ := h; rfl) | (obtain ⟨_, _, rfl, _⟩ := h; rfl) | (obtain ⟨_, _, _, rfl, _⟩ := h; rfl) | (obtain ⟨_, _, _, _, rfl, _⟩ := h; rfl) | (obtain ⟨_, _, _, _, _, rfl, _⟩ := h; rfl) | (obtain ⟨_, _, _, _, _, _, rfl, _⟩ := h; rfl) | (obtain ⟨_, _, _, _, _, _, _, rfl, _⟩ := h; rfl) | (obtain ⟨_, _, _, _, _, _, _, _, rfl, _⟩ := h; rfl) | (obtain ⟨_, _, _, _, _, _, _, _, _, rfl, _⟩ := h; rfl) | (obtain ⟨_, h0, _⟩ := h; rcases h0 with rfl | rfl <;> rfl) | (obtain ⟨_, _, h0, _⟩ := h; rcases h0 with rfl | rfl <;> rfl) | (obtain ⟨_, _, _, h0, _⟩ := h; rcases h0 with rfl | rfl <;> rfl) | (obtain ⟨_, _, _, _, h0, _⟩ := h; rcases h0 with rfl | rfl <;> rfl) | (revert h; unfold R__law_refused; split <;> first | (intro _; rfl) | exact False.elim)) (by decide) (fun cdv Ar outer s H E hr => j__law_refused T (ok__law_told T) hr) v__law_refused
theorem ok__law_wrong (T : Txt K mg A) : FnOk P w K mg base CX0 8 A.a__law_wrong A.d__law_wrong ["script", "n", "d", "f"] (spF K R__law_wrong) :=
  Fun.okF (W := w__law_wrong) T.f__law_wrong sc__law_wrong (fun ds Q h => by first | (obtain ⟨rfl, _⟩ := h; rfl) | (obtain ⟨_, rfl, _⟩ := h; rfl) | (obtain ⟨_, _, rfl, _⟩ := h; rfl) | (obtain ⟨_, _, _, rfl, _⟩ := h; rfl) | (obtain ⟨_, _, _, _, rfl, _⟩ := h; rfl) | (obtain ⟨_, _, _, _, _, rfl, _⟩ := h; rfl) | (obtain ⟨_, _, _, _, _, _, rfl, _⟩ := h; rfl) | (obtain ⟨_, _, _, _, _, _, _, rfl, _⟩ := h; rfl) | (obtain ⟨_, _, _, _, _, _, _, _, rfl, _⟩ := h; rfl) | (obtain ⟨_, _, _, _, _, _, _, _, _, rfl, _⟩ := h; rfl) | (obtain ⟨_, h0, _⟩ := h; rcases h0 with rfl | rfl <;> rfl) | (obtain ⟨_, _, h0, _⟩ := h; rcases h0 with rfl | rfl <;> rfl) | (obtain ⟨_, _, _, h0, _⟩ := h; rcases h0 with rfl | rfl <;> rfl) | (obtain ⟨_, _, _, _, h0, _⟩ := h; rcases h0 with rfl | rfl <;> rfl) | (revert h; unfold R__law_wrong; split <;> first | (intro _; rfl) | exact False.elim)) (by decide) (fun cdv Ar outer s H E hr => j__law_wrong T (ok__law_cell T) (ok__law_refused T) hr) v__law_wrong
theorem ok_law (T : Txt K mg A) : FnOk P w K mg base CX0 9 A.a_law A.d_law ["script"] (spF K R_law) :=
  Fun.okF (W := w_law) T.f_law sc_law (fun ds Q h => by first | (obtain ⟨rfl, _⟩ := h; rfl) | (obtain ⟨_, rfl, _⟩ := h; rfl) | (obtain ⟨_, _, rfl, _⟩ := h; rfl) | (obtain ⟨_, _, _, rfl, _⟩ := h; rfl) | (obtain ⟨_, _, _, _, rfl, _⟩ := h; rfl) | (obtain ⟨_, _, _, _, _, rfl, _⟩ := h; rfl) | (obtain ⟨_, _, _, _, _, _, rfl, _⟩ := h; rfl) | (obtain ⟨_, _, _, _, _, _, _, rfl, _⟩ := h; rfl) | (obtain ⟨_, _, _, _, _, _, _, _, rfl, _⟩ := h; rfl) | (obtain ⟨_, _, _, _, _, _, _, _, _, rfl, _⟩ := h; rfl) | (obtain ⟨_, h0, _⟩ := h; rcases h0 with rfl | rfl <;> rfl) | (obtain ⟨_, _, h0, _⟩ := h; rcases h0 with rfl | rfl <;> rfl) | (obtain ⟨_, _, _, h0, _⟩ := h; rcases h0 with rfl | rfl <;> rfl) | (obtain ⟨_, _, _, _, h0, _⟩ := h; rcases h0 with rfl | rfl <;> rfl) | (revert h; unfold R_law; split <;> first | (intro _; rfl) | exact False.elim)) (by decide) (fun cdv Ar outer s H E hr => j_law T (ok__law_cell T) (ok__law_bits T) (ok__law_refused T) (ok__law_cubes T) (ok__law_signs T) (ok__law_degree T) (ok_broken_cubes T) (ok__law_same T 2) (ok_bit_degree T) (ok__law_by_shifts T) (ok_signs T) (ok__law_wrong T) hr) v_law
end
theorem all_at {l : List Bool} (h : l.all id = true) (i : Nat) {b : Bool} (e : l[i]? = some b) : b = true := List.all_eq_true.mp h b (List.mem_of_getElem? e)
theorem xt_of {K : PySem.W.Frag} {tab : Tab3} (xs : List Str) (h : (tab.all fun t => decide (t.1 ∈ xs)) = true) (hx : ∀ C, C ∈ xs → ExcC K (He.ga K C)) : ∀ C c b, tab3 tab C c = some b → ExcC K (He.ga K C) := fun C c b q => hx C (of_decide_eq_true (List.all_eq_true.mp h _ (tab3_mem q)))
theorem txt_of {K : PySem.W.Frag} {h : Heap} {mg : Str → Option Value} (X : K.In h) (G : h.Ns mainGlobals mg) (c : He.SaysD fa fn K) (cx : ex K = true) : ∃ A : Ad, Txt K mg A ∧ ∀ (s : Shared) (v : Value), BindsTo s A.d_law ⟨[v], []⟩ [("script", v)] := by
  obtain ⟨d0, E0⟩ := c.def_ 0 (d := dd_size_of) rfl
  have F0 : Fun K "size_of" "size_of" s_size_of (He.ga K "size_of") d0 := He5.fun_of E0
  obtain ⟨d1, E1⟩ := c.def_ 1 (d := dd_packed) rfl
  have F1 : Fun K "packed" "packed" s_packed (He.ga K "packed") d1 := He5.fun_of E1
  obtain ⟨d2, E2⟩ := c.def_ 2 (d := dd_digit_mask) rfl
  have F2 : Fun K "digit_mask" "digit_mask" s_digit_mask (He.ga K "digit_mask") d2 := He5.fun_of E2
  obtain ⟨d3, E3⟩ := c.def_ 3 (d := dd_Turns_init) rfl
  have F3 : Fun K "__init__" "Turns.__init__" s_Turns_init ((He.ma K (He.ga K "Turns") "__init__")) d3 := He5.fun_of E3
  obtain ⟨d4, E4⟩ := c.def_ 4 (d := dd_Turns_turned) rfl
  have F4 : Fun K "turned" "Turns.turned" s_Turns_turned ((He.ma K (He.ga K "Turns") "turned")) d4 := He5.fun_of E4
  obtain ⟨d5, E5⟩ := c.def_ 5 (d := dd_Turns_all_turned) rfl
  have F5 : Fun K "all_turned" "Turns.all_turned" s_Turns_all_turned ((He.ma K (He.ga K "Turns") "all_turned")) d5 := He5.fun_of E5
  obtain ⟨d6, E6⟩ := c.def_ 6 (d := dd_is_integer) rfl
  have F6 : Fun K "is_integer" "is_integer" s_is_integer (He.ga K "is_integer") d6 := He5.fun_of E6
  obtain ⟨d7, E7⟩ := c.def_ 7 (d := dd_is_number) rfl
  have F7 : Fun K "is_number" "is_number" s_is_number (He.ga K "is_number") d7 := He5.fun_of E7
  obtain ⟨d8, E8⟩ := c.def_ 8 (d := dd_is_below) rfl
  have F8 : Fun K "is_below" "is_below" s_is_below (He.ga K "is_below") d8 := He5.fun_of E8
  obtain ⟨d9, E9⟩ := c.def_ 9 (d := dd_is_between) rfl
  have F9 : Fun K "is_between" "is_between" s_is_between (He.ga K "is_between") d9 := He5.fun_of E9
  obtain ⟨d10, E10⟩ := c.def_ 10 (d := dd_row_below) rfl
  have F10 : Fun K "row_below" "row_below" s_row_below (He.ga K "row_below") d10 := He5.fun_of E10
  obtain ⟨d11, E11⟩ := c.def_ 11 (d := dd_ways_of) rfl
  have F11 : Fun K "ways_of" "ways_of" s_ways_of (He.ga K "ways_of") d11 := He5.fun_of E11
  obtain ⟨d12, E12⟩ := c.def_ 12 (d := dd_check_bits) rfl
  have F12 : Fun K "check_bits" "check_bits" s_check_bits (He.ga K "check_bits") d12 := He5.fun_of E12
  obtain ⟨d13, E13⟩ := c.def_ 13 (d := dd_signs) rfl
  have F13 : Fun K "signs" "signs" s_signs (He.ga K "signs") d13 := He5.fun_of E13
  obtain ⟨d14, E14⟩ := c.def_ 14 (d := dd_product_bits) rfl
  have F14 : Fun K "product_bits" "product_bits" s_product_bits (He.ga K "product_bits") d14 := He5.fun_of E14
  obtain ⟨d15, E15⟩ := c.def_ 15 (d := dd_products_of) rfl
  have F15 : Fun K "products_of" "products_of" s_products_of (He.ga K "products_of") d15 := He5.fun_of E15
  obtain ⟨d16, E16⟩ := c.def_ 16 (d := dd_bit_degree) rfl
  have F16 : Fun K "bit_degree" "bit_degree" s_bit_degree (He.ga K "bit_degree") d16 := He5.fun_of E16
  obtain ⟨d17, E17⟩ := c.def_ 17 (d := dd_check_sizes) rfl
  have F17 : Fun K "check_sizes" "check_sizes" s_check_sizes (He.ga K "check_sizes") d17 := He5.fun_of E17
  obtain ⟨d18, E18⟩ := c.def_ 18 (d := dd_check_table) rfl
  have F18 : Fun K "check_table" "check_table" s_check_table (He.ga K "check_table") d18 := He5.fun_of E18
  obtain ⟨d19, E19⟩ := c.def_ 19 (d := dd_stepped) rfl
  have F19 : Fun K "stepped" "stepped" s_stepped (He.ga K "stepped") d19 := He5.fun_of E19
  obtain ⟨d20, E20⟩ := c.def_ 20 (d := dd_broken_cubes) rfl
  have F20 : Fun K "broken_cubes" "broken_cubes" s_broken_cubes (He.ga K "broken_cubes") d20 := He5.fun_of E20
  obtain ⟨d21, E21⟩ := c.def_ 21 (d := dd_many_products) rfl
  have F21 : Fun K "many_products" "many_products" s_many_products (He.ga K "many_products") d21 := He5.fun_of E21
  obtain ⟨d22, E22⟩ := c.def_ 22 (d := dd_near_degree) rfl
  have F22 : Fun K "near_degree" "near_degree" s_near_degree (He.ga K "near_degree") d22 := He5.fun_of E22
  obtain ⟨d23, E23⟩ := c.def_ 23 (d := dd_turn_of) rfl
  have F23 : Fun K "turn_of" "turn_of" s_turn_of (He.ga K "turn_of") d23 := He5.fun_of E23
  obtain ⟨d24, E24⟩ := c.def_ 24 (d := dd_turned_unlike) rfl
  have F24 : Fun K "turned_unlike" "turned_unlike" s_turned_unlike (He.ga K "turned_unlike") d24 := He5.fun_of E24
  obtain ⟨d25, E25⟩ := c.def_ 25 (d := dd_sway) rfl
  have F25 : Fun K "sway" "sway" s_sway (He.ga K "sway") d25 := He5.fun_of E25
  obtain ⟨d26, E26⟩ := c.def_ 26 (d := dd__law_cell) rfl
  have F26 : Fun K "_law_cell" "_law_cell" s__law_cell (He.ga K "_law_cell") d26 := He5.fun_of E26
  obtain ⟨d27, E27⟩ := c.def_ 27 (d := dd__law_digits) rfl
  have F27 : Fun K "_law_digits" "_law_digits" s__law_digits (He.ga K "_law_digits") d27 := He5.fun_of E27
  obtain ⟨d28, E28⟩ := c.def_ 28 (d := dd__law_ones) rfl
  have F28 : Fun K "_law_ones" "_law_ones" s__law_ones (He.ga K "_law_ones") d28 := He5.fun_of E28
  obtain ⟨d29, E29⟩ := c.def_ 29 (d := dd__law_bits) rfl
  have F29 : Fun K "_law_bits" "_law_bits" s__law_bits (He.ga K "_law_bits") d29 := He5.fun_of E29
  obtain ⟨d30, E30⟩ := c.def_ 30 (d := dd__law_signs) rfl
  have F30 : Fun K "_law_signs" "_law_signs" s__law_signs (He.ga K "_law_signs") d30 := He5.fun_of E30
  obtain ⟨d31, E31⟩ := c.def_ 31 (d := dd__law_turned) rfl
  have F31 : Fun K "_law_turned" "_law_turned" s__law_turned (He.ga K "_law_turned") d31 := He5.fun_of E31
  obtain ⟨d32, E32⟩ := c.def_ 32 (d := dd__law_cubes) rfl
  have F32 : Fun K "_law_cubes" "_law_cubes" s__law_cubes (He.ga K "_law_cubes") d32 := He5.fun_of E32
  obtain ⟨d33, E33⟩ := c.def_ 33 (d := dd__law_same) rfl
  have F33 : Fun K "_law_same" "_law_same" s__law_same (He.ga K "_law_same") d33 := He5.fun_of E33
  obtain ⟨d34, E34⟩ := c.def_ 34 (d := dd__law_degree) rfl
  have F34 : Fun K "_law_degree" "_law_degree" s__law_degree (He.ga K "_law_degree") d34 := He5.fun_of E34
  obtain ⟨d35, E35⟩ := c.def_ 35 (d := dd__law_told) rfl
  have F35 : Fun K "_law_told" "_law_told" s__law_told (He.ga K "_law_told") d35 := He5.fun_of E35
  obtain ⟨d36, E36⟩ := c.def_ 36 (d := dd__law_refused) rfl
  have F36 : Fun K "_law_refused" "_law_refused" s__law_refused (He.ga K "_law_refused") d36 := He5.fun_of E36
  obtain ⟨d37, E37⟩ := c.def_ 37 (d := dd__law_wrong) rfl
  have F37 : Fun K "_law_wrong" "_law_wrong" s__law_wrong (He.ga K "_law_wrong") d37 := He5.fun_of E37
  obtain ⟨d38, E38⟩ := c.def_ 38 (d := dd__law_by_shifts) rfl
  have F38 : Fun K "_law_by_shifts" "_law_by_shifts" s__law_by_shifts (He.ga K "_law_by_shifts") d38 := He5.fun_of E38
  obtain ⟨d39, E39⟩ := c.def_ 39 (d := dd_law) rfl
  have F39 : Fun K "law" "law" s_law (He.ga K "law") d39 := He5.fun_of E39
  obtain ⟨d40, E40⟩ := c.def_ 40 (d := dd_i_InvalidNumber) rfl
  have F40 : Fun K "__init__" "InvalidNumber.__init__" s_i_InvalidNumber (He.ma K (He.ga K "InvalidNumber") "__init__") d40 := He5.fun_of E40
  obtain ⟨d41, E41⟩ := c.def_ 41 (d := dd_i_InvalidMap) rfl
  have F41 : Fun K "__init__" "InvalidMap.__init__" s_i_InvalidMap (He.ma K (He.ga K "InvalidMap") "__init__") d41 := He5.fun_of E41
  obtain ⟨d42, E42⟩ := c.def_ 42 (d := dd_i_TooMany) rfl
  have F42 : Fun K "__init__" "TooMany.__init__" s_i_TooMany (He.ma K (He.ga K "TooMany") "__init__") d42 := He5.fun_of E42
  have b := FunD.bindsA (ps := ["script"]) E39 fun _ _ _ _ _ _ us hl => match us, hl with | [_], _ => rfl
  exact ⟨⟨He.ga K "size_of", d0, He.ga K "packed", d1, He.ga K "digit_mask", d2, d3, d4, d5, He.ga K "is_integer", d6, He.ga K "is_number", d7, He.ga K "is_below", d8, He.ga K "is_between", d9, He.ga K "row_below", d10, He.ga K "ways_of", d11, He.ga K "check_bits", d12, He.ga K "signs", d13, He.ga K "product_bits", d14, He.ga K "products_of", d15, He.ga K "bit_degree", d16, He.ga K "check_sizes", d17, He.ga K "check_table", d18, He.ga K "stepped", d19, He.ga K "broken_cubes", d20, He.ga K "many_products", d21, He.ga K "near_degree", d22, He.ga K "turn_of", d23, He.ga K "turned_unlike", d24, He.ga K "sway", d25, He.ga K "_law_cell", d26, He.ga K "_law_digits", d27, He.ga K "_law_ones", d28, He.ga K "_law_bits", d29, He.ga K "_law_signs", d30, He.ga K "_law_turned", d31, He.ga K "_law_cubes", d32, He.ga K "_law_same", d33, He.ga K "_law_degree", d34, He.ga K "_law_told", d35, He.ga K "_law_refused", d36, He.ga K "_law_wrong", d37, He.ga K "_law_by_shifts", d38, He.ga K "law", d39, d40, d41, d42⟩, {x_InvalidNumber := xclsB_ok (all_at cx 0 rfl), fi_InvalidNumber := F40, ni_InvalidNumber := F40.binds (ps := ["self", "value"]) fun _ _ _ _ _ _ us hl => match us, hl with | [_, _], _ => rfl, x_InvalidMap := xclsB_ok (all_at cx 1 rfl), fi_InvalidMap := F41, ni_InvalidMap := F41.binds (ps := ["self", "value"]) fun _ _ _ _ _ _ us hl => match us, hl with | [_, _], _ => rfl, x_TooMany := xclsB_ok (all_at cx 2 rfl), fi_TooMany := F42, ni_TooMany := F42.binds (ps := ["self", "what"]) fun _ _ _ _ _ _ us hl => match us, hl with | [_, _], _ => rfl, gx_NinthError := He.glo_ok X G (c.fact 37 (f := .glo "NinthError") rfl), gx_InvalidNumber := He.glo_ok X G (c.fact 38 (f := .glo "InvalidNumber") rfl), gx_InvalidMap := He.glo_ok X G (c.fact 39 (f := .glo "InvalidMap") rfl), gx_TooMany := He.glo_ok X G (c.fact 40 (f := .glo "TooMany") rfl), xtC := xt_of ["InvalidNumber", "InvalidMap", "TooMany"] (by decide +kernel) (List.forall_mem_cons.mpr ⟨(xclsB_ok (all_at cx 0 rfl)).ec, List.forall_mem_cons.mpr ⟨(xclsB_ok (all_at cx 1 rfl)).ec, List.forall_mem_cons.mpr ⟨(xclsB_ok (all_at cx 2 rfl)).ec, fun _ h => nomatch h⟩⟩⟩), exm := exmB_ok (all_at cx 3 rfl), kit := kitB3_ok (all_at cx 4 rfl), oc := List.forall_mem_cons.mpr ⟨insB_ok (He.cls_ok (c.fact 59 (f := .cls "Turns") rfl)) (all_at cx 5 rfl), fun _ h => nomatch h⟩, cl_Turns := He.cls_ok (c.fact 59 (f := .cls "Turns") rfl), gc_Turns := He.glo_ok X G (c.fact 41 (f := .glo "Turns") rfl), no_Turns_weights := He.noat_ok (c.fact 60 (f := .noat "Turns" "weights") rfl), no_Turns_masks := He.noat_ok (c.fact 61 (f := .noat "Turns" "masks") rfl), mt_Turns_turned := He.meth_ok (c.fact 62 (f := .meth "Turns" "turned") rfl), mt_Turns_all_turned := He.meth_ok (c.fact 63 (f := .meth "Turns" "all_turned") rfl), mk_Turns := He.mkr_ok (c.fact 64 (f := .mkr "Turns") rfl), kb_broken_cubes := kb_all E20 rfl fun _ _ _ _ _ _ ws hl => match ws, hl with | [_, _, _], _ => rfl, b_range := He.free_ok X G (c.fact 42 (f := .free "range") rfl), b_len := He.free_ok X G (c.fact 43 (f := .free "len") rfl), b_int := He.free_ok X G (c.fact 44 (f := .free "int") rfl), b_isinstance := He.free_ok X G (c.fact 45 (f := .free "isinstance") rfl), b_bool := He.free_ok X G (c.fact 46 (f := .free "bool") rfl), b_tuple := He.free_ok X G (c.fact 47 (f := .free "tuple") rfl), b_zip := He.free_ok X G (c.fact 48 (f := .free "zip") rfl), b_enumerate := He.free_ok X G (c.fact 49 (f := .free "enumerate") rfl), b_list := He.free_ok X G (c.fact 50 (f := .free "list") rfl), b_max := He.free_ok X G (c.fact 51 (f := .free "max") rfl), b_sum := He.free_ok X G (c.fact 52 (f := .free "sum") rfl), b_abs := He.free_ok X G (c.fact 53 (f := .free "abs") rfl), b_all := He.free_ok X G (c.fact 54 (f := .free "all") rfl), c_MOST_BITS := He.int_ok X G (c.fact 55 (f := .int "MOST_BITS" 7) rfl), c_MOST_DIGITS := He.int_ok X G (c.fact 56 (f := .int "MOST_DIGITS" 3) rfl), c_MOST_CUBE_BITS := He.int_ok X G (c.fact 57 (f := .int "MOST_CUBE_BITS" 15) rfl), c_MOST_PRODUCTS := He.int_ok X G (c.fact 58 (f := .int "MOST_PRODUCTS" 12) rfl), g_size_of := He.glo_ok X G (c.fact 0 (f := .glo "size_of") rfl), k_size_of := F0.kp, f_size_of := F0, n_size_of := F0.binds (ps := ["bits"]) fun _ _ _ _ _ _ us hl => match us, hl with | [_], _ => rfl, g_packed := He.glo_ok X G (c.fact 1 (f := .glo "packed") rfl), k_packed := F1.kp, f_packed := F1, n_packed := F1.binds (ps := ["f"]) fun _ _ _ _ _ _ us hl => match us, hl with | [_], _ => rfl, g_digit_mask := He.glo_ok X G (c.fact 2 (f := .glo "digit_mask") rfl), k_digit_mask := F2.kp, f_digit_mask := F2, n_digit_mask := F2.binds (ps := ["n", "weight"]) fun _ _ _ _ _ _ us hl => match us, hl with | [_, _], _ => rfl, f_Turns_init := F3, n_Turns_init := F3.binds (ps := ["self", "n"]) fun _ _ _ _ _ _ us hl => match us, hl with | [_, _], _ => rfl, f_Turns_turned := F4, n_Turns_turned := F4.binds (ps := ["self", "at", "table"]) fun _ _ _ _ _ _ us hl => match us, hl with | [_, _, _], _ => rfl, f_Turns_all_turned := F5, n_Turns_all_turned := F5.binds (ps := ["self", "table"]) fun _ _ _ _ _ _ us hl => match us, hl with | [_, _], _ => rfl, g_is_integer := He.glo_ok X G (c.fact 3 (f := .glo "is_integer") rfl), k_is_integer := F6.kp, f_is_integer := F6, n_is_integer := F6.binds (ps := ["value"]) fun _ _ _ _ _ _ us hl => match us, hl with | [_], _ => rfl, g_is_number := He.glo_ok X G (c.fact 4 (f := .glo "is_number") rfl), k_is_number := F7.kp, f_is_number := F7, n_is_number := F7.binds (ps := ["value"]) fun _ _ _ _ _ _ us hl => match us, hl with | [_], _ => rfl, g_is_below := He.glo_ok X G (c.fact 5 (f := .glo "is_below") rfl), k_is_below := F8.kp, f_is_below := F8, n_is_below := F8.binds (ps := ["value", "bound"]) fun _ _ _ _ _ _ us hl => match us, hl with | [_, _], _ => rfl, g_is_between := He.glo_ok X G (c.fact 6 (f := .glo "is_between") rfl), k_is_between := F9.kp, f_is_between := F9, n_is_between := F9.binds (ps := ["value", "least", "most"]) fun _ _ _ _ _ _ us hl => match us, hl with | [_, _, _], _ => rfl, g_row_below := He.glo_ok X G (c.fact 7 (f := .glo "row_below") rfl), k_row_below := F10.kp, f_row_below := F10, n_row_below := F10.binds (ps := ["value", "length", "bound"]) fun _ _ _ _ _ _ us hl => match us, hl with | [_, _, _], _ => rfl, g_ways_of := He.glo_ok X G (c.fact 8 (f := .glo "ways_of") rfl), k_ways_of := F11.kp, f_ways_of := F11, n_ways_of := F11.binds (ps := ["many"]) fun _ _ _ _ _ _ us hl => match us, hl with | [_], _ => rfl, g_check_bits := He.glo_ok X G (c.fact 9 (f := .glo "check_bits") rfl), k_check_bits := F12.kp, f_check_bits := F12, n_check_bits := F12.binds (ps := ["n", "f"]) fun _ _ _ _ _ _ us hl => match us, hl with | [_, _], _ => rfl, g_signs := He.glo_ok X G (c.fact 10 (f := .glo "signs") rfl), k_signs := F13.kp, f_signs := F13, n_signs := F13.binds (ps := ["n", "f"]) fun _ _ _ _ _ _ us hl => match us, hl with | [_, _], _ => rfl, g_product_bits := He.glo_ok X G (c.fact 11 (f := .glo "product_bits") rfl), k_product_bits := F14.kp, f_product_bits := F14, n_product_bits := F14.binds (ps := ["n", "f"]) fun _ _ _ _ _ _ us hl => match us, hl with | [_, _], _ => rfl, g_products_of := He.glo_ok X G (c.fact 12 (f := .glo "products_of") rfl), k_products_of := F15.kp, f_products_of := F15, n_products_of := F15.binds (ps := ["n", "f"]) fun _ _ _ _ _ _ us hl => match us, hl with | [_, _], _ => rfl, g_bit_degree := He.glo_ok X G (c.fact 13 (f := .glo "bit_degree") rfl), k_bit_degree := F16.kp, f_bit_degree := F16, n_bit_degree := F16.binds (ps := ["n", "f"]) fun _ _ _ _ _ _ us hl => match us, hl with | [_, _], _ => rfl, g_check_sizes := He.glo_ok X G (c.fact 14 (f := .glo "check_sizes") rfl), k_check_sizes := F17.kp, f_check_sizes := F17, n_check_sizes := F17.binds (ps := ["n", "d"]) fun _ _ _ _ _ _ us hl => match us, hl with | [_, _], _ => rfl, g_check_table := He.glo_ok X G (c.fact 15 (f := .glo "check_table") rfl), k_check_table := F18.kp, f_check_table := F18, n_check_table := F18.binds (ps := ["n", "f"]) fun _ _ _ _ _ _ us hl => match us, hl with | [_, _], _ => rfl, g_stepped := He.glo_ok X G (c.fact 16 (f := .glo "stepped") rfl), k_stepped := F19.kp, f_stepped := F19, n_stepped := F19.binds (ps := ["turns", "ways"]) fun _ _ _ _ _ _ us hl => match us, hl with | [_, _], _ => rfl, g_broken_cubes := He.glo_ok X G (c.fact 17 (f := .glo "broken_cubes") rfl), k_broken_cubes := F20.kp, f_broken_cubes := F20, n_broken_cubes := F20.binds (ps := ["n", "d", "f"]) fun _ _ _ _ _ _ us hl => match us, hl with | [_, _, _], _ => rfl, g_many_products := He.glo_ok X G (c.fact 18 (f := .glo "many_products") rfl), k_many_products := F21.kp, f_many_products := F21, n_many_products := F21.binds (ps := ["n", "d"]) fun _ _ _ _ _ _ us hl => match us, hl with | [_, _], _ => rfl, g_near_degree := He.glo_ok X G (c.fact 19 (f := .glo "near_degree") rfl), k_near_degree := F22.kp, f_near_degree := F22, n_near_degree := F22.binds (ps := ["n", "d", "f"]) fun _ _ _ _ _ _ us hl => match us, hl with | [_, _, _], _ => rfl, g_turn_of := He.glo_ok X G (c.fact 20 (f := .glo "turn_of") rfl), k_turn_of := F23.kp, f_turn_of := F23, n_turn_of := F23.binds (ps := ["n", "i"]) fun _ _ _ _ _ _ us hl => match us, hl with | [_, _], _ => rfl, g_turned_unlike := He.glo_ok X G (c.fact 21 (f := .glo "turned_unlike") rfl), k_turned_unlike := F24.kp, f_turned_unlike := F24, n_turned_unlike := F24.binds (ps := ["n", "f", "i"]) fun _ _ _ _ _ _ us hl => match us, hl with | [_, _, _], _ => rfl, g_sway := He.glo_ok X G (c.fact 22 (f := .glo "sway") rfl), k_sway := F25.kp, f_sway := F25, n_sway := F25.binds (ps := ["n", "f"]) fun _ _ _ _ _ _ us hl => match us, hl with | [_, _], _ => rfl, g__law_cell := He.glo_ok X G (c.fact 23 (f := .glo "_law_cell") rfl), k__law_cell := F26.kp, f__law_cell := F26, n__law_cell := F26.binds (ps := ["script", "k"]) fun _ _ _ _ _ _ us hl => match us, hl with | [_, _], _ => rfl, g__law_digits := He.glo_ok X G (c.fact 24 (f := .glo "_law_digits") rfl), k__law_digits := F27.kp, f__law_digits := F27, n__law_digits := F27.binds (ps := ["cell", "count", "base"]) fun _ _ _ _ _ _ us hl => match us, hl with | [_, _, _], _ => rfl, g__law_ones := He.glo_ok X G (c.fact 25 (f := .glo "_law_ones") rfl), k__law_ones := F28.kp, f__law_ones := F28, n__law_ones := F28.binds (ps := ["x"]) fun _ _ _ _ _ _ us hl => match us, hl with | [_], _ => rfl, g__law_bits := He.glo_ok X G (c.fact 26 (f := .glo "_law_bits") rfl), k__law_bits := F29.kp, f__law_bits := F29, n__law_bits := F29.binds (ps := ["script", "at", "n"]) fun _ _ _ _ _ _ us hl => match us, hl with | [_, _, _], _ => rfl, g__law_signs := He.glo_ok X G (c.fact 27 (f := .glo "_law_signs") rfl), k__law_signs := F30.kp, f__law_signs := F30, n__law_signs := F30.binds (ps := ["f", "n"]) fun _ _ _ _ _ _ us hl => match us, hl with | [_, _], _ => rfl, g__law_turned := He.glo_ok X G (c.fact 28 (f := .glo "_law_turned") rfl), k__law_turned := F31.kp, f__law_turned := F31, n__law_turned := F31.binds (ps := ["f", "h"]) fun _ _ _ _ _ _ us hl => match us, hl with | [_, _], _ => rfl, g__law_cubes := He.glo_ok X G (c.fact 29 (f := .glo "_law_cubes") rfl), k__law_cubes := F32.kp, f__law_cubes := F32, n__law_cubes := F32.binds (ps := ["f", "d"]) fun _ _ _ _ _ _ us hl => match us, hl with | [_, _], _ => rfl, g__law_same := He.glo_ok X G (c.fact 30 (f := .glo "_law_same") rfl), k__law_same := F33.kp, f__law_same := F33, n__law_same := F33.binds (ps := ["actual", "due"]) fun _ _ _ _ _ _ us hl => match us, hl with | [_, _], _ => rfl, g__law_degree := He.glo_ok X G (c.fact 31 (f := .glo "_law_degree") rfl), k__law_degree := F34.kp, f__law_degree := F34, n__law_degree := F34.binds (ps := ["f"]) fun _ _ _ _ _ _ us hl => match us, hl with | [_], _ => rfl, g__law_told := He.glo_ok X G (c.fact 32 (f := .glo "_law_told") rfl), k__law_told := F35.kp, f__law_told := F35, n__law_told := F35.binds (ps := ["which", "n", "d", "f"]) fun _ _ _ _ _ _ us hl => match us, hl with | [_, _, _, _], _ => rfl, g__law_refused := He.glo_ok X G (c.fact 33 (f := .glo "_law_refused") rfl), k__law_refused := F36.kp, f__law_refused := F36, n__law_refused := F36.binds (ps := ["which", "n", "d", "f", "word", "value"]) fun _ _ _ _ _ _ us hl => match us, hl with | [_, _, _, _, _, _], _ => rfl, g__law_wrong := He.glo_ok X G (c.fact 34 (f := .glo "_law_wrong") rfl), k__law_wrong := F37.kp, f__law_wrong := F37, n__law_wrong := F37.binds (ps := ["script", "n", "d", "f"]) fun _ _ _ _ _ _ us hl => match us, hl with | [_, _, _, _], _ => rfl, g__law_by_shifts := He.glo_ok X G (c.fact 35 (f := .glo "_law_by_shifts") rfl), k__law_by_shifts := F38.kp, f__law_by_shifts := F38, n__law_by_shifts := F38.binds (ps := ["n", "d", "f", "due"]) fun _ _ _ _ _ _ us hl => match us, hl with | [_, _, _, _], _ => rfl, g_law := He.glo_ok X G (c.fact 36 (f := .glo "law") rfl), k_law := F39.kp, f_law := F39, n_law := F39.binds (ps := ["script"]) fun _ _ _ _ _ _ us hl => match us, hl with | [_], _ => rfl}, fun s v => b s [v] rfl⟩
theorem facts {P : Program} {w : World} {K : PySem.W.Frag} {h : Heap} {mg : Str → Option Value} {f : Addr} (X : K.In h) (G : h.Ns mainGlobals mg) (hfa : mg ("law" : Str) = some (.ref f)) (c : He.SaysD fa fn K) (cx : ex K = true) :
    ∃ fd : FuncData, (∀ (s : Shared) (v : Value), BindsTo s fd ⟨[v], []⟩ [("script", v)]) ∧ ∀ base : Heap, K.In base → base.Ns mainGlobals mg → FnOk P w K mg base CX0 9 f fd ["script"] (spF K R_law) := by
  obtain ⟨A, T, eA⟩ := txt_of X G c cx
  have e := hfa.symm.trans T.g_law
  cases e
  exact ⟨A.d_law, eA, fun base _ _ => ok_law T⟩
end L2.DL.Q
open PySem PySem.W PySem.Calls PyProof.Rows
set_option maxHeartbeats 0 in
theorem PySem.Challenge.cw_nearrealm_k84_whole_cubes_by_differences_holds : PySem.Challenge.rw_nearrealm_k84_whole_cubes_by_differences.Holds := by
  w_on; o_law
  refine HandSHeadRun.head_any (r := OpenLaw.row PySem.Challenge.rw_nearrealm_k84_whole_cubes_by_differences) (q := view (OpenLaw.row PySem.Challenge.rw_nearrealm_k84_whole_cubes_by_differences).prog [59]) (H := L2.DL.Q.hk) (ob := L2.DL.Q.ob) (M := 6000) (loose := L2.DL.Q.names) (d := HandSHeadRun.topDef (OpenLaw.row PySem.Challenge.rw_nearrealm_k84_whole_cubes_by_differences).prog 59) (kwd := []) L2.DL.Q.ob_eq
    (by kernel_rfl) (fun s => by kernel_rfl) L2.DL.Q.run (by kernel_rfl) (by kernel_rfl) (by kernel_rfl) (by rfl) (by first | assumption | decide +kernel) (by decide +kernel) ⟨rfl, rfl, rfl, rfl, rfl, by decide +kernel⟩ ?hw ?hc
  case hw => w_witness2
  case hc =>
    refine L2.walk_ofE (l := PySem.Challenge.rw_nearrealm_k84_whole_cubes_by_differences) (n := 63) (k := 9) (x := "script") (CX := L2.CX0) rfl (by decide) (by kernel_rfl) ⟨rfl, by decide, by decide⟩ ?F (fun _ _ _ _ z => z)
    intro w mg fa h Y G hmg0
    obtain ⟨K, KX, c⟩ := Y
    have hmg : mg ("law" : PySem.Str) = some (.ref fa) := by
      have e : (HandSHeadRun.topDef (OpenLaw.row PySem.Challenge.rw_nearrealm_k84_whole_cubes_by_differences).prog 59).name = ("law" : PySem.Str) := by kernel_rfl
      rw [← e]
      exact hmg0
    obtain ⟨fd, hb, hF⟩ := L2.DL.Q.facts (P := (PySem.Challenge.rw_nearrealm_k84_whole_cubes_by_differences).prog) (w := w) KX G hmg c.t.d c.more
    exact ⟨K, fd, L2.DL.spF K L2.DL.Q.R_law, KX, hb, fun H a ns hl _ hS => L2.DL.Q.law_in hl hS, hF⟩


